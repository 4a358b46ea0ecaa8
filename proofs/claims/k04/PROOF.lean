import PyProof.Rows.All
import Wide.All
import OpenK.AllK
import Wide.FinOn
import HandS.ForMost
import HandS.Evl
import HandS.Defaults
import HandS.IsInst
import HandS.StrMore
import KE.IntTextText
import HandS.Walk
import PyProof.ReprLen
import HandS.ForExc
import HandS.ExcInit
import HandS.ExcField
import HandS.TryMany
import HandS.ExcIs
import HandS.SlotsOwn
import HandS.ExcOwn
import PyProof.InstEq
import HandS.Spec
import HandS.DictComp
import HandS.DeepEq
import HandS.Iter
import HandS.More
import HandS.ListItems
import HandS.Zip
import KE.GoesEnum
import KE.GoesMore
import HandS.Star
import HandS.NoneIn
import HandS.Style
import HandS.Comp
import HandS.Head0
import HandS.Head1
import HandS.Head2
import HandS.HeadHook1
import HandS.HeadHook2
import KE.KExcInit
import KE.KExcMake
import PyProof.ExcBaseAll.LookupError
import HandS.Wide
import KE.KDictKeyed
import HandS.SortInts
import HandS.TupMul
import HandS.CallLocal
import HandS.SortKw
import PyProof.MinMaxWalk
import HandS.Deep
import PyProof.EqKinds
import HandS.AnyAll
import PySem.Challenge.RW_toldpast_k04_books_of_distinct_rows
set_option Elab.async false
set_option linter.all false
set_option maxRecDepth 100000
set_option maxHeartbeats 4000000
/-! Tp: what all laws of this package share: promises that know that no repr runs around (FnG), repr of data, the box of draws -/
namespace Tp
open PySem PySem.Spec PyProof.Rows L2

/-! ### a def's promise where no guard (a repr that runs) stands around -/
structure FnG (P : Program) (w : World) (K : PySem.W.Frag) (mg : Str → Option Value) (base : Heap)
    (CX : CXT) (k : Nat) (f : Addr) (fd : FuncData) (ps : List Str) (sp : Sp) : Prop where
  ar : ∀ vs H Q E, sp vs H Q E → vs.length = ps.length
  go : ∀ (A : Around) (outer : List Env) (s : Shared) (H : Hp) (args : Args) (us : List Value) (vs : List V) (Q : VK) (E : XK),
    Room k A → A.guards = some [] → Env0 P w K mg base A outer s H → BindsTo s fd args (ps.zip us) → Vals vs us → sp vs H Q E →
      codeAny (model P w) A (.call (.ref f) args) (CR CX outer P w H s Q E) s

section
variable {P : Program} {w : World} {K : PySem.W.Frag} {mg : Str → Option Value} {base : Heap} {CX : CXT} {k : Nat} {f : Addr} {fd : FuncData} {ps : List Str} {sp : Sp}
theorem FnG.up {j : Nat} (F : FnG P w K mg base CX j f fd ps sp) (h : j ≤ k) : FnG P w K mg base CX k f fd ps sp :=
  ⟨F.ar, fun A o s H args us vs Q E hr => F.go A o s H args us vs Q E (hr.mono h)⟩
theorem FnG.of (F : FnOk P w K mg base CX k f fd ps sp) : FnG P w K mg base CX k f fd ps sp :=
  ⟨F.len, fun A o s H args us vs Q E hr _ => F.run A o s H args us vs Q E hr⟩

theorem fnG_of {name qual : Str} {params : Arguments} {body : List Stmt} {scope : Scope} {dV kV doc pm cdv ct oc : Value} {an od : Option Addr}
    {osl : Array (Option Value)} {N : List Str}
    (there : K.lookup f = some ⟨oc, od, .func (PySem.W.fnOf name qual params body scope dV kV doc pm an cdv ct), osl⟩)
    (code : PySem.W.codeIn K cdv qual = true) (S : FnScope N ps scope) (ar : ∀ vs H Q E, sp vs H Q E → vs.length = ps.length)
    (bd : ∀ (A : Around) (outer : List Env) (s : Shared) (H : Hp) (vs : List V) (Q : VK) (E : XK),
      Room k (A.deeper (envOfC qual scope s.heap.objs.size f cdv)) → A.guards = some [] → sp vs H Q E →
      ∃ t, PSs (cxOf CX P w K mg base N qual scope f cdv A outer s H E) body t ∧ t { nx := fun _ H' => Q .non H', rt := Q } (start N vs) H) :
    FnG P w K mg base CX (k + 1) f (PySem.W.fnOf name qual params body scope dV kV doc pm an cdv ct) ps sp := by
  refine ⟨ar, fun A outer s H args us vs Q E hr hg e0 hb r hsp => ?_⟩
  have keep : ∀ b o, base.get? b = some o → s.heap.get? b = some o := fun b o e => (e0.bs b o e).1
  have inK : K.In s.heap := e0.mod.kin.keeps keep
  have room : s.heap.NoLimit := e0.mod.nolimit.keeps keep
  have kinds : ∀ y ∈ ps.zip us, scope.names.lookup y.1 = some .local ∨
      (scope.names.lookup y.1 = some .cell ∧ ((cellsFrom (s.heap.objs.size + 1) scope.names []).lookup y.1).isSome = true) := by
    rintro ⟨n, v⟩ hy
    exact (S.par n (List.of_mem_zip hy).1).imp id fun q => ⟨q, PySem.W.cellsFrom_some _ _ _ (.inl q)⟩
  refine codeAny_call_function hr.depth (inK _ _ there) rfl S.co S.gen rfl (PySem.W.codeRec_of inK code) (hb _ _ _ _ ?_)
  refine wpAny_newFunctionEnv_cells S.kind kinds fun env eqE s1 x => ?_
  subst eqE
  refine ⟨room.keeps x.toInCall.keep, codeAny_func ?_⟩
  obtain ⟨t, ht, hq⟩ := bd A outer s H vs Q E (hr.deeper _) hg hsp
  have J0 : Inv (cxOf CX P w K mg base N qual scope f cdv A outer s H E) [] (start N vs) H s1 := inv_start S hr.hd e0 (ar _ _ _ _ hsp) r x
  refine wpAny_mono (ht.run [] s1 (start N vs) H _ J0 hq) (fun fl s' hs => ?_) fun _ _ hs => hs
  cases fl with
  | ret u => obtain ⟨v, σ', H', J, rv, q⟩ := hs; exact ⟨v, H', J.os, J.bare, J.base, J.hok, rv, q⟩
  | next => obtain ⟨σ', H', J, q⟩ := hs; exact ⟨V.non, H', J.os, J.bare, J.base, J.hok, rfl, q⟩
  | brk => obtain ⟨_, _, _, q⟩ := hs; exact q.elim
  | cont => obtain ⟨_, _, _, q⟩ := hs; exact q.elim

/-- a def of the text without defaults -/
theorem okG {x qual : Str} {st : Stmt} {N : List Str} (F : Fun K x qual st f fd) (S : FnScope N ps (defScope st)) (ar : ∀ vs H Q E, sp vs H Q E → vs.length = ps.length)
    (bd : ∀ (cdv : Value) (A : Around) (outer : List Env) (s : Shared) (H : Hp) (vs : List V) (Q : VK) (E : XK),
      Room k (A.deeper (envOfC qual (defScope st) s.heap.objs.size f cdv)) → A.guards = some [] → sp vs H Q E →
      ∃ t, PSs (cxOf CX0 P w K mg base N qual (defScope st) f cdv A outer s H E).nox (defBody st) t ∧ t { nx := fun _ H' => Q .non H', rt := Q } (start N vs) H) :
    FnG P w K mg base CX0 (k + 1) f fd ps sp := by
  obtain ⟨oc, od, kV, doc, pm, an, cdv, ct, osl, rfl, lk, hcd⟩ := F.ex
  refine fnG_of lk hcd S ar fun A outer s H vs Q E hr hg hsp => ?_
  obtain ⟨t, h, q⟩ := bd cdv A outer s H vs Q E hr hg hsp
  exact ⟨t, h.nox, q⟩
/-- a def with defaults -/
theorem okGD {x qual : Str} {st : Stmt} {dvs : List V} {kws : List (Str × V)} {N : List Str} (F : FunD K x qual (defArgs st) (defBody st) (defScope st) dvs kws f fd) (S : FnScope N ps (defScope st))
    (ar : ∀ vs H Q E, sp vs H Q E → vs.length = ps.length)
    (bd : ∀ (cdv : Value) (A : Around) (outer : List Env) (s : Shared) (H : Hp) (vs : List V) (Q : VK) (E : XK),
      Room k (A.deeper (envOfC qual (defScope st) s.heap.objs.size f cdv)) → A.guards = some [] → sp vs H Q E →
      ∃ t, PSs (cxOf CX0 P w K mg base N qual (defScope st) f cdv A outer s H E).nox (defBody st) t ∧ t { nx := fun _ H' => Q .non H', rt := Q } (start N vs) H) :
    FnG P w K mg base CX0 (k + 1) f fd ps sp := by
  obtain ⟨oc, od, dV, kV, doc, pm, an, cdv, ct, osl, rfl, lk, hcd, _, _⟩ := F.ex
  refine fnG_of lk hcd S ar fun A outer s H vs Q E hr hg hsp => ?_
  obtain ⟨t, h, q⟩ := bd cdv A outer s H vs Q E hr hg hsp
  exact ⟨t, h.nox, q⟩
end

/-! ### calls of such defs -/
section
variable {X : Cx} {CX : CXT} {k n : Nat} {f C : Addr} {fd : FuncData} {ps ks : List Str} {sp : Sp} {dvs : List V} {ds : List Value} {E : XK} {x m : Str} {p pos apos : Pos} {e o : Expr} {es : List Expr} {ta : TE} {t tk : TA} {kws : List Keyword}
  {g : List Value → List Value → List Value} {gV : List V → List V → List V}

theorem runG {pins : List (Addr × Obj)} {σ : L2.St} {H : Hp} {s : Shared} {Q : VK} {args : Args} {us : List Value} {vs : List V}
    (F : FnG X.prog X.w X.K X.mg X.base CX k f fd ps sp) (hr : Room k X.A) (hg : X.A.guards = some []) (hx : Passes CX X E) (I : Inv X pins σ H s)
    (hb : BindsTo s fd args (ps.zip us)) (r : Vals vs us) (h : sp vs H Q E) :
    wpAny (model X.prog X.w) X.A (call (.ref f) args.pos args.kw) (EP X pins σ Q) X.xe s := by
  obtain ⟨ap, ak⟩ := args
  refine wpAny_call (codeAny_mono (F.go X.A X.stack s H ⟨ap, ak⟩ us vs Q E hr hg I.env0 hb r h) fun r s' hq => ?_)
  cases r with
  | error e => exact hx pins σ H s e s' I hq
  | ok fl =>
    cases fl with
    | ret u => exact I.after hq
    | _ => exact hq.elim
theorem runG1 {pins : List (Addr × Obj)} {σ : L2.St} {H : Hp} {s : Shared} {Q : VK} {us : List Value} {vs : List V}
    (F : FnG X.prog X.w X.K X.mg X.base CX k f fd ps sp) (hr : Room k X.A) (hg : X.A.guards = some []) (hb : Binds X.K fd ps ds) (hd : Vals dvs ds) (hx : Passes CX X E)
    (I : Inv X pins σ H s) (r : Vals vs us) (h : sp (vs ++ dvs) H Q E) : wpAny (model X.prog X.w) X.A (call (.ref f) us) (EP X pins σ Q) X.xe s := by
  have r2 := r.append hd
  exact runG (args := ⟨us, []⟩) F hr hg hx I (hb s us I.kIn (r2.length.symm.trans (F.ar _ _ _ _ h))) r2 h

theorem pe_callG (F : FnG X.prog X.w X.K X.mg X.base CX k f fd ps sp) (hr : Room k X.A) (hgu : X.A.guards = some []) (hg : Gl X x) (hm : X.mg x = some (.ref f)) (hk : PySem.W.keepIn X.K (.ref f) = true)
    (hb : Binds X.K fd ps ds) (hd : Vals dvs ds) (hx : Passes CX X E) (ha : PA X (e :: es) t) (hdb : (x == ("__debug__" : Str)) = false := by decide)
    (he : starEach (e :: es) X.env = (false, eval e X.env) :: starEach es X.env := by rfl) (hpl : (backTo pos (starEach es X.env)).any (·.1) = false := by rfl) :
    PE X (.Call (.Name x p) (e :: es) [] pos) (tCall sp dvs E t) :=
  ⟨fun pins s σ H Q I h => wpAny_Call_Name_kw (ld_glob I hg hm (PySem.W.callWith_K (h₀ := X.base) I.ok.mod.kin hk
    (thn (ha.run pos pins s σ H _ I h) fun us s1 ⟨vs, H1, I1, r, q⟩ => ⟨I1.kIn, runG1 F hr hgu hb hd hx I1 r q⟩) he hpl) hdb)⟩
theorem pe_callG0 (F : FnG X.prog X.w X.K X.mg X.base CX k f fd ps sp) (hr : Room k X.A) (hgu : X.A.guards = some []) (hg : Gl X x) (hm : X.mg x = some (.ref f)) (hk : PySem.W.keepIn X.K (.ref f) = true)
    (hb : Binds X.K fd ps ds) (hd : Vals dvs ds) (hx : Passes CX X E) (hdb : (x == ("__debug__" : Str)) = false := by decide) : PE X (.Call (.Name x p) [] [] pos) (tCall sp dvs E tNil) :=
  ⟨fun pins s σ H Q I h => wpAny_Call_Name_kw (ld_glob I hg hm (PySem.W.callWith_K0 I.kIn hk (runG1 (us := []) F hr hgu hb hd hx I .nil h)) hdb)⟩
theorem pe_callGN (F : FnG X.prog X.w X.K X.mg X.base CX k f fd ps sp) (hr : Room k X.A) (hgu : X.A.guards = some []) (hg : Gl X x) (hm : X.mg x = some (.ref f)) (hk : PySem.W.keepIn X.K (.ref f) = true)
    (hb : KBn X.K fd ps n ks g gV) (hx : Passes CX X E) (ha : PA X (e :: es) t) (hkw : PK X kws tk)
    (hall : (backToKw pos (keywordEach kws X.env)).all (·.1.isSome) = true := by rfl) (hks : (backToKw pos (keywordEach kws X.env)).filterMap (·.1) = ks := by rfl)
    (hdb : (x == ("__debug__" : Str)) = false := by decide) (he : starEach (e :: es) X.env = (false, eval e X.env) :: starEach es X.env := by rfl)
    (hpl : ((backTo pos (starEach (e :: es) X.env)).any (·.1) || (backToKw pos (keywordEach kws X.env)).any (·.1.isNone)) = false := by rfl) :
    PE X (.Call (.Name x p) (e :: es) kws pos) (tCallN n ks.length sp gV E t tk) :=
  ⟨fun pins s σ H Q I h => wpAny_Call_Name_kw (ld_glob I hg hm (PySem.W.callWith_KW (h₀ := X.base) I.ok.mod.kin hk hall
    (thn (ha.run pos pins s σ H _ I h) fun us s1 ⟨vs, H1, I1, r, q⟩ => thn (hkw.run pos pins s1 σ H1 _ I1 q) fun ws s2 ⟨zs, H2, I2, rz, l1, l2, q2⟩ => ⟨I2.kIn, by
      rw [hks]
      exact runG (args := ⟨us, ks.zip ws⟩) F hr hgu hx I2 (hb.to s2 us ws I2.kIn (r.length.symm.trans l1) (rz.length.symm.trans l2)) (hb.rel r rz) q2⟩) hpl he) hdb)⟩
end

/-! ### repr of data -/
section
variable {X : Cx}
def rRepr (K : PySem.W.Frag) : List V → Hp → VK → Prop := fun xs H Q => ∃ v d, xs = [v] ∧ Dp K H v d ∧ d.showable = true ∧ d.hasDict = false ∧ d.depth ≤ 60 ∧ d.shown.length ≤ sizeLine ∧ Q (.str d.shown) H
theorem call_reprD {k : Nat} (hr : Room k X.A) (hg : X.A.guards = some []) : CallR X (.builtin "repr") (rRepr X.K) := by
  intro pins s σ H xs us Q I r h
  obtain ⟨v, d, rfl, hd, hs, hn, hp, hz, q⟩ := h
  obtain ⟨u, rfl, ru⟩ := vals1 r
  obtain ⟨as, rd⟩ := Dp.reads I d v u hd ru
  have un := hr.un
  have fin : ∀ {z : Str} {s' : Shared} {t : Tok}, Inv X pins σ H s' → d.shown = z → EP X pins σ Q (.str z t) s' := fun J e => ⟨.str d.shown, H, J, ⟨_, by rw [e]⟩, q⟩
  cases hd with
  | non => cases ru; exact PySem.P.repr_of_none (fin (I.tok _) (by simp only [PyData.shown]))
  | bl b => cases ru; exact PySem.P.repr_of_bool (fin (I.tok _) (by simp only [PyData.shown]))
  | int i => obtain ⟨t, rfl⟩ := ru; exact PySem.P.repr_of_int (by simpa [PyData.showable] using hs) (fin (I.tok _) (by simp only [PyData.shown]))
  | str x => obtain ⟨t, rfl⟩ := ru; exact PySem.P.repr_of_str (fin (I.tok _) (by simp only [PyData.shown])) (by simpa only [PyData.shown] using hz)
  | lst _ _ => cases ru; exact repr_of_reads' rd hs (PyData.noDict_hsm hn) hg (by omega) (fun _ _ e => e) (fun h' u tk kp => fin (I.kept kp) rfl) hz
  | tup _ _ => cases ru; exact repr_of_reads' rd hs (PyData.noDict_hsm hn) hg (by omega) (fun _ _ e => e) (fun h' u tk kp => fin (I.kept kp) rfl) hz
end

/-! ### the end of a law -/
section
variable {P : Program} {w : World} {K : PySem.W.Frag} {mg mb : Str → Option Value} {CX : CXT} {k : Nat} {fa a : Addr} {fd : FuncData} {x : Str} {sp : Sp} {s1 : Shared} {vs : List Value} {ns : List Int}
def LawEnd (s1 : Shared) (r : Result) (s' : Shared) : Prop := r = .ok (.ret (.bool true)) ∧ OldK s1.heap s'.heap ∧ s'.os = s1.os ∧ AllBare s'.gens
/-- from an abstract heap H that tracks the script alone, or nothing -/
theorem law_core (KX : K.In s1.heap) (hns : s1.heap.Ns mainGlobals mg) (hb : s1.heap.Ns builtinsNs mb) (hbb : ∀ x : Str, x ≠ "__name__" → mb x = bootBuiltins x)
    (hlim : s1.heap.NoLimit) (hg : s1.gens = #[]) (ha : s1.heap.get? a = some { cls := .type "list", data := .seq vs.toArray }) (hr : Room k callerA)
    (F : ∀ base : Heap, K.In base → base.Ns mainGlobals mg → FnG P w K mg base CX k fa fd [x] sp) (hbind : ∀ (s : Shared) (u : Value), BindsTo s fd ⟨[u], []⟩ [(x, u)])
    (hCX : ∀ H e s', ¬ CX [] H s1 (fun _ _ _ => False) e s') {H : Hp} (only : Only H) (hsp : sp [.ref a] H (fun v _ => v = .bl true) fun _ _ _ => False)
    (hok : HOk P w H s1.heap) (hA : ∀ b, H b ≠ none → b = a) (hK : H a ≠ none → K.lookup a = none) :
    codeAny (model P w) callerA (.call (.ref fa) ⟨[.ref a], []⟩) (LawEnd s1) s1 := by
  have free : ∀ {b : Addr} {o : Obj} {es : Array DictEntry} {ep : Nat}, s1.heap.get? b = some o → o.data = .dict es ep → H b = none := by
    intro b o es ep e d
    refine Classical.byContradiction fun q => ?_
    obtain rfl := hA b q
    rw [ha] at e
    cases e
    cases (d : Data.seq vs.toArray _ = Data.dict es ep)
  have ns : ∀ {b : Addr} {m : Str → Option Value}, s1.heap.Ns b m → (hidT s1.heap H).Ns b m := by
    rintro b m ⟨o, es, ep, e, d, r⟩
    exact ⟨o, es, ep, hidT_get e (free e d), d, r⟩
  have inK : K.In (hidT s1.heap H) := by
    intro b o e
    refine hidT_get (KX b o e) (Classical.byContradiction fun q => ?_)
    obtain rfl := hA b q
    rw [hK q] at e
    cases e
  obtain ⟨mc, l1, l2⟩ := hlim
  have M : Mod K mg (hidT s1.heap H) := ⟨inK, ns hns, ⟨mb, ns hb, hbb⟩, ⟨mc, ns l1, l2⟩⟩
  have none_in : ∀ b : Addr, b ∉ ([] : List Addr) := fun _ z => nomatch z
  have e0 : Env0 P w K mg (hidT s1.heap H) callerA [] s1 H := ⟨rfl, M, fun _ _ e => of_hidT e, Nat.le_of_eq (hidT_size _ _), trivial, fun b z => (none_in b z).elim, hok, .of_eq hg⟩
  refine codeAny_mono ((F _ inK (ns hns)).go callerA [] s1 H ⟨[.ref a], []⟩ [.ref a] [.ref a] _ _ hr rfl e0 (hbind s1 (.ref a)) (.cons rfl .nil) hsp) fun r s' h => ?_
  cases r with
  | error e => exact (hCX H e s' h).elim
  | ok fl =>
    cases fl with
    | ret u =>
      obtain ⟨v, H', os, bare, un, hok', rv, q⟩ := h
      obtain rfl : v = .bl true := q
      obtain rfl : u = Value.bool true := rv
      refine ⟨rfl, OldK.of_keep fun b o e => ?_, os, bare⟩
      rcases only b with z | ⟨ob, xs, z⟩
      · exact un.keep b o e z (none_in b) (none_in b)
      · have e2 := (hok' b _ (un.frzs b ob _ z)).1
        have e1 := (hok b _ z).1
        rw [e] at e1
        cases e1
        exact e2
    | _ => exact h.elim
theorem law_endG (KX : K.In s1.heap) (hns : s1.heap.Ns mainGlobals mg) (hb : s1.heap.Ns builtinsNs mb) (hbb : ∀ x : Str, x ≠ "__name__" → mb x = bootBuiltins x)
    (hlim : s1.heap.NoLimit) (hg : s1.gens = #[]) (ha : s1.heap.get? a = some { cls := .type "list", data := .seq vs.toArray }) (hi : IntsAre vs ns) (hl : ns.length ≤ sizeLine) (hr : Room k callerA)
    (F : ∀ base : Heap, K.In base → base.Ns mainGlobals mg → FnG P w K mg base CX k fa fd [x] sp) (hbind : ∀ (s : Shared) (u : Value), BindsTo s fd ⟨[u], []⟩ [(x, u)])
    (hCX : ∀ H e s', ¬ CX [] H s1 (fun _ _ _ => False) e s')
    (hsp : ∀ H : Hp, Only H → SqL K H a (ns.map V.int) → sp [.ref a] H (fun v _ => v = .bl true) fun _ _ _ => False) :
    codeAny (model P w) callerA (.call (.ref fa) ⟨[.ref a], []⟩) (LawEnd s1) s1 := by
  have rv := vals_ints hi
  cases hk : K.lookup a with
  | some o =>
    have e := KX a o hk
    rw [ha] at e
    cases e
    have only : Only (fun _ => none) := fun _ => .inl rfl
    refine law_core KX hns hb hbb hlim hg ha hr F hbind hCX only (hsp _ only (.inr ⟨_, vs.toArray, _, hk, rfl, rfl, rfl, ?_, by simpa using rv⟩)) (fun b u z => nomatch (z : (none : Option HO) = some u)) (fun b z => (z rfl).elim) fun z => (z rfl).elim
    rw [List.size_toArray, hi.length]
    exact hl
  | none =>
    have at_a : (upd (fun _ => none) a (.frz { cls := .type "list", data := .seq vs.toArray } (.lst (ns.map V.int))) : Hp) a = some (.frz { cls := .type "list", data := .seq vs.toArray } (.lst (ns.map V.int))) := upd_same
    have off : ∀ b, b ≠ a → (upd (fun _ => none) a (.frz { cls := .type "list", data := .seq vs.toArray } (.lst (ns.map V.int))) : Hp) b = none := fun b nb => upd_ne nb
    have only : Only (upd (fun _ => none) a (.frz { cls := .type "list", data := .seq vs.toArray } (.lst (ns.map V.int)))) := fun b => by
      by_cases nb : b = a
      · subst nb; exact .inr ⟨_, _, at_a⟩
      · exact .inl (off b nb)
    refine law_core KX hns hb hbb hlim hg ha hr F hbind hCX only (hsp _ only (.inl (.inr ⟨_, at_a⟩))) (fun b u z => ?_) (fun b z => Classical.byContradiction fun nb => z (off b nb)) fun _ => hk
    by_cases nb : b = a
    · subst nb
      rw [at_a] at z
      cases z
      exact ⟨ha, by rw [List.length_map]; exact hl, vs, _, rv, ha⟩
    · rw [off b nb] at z
      cases z
end
theorem walkG {l : PySem.W.OpenLaw} {n k : Nat} {q : Program} {loose : List Str} {XP : (Str → Option Value) → Heap → Prop} {YP : World → Heap → Prop} {d : DefRec} {K : Params → PySem.W.Frag} {sp : World → Sp} {x : Str}
    (hn : l.most = some n) (hn2 : n ≤ sizeLine) (hdf : d.params.defaults = []) (hr : Room k callerA) (hY : ∀ (w : World) (h : Heap), YP w h → (K w.params).In h)
    (F : ∀ (w : World) (mg : Str → Option Value) (fa : Addr) (h : Heap), (K w.params).In h → h.Ns mainGlobals mg → mg d.name = some (.ref fa) →
      ∃ fd : FuncData, (∀ (s : Shared) (u : Value), BindsTo s fd ⟨[u], []⟩ [(x, u)]) ∧
        ∀ base : Heap, (K w.params).In base → base.Ns mainGlobals mg → FnG l.prog w (K w.params) mg base CX0 k fa fd [x] (sp w))
    (hsp : ∀ (w : World) (H : Hp) (a : Addr) (ns : List Int), ns.length ≤ n → Only H → SqL (K w.params) H a (ns.map V.int) → sp w [.ref a] H (fun v _ => v = .bl true) fun _ _ _ => False) :
    PySem.W.WalkO q loose XP YP l.row.toRowW d [] (fun f vs => PySem.call f vs) := by
  refine Att.attach_call hn hdf fun w s₀ s₁ mg mb fa o pm cd doc a vs ns G Y ho hd hcd hmg hobj hints hlen hg => ?_
  obtain ⟨fd, hb, hF⟩ := F w mg fa _ (hY w _ Y) G.T.g hmg
  exact law_endG (hY w _ Y) G.T.g G.T.b G.T.builtins G.T.nolimit hg hobj hints (Nat.le_trans hlen hn2) hr hF hb (fun _ _ _ z => z) fun H hO hS => hsp w H a ns hlen hO hS
end Tp

set_option Elab.async false
set_option linter.all false
set_option maxRecDepth 100000
set_option maxHeartbeats 4000000
namespace Tp
open PySem PySem.Spec PyProof.Rows L2
/-! ### keywords alone -/
section
variable {X : Cx} {CX : CXT} {k : Nat} {f : Addr} {fd : FuncData} {ps ks : List Str} {sp : Sp} {E : XK} {x : Str} {p pos : Pos} {tk : TA} {kw : Keyword} {kws : List Keyword}
  {g : List Value → List Value → List Value} {gV : List V → List V → List V}
def tCallN0 (m : Nat) (sp : Sp) (gV : List V → List V → List V) (E : XK) (tk : TA) : TE := fun σ H Q => tk σ H fun zs H2 => zs.length = m ∧ sp (gV [] zs) H2 Q E
theorem pe_callGN0 (F : FnG X.prog X.w X.K X.mg X.base CX k f fd ps sp) (hr : Room k X.A) (hgu : X.A.guards = some []) (hg : Gl X x) (hm : X.mg x = some (.ref f)) (hk : PySem.W.keepIn X.K (.ref f) = true)
    (hb : KBn X.K fd ps 0 ks g gV) (hx : Passes CX X E) (hkw : PK X kws tk)
    (hall : (backToKw pos (keywordEach kws X.env)).all (·.1.isSome) = true := by rfl) (hks : (backToKw pos (keywordEach kws X.env)).filterMap (·.1) = ks := by rfl)
    (hdb : (x == ("__debug__" : Str)) = false := by decide)
    (hpl : ((backTo pos (starEach [] X.env)).any (·.1) || (backToKw pos (keywordEach kws X.env)).any (·.1.isNone)) = false := by rfl) :
    PE X (.Call (.Name x p) [] kws pos) (tCallN0 ks.length sp gV E tk) :=
  ⟨fun pins s σ H Q I h => wpAny_Call_Name_kw (ld_glob I hg hm (PySem.W.callWith_KW0 (h₀ := X.base) I.ok.mod.kin hk hall
    (thn (hkw.run pos pins s σ H _ I h) fun ws s2 ⟨zs, H2, I2, rz, l2, q2⟩ => ⟨I2.kIn, by
      rw [hks]
      exact runG (args := ⟨[], ks.zip ws⟩) F hr hgu hx I2 (hb.to s2 [] ws I2.kIn rfl (rz.length.symm.trans l2)) (hb.rel .nil rz) q2⟩) hpl) hdb)⟩
end
/-! ### keyword-only parameters, no other defaults: some given, the others from the def -/
section
variable {K : PySem.W.Frag} {x qual : Str} {st : Stmt} {kws : List (Str × V)} {f : Addr} {fd : FuncData} {ps : List Str}
theorem kb0 (F : FunD K x qual (defArgs st) (defBody st) (defScope st) [] kws f fd) (n : Nat) (ks : List Str) (ms : List (Str × V)) (g : {α : Type} → List α → List α → List α → List α) (hk : kws ≠ []) (hms : ∀ q ∈ ms, q ∈ kws)
    (hrel : ∀ {vs mz zs : List V} {us mv ws : List Value}, Vals vs us → Vals mz mv → Vals zs ws → Vals (g vs mz zs) (g us mv ws))
    (h : ∀ (D : Addr) (doc pm : Value) (an : Option Addr) (cdv ct : Value) (us mv ws : List Value), us.length = n → mv.length = ms.length → ws.length = ks.length →
      KwChain D ((ms.map (·.1)).zip mv) (bindArgs (PySem.W.fnOf x qual (defArgs st) (defBody st) (defScope st) .none (.ref D) doc pm an cdv ct) ⟨us, ks.zip ws⟩) (ps.zip (g us mv ws))) :
    ∃ mv : List Value, KBn K fd ps n ks (fun us ws => g us mv ws) (fun vs zs => g vs (ms.map (·.2)) zs) := by
  obtain ⟨oc, od, dV, kV, doc, pm, an, cdv, ct, osl, rfl, lk, hcd, hD, hK⟩ := F.ex
  rcases hD with ⟨_, rfl⟩ | ⟨z, _⟩
  · rcases hK with z | ⟨D, rfl, hq⟩
    · exact (hk z).elim
    · obtain ⟨mv, hl, rk, hks⟩ := kwd_vals (ms := ms) fun q hm => hq q (hms q hm)
      exact ⟨mv, fun s us ws X l1 l2 => BindsTo.of_looks fun M => KwChain.looks X hks (h D doc pm an cdv ct us mv ws l1 hl l2), fun r1 r2 => hrel r1 rk r2⟩
  · exact (z rfl).elim
end
/-! ### text * n -/
section
variable {X : Cx}
def repS (x : Str) (n : Nat) : Str := ⟨(List.replicate n x.cps).foldl (· ++ ·) #[]⟩
def rRepS : R2 := fun x y H Q => ∃ (a : Str) (n : Nat), x = .str a ∧ y = .int n ∧ 2 ≤ n ∧ n < 100000 ∧ 1 ≤ a.length ∧ a.length ≤ 100 ∧ Q (.str (repS a n)) H
theorem op_repS : OpR X (binaryOp .Mult) rRepS := by
  intro pins s σ H x y v u Q I rx ry h
  obtain ⟨a, n, rfl, rfl, h1, h2, h3, h4, q⟩ := h
  obtain ⟨t, rfl⟩ := rx
  obtain ⟨t', rfl⟩ := ry
  have hm : a.length * n ≤ 100 * 100000 := Nat.mul_le_mul h4 (Nat.le_of_lt h2)
  have n1 : ¬ ((n : Int) < 1) := by omega
  have n2 : ((n : Int) == 1 || a.length == 0) = false := by
    have e1 : ((n : Int) == 1) = false := beq_eq_false_iff_ne.mpr (by omega)
    have e2 : (a.length == 0) = false := beq_eq_false_iff_ne.mpr (by omega)
    rw [e1, e2]
    rfl
  refine PySem.P.mul_str ?_ (fun _ _ => ?_) (fun _ _ => ?_) ?_
  · rw [decide_eq_false (show ¬ ((n : Int) < -(2 ^ 63)) by omega), decide_eq_false (show ¬ ((n : Int) ≥ 2 ^ 63) by omega)]
    rfl
  · have : (100000 : Int) ≤ (2 ^ 63 - 1) / (n : Int) := by
      rw [Int.le_ediv_iff_mul_le (by omega)]
      have : (100000 : Int) * n ≤ 100000 * 100000 := by omega
      omega
    omega
  · exact decide_eq_false (by rw [Int.toNat_natCast]; exact Nat.not_lt.mpr (Nat.le_trans hm (by decide)))
  · rw [if_neg n1, n2, if_neg Bool.false_ne_true]
    have e : ((n : Int)).toNat = n := Int.toNat_natCast n
    rw [e]
    refine ⟨?_, ⟨.str (repS a n), H, I.tok _, ⟨_, rfl⟩, q⟩⟩
    have len : ∀ (m : Nat) (acc : Array Nat), ((List.replicate m a.cps).foldl (· ++ ·) acc).size = acc.size + m * a.length := by
      intro m
      induction m with
      | zero => intro acc; simp
      | succ m ih =>
        intro acc
        rw [List.replicate_succ, List.foldl_cons, ih, Array.size_append, Nat.succ_mul]
        show acc.size + a.length + m * a.length = _
        omega
    show ((List.replicate n a.cps).foldl (· ++ ·) #[]).size ≤ sizeLine
    rw [len n #[], Nat.mul_comm]
    exact Nat.le_trans (by simpa using hm) (by decide)
end
/-! ### built-in names, and constants of the module -/
theorem bt_len : bootBuiltins "len" = some (.builtin "len") := by decide +kernel
theorem bt_max : bootBuiltins "max" = some (.builtin "max") := by decide +kernel
theorem bt_min : bootBuiltins "min" = some (.builtin "min") := by decide +kernel
theorem bt_isinstance : bootBuiltins "isinstance" = some (.builtin "isinstance") := by decide +kernel
theorem bt_all : bootBuiltins "all" = some (.builtin "all") := by decide +kernel
theorem bt_any : bootBuiltins "any" = some (.builtin "any") := by decide +kernel
theorem bt_sum : bootBuiltins "sum" = some (.builtin "sum") := by decide +kernel
theorem bt_ord : bootBuiltins "ord" = some (.builtin "ord") := by decide +kernel
theorem bt_chr : bootBuiltins "chr" = some (.builtin "chr") := by decide +kernel
theorem bt_repr : bootBuiltins "repr" = some (.builtin "repr") := by decide +kernel
theorem bt_abs : bootBuiltins "abs" = some (.builtin "abs") := by decide +kernel
theorem bt_sorted : bootBuiltins "sorted" = some (.builtin "sorted") := by decide +kernel
theorem bt_str : bootBuiltins "str" = some (.type "str") := by decide +kernel
theorem bt_int : bootBuiltins "int" = some (.type "int") := by decide +kernel
theorem bt_list : bootBuiltins "list" = some (.type "list") := by decide +kernel
theorem bt_tuple : bootBuiltins "tuple" = some (.type "tuple") := by decide +kernel
theorem bt_dict : bootBuiltins "dict" = some (.type "dict") := by decide +kernel
theorem bt_range : bootBuiltins "range" = some (.type "range") := by decide +kernel
theorem bt_bool : bootBuiltins "bool" = some (.type "bool") := by decide +kernel
theorem bt_enumerate : bootBuiltins "enumerate" = some (.type "enumerate") := by decide +kernel
theorem bt_zip : bootBuiltins "zip" = some (.type "zip") := by decide +kernel
theorem pe_glS {X : Cx} {x z : Str} {pos : Pos} (hg : Gl X x) (hm : ∃ t, X.mg x = some (.str z t)) (hd : (x == ("__debug__" : Str)) = false := by decide) : PE X (.Name x pos) (tC (.str z)) :=
  let ⟨_, h⟩ := hm
  pe_glob hg h ⟨_, rfl⟩ hd
theorem pe_glI {X : Cx} {x : Str} {i : Int} {pos : Pos} (hg : Gl X x) (hm : ∃ t, X.mg x = some (.int i t)) (hd : (x == ("__debug__" : Str)) = false := by decide) : PE X (.Name x pos) (tC (.int i)) :=
  let ⟨_, h⟩ := hm
  pe_glob hg h ⟨_, rfl⟩ hd
/-! ### the box of draws: a list of three ints; n: at most so many draws so far -/
def Kp (b : Addr) (H H' : Hp) : Prop := ∀ a o, a ≠ b → H a = some o → H' a = some o
theorem Kp.refl (b : Addr) (H : Hp) : Kp b H H := fun _ _ _ h => h
theorem Kp.trans {b : Addr} {H H1 H2 : Hp} (p : Kp b H H1) (q : Kp b H1 H2) : Kp b H H2 := fun a o n h => q a o n (p a o n h)
theorem Kp.same {b : Addr} {H H1 H2 : Hp} (p : Kp b H H1) (q : Same H1 H2) : Kp b H H2 := fun a o n h => q a o (p a o n h)
theorem Kp.box {b : Addr} {H : Hp} {o : HO} : Kp b H (upd H b o) := fun a u n h => by rw [upd_ne n]; exact h
theorem same_new {H : Hp} {p : Addr} {o : HO} (h : H p = none) : Same H (upd H p o) := fun a u e => by rw [upd_ne (ne_of_none e h)]; exact e
theorem Kp.new {b p : Addr} {H : Hp} {o : HO} (h : H p = none) : Kp b H (upd H p o) := fun a u _ e => same_new h a u e
def BoxAt (b : Addr) (n : Nat) (H : Hp) : Prop := ∃ x y z : Int, H b = some (.lst [.int x, .int y, .int z]) ∧ 0 ≤ x ∧ 0 ≤ y ∧ y < 2147483629 ∧ 0 ≤ z ∧ z ≤ n
theorem BoxAt.same {b : Addr} {n : Nat} {H H' : Hp} (h : BoxAt b n H) (q : Same H H') : BoxAt b n H' := let ⟨x, y, z, h1, r⟩ := h; ⟨x, y, z, q _ _ h1, r⟩
theorem BoxAt.up {b : Addr} {n m : Nat} {H : Hp} (h : BoxAt b n H) (q : n ≤ m) : BoxAt b m H := by
  obtain ⟨x, y, z, h1, h2, h3, h4, h5, h6⟩ := h
  exact ⟨x, y, z, h1, h2, h3, h4, h5, by omega⟩
theorem BoxAt.ne {b p : Addr} {n : Nat} {H : Hp} (h : BoxAt b n H) (q : H p = none) : p ≠ b := by
  obtain ⟨x, y, z, h1, _⟩ := h
  exact (ne_of_none h1 q).symm
def spCell (K : PySem.W.Frag) : Sp := fun vs H Q _ => ∃ (s : Addr) (ns : List Int) (k : Int), vs = [.ref s, .int k] ∧ SqL K H s (ns.map V.int) ∧ 0 ≤ k ∧ k < 1000 ∧ ∀ n : Int, Q (.int n) H
def spBox : Sp := fun vs H Q _ => ∃ c : Int, vs = [.int c] ∧ ∀ p x y, H p = none → 0 ≤ x → 0 ≤ y → y < 2147483629 → Q (.ref p) (upd H p (.lst [.int x, .int y, .int 0]))
def spTake : Sp := fun vs H Q _ => ∃ (b : Addr) (m : Int) (n : Nat), vs = [.ref b, .int m] ∧ BoxAt b n H ∧ n < 1000000 ∧ 0 < m ∧ m < 1000000000 ∧
  ∀ r H', 0 ≤ r → r < m → Kp b H H' → BoxAt b (n + 1) H' → Q (.int r) H'
theorem mixA {y c z e : Int} (y0 : 0 ≤ y) (y1 : y < 2147483629) (z0 : 0 ≤ z) (z1 : z ≤ 1000000) (c0 : 0 ≤ c ∧ c ≤ 1000000000) (e0 : 0 ≤ e ∧ e ≤ 1000000) : (y + c * (z + 1) + e).natAbs < 2 ^ 64 := by
  have h1 : 0 ≤ c * (z + 1) := Int.mul_nonneg c0.1 (by omega)
  have h2 : c * (z + 1) ≤ 1000000000 * 1000001 := Int.mul_le_mul c0.2 (by omega) (by omega) (by omega)
  omega
theorem mixB {i c z : Int} (z0 : 0 ≤ z) (z1 : z ≤ 1000000) (c0 : 0 ≤ c ∧ c ≤ 1000000000) : (i.fmod 2147483647 + c * (z + 1)).natAbs < 2 ^ 64 := by
  have h1 : 0 ≤ c * (z + 1) := Int.mul_nonneg c0.1 (by omega)
  have h2 : c * (z + 1) ≤ 1000000000 * 1000001 := Int.mul_le_mul c0.2 (by omega) (by omega) (by omega)
  rw [Int.fmod_eq_emod_of_nonneg _ (by decide)]
  have h3 := Int.emod_nonneg i (show (2147483647 : Int) ≠ 0 by decide)
  have h4 := Int.emod_lt_of_pos i (show (0 : Int) < 2147483647 by decide)
  omega
/-! ### tests whose answer is known -/
section
variable {p : Prop} [Decidable p] {A B : Prop}
theorem ifY (h : p) (x : A) : if decide p = true then A else B := by rw [decide_eq_true h]; exact iteT x
theorem ifN (h : ¬ p) (x : B) : if decide p = true then A else B := by rw [decide_eq_false h]; exact iteF x
theorem ifnY (h : p) (x : B) : if (!decide p) = true then A else B := by rw [decide_eq_true h]; exact iteF x
theorem ifnN (h : ¬ p) (x : A) : if (!decide p) = true then A else B := by rw [decide_eq_false h]; exact iteT x
theorem if2 (h1 : p → A) (h2 : ¬ p → B) : if decide p = true then A else B := by
  by_cases h : p
  · exact ifY h (h1 h)
  · exact ifN h (h2 h)
theorem ifn2 (h1 : p → B) (h2 : ¬ p → A) : if (!decide p) = true then A else B := by
  by_cases h : p
  · exact ifnY h (h1 h)
  · exact ifnN h (h2 h)
end
theorem ifB {b : Bool} {A B : Prop} (h1 : b = true → A) (h2 : b = false → B) : if b = true then A else B := by
  cases b with
  | true => exact iteT (h1 rfl)
  | false => exact iteF (h2 rfl)
theorem ifnB {b : Bool} {A B : Prop} (h1 : b = true → B) (h2 : b = false → A) : if (!b) = true then A else B := by
  cases b with
  | true => exact iteF (h1 rfl)
  | false => exact iteT (h2 rfl)
theorem Kp.mut {b p : Addr} {H H' : Hp} {o : HO} (k : Kp b H H') (h : H p = none) : Kp b H (upd H' p o) := fun a u n e => by
  rw [upd_ne (ne_of_none e h)]
  exact k a u n e
theorem Same.mut {p : Addr} {H H' : Hp} {o : HO} (k : Same H H') (h : H p = none) : Same H (upd H' p o) := fun a u e => by
  rw [upd_ne (ne_of_none e h)]
  exact k a u e
theorem BoxAt.off {b p : Addr} {n : Nat} {H : Hp} {o : HO} (h : BoxAt b n H) (ne : p ≠ b) : BoxAt b n (upd H p o) := by
  obtain ⟨x, y, z, h1, r⟩ := h
  exact ⟨x, y, z, by rw [upd_ne ne.symm]; exact h1, r⟩
end Tp

set_option Elab.async false
set_option linter.all false
set_option maxRecDepth 100000
set_option maxHeartbeats 4000000
namespace Tp
open PySem L2 PySem.NumText
/-! ### numbers as texts -/
def numOf (z : Str) : Option Int :=
  if 0 < z.length ∧ z.length ≤ 30 ∧ (∀ c ∈ z.cps.toList, 48 ≤ c ∧ c ≤ 57) ∧ (z.cps.toList.head? = some 48 → z.length = 1) then some ((digitsVal z.cps.toList : Nat) : Int) else none
def numV (z : Str) (lo hi : Int) : V := match numOf z with
  | some n => if lo ≤ n ∧ n ≤ hi then .int n else .non
  | none => .non
theorem len_list (z : Str) : z.cps.toList.length = z.length := Array.length_toList
theorem str_ext {a b : Str} (h : a.cps.toList = b.cps.toList) : a = b := by
  obtain ⟨x⟩ := a
  obtain ⟨y⟩ := b
  have : x = y := Array.toList_inj.mp h
  rw [this]
theorem val_lt : ∀ (cs : List Nat) (a : Nat), (∀ c ∈ cs, 48 ≤ c ∧ c ≤ 57) → cs.foldl (fun acc c => acc * 10 + (c - 48)) a < (a + 1) * 10 ^ cs.length
  | [], a, _ => by simp
  | c :: cs, a, h => by
    have h1 := h c (List.mem_cons_self ..)
    have h2 := val_lt cs (a * 10 + (c - 48)) fun d hd => h d (List.mem_cons_of_mem _ hd)
    rw [List.foldl_cons, List.length_cons]
    refine Nat.lt_of_lt_of_le h2 ?_
    rw [Nat.pow_succ, Nat.mul_comm (10 ^ cs.length) 10, ← Nat.mul_assoc]
    exact Nat.mul_le_mul_right _ (by omega)
theorem num_lt {z : Str} {n : Int} (h : numOf z = some n) : 0 ≤ n ∧ n < 10 ^ 30 := by
  unfold numOf at h
  split at h
  · rename_i c
    obtain ⟨h1, h2, h3, h4⟩ := c
    have e := Option.some.inj h
    have l := val_lt z.cps.toList 0 h3
    rw [len_list] at l
    have l2 : (10 : Nat) ^ z.length ≤ 10 ^ 30 := Nat.pow_le_pow_right (by decide) h2
    have l3 : digitsVal z.cps.toList < 10 ^ 30 := by
      show List.foldl _ 0 _ < _
      omega
    rw [← e]
    omega
  · cases h
/-- str(n) of what the digits are worth -/
theorem str_val {cs : List Nat} (h : AllDigits cs) (hne : cs ≠ []) : (Str.ofString (toString ((digitsVal cs : Nat) : Int))).cps.toList = cs ↔ (cs.head? = some 48 → cs.length = 1) := by
  rw [PySem.W.KIN.signs_num]
  have back : ∀ l : List Nat, AllDigits l → (l.map Char.ofNat).map Char.toNat = l := by
    intro l hl
    rw [List.map_map]
    refine (List.map_congr_left fun c hc => ?_).trans (List.map_id l)
    have := hl c hc
    show (Char.ofNat c).toNat = c
    have key : ∀ k : Nat, k < 128 → (Char.ofNat k).toNat = k := by decide
    exact key c (by omega)
  constructor
  · intro e hd
    cases cs with
    | nil => exact (hne rfl).elim
    | cons c r =>
      have : c = 48 := by simpa using hd
      subst this
      cases r with
      | nil => rfl
      | cons c2 r2 =>
        exfalso
        have len := congrArg List.length e
        rw [List.length_map] at len
        have hv : digitsVal (48 :: c2 :: r2) < 10 ^ (r2.length + 1) := by
          have l := val_lt (c2 :: r2) 0 h.tail
          have e0 : digitsVal (48 :: c2 :: r2) = List.foldl (fun acc c => acc * 10 + (c - 48)) 0 (c2 :: r2) := rfl
          rw [e0]
          simpa using l
        have := PyProof.Rows.digits10_le (k := r2.length + 1) (n := digitsVal (48 :: c2 :: r2)) (by omega) hv
        rw [len] at this
        simp at this
        omega
  · intro hd
    have : cs.length = (cs.length - 1) + 1 := by
      cases cs with
      | nil => exact (hne rfl).elim
      | cons => rfl
    rw [toDigits_digitsVal (cs.length - 1) cs this h ?_, back cs h]
    cases cs with
    | nil => exact (hne rfl).elim
    | cons c r =>
      by_cases c0 : c = 48
      · left
        have := hd (by rw [c0]; rfl)
        omega
      · right
        have := h.head
        exact ⟨c, r, rfl, by omega⟩
/-! ### strip, count -/
theorem strip_empty (x y : Str) : Txt.stripChars x y = Str.empty ↔ ∀ c ∈ x.cps.toList, c ∈ y.cps.toList := by
  have cont : ∀ c, y.cps.contains c = true ↔ c ∈ y.cps.toList := by
    intro c
    rw [Array.contains_iff_mem, Array.mem_toList_iff]
  have tw : ∀ (p : Nat → Bool) (l : List Nat), (l.takeWhile p).length = l.length ↔ ∀ c ∈ l, p c = true := by
    intro p l
    induction l with
    | nil => simp
    | cons c l ih =>
      rw [List.takeWhile_cons]
      by_cases hc : p c = true
      · rw [if_pos hc, List.length_cons, List.length_cons]
        constructor
        · intro h d hd
          rcases List.mem_cons.mp hd with rfl | hd
          · exact hc
          · exact ih.mp (by omega) d hd
        · intro h
          have := ih.mpr fun d hd => h d (List.mem_cons_of_mem _ hd)
          omega
      · rw [if_neg hc]
        constructor
        · intro h
          simp at h
        · intro h
          exact absurd (h c (List.mem_cons_self ..)) hc
  unfold Txt.stripChars Txt.stripBy
  constructor
  · intro h
    by_cases hs : stripSame y.cps.contains true true x = true
    · rw [if_pos hs] at h
      subst h
      intro c hc
      cases hc
    · rw [if_neg hs] at h
      have hz := congrArg (fun s : Str => s.cps.size) h
      have hz : (x.cps.extract (stripLo y.cps.contains true x) (stripHi y.cps.contains true x (stripLo y.cps.contains true x))).size = 0 := hz
      rw [Array.size_extract] at hz
      have l1 : stripLo y.cps.contains true x = (x.cps.toList.takeWhile y.cps.contains).length := if_pos rfl
      have l2 : stripHi y.cps.contains true x (stripLo y.cps.contains true x) = x.length - ((x.cps.toList.drop (stripLo y.cps.contains true x)).reverse.takeWhile y.cps.contains).length := if_pos rfl
      have xl : x.length = x.cps.size := rfl
      rw [l2] at hz
      have le := (List.takeWhile_prefix y.cps.contains (l := (x.cps.toList.drop (stripLo y.cps.contains true x)).reverse)).length_le
      rw [List.length_reverse, List.length_drop, len_list] at le
      have lo_le : stripLo y.cps.contains true x ≤ x.length := by
        rw [l1, ← len_list]
        exact (List.takeWhile_prefix _).length_le
      have all : ∀ c ∈ (x.cps.toList.drop (stripLo y.cps.contains true x)).reverse, y.cps.contains c = true := by
        refine (tw _ _).mp ?_
        rw [List.length_reverse, List.length_drop, len_list]
        omega
      intro c hc
      rw [← cont]
      rw [← List.take_append_drop (stripLo y.cps.contains true x) x.cps.toList] at hc
      rcases List.mem_append.mp hc with hc | hc
      · rw [l1] at hc
        have e : x.cps.toList.take (x.cps.toList.takeWhile y.cps.contains).length = x.cps.toList.takeWhile y.cps.contains :=
          List.prefix_iff_eq_take.mp (List.takeWhile_prefix _) |>.symm
        rw [e] at hc
        exact List.all_eq_true.mp (List.all_takeWhile) c hc
      · exact all c (List.mem_reverse.mpr hc)
  · intro h
    have lo : stripLo y.cps.contains true x = x.length := by
      have e : stripLo y.cps.contains true x = (x.cps.toList.takeWhile y.cps.contains).length := if_pos rfl
      rw [e, ← len_list]
      exact (tw _ _).mpr fun c hc => (cont c).mpr (h c hc)
    by_cases hs : stripSame y.cps.contains true true x = true
    · rw [if_pos hs]
      have := (Bool.and_eq_true _ _ ▸ hs : (stripLo y.cps.contains true x == 0) = true ∧ _).1
      rw [lo] at this
      have z0 : x.cps.size = 0 := beq_iff_eq.mp this
      exact str_ext (by rw [Array.eq_empty_of_size_eq_zero z0]; rfl)
    · rw [if_neg hs]
      refine str_ext ?_
      have z0 : (stripped y.cps.contains true true x).cps.size = 0 := by
        show (x.cps.extract (stripLo y.cps.contains true x) _).size = 0
        rw [Array.size_extract, lo]
        have xl : x.length = x.cps.size := rfl
        omega
      rw [Array.eq_empty_of_size_eq_zero z0]
      rfl
theorem occ_some (s sub : Str) (hi L : Nat) (hL : 1 ≤ L) : ∀ (l : List Nat) (free : Nat), (∀ i ∈ l, free ≤ i) →
    ((forIn l ((#[] : Array Nat), free) (StrLaws.occBody s sub hi L)).run.fst = #[] ↔ ∀ i ∈ l, ¬ (i + sub.length ≤ hi ∧ Builtin.Str.subAt s sub i = true))
  | [], free, _ => by simp
  | a :: l, free, hf => by
    rw [List.forIn_cons]
    unfold StrLaws.occBody
    have ha : free ≤ a := hf a (List.mem_cons_self ..)
    by_cases hc : a + sub.length ≤ hi ∧ Builtin.Str.subAt s sub a = true
    · have c1 : (((#[] : Array Nat), free).fst.size < L ∧ ((#[] : Array Nat), free).snd ≤ a) ∧ a + sub.length ≤ hi := ⟨⟨hL, ha⟩, hc.1⟩
      rw [if_pos ⟨c1, hc.2⟩]
      exact ⟨fun h => absurd h (StrLaws.occ_grows s sub hi L l _ (by simp)), fun h => absurd hc (h a (List.mem_cons_self ..))⟩
    · rw [if_neg fun h => hc ⟨h.1.2, h.2⟩]
      have ih := occ_some s sub hi L hL l free (fun i hi' => hf i (List.mem_cons_of_mem _ hi'))
      refine ⟨fun h i hi' => ?_, fun h => ih.mpr fun i hm => h i (List.mem_cons_of_mem _ hm)⟩
      rcases List.mem_cons.mp hi' with rfl | hm
      · exact hc
      · exact ih.mp h i hm
theorem count_one (x : Str) (c : Nat) : decide (0 < Txt.count x ⟨#[c]⟩) = decide (c ∈ x.cps.toList) := by
  have key := occ_some x ⟨#[c]⟩ x.length (x.length + 1) (by omega) (List.range' 0 (x.length + 1 - 0)) 0 (fun _ _ => Nat.zero_le _)
  have e : Txt.count x ⟨#[c]⟩ = (((forIn (List.range' 0 (x.length + 1 - 0)) ((#[] : Array Nat), 0) (StrLaws.occBody x ⟨#[c]⟩ x.length (x.length + 1))).run.fst.toList.length : Nat) : Int) := by
    unfold Txt.count
    rw [StrLaws.occ_eq]
  rw [e, decide_eq_decide, List.mem_iff_getElem?]
  constructor
  · intro h
    refine Classical.byContradiction fun hn => ?_
    rw [key.mpr fun i _ hc => hn ⟨i, (StrLaws.subAt_one x c i).mp hc⟩] at h
    exact absurd h (by decide)
  · rintro ⟨i, hi⟩
    have hs := (StrLaws.subAt_one x c i).mpr hi
    have one : (⟨#[c]⟩ : Str).length = 1 := rfl
    have ne := fun h0 => key.mp h0 i (by simp [List.mem_range']; omega) hs
    have : (forIn (List.range' 0 (x.length + 1 - 0)) ((#[] : Array Nat), 0) (StrLaws.occBody x ⟨#[c]⟩ x.length (x.length + 1))).run.fst.toList ≠ [] := by simpa using ne
    have := List.length_pos_iff.mpr this
    omega
/-! ### items in bounds -/
theorem at_some {α : Type} {xs : List α} {P : α → Prop} {r : Int} (h : ∀ x ∈ xs, P x) (r0 : 0 ≤ r) (r1 : r < xs.length) : ∃ v, atI xs r = some v ∧ P v := by
  obtain ⟨j, rfl⟩ := Int.eq_ofNat_of_zero_le r0
  have hj : j < xs.length := by omega
  exact ⟨xs[j], atI_nat (List.getElem?_eq_getElem hj), h _ (List.getElem_mem hj)⟩
theorem join_len {ys : List Str} {a : Str} {m : Nat} (h : ∀ y ∈ ys, y.length ≤ m) : (Txt.join a ys).length ≤ ys.length * (m + a.length) := by
  have e : Txt.join a ys = Str.join a ys := StrLaws.glued_eq_join a ys
  rw [e]
  refine Nat.le_trans (StrLaws.join_length_le a ys) ?_
  have : (ys.map (·.length)).sum ≤ ys.length * m := by
    induction ys with
    | nil => simp
    | cons y ys ih =>
      have h1 := h y (List.mem_cons_self ..)
      have h2 := ih (fun z hz => h z (List.mem_cons_of_mem _ hz)) (StrLaws.glued_eq_join a ys)
      simp only [List.map_cons, List.sum_cons, List.length_cons, Nat.succ_mul]
      omega
  rw [Nat.mul_add]
  omega
theorem sum_len {ys : List Str} {m : Nat} (h : ∀ y ∈ ys, y.length ≤ m) : (ys.map (·.length)).sum ≤ ys.length * m := by
  induction ys with
  | nil => simp
  | cons y ys ih =>
    have h1 := h y (List.mem_cons_self ..)
    have h2 := ih (fun z hz => h z (List.mem_cons_of_mem _ hz))
    simp only [List.map_cons, List.sum_cons, List.length_cons, Nat.succ_mul]
    omega
theorem cut_len (z : Str) (lo hi : Option Int) : (cutS z lo hi).length ≤ z.length := by
  show (List.toArray _).size ≤ z.length
  rw [List.size_toArray, List.length_take, List.length_drop, len_list]
  omega
end Tp

set_option Elab.async false
set_option linter.all false
set_option maxRecDepth 100000
set_option maxHeartbeats 4000000
namespace Tp
open PySem L2
/-! ### how long a repr is -/
mutual
def wt : PyData → Nat
  | .none => 4
  | .bool _ => 5
  | .int _ => 50
  | .str z => 10 * z.length + 2
  | .list xs => wtAll xs + 3
  | .tuple xs => wtAll xs + 3
  | .dict _ => 0
def wtAll : List PyData → Nat
  | [] => 0
  | x :: xs => wt x + 2 + wtAll xs
end
inductive Fit : Nat → PyData → Prop
  | non {n : Nat} : Fit n .none
  | bl {n : Nat} (b : Bool) : Fit n (.bool b)
  | int {n : Nat} {i : Int} (h : i.natAbs < 10 ^ 40) : Fit n (.int i)
  | str {n : Nat} {z : Str} (h : ∀ c ∈ z.cps.toList, c < 16 ^ 8) : Fit n (.str z)
  | lst {n : Nat} {xs : List PyData} (h : ∀ x ∈ xs, Fit n x) : Fit (n + 1) (.list xs)
  | tup {n : Nat} {xs : List PyData} (h : ∀ x ∈ xs, Fit n x) : Fit (n + 1) (.tuple xs)
theorem shown_int_len {i : Int} (h : i.natAbs < 10 ^ 40) : (Str.ofString (toString i)).length ≤ 50 := by
  have key : ∀ m : Nat, m < 10 ^ 40 → (Nat.repr m).length ≤ 40 := fun m hm => by
    show (Nat.repr m).toList.length ≤ 40
    rw [Nat.toList_repr]
    exact PyProof.Rows.digits10_le (by decide) hm
  rw [PyProof.Rows.ofString_len]
  cases i with
  | ofNat m => exact Nat.le_trans (key m h) (by decide)
  | negSucc m =>
    have := key (m + 1) h
    show ("-" ++ Nat.repr (m + 1)).length ≤ 50
    rw [String.length_append]
    have : ("-" : String).length = 1 := by decide
    omega
theorem fit_all {n : Nat} (ih : ∀ d, Fit n d → d.showable = true ∧ d.hasDict = false ∧ d.depth ≤ n ∧ d.shown.length ≤ wt d) :
    ∀ xs : List PyData, (∀ x ∈ xs, Fit n x) → PyData.showableAll xs = true ∧ PyData.hasDictAll xs = false ∧ PyData.depthAll xs ≤ n ∧ ((PyData.shownAll xs).map (·.length)).sum + 2 * (PyData.shownAll xs).length ≤ wtAll xs
  | [], _ => ⟨by simp only [PyData.showableAll], by simp only [PyData.hasDictAll], by simp only [PyData.depthAll]; omega, by simp [PyData.shownAll, wtAll]⟩
  | x :: xs, h => by
    obtain ⟨a1, a2, a3, a4⟩ := ih x (h x (List.mem_cons_self ..))
    obtain ⟨b1, b2, b3, b4⟩ := fit_all ih xs fun y hy => h y (List.mem_cons_of_mem _ hy)
    refine ⟨by simp only [PyData.showableAll, a1, b1, Bool.and_self], by simp only [PyData.hasDictAll, a2, b2, Bool.or_self], by simp only [PyData.depthAll]; omega, ?_⟩
    simp only [PyData.shownAll, List.map_cons, List.sum_cons, List.length_cons, wtAll]
    omega
theorem fit_ok : ∀ (n : Nat) (d : PyData), Fit n d → d.showable = true ∧ d.hasDict = false ∧ d.depth ≤ n ∧ d.shown.length ≤ wt d := by
  have flat : ∀ (n : Nat) (d : PyData), Fit n d → (∀ xs, d ≠ .list xs) → (∀ xs, d ≠ .tuple xs) → d.showable = true ∧ d.hasDict = false ∧ d.depth ≤ n ∧ d.shown.length ≤ wt d := by
    intro n d h n1 n2
    cases h with
    | non => exact ⟨by simp only [PyData.showable], by simp only [PyData.hasDict], by simp only [PyData.depth]; omega, by simp only [PyData.shown, wt]; decide⟩
    | bl b => exact ⟨by simp only [PyData.showable], by simp only [PyData.hasDict], by simp only [PyData.depth]; omega, by simp only [PyData.shown, wt]; cases b <;> decide⟩
    | int h =>
      rename_i i
      refine ⟨?_, by simp only [PyData.hasDict], by simp only [PyData.depth]; omega, by simp only [PyData.shown, wt]; exact shown_int_len h⟩
      simp only [PyData.showable, decide_eq_true_eq]
      by_cases z : i.natAbs = 0
      · rw [z]; decide
      · exact (Nat.log2_lt z).mpr (Nat.lt_of_lt_of_le h (by decide +kernel))
    | str h => exact ⟨by simp only [PyData.showable], by simp only [PyData.hasDict], by simp only [PyData.depth]; omega, by simp only [PyData.shown, wt]; exact StrLaws.reprText_len _ h⟩
    | lst _ => exact (n1 _ rfl).elim
    | tup _ => exact (n2 _ rfl).elim
  intro n
  induction n with
  | zero => intro d h; exact flat 0 d h (by rintro xs rfl; cases h) (by rintro xs rfl; cases h)
  | succ n ih =>
    intro d h
    cases d with
    | list xs =>
      cases h with
      | lst h =>
        obtain ⟨b1, b2, b3, b4⟩ := fit_all ih xs h
        refine ⟨by simp only [PyData.showable, b1], by simp only [PyData.hasDict, b2], by simp only [PyData.depth]; omega, ?_⟩
        simp only [PyData.shown, wt]
        exact Nat.le_trans (listText_len_le _) (by omega)
    | tuple xs =>
      cases h with
      | tup h =>
        obtain ⟨b1, b2, b3, b4⟩ := fit_all ih xs h
        refine ⟨by simp only [PyData.showable, b1], by simp only [PyData.hasDict, b2], by simp only [PyData.depth]; omega, ?_⟩
        simp only [PyData.shown, wt]
        exact Nat.le_trans (tupleText_len_le _) (by omega)
    | _ => exact flat _ _ h (by intro xs q; cases q) (by intro xs q; cases q)
theorem repr_fit {K : PySem.W.Frag} {H : Hp} {v : V} {d : PyData} {Q : VK} {n : Nat} (hd : Dp K H v d) (hf : Fit n d) (hn : n ≤ 60) (hw : wt d ≤ 16000000) (q : Q (.str d.shown) H) : rRepr K [v] H Q := by
  obtain ⟨b1, b2, b3, b4⟩ := fit_ok n d hf
  exact ⟨v, d, rfl, hd, b1, b2, by omega, Nat.le_trans b4 (Nat.le_trans hw (by decide)), q⟩
theorem fit4 {d : PyData} {n : Nat} (hf : Fit n d) (hn : n ≤ 60) (hw : wt d ≤ 16000000) : d.showable = true ∧ d.hasDict = false ∧ d.depth ≤ 60 ∧ d.shown.length ≤ sizeLine := by
  obtain ⟨b1, b2, b3, b4⟩ := fit_ok n d hf
  exact ⟨b1, b2, by omega, Nat.le_trans b4 (Nat.le_trans hw (by decide))⟩
end Tp

set_option Elab.async false
set_option linter.all false
set_option maxRecDepth 100000
set_option maxHeartbeats 4000000
namespace Tp
open PySem L2
/-! ### small texts: at most m signs, all of them below 1000 -/
def Sm (m : Nat) (z : Str) : Prop := z.length ≤ m ∧ ∀ c ∈ z.cps.toList, c < 1000
theorem Sm.up {m n : Nat} {z : Str} (h : Sm m z) (l : m ≤ n) : Sm n z := ⟨Nat.le_trans h.1 l, h.2⟩
theorem Sm.one {c : Nat} (h : c < 1000) : Sm 1 ⟨#[c]⟩ := ⟨Nat.le_refl 1, fun x hx => by
  have : x = c := by simpa using hx
  omega⟩
theorem Sm.at {m : Nat} {z : Str} (h : Sm m z) {r : Int} (r0 : 0 ≤ r) (r1 : r < z.length) : ∃ c, atI z.cps.toList r = some c ∧ c < 1000 :=
  at_some h.2 r0 (by rw [len_list]; exact r1)
theorem Sm.app {m n : Nat} {y z : Str} (h : Sm m y) (k : Sm n z) : Sm (m + n) (y ++ z) := by
  refine ⟨by rw [Str.length_append]; exact Nat.add_le_add h.1 k.1, fun c hc => ?_⟩
  rw [Str.cps_append, Array.toList_append] at hc
  rcases List.mem_append.mp hc with hc | hc
  · exact h.2 c hc
  · exact k.2 c hc
theorem Sm.cut {m : Nat} {z : Str} (h : Sm m z) (lo hi : Option Int) : Sm m (cutS z lo hi) :=
  ⟨Nat.le_trans (cut_len z lo hi) h.1, fun c hc => h.2 c (List.mem_of_mem_drop (List.mem_of_mem_take (show c ∈ List.take _ (List.drop _ _) from hc)))⟩
theorem Sm.sub {m : Nat} {z : Str} (h : Sm m z) (i j : Nat) : Sm m (Builtin.Str.strSub z i j) := by
  refine ⟨?_, fun c hc => ?_⟩
  · show (z.cps.extract i j).size ≤ m
    rw [Array.size_extract]
    have := h.1
    have e : z.length = z.cps.size := rfl
    omega
  · refine h.2 c ?_
    have hc : c ∈ (z.cps.extract i j).toList := hc
    rw [Array.toList_extract] at hc
    exact List.mem_of_mem_drop (List.mem_of_mem_take hc)
theorem Sm.join {m n : Nat} {a : Str} {ys : List Str} (ha : Sm n a) (h : ∀ y ∈ ys, Sm m y) : Sm (ys.length * (m + n)) (Txt.join a ys) := by
  refine ⟨Nat.le_trans (join_len fun y hy => (h y hy).1) (Nat.mul_le_mul_left _ (Nat.add_le_add_left ha.1 _)), ?_⟩
  have e : Txt.join a ys = Str.join a ys := StrLaws.glued_eq_join a ys
  rw [e]
  clear e
  induction ys with
  | nil => intro c hc; cases hc
  | cons y ys ih =>
    cases ys with
    | nil => exact (h y (List.mem_cons_self ..)).2
    | cons y2 ys =>
      intro c hc
      have hc : c ∈ (y ++ a ++ Str.join a (y2 :: ys)).cps.toList := hc
      rw [Str.cps_append, Str.cps_append, Array.toList_append, Array.toList_append] at hc
      rcases List.mem_append.mp hc with hc | hc
      · rcases List.mem_append.mp hc with hc | hc
        · exact (h y (List.mem_cons_self ..)).2 c hc
        · exact ha.2 c hc
      · exact ih (fun z hz => h z (List.mem_cons_of_mem _ hz)) c hc
theorem Sm.split {m : Nat} {z y : Str} (h : Sm m z) : ∀ x ∈ Txt.split z y, Sm m x := by
  have key : ∀ (cuts : List Nat) (k a : Nat), ∀ x ∈ StrLaws.partsFrom z k a cuts, Sm m x := by
    intro cuts
    induction cuts with
    | nil =>
      intro k a x hx
      rw [List.mem_singleton.mp (show x ∈ [Builtin.Str.strSub z a z.length] from hx)]
      exact h.sub _ _
    | cons c r ih =>
      intro k a x hx
      rcases List.mem_cons.mp (show x ∈ Builtin.Str.strSub z a c :: StrLaws.partsFrom z k (c + k) r from hx) with rfl | hx
      · exact h.sub _ _
      · exact ih k (c + k) x hx
  intro x hx
  unfold Txt.split at hx
  split at hx
  · rw [List.mem_singleton.mp hx]; exact h
  · split at hx
    · rw [List.mem_singleton.mp hx]; exact h
    · rw [StrLaws.partsBetween_eq] at hx
      exact key _ _ _ x hx
theorem Sm.fit {m n : Nat} {z : Str} (h : Sm m z) : Fit n (.str z) := .str fun c hc => Nat.lt_of_lt_of_le (h.2 c hc) (by decide)
theorem dp_strs {K : PySem.W.Frag} {H : Hp} : ∀ ws : List Str, DpAll K H (ws.map V.str) (ws.map PyData.str)
  | [] => .nil
  | w :: ws => .cons (.str w) (dp_strs ws)
theorem wt_strs {m : Nat} : ∀ ws : List Str, (∀ x ∈ ws, Sm m x) → wtAll (ws.map PyData.str) ≤ ws.length * (10 * m + 4)
  | [], _ => by simp [wtAll]
  | w :: ws, h => by
    have h1 := (h w (List.mem_cons_self ..)).1
    have h2 := wt_strs ws fun x hx => h x (List.mem_cons_of_mem _ hx)
    simp only [List.map_cons, wtAll, wt, List.length_cons]
    rw [Nat.add_mul ws.length 1 (10 * m + 4), Nat.one_mul]
    omega
theorem fit_strs {m n : Nat} {ws : List Str} (h : ∀ x ∈ ws, Sm m x) : Fit (n + 1) (.list (ws.map PyData.str)) := .lst fun x hx => by
  obtain ⟨w, hw, rfl⟩ := List.mem_map.mp hx
  exact (h w hw).fit
theorem dp_same {K : PySem.W.Frag} {H H' : Hp} (S : Same H H') : (∀ {v : V} {d : PyData}, Dp K H v d → Dp K H' v d) ∧ (∀ {vs : List V} {ds : List PyData}, DpAll K H vs ds → DpAll K H' vs ds) := by
  have sq : ∀ {a : Addr} {xs : List V}, SqT K H a xs → SqT K H' a xs := by
    rintro a xs ((h | ⟨o, h⟩) | h)
    · exact .inl (.inl (S _ _ h))
    · exact .inl (.inr ⟨o, S _ _ h⟩)
    · exact .inr h
  constructor
  · intro v d h
    exact Dp.rec (motive_1 := fun v d _ => Dp K H' v d) (motive_2 := fun vs ds _ => DpAll K H' vs ds) .non .bl .int .str (fun s _ ih => .lst (S.seq s) ih) (fun s _ ih => .tup (sq s) ih) .nil (fun _ _ a b => .cons a b) h
  · intro vs ds h
    exact DpAll.rec (motive_1 := fun v d _ => Dp K H' v d) (motive_2 := fun vs ds _ => DpAll K H' vs ds) .non .bl .int .str (fun s _ ih => .lst (S.seq s) ih) (fun s _ ih => .tup (sq s) ih) .nil (fun _ _ a b => .cons a b) h
theorem fits2 {x y m n : Nat} (h : x ≤ m) (k : y ≤ n) (l : m + n ≤ 100000 := by decide) : x + y ≤ sizeLine := Nat.le_trans (Nat.add_le_add h k) (Nat.le_trans l (by decide))
/-- a value's type, as long as what stands stays -/
theorem ty_same {K : PySem.W.Frag} {H H' : Hp} (S : Same H H') {v : V} {t : Value} (h : TyX K H v t) : TyX K H' v t := by
  cases h with
  | base b =>
    cases b with
    | non => exact .base .non
    | bl x => exact .base (.bl x)
    | int i => exact .base (.int i)
    | str x => exact .base (.str x)
    | flt x => exact .base (.flt x)
    | lst e => exact .base (.lst (S _ _ e))
    | frz e => exact .base (.frz (S _ _ e))
    | tup e => exact .base (.tup (S _ _ e))
    | dK e => exact .base (.dK (S _ _ e))
    | dT e => exact .base (.dT (S _ _ e))
    | ins e x1 x2 x3 x4 x5 => exact .base (.ins (S _ _ e) x1 x2 x3 x4 x5)
  | byt b => exact .byt b
  | set e => exact .set (S _ _ e)
  | kList e c => exact .kList e c
  | kTuple e c => exact .kTuple e c
  | kDict e c => exact .kDict e c
  | fTuple e => exact .fTuple (S _ _ e)
  | fDict e => exact .fDict (S _ _ e)
end Tp

set_option Elab.async false
set_option linter.all false
set_option maxRecDepth 100000
set_option maxHeartbeats 4000000
namespace Tp
open PySem PySem.Spec PyProof.Rows L2
/-! ### own exceptions: B.__init__(self, 'text'); self.f = v, with B an own class over ValueError -/
section
variable {X : Cx} {e : Expr} {es : List Expr} {ta : TA} {x : Str} {B : Addr} {p1 p2 pos : Pos}
/-- what is known of such a base -/
structure BaseT (K : PySem.W.Frag) (B : Addr) : Prop where
  ga : PySem.W.specialIn K (.ref B) "__getattribute__" = some (some (.builtin "type.__getattribute__"))
  rd : PySem.W.readsIn K B (.type "type") = true
  fi : PySem.W.findCls K (.ref B) (.type "type") "__init__" = some (.val (.builtin "ValueError.__init__"))
theorem pe_ownInit {pl : Sem Bool} (hg : Gl X x) (hm : X.mg x = some (.ref B)) (T : BaseT X.K B) (ha : PA X (e :: es) ta)
    (hc : eval (.Call (.Attribute (.Name x p1) "__init__" p2) (e :: es) [] pos) X.env = (do
      let ov ← eval (.Name x p1) X.env
      standAt p2.atName
      let (f, first) ← holding [ov] (getMethod ov "__init__" pl)
      callWith pos f first (backTo pos (starEach (e :: es) X.env)) (backToKw pos (keywordEach [] X.env))) := by rfl)
    (hdb : (x == ("__debug__" : Str)) = false := by decide)
    (he : starEach (e :: es) X.env = (false, eval e X.env) :: starEach es X.env := by rfl) (hpl : (backTo pos (starEach es X.env)).any (·.1) = false := by rfl) :
    PE X (.Call (.Attribute (.Name x p1) "__init__" p2) (e :: es) [] pos) (tVeI X.K ta) := by
  refine ⟨fun pins s σ H Q I h => ?_⟩
  refine PySem.W.methodCall_KW (ld_glob I hg hm ?_ hdb) hc
  refine PySem.W.method_cls I.kIn T.ga (PySem.W.cls_value I.kIn T.rd T.fi (by decide +kernel) ?_)
  show wpAny _ _ (callWith pos (Value.builtin "ValueError.__init__") [] (backTo pos (starEach (e :: es) X.env)) []) _ _ _
  refine PyProof.Rows.callWith_method1 (thn (ha.run pos pins _ σ H _ (I.tok _) h) fun us s1 ⟨vs, H1, I1, r1, a, C, ws, ev, hl, TC, ea, q⟩ => ?_) he hpl
  subst ev
  cases r1 with
  | cons ra rr =>
    cases (ra : _ = Value.ref a)
    refine oinit_ok TC I1 ea ?_ fun s' J => ⟨.non, H1, J, rfl, q⟩
    have := Paired.length rr
    exact Nat.le_trans (by omega) (show 1000 ≤ sizeLine from by decide)
end
/-- what the promise of such an __init__ is -/
def spXI (C : Addr) (f : Str) : Sp := fun vs H Q _ => ∃ (a : Addr) (v : V), vs = [.ref a, v] ∧ H a = some (exo a C none) ∧
  ∀ dx, H dx = none → dx ≠ a → Q .non (upd (upd H dx (exd dx [(f, v)])) a (exo a C (some dx)))
/-- an own exception class of one field -/
structure ExT (P : Program) (w : World) (K : PySem.W.Frag) (mg : Str → Option Value) (base : Heap) (C fI : Addr) (fd : FuncData) (f : Str) : Prop where
  ox : OexC K C
  iC : PySem.W.findIn K (.ref C) "__init__" = some (some (.ref fI))
  tI : PySem.W.typeIn K (.ref fI) = some (.type "function")
  ok : FnOk P w K mg base CX0 1 fI fd ["self", f] (spXI C f)
  bn : Binds K fd ["self", f] []
section
variable {X : Cx} {x f : Str} {C fI : Addr} {fd : FuncData} {e : Expr} {te : TE} {p pos pos2 : Pos}
/-- the same reading, whatever weaker is wanted -/
def tMono (te : TE) : TA := fun σ H Q => ∃ R : VK, te σ H R ∧ ∀ v H1, R v H1 → Q [v] H1
theorem pa_mono (he : PE X e te) (hs : starEach (e :: []) X.env = (false, eval e X.env) :: starEach [] X.env) : PA X [e] (tMono te) := by
  refine ⟨fun pos pins s σ H Q I h => ?_⟩
  obtain ⟨R, h1, h2⟩ := h
  have e1 : R = fun x H1 => ∃ v, [x] = [v] ∧ R v H1 := by
    funext x H1
    exact propext ⟨fun q => ⟨x, rfl, q⟩, fun ⟨v, ev, q⟩ => by cases ev; exact q⟩
  rw [e1] at h1
  exact thn ((pa_cons he pa_nil hs).run pos pins s σ H (fun vs H1 => ∃ v, vs = [v] ∧ R v H1) I h1) fun us s1 ⟨vs, H1, I1, r1, v, ev, q⟩ => ⟨vs, H1, I1, r1, by rw [ev]; exact h2 v H1 q⟩
/-- C(e): the exception is made; its dict is told -/
def tMkX (C : Addr) (f : Str) (te : TE) : L2.St → Hp → XK → Prop := fun σ H Q => te σ H fun v H1 => ∀ d, H1 d = none → Q (.ref C) (some d) (upd H1 d (.xd [(f, v)]))
theorem mk_heap {H1 : Hp} {a dx : Addr} {C : Addr} {f : Str} {v : V} (ha : H1 a = none) (ne : dx ≠ a) :
    upd (del (upd (upd (upd H1 a (exo a C none)) dx (exd dx [(f, v)])) a (exo a C (some dx))) a) dx (.xd [(f, v)]) = upd H1 dx (.xd [(f, v)]) := by
  funext b
  by_cases h1 : b = dx
  · rw [h1, upd_same, upd_same]
  · rw [upd_ne h1, upd_ne h1]
    by_cases h2 : b = a
    · rw [h2, del_same, ha]
    · rw [del_ne h2, upd_ne h2, upd_ne h1, upd_ne h2]
theorem pmk_x {k : Nat} (T : ExT X.prog X.w X.K X.mg X.base C fI fd f) (hr : Room (k + 2) X.A) (hg : Gl X x) (hm : X.mg x = some (.ref C)) (he : PE X e te)
    (hdb : (x == ("__debug__" : Str)) = false := by decide) (hs : starEach (e :: []) X.env = (false, eval e X.env) :: starEach [] X.env := by rfl) (hpl : (backTo pos (starEach [] X.env)).any (·.1) = false := by rfl) :
    PMk X (.Call (.Name x p) [e] [] pos) (tMkX C f te) := by
  intro pins s σ H Q I h
  refine pmk_oex T.ox T.iC T.tI T.ok (hr.mono (by omega)) T.bn .nil (fun _ _ _ _ _ _ _ z => z.elim) hg hm (pa_mono he hs) hdb hs hpl pins s σ H Q I ⟨_, h, fun v H1 q => ⟨(show 1 ≤ 1000 from by decide), fun a ha => ?_⟩⟩
  refine ⟨a, v, rfl, upd_same, fun dx hd ne => ⟨rfl, dx, [(f, v)], upd_same, ?_, ?_, ?_⟩⟩
  · rw [upd_ne ne, upd_same]
  · rw [upd_ne ne] at hd
    exact hd
  · rw [mk_heap ha ne]
    rw [upd_ne ne] at hd
    exact q dx hd
theorem ps_raiseX {k : Nat} {W : WX} (hc : X.calm = true) (T : ExT X.prog X.w X.K X.mg X.base C fI fd f) (hr : Room (k + 2) X.A) (tk : Takes X W) (hg : Gl X x) (hm : X.mg x = some (.ref C)) (he : PE X e te)
    (hdb : (x == ("__debug__" : Str)) = false := by decide) (hs : starEach (e :: []) X.env = (false, eval e X.env) :: starEach [] X.env := by rfl) (hpl : (backTo pos (starEach [] X.env)).any (·.1) = false := by rfl) :
    PS X (.Raise (some (.Call (.Name x p) [e] [] pos)) none pos2) (fun _ σ H => tMkX C f te σ H fun cls d H' => W cls d σ H') := ps_raise hc tk (pmk_x T hr hg hm he hdb hs hpl)
end
end Tp

set_option Elab.async false
set_option linter.all false
set_option maxRecDepth 100000
set_option maxHeartbeats 4000000
namespace Tp
open PySem PySem.Spec PyProof.Rows L2
/-! ### try with several clauses, each with or without a name -/
/-- one clause: the class, the slot of its name (if it has one), its suite's reading -/
structure Cl where
  c : Value
  i : Option Nat
  ts : Addr → Value → Option Addr → TS
def setO (σ : L2.St) (i : Option Nat) (v : Option V) : L2.St := match i with
  | some j => σ.set j v
  | none => σ
def wCl (K : PySem.W.Frag) (Wout : WX) (D : Ends) : List Cl → WX
  | [] => Wout
  | k :: r => fun cls d σ H => ∃ b, PySem.W.exmOne K cls k.c = some b ∧
      (b = true → ∀ a, H a = none → k.ts a cls d { nx := fun σ' H' => D.nx (setO σ' k.i none) H', rt := D.rt, bk := fun σ' H' => D.bk (setO σ' k.i none) H', ct := fun σ' H' => D.ct (setO σ' k.i none) H' } (setO σ k.i (some (.ref a))) H) ∧
      (b = false → wCl K Wout D r cls d σ H)
inductive HdsA (X : Cx) : List ExceptHandler → List Cl → Prop
  | nil : HdsA X [] []
  | as_ {x n : Str} {i : Nat} {c : Value} {ts : Addr → Value → Option Addr → TS} {b₀ : Stmt} {suite : List Stmt} {np pos' : Pos} {hds : List ExceptHandler} {l : List Cl} (hN : X.N.Nodup) (hi : X.N[i]? = some n) (hln : X.env.kindOf n = some .local) (hc : Names X x c)
      (hsu : ∀ (a : Addr) (oe : Obj) (cls : Value) (d : Option Addr) (pn : List (Addr × Obj)), Zc cls d oe → (∃ vs, oe.data = .fields vs) → PSs (X.suite a ((a, oe) :: pn)) (b₀ :: suite) (ts a cls d)) (r : HdsA X hds l) :
      HdsA X (.ExceptHandler (some (.Name x np)) (some n) (b₀ :: suite) pos' :: hds) (⟨c, some i, ts⟩ :: l)
  | bare {x : Str} {c : Value} {ts : Addr → Value → Option Addr → TS} {b₀ : Stmt} {suite : List Stmt} {np pos' : Pos} {hds : List ExceptHandler} {l : List Cl} (hc : Names X x c)
      (hsu : ∀ (a : Addr) (oe : Obj) (cls : Value) (d : Option Addr) (pn : List (Addr × Obj)), Zc cls d oe → (∃ vs, oe.data = .fields vs) → PSs (X.suite a ((a, oe) :: pn)) (b₀ :: suite) (ts a cls d)) (r : HdsA X hds l) :
      HdsA X (.ExceptHandler (some (.Name x np)) none (b₀ :: suite) pos' :: hds) (⟨c, none, ts⟩ :: l)
section
variable {X : Cx} {body : List Stmt} {h₀ : ExceptHandler} {hds : List ExceptHandler} {l : List Cl} {pos : Pos} {tb : WX → TS} {Wout : WX}
theorem ps_tryA (hs : X.stack = X.env :: X.outer) (hf : X.env.frame = some X.env.locals) (tk : Takes X Wout)
    (hb : ∀ (W : WX) (pn : List (Addr × Obj)) (xe : Value → Shared → Prop), Takes (X.tr pn xe) W → PassesOwn (model X.prog X.w) X.A X.env xe → PSs (X.tr pn xe) body (tb W))
    (hh : HdsA X (h₀ :: hds) l) : PS X (.Try body (h₀ :: hds) [] [] pos) (fun D σ H => tb (wCl X.K Wout D l) D σ H) := by
  refine ⟨fun pins s σ H D I h => ?_⟩
  have ok := I.ok
  have hfr : X.A.frames = some (X.env :: X.outer) := by rw [ok.frames, hs]
  refine wpAny_Try_except ?_
  refine wpAny_mono ((hb (wCl X.K Wout D l) (X.pn ++ pins) (fun e s₁ => wpAny (model X.prog X.w) X.A (noteFrame e X.env) (fun _ s₂ => wpAny (model X.prog X.w) X.A (setFlight e none) (fun _ s₃ =>
    wpAny (model X.prog X.w) X.A (handleBy e X.env (h₀ :: hds)) (SP X pins D) X.xe s₃) X.xe s₂) X.xe s₁) (fun u s' xx => ?_) PassesOwn.looking).run [] s σ H D (I.toTry _) h) (fun f s1 hsp => ?_) (fun e s1 he => he)
  · obtain ⟨a, B, sI, pins', σ', H', cls, d, rfl, J', nb, up, sky, na, os, ag, w⟩ := xx
    have J : Inv X pins σ' H' sI := J'.ofTry ok
    have sky' : Sky B (X.env :: X.outer) a (Zc cls d) X.env.locals s'.heap := by rw [← hs]; exact sky
    show wpAny (model X.prog X.w) X.A (noteFrame (.ref a) X.env) _ _ _
    refine Sky.land Zc.steady hfr hf sky' fun h3 fl3 up3 => ?_
    have J3 : Inv X pins σ' H' { s' with heap := h3 } := J.landed nb fl3.1 (up.trans up3) os ag
    obtain ⟨oe3, vs3, he3, hz3, hd3⟩ := fl3.there
    have notFr : ∀ {h : Heap} {o : Obj} {vs : Array Value}, h.FunFrames B (X.env :: X.outer) → h.get? a = some o → o.data = .fields vs → a ∉ frs (X.env :: X.outer) := fun {h o vs} ff e dd hm => by
      obtain ⟨_, o', e', hnf⟩ := ff.mem hm
      rw [e] at e'; cases e'
      exact hnf _ dd
    have nfr := notFr fl3.2.2.1 he3 hd3
    have nL : a ≠ X.env.locals := fun z => nfr (List.mem_filterMap.mpr ⟨X.env, List.mem_cons_self, by rw [hf, z]⟩)
    have nF : a ∉ X.fs := fun hm => by
      obtain ⟨e, he, q⟩ := List.mem_filterMap.mp hm
      exact nfr (List.mem_filterMap.mpr ⟨e, List.mem_cons_of_mem _ he, q⟩)
    have S3 := J3.suite he3 hd3 na nL nF
    have LT : PySem.W.Looks (model X.prog X.w) h3 (typeOf (.ref a)) cls := fun A Q E s k q => wpAny_typeOf_ref (k _ _ he3) (by rw [hz3.1]; exact q)
    have test : ∀ {x : Str} {c : Value} {np : Pos} {Q : Value → Shared → Prop} {E : Value → Shared → Prop}, Names X x c → Q c { s' with heap := h3 } →
        wpAny (model X.prog X.w) (X.A.mark (some (.ref a))) (eval (.Name x np) X.env) Q E { s' with heap := h3 } := fun {x c np Q E} hc q => by
      obtain ⟨hg, hdbg, hm | ⟨hm, hv, hnn⟩⟩ := hc
      · exact ld_glob (X := X.suite a ((a, oe3) :: (X.pn ++ pins))) S3 hg hm q hdbg
      · exact ld_blt (X := X.suite a ((a, oe3) :: (X.pn ++ pins))) S3 hg hm hv q hnn hdbg
    have go : ∀ {hds' : List ExceptHandler} {l' : List Cl}, HdsA X hds' l' → wCl X.K Wout D l' cls d σ' H' →
        wpAny (model X.prog X.w) X.A (handleBy (.ref a) X.env hds') (SP X pins D) X.xe { s' with heap := h3 } := by
      intro hds' l' hk
      induction hk with
      | nil =>
        intro w
        refine wpAny_handleBy_nil ?_
        obtain ⟨k1, k2, k3, oe, vs, T, oT, ts', he, hz, hd, h1, hr⟩ := id fl3
        unfold PySem.passOn
        refine wpAny_bind (wpAny_field he hd h1 ?_)
        rw [if_neg (show ¬ ((Value.ref T == Value.none) = true) from by simp)]
        have fin : wpAny (model X.prog X.w) X.A (setFlight (.ref a) X.env.frame) (fun _ s4 => wpAny (model X.prog X.w) X.A (throw (.ref a) : Sem Flow) (SP X pins D) X.xe s4) X.xe { s' with heap := h3 } := by
          rw [hf]
          refine HandSPX.setFlight_upZ fl3 fun h4 hh4 up4 => wpAny_throw (tk _ _ ?_)
          exact ⟨a, B, sI, pins, σ', H', cls, d, rfl, J, nb, (up.trans up3).trans up4, .inr (.inr (by rw [hs]; exact hh4)), na, os, ag, w⟩
        first
          | exact wpAny_bind (wpAny_pure (wpAny_bind fin))
          | exact wpAny_bind fin
      | @as_ x n i c ts b₀ suite np pos' hds2 l2 hN hi hln hc hsu r ih =>
        intro w
        obtain ⟨b, hb1, hyes, hno⟩ := w
        refine wpAny_handleBy_cons (codeAny_handlers_test ?_) (by intro q; cases q)
        refine test hc ((PySem.W.exm_one (M := model X.prog X.w) (J3.kIn) LT hb1).here ?_)
        cases b with
        | true =>
          refine codeAny_handlers_suite_as ?_
          refine HandSPX.lands_againZ fl3 fun h4 fl4 up4 => ?_
          have J4 : Inv X pins σ' H' { s' with heap := h4 } := J.landed nb fl4.1 ((up.trans up3).trans up4) os ag
          obtain ⟨oe4, vs4, he4, hz4, hd4⟩ := fl4.there
          have S4 := J4.suite he4 hd4 na nL nF
          refine store_ok (X := X.suite a ((a, oe4) :: (X.pn ++ pins))) (v := .ref a) S4 hN hi (.inl hln) rfl (fun s5 S5 => ?_) (.inr hln)
          refine wpAny_mono ((hsu a oe4 cls d (X.pn ++ pins) hz4 ⟨_, hd4⟩).run [] s5 _ H' _ S5 (hyes rfl a na)) (fun f s6 hsp => ?_) (fun _ _ z => False.elim z)
          have end_ : ∀ {σ6 : L2.St} {H6 : Hp} {Q : Shared → Prop}, Inv (X.suite a ((a, oe4) :: (X.pn ++ pins))) [] σ6 H6 s6 → (∀ s7, Inv X pins (σ6.set i none) H6 s7 → Q s7) →
              wpAny (model X.prog X.w) X.A (do bindName X.env n .none; unbindBehindTheSuite X.env n pos') (fun _ s7 => Q s7) X.xe s6 := fun {σ6 H6 Q} S6 hq => gone_ok (S6.unsuite ok) hN hi hln hq
          cases f with
          | ret u =>
            obtain ⟨v6, σ6, H6, S6, r6, q6⟩ := hsp
            exact end_ S6 fun s7 J7 => ⟨_, _, _, J7, r6, q6⟩
          | _ =>
            obtain ⟨σ6, H6, S6, q6⟩ := hsp
            exact end_ S6 fun s7 J7 => ⟨_, _, J7, q6⟩
        | false =>
          show wpAny _ X.A (handleBy (.ref a) X.env hds2) _ _ _
          exact ih (hno rfl)
      | @bare x c ts b₀ suite np pos' hds2 l2 hc hsu r ih =>
        intro w
        obtain ⟨b, hb1, hyes, hno⟩ := w
        refine wpAny_handleBy_cons (codeAny_handlers_test ?_) (by intro q; cases q)
        refine test hc ((PySem.W.exm_one (M := model X.prog X.w) (J3.kIn) LT hb1).here ?_)
        cases b with
        | true =>
          refine codeAny_handlers_suite ?_
          refine HandSPX.lands_againZ fl3 fun h4 fl4 up4 => ?_
          have J4 : Inv X pins σ' H' { s' with heap := h4 } := J.landed nb fl4.1 ((up.trans up3).trans up4) os ag
          obtain ⟨oe4, vs4, he4, hz4, hd4⟩ := fl4.there
          have S4 := J4.suite he4 hd4 na nL nF
          refine wpAny_mono ((hsu a oe4 cls d (X.pn ++ pins) hz4 ⟨_, hd4⟩).run [] _ _ H' _ S4 (hyes rfl a na)) (fun f s6 hsp => ?_) (fun _ _ z => False.elim z)
          cases f with
          | ret u =>
            obtain ⟨v6, σ6, H6, S6, r6, q6⟩ := hsp
            exact ⟨_, _, _, S6.unsuite ok, r6, q6⟩
          | _ =>
            obtain ⟨σ6, H6, S6, q6⟩ := hsp
            exact ⟨_, _, S6.unsuite ok, q6⟩
        | false =>
          show wpAny _ X.A (handleBy (.ref a) X.env hds2) _ _ _
          exact ih (hno rfl)
    exact go hh w
  · cases f with
    | next =>
      obtain ⟨σ', H', J', q⟩ := hsp
      exact wpAny_execs_nil ⟨σ', H', J'.ofTry ok, q⟩
    | ret u =>
      obtain ⟨v, σ', H', J', r, q⟩ := hsp
      exact ⟨v, σ', H', J'.ofTry ok, r, q⟩
    | _ =>
      obtain ⟨σ', H', J', q⟩ := hsp
      exact ⟨σ', H', J'.ofTry ok, q⟩
end

/-! ### isinstance of a caught exception of an own class, with or without fields -/
section
open PySem.W
variable {prog : Program} {w : World} {A : Around} {E : Value → Shared → Prop} {s : Shared} {K : Frag} {x D : Addr} {ox : Obj} {od : Option Obj}
theorem find_classX (C : ExcC K D) : findObj K D od "__class__" = some (.bind (.builtin "getset_descriptor.__get__") (.builtin "object.__class__")) := by
  obtain ⟨cd, hc, _⟩ := any_some C.hd
  unfold findObj
  rw [hc, Option.bind_some, C.ha, Option.bind_some]
  simp [C.hn, C.ht]
theorem class_of_exc {Q : Option Value → Shared → Prop} (C : ExcC K D) (X : K.In s.heap) (I : InstAt s.heap x ox D od) (h : Q (some (.ref D)) { s with toks := s.toks + 1 }) :
    wpAny (model prog w) A (getAttr? (.ref x) "__class__") Q E s := by
  obtain ⟨hp, g, d, t, os⟩ := s
  have L0 := I.type (M := model prog w)
  have hx2 : (Value.builtin "BaseException.__getattribute__" == Value.builtin "object.__getattribute__") = false := by decide +kernel
  have hx1 : (onTheHeap (Value.ref D) && Value.builtin "BaseException.__getattribute__" == Value.builtin "object.__getattribute__") = false := by rw [hx2]; rfl
  unfold getAttr? getAttrBy? getAttrBy
  refine wpAny_bind (wpAny_mkText (wpAny_bind (wpAny_attempt (wpAny_holding (wpAny_bind (L0.at (wpAny_bind ((looks_findIn (M := model prog w) X C.hg).at ?_))))))))
  show wpAny _ _ (if (onTheHeap (Value.ref D) && Value.builtin "BaseException.__getattribute__" == Value.builtin "object.__getattribute__") = true then _ else _) _ _ _
  rw [hx1, if_neg Bool.false_ne_true]
  unfold getAttrByItsOwn hookBefore
  refine wpAny_bind ?_
  rw [if_pos (show onTheHeap (Value.ref D) = true from rfl)]
  refine (looks_findIn (M := model prog w) X C.hk).at (wpAny_bind (wpAny_attempt (wpAny_holding ?_)))
  unfold callGetattribute
  rw [show (false && onTheHeap (Value.builtin "BaseException.__getattribute__")) = false from rfl, if_neg Bool.false_ne_true]
  unfold boundAndCalled
  rw [PySem.F.excAttr_ValueError.ga.bind (.ref x)]
  refine wpAny_bind (wpAny_pure ?_)
  show wpAny _ _ (call (.builtin "BaseException.__getattribute__") [.ref x, .str "__class__" t]) _ _ _
  refine wpAny_call (codeAny_call_builtin PySem.F.excAttr_ValueError.ga.plain PySem.F.entry_bexc_ga ?_)
  refine @check_slot (model prog w) _ _ ⟨hp, g, d, t + 1, os⟩ "BaseException.__getattribute__" "BaseException" "__getattribute__" (.ref x) [.str "__class__" t] [] _ (by decide +kernel) (by decide +kernel) (L0.andThen (looks_subIn X C.hs)) (PySem.F.args_bexc_ga (.ref x) (.str "__class__" t)) ?_
  unfold Builtin.«object.__getattribute__»
  refine wpAny_bind (wpAny_of_eq (a := ((Value.ref x : Value), [Value.str "__class__" t])) (by first | rfl | (simp only [slotArgs]; rfl)) ?_)
  refine wpAny_bind (wpAny_pure (wpAny_bind (L0.at (wpAny_bind ((looks_find (M := model prog w) X I (find_classX C)).at ?_)))))
  show wpAny _ _ (holding [Value.builtin "object.__class__"] (call (.builtin "getset_descriptor.__get__") [.builtin "object.__class__", .ref x, .ref D]) >>= ret) _ _ _
  refine wpAny_bind (wpAny_holding (wpAny_call (class_get (s := ⟨hp, g, d, t + 1, os⟩) (ox := ox) (od := od) X I C.hm ?_)))
  refine wpAny_pure ?_
  show wpAny _ _ (handedOut (.ref D)) _ _ _
  rw [handedOut_of (v := .ref D) rfl]
  first
    | exact wpAny_pure (wpAny_pure h)
    | exact wpAny_pure h
    | exact wpAny_pure (wpAny_bind (wpAny_pure (wpAny_pure h)))
theorem kitx_excD (C : ExcC K D) : KitX K (.ref x) (.ref D) (fun h => InstAt h x ox D od) where
  ty := fun _ _ _ I => I.type
  it := fun _ _ X _ => by
    obtain ⟨cdD, hcD, _⟩ := any_some C.hd
    unfold clsIn at hcD
    split at hcD
    · rename_i c' d' cd' sl' ho
      intro A' Q' E' s' k q
      unfold isType loadHead
      exact wpAny_bind (wpAny_loadPart (k _ _ (X _ _ ho)) (wpAny_pure q))
    · cases hcD
  ne := fun h tp dd its n sl X htp => by
    obtain ⟨cdD, hcD, _⟩ := any_some C.hd
    refine Bool.eq_false_iff.mpr fun q => ?_
    have e : D = tp := Value.ref.inj (beq_iff_eq.mp q)
    subst e
    unfold clsIn at hcD
    split at hcD
    · rename_i c' d' cd' sl' ho
      have z := (X _ _ ho).symm.trans htp
      cases z
    · cases hcD
  ca := fun X I k => class_of_exc C X I k
end
/-- isinstance(e, c), e the exception that the suite holds, of class cls = D, its fields at dd -/
def rIsX (K : PySem.W.Frag) (a : Addr) (cls : Value) (d : Option Addr) : List V → Hp → VK → Prop := fun xs H Q => ∃ (D dd : Addr) (fs : List (Str × V)) (c : V) (cv : Value) (b : Bool), xs = [.ref a, c] ∧ cls = .ref D ∧ ExcC K D ∧ d = some dd ∧ H dd = some (.xd fs) ∧
  (∀ u, RelV c u → u = cv) ∧ PySem.W.kitOne K (.ref D) cv = some b ∧ Q (.bl b) H
theorem call_isX {X : Cx} {a : Addr} {oe : Obj} {cls : Value} {d : Option Addr} {pn : List (Addr × Obj)} (hz : Zc cls d oe) (hf : ∃ vs, oe.data = .fields vs) : CallR (X.suite a ((a, oe) :: pn)) (.builtin "isinstance") (rIsX X.K a cls d) := by
  intro pins s σ H xs us Q I r h
  obtain ⟨D, dd, fs, c, cv, b, rfl, rfl, C, rfl, ea, hcv, e, q⟩ := h
  cases r with
  | cons rx rr =>
    cases rr with
    | cons rt rr =>
      cases rr
      cases rx
      have ec := hcv _ rt
      subst ec
      obtain ⟨ha, _⟩ := I.pin (a, oe) (List.mem_append_left _ List.mem_cons_self)
      obtain ⟨vs, hd⟩ := hf
      have hx : ObjOk X.prog X.w H s.heap dd (.xd fs) := I.hok dd _ ea
      obtain ⟨mA, hns, hr⟩ := hx
      obtain ⟨od, ho, hl⟩ := lookIn_ns hns
      have J : PySem.W.InstAt s.heap a oe D (some od) := ⟨ha, hz.1, by unfold PySem.W.notCls; rw [hd] <;> rfl, by rw [hz.2]; exact ho⟩
      exact PySem.W.kia_one (kitx_excD C) I.kIn J e (fun z => nomatch z) fun tk => ⟨.bl b, H, I.kept (t' := tk) fun _ _ z => z, rfl, q⟩
end Tp

set_option Elab.async false
set_option linter.all false
set_option maxRecDepth 100000
set_option maxHeartbeats 4000000
namespace Tp
open PySem PySem.Spec PyProof.Rows L2
/-! ### data with dicts: repr. Sys: sys.modules stands aside, known and locked -/
def Sys (K : PySem.W.Frag) (H : Hp) : Prop := (∃ o es ep, K.lookup sysModules = some o ∧ o.data = .dict es ep) ∨ (K.lookup sysModules = none ∧ ∃ o φ, H sysModules = some (.frz o (.ext φ)))
theorem Sys.same {K : PySem.W.Frag} {H H' : Hp} (h : Sys K H) (S : Same H H') : Sys K H' := h.imp id fun h => ⟨h.1, let ⟨o, φ, e⟩ := h.2; ⟨o, φ, S _ _ e⟩⟩
mutual
inductive Dq (K : PySem.W.Frag) (H : Hp) : V → PyData → Prop
  | non : Dq K H .non .none
  | bl (b : Bool) : Dq K H (.bl b) (.bool b)
  | int (i : Int) : Dq K H (.int i) (.int i)
  | str (x : Str) : Dq K H (.str x) (.str x)
  | lst {a : Addr} {xs : List V} {ds : List PyData} : SqL K H a xs → DqAll K H xs ds → Dq K H (.ref a) (.list ds)
  | tup {a : Addr} {xs : List V} {ds : List PyData} : SqT K H a xs → DqAll K H xs ds → Dq K H (.ref a) (.tuple ds)
  | dic {a : Addr} {kvs : List (Key × V)} {ds : List (PyData × PyData)} : Rd H a (.dK kvs) → DqAll K H (kvs.map fun p => kV p.1) (ds.map (·.1)) → DqAll K H (kvs.map (·.2)) (ds.map (·.2)) → Dq K H (.ref a) (.dict ds)
inductive DqAll (K : PySem.W.Frag) (H : Hp) : List V → List PyData → Prop
  | nil : DqAll K H [] []
  | cons {v : V} {vs : List V} {d : PyData} {ds : List PyData} : Dq K H v d → DqAll K H vs ds → DqAll K H (v :: vs) (d :: ds)
end
section
variable {X : Cx} {pins : List (Addr × Obj)} {σ : L2.St} {H : Hp} {s : Shared}
theorem sq_far {a : Addr} {xs : List V} (I : Inv X pins σ H s) (sy : Sys X.K H) (h : SqL X.K H a xs) : a ≠ sysModules := by
  rintro rfl
  rcases sy with ⟨o, es, ep, k, d⟩ | ⟨k, o, φ, e⟩
  · obtain ⟨its, _, ⟨o', n, ho, _, _, hd⟩, _⟩ := I.list h
    rw [I.kIn _ _ k] at ho
    cases ho
    rw [d] at hd
    cases hd
  · rcases h with (h | ⟨o', h⟩) | ⟨o', its, n, h, _⟩
    · rw [e] at h; cases h
    · rw [e] at h; cases h
    · rw [k] at h; cases h
theorem key_vals {es : List DictEntry} {vs : List (Key × Value)} (p : Pairs (mixKind X.prog X.w) es vs) : ∀ {kvs : List (Key × V)}, KV kvs vs →
    Vals (kvs.map fun p => kV p.1) (es.map (·.key)) ∧ Vals (kvs.map (·.2)) (es.map (·.val)) := by
  induction p with
  | nil =>
    intro kvs r
    cases r
    exact ⟨.nil, .nil⟩
  | cons h1 h2 _ ih =>
    intro kvs r
    cases r with
    | cons r1 r2 =>
      rename_i e kv es' kvs' _ q qs
      obtain ⟨a, b⟩ := ih r2
      obtain ⟨qk, qv⟩ := q
      obtain ⟨ek, ev⟩ := r1
      refine ⟨.cons ?_ a, .cons (by show RelV qv e.val; rw [h2]; exact ev) b⟩
      have ek : qk = kv.1 := ek
      rcases keyIs_shape (show keyIs kv.1 e.key = true from h1) with ⟨i, t, e1, e2⟩ | ⟨x, t, e1, e2⟩
      · show RelV (kV qk) e.key
        rw [ek, e1, e2]
        exact ⟨t, rfl⟩
      · show RelV (kV qk) e.key
        rw [ek, e1, e2]
        exact ⟨t, rfl⟩
def RdsV (H : Hp) (s : Shared) (v : V) (d : PyData) : Prop := ∀ u, RelV v u → ∃ as, Reads s.heap u d as ∧ sysModules ∉ as
def RdsA (H : Hp) (s : Shared) (vs : List V) (ds : List PyData) : Prop := ∀ us, Vals vs us → ∃ as, ReadsAll s.heap us ds as ∧ sysModules ∉ as
theorem Dq.both (I : Inv X pins σ H s) (sy : Sys X.K H) : (∀ {v : V} {d : PyData}, Dq X.K H v d → RdsV H s v d) ∧ (∀ {vs : List V} {ds : List PyData}, DqAll X.K H vs ds → RdsA H s vs ds) := by
  have h1 : RdsV H s .non .none := fun u r => by cases r; exact ⟨_, .none, by simp⟩
  have h2 : ∀ b, RdsV H s (.bl b) (.bool b) := fun b u r => by cases r; exact ⟨_, .bool b, by simp⟩
  have h3 : ∀ i, RdsV H s (.int i) (.int i) := fun i u r => by obtain ⟨t, rfl⟩ := r; exact ⟨_, .int i t, by simp⟩
  have h4 : ∀ x, RdsV H s (.str x) (.str x) := fun x u r => by obtain ⟨t, rfl⟩ := r; exact ⟨_, .str x t, by simp⟩
  have h5 : ∀ {a : Addr} {xs : List V} {ds : List PyData}, SqL X.K H a xs → DqAll X.K H xs ds → RdsA H s xs ds → RdsV H s (.ref a) (.list ds) := fun hs _ ih u r => by
    cases r
    obtain ⟨its, rv, ⟨o, n, ho, hc, _, hd⟩, _⟩ := I.list hs
    obtain ⟨as, hr, na⟩ := ih its rv
    exact ⟨_, .list ho hc hd hr, fun z => (List.mem_cons.mp z).elim (fun e => sq_far I sy hs e.symm) na⟩
  have h6 : ∀ {a : Addr} {xs : List V} {ds : List PyData}, SqT X.K H a xs → DqAll X.K H xs ds → RdsA H s xs ds → RdsV H s (.ref a) (.tuple ds) := fun hs _ ih u r => by
    cases r
    obtain ⟨its, rv, ⟨o, ho, hc, n, hd⟩, _⟩ := I.tuple hs
    obtain ⟨as, hr, na⟩ := ih its rv
    exact ⟨_, .tuple ho hc hd hr, na⟩
  have h7 : ∀ {a : Addr} {kvs : List (Key × V)} {ds : List (PyData × PyData)}, Rd H a (.dK kvs) → DqAll X.K H (kvs.map fun p => kV p.1) (ds.map (·.1)) → DqAll X.K H (kvs.map (·.2)) (ds.map (·.2)) → RdsA H s (kvs.map fun p => kV p.1) (ds.map (·.1)) → RdsA H s (kvs.map (·.2)) (ds.map (·.2)) → RdsV H s (.ref a) (.dict ds) := fun hd _ _ ik iv u r => by
    cases r
    obtain ⟨_, far, vs, kv, o, es, ep, ho, hx, hdat, _, hp, _⟩ := dk_rd I.hok hd
    obtain ⟨v1, v2⟩ := key_vals hp kv
    obtain ⟨as, r1, n1⟩ := ik _ v1
    obtain ⟨bs, r2, n2⟩ := iv _ v2
    refine ⟨_, .dict ho hx.1 hdat r1 r2, fun z => ?_⟩
    rcases List.mem_append.mp z with z | z
    · rcases List.mem_cons.mp z with z | z
      · rw [← z] at far
        exact absurd far (by decide)
      · exact n1 z
    · exact n2 z
  have h8 : RdsA H s [] [] := fun u r => by cases r; exact ⟨_, .nil, by simp⟩
  have h9 : ∀ {v : V} {vs : List V} {d : PyData} {ds : List PyData}, Dq X.K H v d → DqAll X.K H vs ds → RdsV H s v d → RdsA H s vs ds → RdsA H s (v :: vs) (d :: ds) := fun _ _ i1 i2 u r => by
    cases r with
    | cons r1 r2 =>
      obtain ⟨as, q1, n1⟩ := i1 _ r1
      obtain ⟨bs, q2, n2⟩ := i2 _ r2
      exact ⟨_, .cons q1 q2, fun z => (List.mem_append.mp z).elim n1 n2⟩
  constructor
  · intro v d h
    exact Dq.rec (motive_1 := fun v d _ => RdsV H s v d) (motive_2 := fun vs ds _ => RdsA H s vs ds) h1 h2 h3 h4 h5 h6 h7 h8 h9 h
  · intro v d h
    exact DqAll.rec (motive_1 := fun v d _ => RdsV H s v d) (motive_2 := fun vs ds _ => RdsA H s vs ds) h1 h2 h3 h4 h5 h6 h7 h8 h9 h
end

/-! ### repr of data with dicts -/
theorem dq_same {K : PySem.W.Frag} {H H' : Hp} (S : Same H H') : (∀ {v : V} {d : PyData}, Dq K H v d → Dq K H' v d) ∧ (∀ {vs : List V} {ds : List PyData}, DqAll K H vs ds → DqAll K H' vs ds) := by
  have sq : ∀ {a : Addr} {xs : List V}, SqT K H a xs → SqT K H' a xs := by
    rintro a xs ((h | ⟨o, h⟩) | h)
    · exact .inl (.inl (S _ _ h))
    · exact .inl (.inr ⟨o, S _ _ h⟩)
    · exact .inr h
  have rd : ∀ {a : Addr} {u : HO}, Rd H a u → Rd H' a u := fun h => h.imp (S _ _) fun ⟨o, e⟩ => ⟨o, S _ _ e⟩
  constructor
  · intro v d h
    exact Dq.rec (motive_1 := fun v d _ => Dq K H' v d) (motive_2 := fun vs ds _ => DqAll K H' vs ds) .non .bl .int .str (fun s _ ih => .lst (S.seq s) ih) (fun s _ ih => .tup (sq s) ih) (fun r _ _ a b => .dic (rd r) a b) .nil (fun _ _ a b => .cons a b) h
  · intro vs ds h
    exact DqAll.rec (motive_1 := fun v d _ => Dq K H' v d) (motive_2 := fun vs ds _ => DqAll K H' vs ds) .non .bl .int .str (fun s _ ih => .lst (S.seq s) ih) (fun s _ ih => .tup (sq s) ih) (fun r _ _ a b => .dic (rd r) a b) .nil (fun _ _ a b => .cons a b) h
def rReprQ (K : PySem.W.Frag) : List V → Hp → VK → Prop := fun xs H Q => ∃ v d, xs = [v] ∧ Sys K H ∧ Dq K H v d ∧ d.showable = true ∧ d.depth ≤ 60 ∧ d.shown.length ≤ sizeLine ∧ Q (.str d.shown) H
theorem call_reprQ {X : Cx} {k : Nat} (hr : Room k X.A) (hg : X.A.guards = some []) : CallR X (.builtin "repr") (rReprQ X.K) := by
  intro pins s σ H xs us Q I r h
  obtain ⟨v, d, rfl, sy, hd, hs, hp, hz, q⟩ := h
  obtain ⟨u, rfl, ru⟩ := vals1 r
  obtain ⟨as, rd, na⟩ := (Dq.both I sy).1 hd u ru
  have un := hr.un
  have fin : ∀ {z : Str} {s' : Shared} {t : Tok}, Inv X pins σ H s' → d.shown = z → EP X pins σ Q (.str z t) s' := fun J e => ⟨.str d.shown, H, J, ⟨_, by rw [e]⟩, q⟩
  cases hd with
  | non => cases ru; exact PySem.P.repr_of_none (fin (I.tok _) (by simp only [PyData.shown]))
  | bl b => cases ru; exact PySem.P.repr_of_bool (fin (I.tok _) (by simp only [PyData.shown]))
  | int i => obtain ⟨t, rfl⟩ := ru; exact PySem.P.repr_of_int (by simpa [PyData.showable] using hs) (fin (I.tok _) (by simp only [PyData.shown]))
  | str x => obtain ⟨t, rfl⟩ := ru; exact PySem.P.repr_of_str (fin (I.tok _) (by simp only [PyData.shown])) (by simpa only [PyData.shown] using hz)
  | lst _ _ => cases ru; exact repr_of_reads' rd hs (fun _ => na) hg (by omega) (fun _ _ e => e) (fun h' u tk kp => fin (I.kept kp) rfl) hz
  | tup _ _ => cases ru; exact repr_of_reads' rd hs (fun _ => na) hg (by omega) (fun _ _ e => e) (fun h' u tk kp => fin (I.kept kp) rfl) hz
  | dic _ _ _ => cases ru; exact repr_of_reads' rd hs (fun _ => na) hg (by omega) (fun _ _ e => e) (fun h' u tk kp => fin (I.kept kp) rfl) hz
end Tp

set_option Elab.async false
set_option linter.all false
set_option maxRecDepth 100000
set_option maxHeartbeats 4000000
namespace Tp
open PySem PySem.Spec PyProof.Rows L2
/-! ### calls that may let an exception out: the wish may know the slots -/
section
variable {X : Cx} {CX : CXT} {k : Nat} {f C : Addr} {fd : FuncData} {ps : List Str} {sp : Sp} {dvs : List V} {ds : List Value} {E : L2.St → XK} {x m : Str} {p pos apos : Pos} {e o : Expr} {es : List Expr} {ta ti : TE} {t : TA}
theorem pass00 : Passes (L2.CX X.prog X.w) X (fun _ _ _ => False) := fun _ _ _ _ _ _ _ ⟨_, _, _, _, _, _, _, _, _, _, _, _, w⟩ => w.elim
theorem passA0 {X : Cx} (σ : L2.St) : PassesAt (L2.CX X.prog X.w) X σ (fun _ _ _ => False) := fun _ _ _ _ _ _ ⟨_, _, _, _, _, _, _, _, _, _, _, _, w⟩ => w.elim
theorem runE {A : Around} {pins : List (Addr × Obj)} {σ : L2.St} {H : Hp} {s : Shared} {Q : VK} {us : List Value} {vs : List V} {E : XK} (F : FnOk X.prog X.w X.K X.mg X.base CX k f fd ps sp) (hr : Room k A) (e0 : Env0 X.prog X.w X.K X.mg X.base A X.stack s H)
    (hb : Binds X.K fd ps ds) (hd : Vals dvs ds) (hx : PassesAt CX X σ E) (I : Inv X pins σ H s) (r : Vals vs us) (h : sp (vs ++ dvs) H Q E) : wpAny (model X.prog X.w) A (call (.ref f) us) (EP X pins σ Q) X.xe s := by
  have r2 : Vals (vs ++ dvs) (us ++ ds) := r.append hd
  have hl : (us ++ ds).length = ps.length := by rw [← r2.length]; exact F.len _ _ _ _ h
  refine wpAny_call (codeAny_mono (F.run A X.stack s H ⟨us, []⟩ (us ++ ds) (vs ++ dvs) Q E hr e0 (hb s us I.kIn hl) r2 h) fun r s' hq => ?_)
  cases r with
  | error e => exact hx pins H s e s' I hq
  | ok fl =>
    cases fl with
    | ret u => exact I.after hq
    | _ => exact False.elim hq
def tMethE (C : Addr) (m : Str) (sp : Sp) (dvs : List V) (E : L2.St → XK) (ta : TE) (t : TA) : TE := fun σ H Q => ta σ H fun x H1 => ∃ a dx fs, x = .ref a ∧ H1 a = some (.ins C dx fs) ∧ fs.lookup m = none ∧ t σ H1 fun vs H2 => sp (x :: (vs ++ dvs)) H2 Q (E σ)
theorem pe_methE {pl : Sem Bool} (he : PE X o ta) (c : Cls X.K C) (hm : Meth X.K C m f) (F : FnOk X.prog X.w X.K X.mg X.base CX k f fd ps sp) (hr : Room k X.A) (hb : Binds X.K fd ps ds) (hd : Vals dvs ds) (hx : ∀ σ, PassesAt CX X σ (E σ)) (ha : PA X (e :: es) t)
    (hst : starEach (e :: es) X.env = (false, eval e X.env) :: starEach es X.env := by rfl) (hpl : (backTo pos (starEach es X.env)).any (·.1) = false := by rfl)
    (ht : eval (.Call (.Attribute o m apos) (e :: es) [] pos) X.env = (do
      let ov ← eval o X.env
      standAt apos.atName
      let (f, first) ← holding [ov] (getMethod ov m pl)
      callWith pos f first (backTo pos (starEach (e :: es) X.env)) (backToKw pos (keywordEach [] X.env))) := by rfl) :
    PE X (.Call (.Attribute o m apos) (e :: es) [] pos) (tMethE C m sp dvs E ta t) := by
  refine ⟨fun pins s σ H Q I h => ?_⟩
  refine PySem.W.methodCall_KW (pl := pl) (thn (he.run pins s σ H _ I h) fun u s1 ⟨x, H1, I1, rx, a, dx, fs, ex, ea, l, q⟩ => ?_) ht
  subst ex
  obtain rfl : u = Value.ref a := rx
  refine getmeth_ok I1 ea c hm l ?_
  refine PySem.W.callWith_K (first := [.ref a]) (h₀ := X.base) I.ok.mod.kin hm.kp (thn (ha.run pos pins s1 σ H1 _ I1 q) fun us s2 ⟨vs, H2, I2, r, q2⟩ => ⟨I2.kIn, ?_⟩) hst hpl
  exact runE (us := .ref a :: us) (vs := .ref a :: vs) F hr I2.env0 hb hd (hx σ) I2 (.cons rfl r) q2
theorem pe_methE0 {pl : Sem Bool} (he : PE X o ta) (c : Cls X.K C) (hm : Meth X.K C m f) (F : FnOk X.prog X.w X.K X.mg X.base CX k f fd ps sp) (hr : Room k X.A) (hb : Binds X.K fd ps ds) (hd : Vals dvs ds) (hx : ∀ σ, PassesAt CX X σ (E σ))
    (ht : eval (.Call (.Attribute o m apos) [] [] pos) X.env = (do
      let ov ← eval o X.env
      standAt apos.atName
      let (f, first) ← holding [ov] (getMethod ov m pl)
      callWith pos f first (backTo pos (starEach [] X.env)) (backToKw pos (keywordEach [] X.env))) := by rfl) :
    PE X (.Call (.Attribute o m apos) [] [] pos) (tMethE C m sp dvs E ta tNil) := by
  refine ⟨fun pins s σ H Q I h => ?_⟩
  refine PySem.W.methodCall_KW (pl := pl) (thn (he.run pins s σ H _ I h) fun u s1 ⟨x, H1, I1, rx, a, dx, fs, ex, ea, l, q⟩ => ?_) ht
  subst ex
  obtain rfl : u = Value.ref a := rx
  refine getmeth_ok I1 ea c hm l ?_
  exact PySem.W.callWith_K0 (first := [.ref a]) I1.kIn hm.kp (runE (us := [.ref a]) (vs := [.ref a]) F hr I1.env0 hb hd (hx σ) I1 (.cons rfl .nil) q)
theorem run_makeE {pins : List (Addr × Obj)} {σ : L2.St} {H : Hp} {s : Shared} {Q : VK} {us : List Value} {vs : List V} {E : XK} (M : Mk X.K C f) (F : FnOk X.prog X.w X.K X.mg X.base CX k f fd ps sp) (hr : Room (k + 1) X.A) (hb : Binds X.K fd ps ds) (hd : Vals dvs ds)
    (hx : PassesAt CX X σ E) (I : Inv X pins σ H s) (r : Vals vs us)
    (h : ∀ x dx, H x = none → H dx = none → dx ≠ x → sp (.ref x :: (vs ++ dvs)) (upd (upd H dx (.own x)) x (.ins C dx [])) (fun v H2 => v = .non ∧ Q (.ref x) H2) E) :
    wpAny (model X.prog X.w) X.A (call (.ref C) us) (EP X pins σ Q) X.xe s := by
  have hq := h (s.heap.objs.size + 1) s.heap.objs.size (I.hok.fresh (Nat.le_succ _)) (I.hok.fresh (Nat.le_refl _)) (Nat.ne_of_lt (Nat.lt_succ_self _))
  have I2 := Inv.made (C := C) I
  have r2 : Vals (V.ref (s.heap.objs.size + 1) :: (vs ++ dvs)) (Value.ref (s.heap.objs.size + 1) :: (us ++ ds)) := .cons rfl (r.append hd)
  have hl : (Value.ref (s.heap.objs.size + 1) :: us ++ ds).length = ps.length := by
    have e := r2.length
    rw [F.len _ _ _ _ hq] at e
    exact e.symm
  refine wpAny_call (make_map (f := f) I.kIn M.makes M.init (beq_iff_eq.mp M.fn) (codeAny_mono (F.run _ X.stack _ _ ⟨Value.ref (s.heap.objs.size + 1) :: us, []⟩ (Value.ref (s.heap.objs.size + 1) :: (us ++ ds)) _ _ E (hr.make C us [])
    (I2.env0.make C us []) (hb _ (Value.ref (s.heap.objs.size + 1) :: us) I2.kIn hl) r2 hq) fun r s' hq' => ?_))
  cases r with
  | error e => exact hx pins _ _ e s' I2 hq'
  | ok fl =>
    cases fl with
    | ret u =>
      obtain ⟨v, H', I3, rv, ev, q3⟩ := I2.after hq'
      subst ev
      exact ⟨rv, ⟨V.ref (s.heap.objs.size + 1), H', I3, rfl, q3⟩⟩
    | _ => exact False.elim hq'
def tMakeE (C : Addr) (sp : Sp) (dvs : List V) (E : L2.St → XK) (t : TA) : TE := fun σ H Q => t σ H fun vs H1 => ∀ x dx, H1 x = none → H1 dx = none → dx ≠ x →
  sp (.ref x :: (vs ++ dvs)) (upd (upd H1 dx (.own x)) x (.ins C dx [])) (fun v H2 => v = .non ∧ Q (.ref x) H2) (E σ)
theorem pe_makeE (M : Mk X.K C f) (F : FnOk X.prog X.w X.K X.mg X.base CX k f fd ps sp) (hr : Room (k + 1) X.A) (hg : Gl X x) (hm : X.mg x = some (.ref C)) (hb : Binds X.K fd ps ds) (hd : Vals dvs ds) (hx : ∀ σ, PassesAt CX X σ (E σ))
    (ha : PA X (e :: es) t) (hdb : (x == ("__debug__" : Str)) = false := by decide) (he : starEach (e :: es) X.env = (false, eval e X.env) :: starEach es X.env := by rfl) (hpl : (backTo pos (starEach es X.env)).any (·.1) = false := by rfl) :
    PE X (.Call (.Name x p) (e :: es) [] pos) (tMakeE C sp dvs E t) := by
  refine ⟨fun pins s σ H Q I h => ?_⟩
  refine wpAny_Call_Name_kw (ld_glob I hg hm ?_ hdb)
  refine PySem.W.callWith_K (h₀ := X.base) I.ok.mod.kin M.kp (thn (ha.run pos pins s σ H _ I h) fun us s1 ⟨vs, H1, I1, r, q⟩ => ⟨I1.kIn, ?_⟩) he hpl
  exact run_makeE M F hr hb hd (hx σ) I1 r q
/-- o[i] by an own __getitem__ -/
def tSubE (C : Addr) (sp : Sp) (E : L2.St → XK) (ta ti : TE) : TE := fun σ H Q => ta σ H fun x H1 => ti σ H1 fun y H2 => ∃ a dx fs, x = .ref a ∧ H2 a = some (.ins C dx fs) ∧ sp [x, y] H2 Q (E σ)
theorem pe_subE {i : Expr} (ho : PE X o ta) (hi : PE X i ti) (hs : PySem.W.findIn X.K (.ref C) "__getitem__" = some (some (.ref f))) (hf : PySem.W.fnIn X.K f = true) (hfn : PySem.W.isFn X.K (.ref f) = true) (F : FnOk X.prog X.w X.K X.mg X.base CX k f fd ps sp)
    (hr : Room (k + 1) X.A) (hb : Binds X.K fd ps []) (hx : ∀ σ, PassesAt CX X σ (E σ))
    (hsl : ∀ (a : Addr) (u : Value), subscripted i true (.ref a) u = runValue (.builtin "lifetime.subscript" ⟨[.ref a, u], []⟩) := by intro _ _; with_unfolding_all rfl) :
    PE X (.Subscript o i pos) (tSubE C sp E ta ti) := by
  refine ⟨fun pins s σ H Q I h => ?_⟩
  refine Subscript_ (thn (ho.run pins s σ H _ I h) fun u s1 ⟨x, H1, I1, rx, q1⟩ => thn (hi.run pins s1 σ H1 _ I1 q1) fun iv s2 ⟨y, H2, I2, ry, a, dx, fs, ex, ea, q2⟩ => ?_)
  subst ex
  obtain rfl : u = Value.ref a := rx
  obtain ⟨mA, O, _, _, _, _⟩ := ins_get I2.hok ea
  obtain ⟨od, J, _⟩ := O.look
  obtain ⟨m, hF⟩ := I2.fr
  refine PySem.W.sub_K hF I2.ok.mod.kin J hs hf hfn ?_ (hsl a iv)
  exact runE (us := [.ref a, iv]) (vs := [.ref a, y]) F hr.in1 I2.env0.in1 hb .nil (hx σ) I2 (.cons rfl (.cons ry .nil)) q2
end
/-! ### own operators -/
section
variable {X : Cx} {CX : CXT} {k : Nat} {f C : Addr} {fd : FuncData} {ps : List Str} {sp : Sp} {E : XK}
theorem pass_at {σ : L2.St} (hx : Passes CX X E) : PassesAt CX X σ E := fun pins H s e s' I h => hx pins σ H s e s' I h
def rBinE (C : Addr) (sp : Sp) (E : XK) : R2 := fun x y H Q => ∃ a dx fs b dy gs, x = .ref a ∧ y = .ref b ∧ H a = some (.ins C dx fs) ∧ H b = some (.ins C dy gs) ∧ sp [x, y] H Q E
theorem op_binE {op : Operator} (hc : PySem.W.selfFirst X.K C = true) (hs : PySem.W.findIn X.K (.ref C) (PySem.dunder op.info.2) = some (some (.ref f))) (hf : PySem.W.isFn X.K (.ref f) = true) (F : FnOk X.prog X.w X.K X.mg X.base CX k f fd ps sp) (hr : Room k X.A)
    (hb : Binds X.K fd ps []) (hx : Passes CX X E) : OpR X (binaryOp op) (rBinE C sp E) := by
  intro pins s σ H x y v u Q I rx ry h
  obtain ⟨a, dx, fs, b, dy, gs, rfl, rfl, ha, hb', q⟩ := h
  cases (show v = Value.ref a from rx)
  cases (show u = Value.ref b from ry)
  obtain ⟨mA, O, _, _, _, _⟩ := ins_get I.hok ha
  obtain ⟨od, J, _⟩ := O.look
  obtain ⟨mB, O', _, _, _, _⟩ := ins_get I.hok hb'
  obtain ⟨od', J', _⟩ := O'.look
  obtain ⟨m, hF⟩ := I.fr
  refine PySem.W.binop_K hF I.ok.mod.kin J J'.type hc hs hf ?_
  refine wpAny_mono (runE (us := [.ref a, .ref b]) (vs := [.ref a, .ref b]) F hr I.env0 hb .nil (pass_at hx) I (.cons rfl (.cons rfl .nil)) q) (fun w s' z => ?_) fun _ _ x => x
  obtain ⟨z', H', I', rz, qz⟩ := z
  exact SlX.cmpback rz ⟨z', H', I', rz, qz⟩
def rUnE (C : Addr) (sp : Sp) (E : XK) : V → Hp → VK → Prop := fun x H Q => ∃ a dx fs, x = .ref a ∧ H a = some (.ins C dx fs) ∧ sp [x] H Q E
theorem un_negE (hs : PySem.W.findIn X.K (.ref C) "__neg__" = some (some (.ref f))) (hf : PySem.W.isFn X.K (.ref f) = true) (F : FnOk X.prog X.w X.K X.mg X.base CX k f fd ps sp) (hr : Room k X.A) (hb : Binds X.K fd ps []) (hx : Passes CX X E) :
    UnR X (unaryOp .USub) (rUnE C sp E) := by
  intro pins s σ H x v Q I rx h
  obtain ⟨a, dx, fs, rfl, ha, q⟩ := h
  cases (show v = Value.ref a from rx)
  obtain ⟨mA, O, _, _, _, _⟩ := ins_get I.hok ha
  obtain ⟨od, J, _⟩ := O.look
  unfold unaryOp
  refine wpAny_holding ?_
  show wpAny _ _ (if (UnaryOp.USub == UnaryOp.Not) = true then _ else _) _ _ _
  rw [if_neg (by decide)]
  refine wpAny_bind (PySem.W.special_fn I.kIn J hs (beq_iff_eq.mp hf) ?_)
  exact wpAny_mono (runE (us := [.ref a]) (vs := [.ref a]) F hr I.env0 hb .nil (pass_at hx) I (.cons rfl .nil) q) (fun w s' z => wpAny_pure z) fun _ _ x => x
def rAbsE (C : Addr) (sp : Sp) (E : XK) : List V → Hp → VK → Prop := fun xs H Q => ∃ a dx fs, xs = [.ref a] ∧ H a = some (.ins C dx fs) ∧ sp xs H Q E
theorem call_absE (hs : PySem.W.findIn X.K (.ref C) "__abs__" = some (some (.ref f))) (hf : PySem.W.isFn X.K (.ref f) = true) (F : FnOk X.prog X.w X.K X.mg X.base CX k f fd ps sp) (hr : Room (k + 1) X.A) (hb : Binds X.K fd ps []) (hx : Passes CX X E) :
    CallR X (.builtin "abs") (rAbsE C sp E) := by
  intro pins s σ H xs us Q I r h
  obtain ⟨a, dx, fs, rfl, ha, q⟩ := h
  obtain ⟨u, rfl, ru⟩ := vals1 r
  cases (show u = Value.ref a from ru)
  obtain ⟨mA, O, _, _, _, _⟩ := ins_get I.hok ha
  obtain ⟨od, J, _⟩ := O.look
  refine Calls.call_function_entry kind_abs plain_abs entry_abs (args_abs _) ?_
  unfold Builtin.«abs»
  refine wpAny_bind (m := oneArg "abs" _) (wpAny_pure ?_)
  refine wpAny_bind (m := callSpecial? (.ref a) (Str.ofString "__abs__")) (PySem.W.special_fn I.kIn J hs (beq_iff_eq.mp hf) ?_)
  exact wpAny_mono (runE (us := [.ref a]) (vs := [.ref a]) F hr.in1 I.env0.in1 hb .nil (pass_at hx) I (.cons rfl .nil) q) (fun w s' z => wpAny_pure ⟨_, rfl, z⟩) fun _ _ x => x
/-- x == y by an own __eq__, y of any kind that is told -/
def rEqE (K : PySem.W.Frag) (C : Addr) (sp : Sp) (E : XK) : R2 := fun x y H Q => ∃ a dx fs tb, x = .ref a ∧ H a = some (.ins C dx fs) ∧ TyX K H y tb ∧ PySem.W.notFirst K C tb = true ∧ sp [x, y] H Q E
theorem op_eqE (hs : PySem.W.findIn X.K (.ref C) "__eq__" = some (some (.ref f))) (hf : PySem.W.isFn X.K (.ref f) = true) (F : FnOk X.prog X.w X.K X.mg X.base CX k f fd ps sp) (hr : Room k X.A) (hb : Binds X.K fd ps []) (hx : Passes CX X E) :
    OpR X (compareOp .Eq) (rEqE X.K C sp E) := by
  intro pins s σ H x y v u Q I rx ry h
  obtain ⟨a, dx, fs, tb, rfl, ha, ty, hn, q⟩ := h
  cases (show v = Value.ref a from rx)
  obtain ⟨mA, O, _, _, _, _⟩ := ins_get I.hok ha
  obtain ⟨od, J, _⟩ := O.look
  obtain ⟨m, hF⟩ := I.fr
  obtain ⟨P, KX, hP, _⟩ := kit_of I ry ty
  show wpAny _ _ (richCompare .Eq (.ref a) u) _ _ _
  refine PySem.W.cmp_K (op := .Eq) (tb := tb) hr.units0 hF I.ok.mod.kin J (KX.ty _ _ I.kIn hP) hn hs hf ?_
  refine wpAny_mono (runE (us := [.ref a, u]) (vs := [.ref a, y]) F hr I.env0 hb .nil (pass_at hx) I (.cons rfl (.cons ry .nil)) q) (fun w s' z => ?_) fun _ _ x => x
  obtain ⟨z', H', I', rz, qz⟩ := z
  exact SlX.cmpback rz ⟨z', H', I', rz, qz⟩
/-- x != y: object.__ne__ asks the own __eq__ -/
def rNeE (K : PySem.W.Frag) (C : Addr) (sp : Sp) (E : XK) : R2 := fun x y H Q => ∃ a dx fs tb, x = .ref a ∧ H a = some (.ins C dx fs) ∧ TyX K H y tb ∧ PySem.W.notFirst K C tb = true ∧ sp [x, y] H (fun z H' => ∃ b, z = .bl b ∧ Q (.bl (!b)) H') E
theorem bound_ne {M : Model} {A : Around} {E : Value → Shared → Prop} {s : Shared} {K : PySem.W.Frag} {x C : Addr} {ox : Obj} {od : Option Obj} {args : List Value} {Q : Option Value → Shared → Prop} (X : K.In s.heap) (I : PySem.W.InstAt s.heap x ox C od)
    (hs : PySem.W.findIn K (.ref C) "__ne__" = some (some (.builtin "object.__ne__")))
    (h : wpAny M A (call (.builtin "object.__ne__") (.ref x :: args)) (fun v => Q (some v)) E s) : wpAny M A (callSpecialIfBound? (.ref x) "__ne__" args) Q E s := by
  simp only [callSpecialIfBound?, bindSpecialIfBound?]
  refine wpAny_holding (wpAny_bind (wpAny_bind (wpAny_bind (I.type.here ((PySem.W.looks_findIn X hs).here ?_)))))
  refine wpAny_bind (wpAny_askSetting (wpAny_ite ?_))
  have fin : wpAny M A (call (.builtin "object.__ne__") ([.ref x] ++ args) >>= fun v => pure (some v)) Q E s := wpAny_bind (wpAny_mono h (fun v s' h' => wpAny_pure h') fun _ _ h' => h')
  split
  · exact wpAny_bind (wpAny_of_eq (F.cmp_object.ne.bind _) (wpAny_pure (by exact fin)))
  · exact wpAny_tryCatch (wpAny_bind (wpAny_of_eq (F.cmp_object.ne.bind _) (wpAny_pure (by exact fin))))
theorem ne_own {prog : Program} {w : World} {A : Around} {E : Value → Shared → Prop} {s : Shared} {K : PySem.W.Frag} {x C : Addr} {ox : Obj} {od : Option Obj} {b tb : Value} {Q : Value → Shared → Prop} (hu : A.units + 1 < cLine) (X : K.In s.heap) (I : PySem.W.InstAt s.heap x ox C od)
    (hb : PySem.W.Looks (model prog w) s.heap (typeOf b) tb) (hn : PySem.W.notFirst K C tb = true) (hs : PySem.W.findIn K (.ref C) "__eq__" = some (some (.ref f))) (hf : PySem.W.isFn K (.ref f) = true)
    (hne : PySem.W.findIn K (.ref C) "__ne__" = some (some (.builtin "object.__ne__"))) (hm : PySem.W.mroIn K C (.type "object") = some true)
    (h : wpAny (model prog w) A.in1 (call (.ref f) [.ref x, b]) (fun v s' => ∃ r, v = .bool r ∧ Q (.bool (!r)) s') E s) : wpAny (model prog w) A (richCompare .NotEq (.ref x) b) Q E s := by
  have one : wpAny (model prog w) A (tryCompare (.ref x) "__ne__" b) (fun r s' => ∃ v, r = some (Value.bool v) ∧ Q (.bool v) s') E s := by
    unfold tryCompare
    refine wpAny_bind (bound_ne X I hne (wpAny_call (codeAny_call_builtin F.cmp_object.ne.plain F.cmpEntry_ne (PySem.W.check_slot F.cmpKind_ne F.cmpSplit_ne (I.type.andThen (PySem.W.looks_mroIn X hm)) (F.cmpArgs_ne _ _) ?_))))
    unfold Builtin.«object.__ne__»
    refine wpAny_bind (wpAny_of_eq (a := ((Value.ref x : Value), [b])) (by first | rfl | (simp only [slotArgs]; rfl)) ?_)
    refine wpAny_bind (wpAny_cRoomFor (show A.in1.units < cLine from hu) ?_)
    refine wpAny_bind (m := callSpecialIfBound? (.ref x) (Str.ofString "__eq__") [b]) (PySem.W.ifBound_K X I hs hf (wpAny_mono h (fun v s' hv => ?_) fun _ _ e => e))
    obtain ⟨r, rfl, q⟩ := hv
    exact wpAny_bind (wpAny_truthy_bool (wpAny_pure (wpAny_pure ⟨_, rfl, q⟩)))
  unfold richCompare
  simp only [oneThing_ref]
  refine wpAny_holding (wpAny_bind (wpAny_cRoomFor (Nat.lt_of_succ_lt hu) ?_))
  refine wpAny_bind (I.type.here (wpAny_bind (hb.here ?_)))
  split
  · rename_i q
    have e : PySem.W.subIn K tb (.ref C) = some false := by
      rcases Bool.or_eq_true_iff.mp hn with e | e
      · rw [beq_iff_eq.mp e] at q; simp at q
      · exact beq_iff_eq.mp e
    refine wpAny_bind ((PySem.W.looks_subIn X e).here ?_)
    simp only [Bool.false_eq_true, if_false]
    refine wpAny_bind (m := tryCompare (.ref x) _ b) (wpAny_mono one (fun r s' z => ?_) fun _ _ e => e)
    obtain ⟨v, rfl, hq⟩ := z
    exact wpAny_pure hq
  · refine wpAny_bind (wpAny_pure ?_)
    simp only [Bool.false_eq_true, if_false]
    refine wpAny_bind (m := tryCompare (.ref x) _ b) (wpAny_mono one (fun r s' z => ?_) fun _ _ e => e)
    obtain ⟨v, rfl, hq⟩ := z
    exact wpAny_pure hq
theorem op_neE (hs : PySem.W.findIn X.K (.ref C) "__eq__" = some (some (.ref f))) (hf : PySem.W.isFn X.K (.ref f) = true) (hne : PySem.W.findIn X.K (.ref C) "__ne__" = some (some (.builtin "object.__ne__"))) (hm : PySem.W.mroIn X.K C (.type "object") = some true)
    (F : FnOk X.prog X.w X.K X.mg X.base CX k f fd ps sp) (hr : Room (k + 1) X.A) (hb : Binds X.K fd ps []) (hx : Passes CX X E) : OpR X (compareOp .NotEq) (rNeE X.K C sp E) := by
  intro pins s σ H x y v u Q I rx ry h
  obtain ⟨a, dx, fs, tb, rfl, ha, ty, hn, q⟩ := h
  cases (show v = Value.ref a from rx)
  obtain ⟨mA, O, _, _, _, _⟩ := ins_get I.hok ha
  obtain ⟨od, J, _⟩ := O.look
  obtain ⟨P, KX, hP, _⟩ := kit_of I ry ty
  show wpAny _ _ (richCompare .NotEq (.ref a) u) _ _ _
  refine ne_own (Nat.lt_of_le_of_lt (by omega) hr.units) I.kIn J (KX.ty _ _ I.kIn hP) hn hs hf hne hm ?_
  refine wpAny_mono (runE (us := [.ref a, u]) (vs := [.ref a, y]) F hr.in1 I.env0.in1 hb .nil (pass_at hx) I (.cons rfl (.cons ry .nil)) q) (fun w s' z => ?_) fun _ _ x => x
  obtain ⟨z', H', I', rz, r, ez, qz⟩ := z
  subst ez
  exact ⟨r, rz, .bl (!r), H', I', rfl, qz⟩
end
end Tp

set_option Elab.async false
set_option linter.all false
set_option maxRecDepth 100000
set_option maxHeartbeats 4000000
namespace Tp
open PySem PySem.Spec PyProof.Rows L2
/-! ### the end of a law whose promise also knows where sys.modules stands -/
section
variable {P : Program} {w : World} {K : PySem.W.Frag} {mg mb : Str → Option Value} {CX : CXT} {k : Nat} {fa a : Addr} {fd : FuncData} {x : Str} {sp : Sp} {s1 : Shared} {vs : List Value} {ns : List Int}
theorem law_coreS (KX : K.In s1.heap) (hns : s1.heap.Ns mainGlobals mg) (hb : s1.heap.Ns builtinsNs mb) (hbb : ∀ x : Str, x ≠ "__name__" → mb x = bootBuiltins x)
    (hlim : s1.heap.NoLimit) (hg : s1.gens = #[]) (hr : Room k callerA)
    (F : ∀ base : Heap, K.In base → base.Ns mainGlobals mg → FnG P w K mg base CX k fa fd [x] sp) (hbind : ∀ (s : Shared) (u : Value), BindsTo s fd ⟨[u], []⟩ [(x, u)])
    (hCX : ∀ H e s', ¬ CX [] H s1 (fun _ _ _ => False) e s') {H : Hp} (only : OnlyF H) (hsp : sp [.ref a] H (fun v _ => v = .bl true) fun _ _ _ => False)
    (hok : HOk P w H s1.heap) (hA : ∀ b, H b ≠ none → K.lookup b = none ∧ b ≠ mainGlobals ∧ b ≠ builtinsNs ∧ b ≠ cStatics) :
    codeAny (model P w) callerA (.call (.ref fa) ⟨[.ref a], []⟩) (LawEnd s1) s1 := by
  have ns : ∀ {b : Addr} {m : Str → Option Value}, H b = none → s1.heap.Ns b m → (hidT s1.heap H).Ns b m := by
    rintro b m n ⟨o, es, ep, e, d, r⟩
    exact ⟨o, es, ep, hidT_get e n, d, r⟩
  have n1 : H mainGlobals = none := Classical.byContradiction fun q => (hA _ q).2.1 rfl
  have n2 : H builtinsNs = none := Classical.byContradiction fun q => (hA _ q).2.2.1 rfl
  have n3 : H cStatics = none := Classical.byContradiction fun q => (hA _ q).2.2.2 rfl
  have inK : K.In (hidT s1.heap H) := by
    intro b o e
    refine hidT_get (KX b o e) (Classical.byContradiction fun q => ?_)
    rw [(hA b q).1] at e
    cases e
  obtain ⟨mc, l1, l2⟩ := hlim
  have M : Mod K mg (hidT s1.heap H) := ⟨inK, ns n1 hns, ⟨mb, ns n2 hb, hbb⟩, ⟨mc, ns n3 l1, l2⟩⟩
  have none_in : ∀ b : Addr, b ∉ ([] : List Addr) := fun _ z => nomatch z
  have e0 : Env0 P w K mg (hidT s1.heap H) callerA [] s1 H := ⟨rfl, M, fun _ _ e => of_hidT e, Nat.le_of_eq (hidT_size _ _), trivial, fun b z => (none_in b z).elim, hok, .of_eq hg⟩
  refine codeAny_mono ((F _ inK (ns n1 hns)).go callerA [] s1 H ⟨[.ref a], []⟩ [.ref a] [.ref a] _ _ hr rfl e0 (hbind s1 (.ref a)) (.cons rfl .nil) hsp) fun r s' h => ?_
  cases r with
  | error e => exact (hCX H e s' h).elim
  | ok fl =>
    cases fl with
    | ret u =>
      obtain ⟨v, H', os, bare, un, hok', rv, q⟩ := h
      obtain rfl : v = .bl true := q
      obtain rfl : u = Value.bool true := rv
      refine ⟨rfl, OldK.of_keep fun b o e => ?_, os, bare⟩
      rcases only b with z | ⟨ob, xs, z⟩
      · exact un.keep b o e z (none_in b) (none_in b)
      · have e2 := (hok' b _ (un.frzs b ob _ z)).1
        have e1 := (hok b _ z).1
        rw [e] at e1
        cases e1
        exact e2
    | _ => exact h.elim
theorem law_endS (KX : K.In s1.heap) (hns : s1.heap.Ns mainGlobals mg) (hb : s1.heap.Ns builtinsNs mb) (hbb : ∀ x : Str, x ≠ "__name__" → mb x = bootBuiltins x) (hsys : ∃ mm, s1.heap.Ns sysModules mm)
    (hlim : s1.heap.NoLimit) (hg : s1.gens = #[]) (ha : s1.heap.get? a = some { cls := .type "list", data := .seq vs.toArray }) (hi : IntsAre vs ns) (hl : ns.length ≤ sizeLine) (hr : Room k callerA)
    (F : ∀ base : Heap, K.In base → base.Ns mainGlobals mg → FnG P w K mg base CX k fa fd [x] sp) (hbind : ∀ (s : Shared) (u : Value), BindsTo s fd ⟨[u], []⟩ [(x, u)])
    (hCX : ∀ H e s', ¬ CX [] H s1 (fun _ _ _ => False) e s')
    (hsp : ∀ H : Hp, Sys K H → SqL K H a (ns.map V.int) → sp [.ref a] H (fun v _ => v = .bl true) fun _ _ _ => False) :
    codeAny (model P w) callerA (.call (.ref fa) ⟨[.ref a], []⟩) (LawEnd s1) s1 := by
  have rv := vals_ints hi
  obtain ⟨mm, om, es, ep, hm, dm, _⟩ := hsys
  have nd : ∀ {b : Addr} {m : Str → Option Value}, s1.heap.Ns b m → a ≠ b := by
    rintro b m ⟨o, es, ep, e, d, _⟩ rfl
    rw [ha] at e
    cases e
    cases (d : Data.seq vs.toArray _ = Data.dict es ep)
  have nm : a ≠ sysModules := by
    rintro rfl
    rw [ha] at hm
    cases hm
    cases (dm : Data.seq vs.toArray _ = Data.dict es ep)
  have one : ∃ H1 : Hp, (∀ b, H1 b ≠ none → b = sysModules) ∧ Sys K H1 ∧ OnlyF H1 ∧ HOk P w H1 s1.heap ∧ (∀ b, H1 b ≠ none → K.lookup b = none) := by
    cases hk : K.lookup sysModules with
    | some o =>
      have e := KX _ o hk
      rw [hm] at e
      cases e
      exact ⟨fun _ => none, fun b z => (z rfl).elim, .inl ⟨_, _, _, hk, dm⟩, fun _ => .inl rfl, fun b u (z : (none : Option HO) = some u) => (nomatch z), fun b z => (z rfl).elim⟩
    | none =>
      have off : ∀ b, b ≠ sysModules → (upd (fun _ => none) sysModules (.frz om (.ext fun _ => True)) : Hp) b = none := fun b nb => upd_ne nb
      have here : ∀ b, (upd (fun _ => none) sysModules (.frz om (.ext fun _ => True)) : Hp) b ≠ none → b = sysModules := fun b z => Classical.byContradiction fun nb => z (off b nb)
      refine ⟨upd (fun _ => none) sysModules (.frz om (.ext fun _ => True)), here, .inr ⟨hk, _, _, upd_same⟩, fun b => ?_, fun b u z => ?_, fun b z => by rw [here b z]; exact hk⟩
      · by_cases nb : b = sysModules
        · rw [nb]; exact .inr ⟨_, _, upd_same⟩
        · exact .inl (off b nb)
      · by_cases nb : b = sysModules
        · subst nb
          rw [upd_same] at z
          cases z
          exact ⟨hm, trivial, ⟨_, hm⟩, fun _ _ _ _ => trivial⟩
        · rw [off b nb] at z
          cases z
  obtain ⟨H1, at1, sy, on1, ok1, kn1⟩ := one
  have h1a : H1 a = none := Classical.byContradiction fun q => nm (at1 a q)
  have far : ∀ b, b = sysModules → b ≠ mainGlobals ∧ b ≠ builtinsNs ∧ b ≠ cStatics := by
    rintro b rfl
    exact ⟨by decide, by decide, by decide⟩
  have fara : a ≠ mainGlobals ∧ a ≠ builtinsNs ∧ a ≠ cStatics := ⟨nd hns, nd hb, let ⟨_, l1, _⟩ := hlim; nd l1⟩
  cases hk : K.lookup a with
  | some o =>
    have e := KX a o hk
    rw [ha] at e
    cases e
    refine law_coreS KX hns hb hbb hlim hg hr F hbind hCX on1 (hsp _ sy (.inr ⟨_, vs.toArray, _, hk, rfl, rfl, rfl, ?_, by simpa using rv⟩)) ok1 fun b z => ⟨kn1 b z, far b (at1 b z)⟩
    rw [List.size_toArray, hi.length]
    exact hl
  | none =>
    have at_a : (upd H1 a (.frz { cls := .type "list", data := .seq vs.toArray } (.lst (ns.map V.int))) : Hp) a = some (.frz { cls := .type "list", data := .seq vs.toArray } (.lst (ns.map V.int))) := upd_same
    have off : ∀ b, b ≠ a → (upd H1 a (.frz { cls := .type "list", data := .seq vs.toArray } (.lst (ns.map V.int))) : Hp) b = H1 b := fun b nb => upd_ne nb
    have same : Same H1 (upd H1 a (.frz { cls := .type "list", data := .seq vs.toArray } (.lst (ns.map V.int)))) := fun b u e => by
      rw [off b (fun z => by rw [z, h1a] at e; cases e)]
      exact e
    refine law_coreS KX hns hb hbb hlim hg hr F hbind hCX (fun b => ?_) (hsp _ (sy.same same) (.inl (.inr ⟨_, at_a⟩))) (fun b u z => ?_) fun b z => ?_
    · by_cases nb : b = a
      · rw [nb]; exact .inr ⟨_, _, at_a⟩
      · rw [off b nb]; exact on1 b
    · by_cases nb : b = a
      · subst nb
        rw [at_a] at z
        cases z
        exact ⟨ha, by rw [List.length_map]; exact hl, vs, _, rv, ha⟩
      · rw [off b nb] at z
        have o1 := ok1 b u z
        have eb := at1 b (by rw [z]; intro q; cases q)
        subst eb
        rcases on1 sysModules with q | ⟨ob, xs, q⟩
        · rw [q] at z; cases z
        · rw [q] at z
          cases z
          exact o1.stay (fun c w' hc q => q) (fun _ q => same _ _ q) fun _ _ q => same _ _ q
    · by_cases nb : b = a
      · rw [nb]; exact ⟨hk, fara⟩
      · rw [off b nb] at z
        exact ⟨kn1 b z, far b (at1 b z)⟩
end
theorem walkS {l : PySem.W.OpenLaw} {n k : Nat} {q : Program} {loose : List Str} {XP : (Str → Option Value) → Heap → Prop} {YP : World → Heap → Prop} {d : DefRec} {K : Params → PySem.W.Frag} {sp : World → Sp} {x : Str}
    (hn : l.most = some n) (hn2 : n ≤ sizeLine) (hdf : d.params.defaults = []) (himp : importsNone q = true) (hr : Room k callerA) (hY : ∀ (w : World) (h : Heap), YP w h → (K w.params).In h)
    (F : ∀ (w : World) (mg : Str → Option Value) (fa : Addr) (h : Heap), (K w.params).In h → h.Ns mainGlobals mg → mg d.name = some (.ref fa) →
      ∃ fd : FuncData, (∀ (s : Shared) (u : Value), BindsTo s fd ⟨[u], []⟩ [(x, u)]) ∧
        ∀ base : Heap, (K w.params).In base → base.Ns mainGlobals mg → FnG l.prog w (K w.params) mg base CX0 k fa fd [x] (sp w))
    (hsp : ∀ (w : World) (H : Hp) (a : Addr) (ns : List Int), ns.length ≤ n → Sys (K w.params) H → SqL (K w.params) H a (ns.map V.int) → sp w [.ref a] H (fun v _ => v = .bl true) fun _ _ _ => False) :
    PySem.W.WalkO q loose XP YP l.row.toRowW d [] (fun f vs => PySem.call f vs) := by
  refine Att.attach_call hn hdf fun w s₀ s₁ mg mb fa o pm cd doc a vs ns G Y ho hd hcd hmg hobj hints hlen hg => ?_
  obtain ⟨fd, hb, hF⟩ := F w mg fa _ (hY w _ Y) G.T.g hmg
  obtain ⟨mm, hmm, _⟩ := (G.T.seer himp).mods
  exact law_endS (hY w _ Y) G.T.g G.T.b G.T.builtins ⟨mm, hmm⟩ G.T.nolimit hg hobj hints (Nat.le_trans hlen hn2) hr hF hb (fun _ _ _ z => z) fun H hO hS => hsp w H a ns hlen hO hS
end Tp

set_option Elab.async false
set_option linter.all false
set_option maxRecDepth 100000
set_option maxHeartbeats 4000000
namespace Tp
open PySem PySem.Spec PyProof.Rows L2
/-! ### a raise amid a loop over a dict: the lock goes -/
theorem takes_unlock {X : Cx} {W : WX} (tk : Takes X W) : Takes X (fun cls e σ H' => ∃ d od u, H' d = some (.frz od u) ∧ (∀ o' u', X.H_0 d ≠ some (.frz o' u')) ∧ W cls e σ (upd H' d u)) := by
  rintro u s' ⟨a, B, sI, pins, σ, H, cls, e, rfl, I, nb, up, sky, na, os, ag, d, od, u, hd, nf, w⟩
  exact tk _ s' ⟨a, B, sI, pins, σ, _, cls, e, rfl, I.unlock hd nf, nb, up, sky, by rw [upd_ne (fun z => by rw [z, hd] at na; cases na)]; exact na, os, ag, w⟩
/-! ### defs that raise -/
section
variable {P : Program} {w : World} {K : PySem.W.Frag} {mg : Str → Option Value} {base : Heap} {k : Nat} {f : Addr} {fd : FuncData} {ps : List Str} {sp : Sp}
theorem okX {x qual : Str} {st : Stmt} {N : List Str} (F : Fun K x qual st f fd) (S : FnScope N ps (defScope st)) (ar : ∀ vs H Q E, sp vs H Q E → vs.length = ps.length)
    (bd : ∀ (cdv : Value) (A : Around) (outer : List Env) (s : Shared) (H : Hp) (vs : List V) (Q : VK) (E : XK),
      Room k (A.deeper (envOfC qual (defScope st) s.heap.objs.size f cdv)) → sp vs H Q E →
      Takes (cxOf (L2.CX P w) P w K mg base N qual (defScope st) f cdv A outer s H E) (fun cls d _ H => E cls d H) →
      PassesOwn (model P w) (cxOf (L2.CX P w) P w K mg base N qual (defScope st) f cdv A outer s H E).A (cxOf (L2.CX P w) P w K mg base N qual (defScope st) f cdv A outer s H E).env (cxOf (L2.CX P w) P w K mg base N qual (defScope st) f cdv A outer s H E).xe →
      ∃ t, PSs (cxOf (L2.CX P w) P w K mg base N qual (defScope st) f cdv A outer s H E) (defBody st) t ∧ t { nx := fun _ H' => Q .non H', rt := Q } (start N vs) H) :
    FnOk P w K mg base (L2.CX P w) (k + 1) f fd ps sp := by
  obtain ⟨oc, od, kV, doc, pm, an, cdv, ct, osl, rfl, lk, hcd⟩ := F.ex
  refine fn_of lk hcd S ar fun A outer s H vs Q E hr hsp => ?_
  exact bd cdv A outer s H vs Q E hr hsp (takes_of rfl rfl rfl rfl) (passes_of rfl)
theorem okN {x qual : Str} {st : Stmt} {N : List Str} (F : Fun K x qual st f fd) (S : FnScope N ps (defScope st)) (ar : ∀ vs H Q E, sp vs H Q E → vs.length = ps.length)
    (bd : ∀ (cdv : Value) (A : Around) (outer : List Env) (s : Shared) (H : Hp) (vs : List V) (Q : VK) (E : XK),
      Room k (A.deeper (envOfC qual (defScope st) s.heap.objs.size f cdv)) → sp vs H Q E →
      ∃ t, PSs (cxOf CX0 P w K mg base N qual (defScope st) f cdv A outer s H E).nox (defBody st) t ∧ t { nx := fun _ H' => Q .non H', rt := Q } (start N vs) H) :
    FnOk P w K mg base CX0 (k + 1) f fd ps sp := by
  obtain ⟨oc, od, kV, doc, pm, an, cdv, ct, osl, rfl, lk, hcd⟩ := F.ex
  refine fn_of lk hcd S ar fun A outer s H vs Q E hr hsp => ?_
  obtain ⟨t, h, q⟩ := bd cdv A outer s H vs Q E hr hsp
  exact ⟨t, h.nox, q⟩
end
/-! ### a != b of two lists with the very same things in them -/
def Solid (v : V) : Prop := flatB v = true ∨ ∃ a, v = .ref a
def rNeL (K : PySem.W.Frag) : R2 := fun x y H Q => ∃ a b xs, x = .ref a ∧ y = .ref b ∧ SqL K H a xs ∧ SqL K H b xs ∧ (∀ v ∈ xs, Solid v) ∧ Q (.bl false) H
theorem op_neL {X : Cx} (hu : X.A.units + 64 < cLine) : OpR X (compareOp .NotEq) (rNeL X.K) := by
  intro pins s σ H x y v u Q I rx ry h
  obtain ⟨a, b, xs, rfl, rfl, ha, hb, hv, q⟩ := h
  cases (show v = Value.ref a from rx)
  cases (show u = Value.ref b from ry)
  obtain ⟨us, r1, p1, _⟩ := I.list ha
  obtain ⟨ws, r2, p2, _⟩ := I.list hb
  have hsz : us.toArray.size = ws.toArray.size := by
    rw [List.size_toArray, List.size_toArray, ← r1.length, ← r2.length]
  have each : ∀ {xs : List V} {us ws : List Value}, (∀ v ∈ xs, Solid v) → Vals xs us → Vals xs ws → ∀ j (h1 : j < us.length) (h2 : j < ws.length), SeqAt.EqAt X.A.in1 s us[j] ws[j] true := by
    intro xs
    induction xs with
    | nil => intro us ws _ r1 r2 j h1 h2; cases r1; exact absurd h1 (Nat.not_lt_zero j)
    | cons x xs ih =>
      intro us ws hv r1 r2 j h1 h2
      cases r1 with
      | cons a1 b1 =>
        cases r2 with
        | cons a2 b2 =>
          cases j with
          | zero =>
            rcases hv x List.mem_cons_self with f | ⟨c, rfl⟩
            · exact eqAt_same a1 a2 f
            · cases a1
              cases a2
              exact SeqAt.EqAt.same _
          | succ j => exact ih (fun v m => hv v (List.mem_cons_of_mem _ m)) b1 b2 j (Nat.lt_of_succ_lt_succ h1) (Nat.lt_of_succ_lt_succ h2)
  refine SeqAt.RcNeAt.lists (e := fun _ => true) p1.isList p2.isList hsz (by omega) (fun j h1 h2 => ?_) X.prog X.w _ _ ?_
  · have k := each hv r1 r2 j (by simpa using h1) (by simpa using h2)
    simpa using k
  · rw [show ((List.range us.toArray.size).all fun _ => true) = true from List.all_eq_true.mpr fun _ _ => rfl]
    exact ⟨.bl false, H, I, rfl, q⟩
/-! ### classes in except and isinstance -/
theorem kit_ref {K : PySem.W.Frag} {C : Addr} {t : Value} {b : Bool} (ne : (t == Value.ref C) = false) (hd : PySem.W.hasDictIn K C = true) (ht : PySem.W.typeIn K (.ref C) = some (.type "type")) (h : PySem.W.subIn K t (.ref C) = some b) : PySem.W.kitOne K t (.ref C) = some b := by
  obtain ⟨cd, hc, _⟩ := PySem.W.any_some hd
  unfold PySem.W.kitOne PySem.W.kitCls
  rw [if_neg (by rw [ne]; exact Bool.false_ne_true)]
  show (if ((PySem.W.clsIn K C).isSome && PySem.W.typeIn K (.ref C) == some (.type "type")) = true then PySem.W.subIn K t (.ref C) else none) = some b
  rw [if_pos (by rw [hc, ht] <;> rfl)]
  exact h
theorem kit_refT {K : PySem.W.Frag} {C : Addr} {t : Value} (hd : PySem.W.hasDictIn K C = true) (ht : PySem.W.typeIn K (.ref C) = some (.type "type")) (h : PySem.W.subIn K t (.ref C) = some true) : PySem.W.kitOne K t (.ref C) = some true := by
  obtain ⟨cd, hc, _⟩ := PySem.W.any_some hd
  unfold PySem.W.kitOne PySem.W.kitCls
  split
  · rfl
  · show (if ((PySem.W.clsIn K C).isSome && PySem.W.typeIn K (.ref C) == some (.type "type")) = true then PySem.W.subIn K t (.ref C) else none) = some true
    rw [if_pos (by rw [hc, ht] <;> rfl)]
    exact h
theorem kit_self {K : PySem.W.Frag} {t : Value} : PySem.W.kitOne K t t = some true := by
  unfold PySem.W.kitOne
  rw [if_pos (beq_self_eq_true t)]
theorem kit_own {K : PySem.W.Frag} {C : Addr} {n : String} {b : Bool} (h : PySem.W.subIn K (.ref C) (.type n) = some b) (hm : PySem.W.kitMeta n = true) : PySem.W.kitOne K (.ref C) (.type n) = some b := by
  unfold PySem.W.kitOne PySem.W.kitCls
  rw [if_neg (by intro q; cases q)]
  show (if PySem.W.kitMeta n = true then PySem.W.subIn K (.ref C) (.type n) else none) = some b
  rw [if_pos hm]
  exact h
theorem hu1 {k : Nat} {A : Around} (hr : Room k A) : A.units + 1 < cLine := Nat.lt_of_le_of_lt (by omega) hr.units
theorem hu0 {k : Nat} {A : Around} (hr : Room k A) : A.units < cLine := hr.units0
theorem takes0 {X : Cx} : Takes X (fun _ _ _ _ => False) := fun _ _ ⟨_, _, _, _, _, _, _, _, _, _, _, _, _, _, _, _, w⟩ => w.elim
/-! ### for k in e, e a dict that nobody else needs to write: it is locked for good -/
def iKeysL (td : TE) : TI := fun σ H R => td σ H fun x H1 => ∃ d kvs, x = .ref d ∧ H1 d = some (.dK kvs) ∧ ∀ o, R (Itk d o kvs) (upd H1 d (.frz o (.dK kvs)))
theorem pi_keysL {X : Cx} {tg e : Expr} {td : TE} (he : PE X e td) : PI X tg e (iKeysL td) := by
  refine ⟨fun pins s σ H R I h => ?_⟩
  have hk : PI X tg e (iKeys td) := pi_keys he
  refine thn (he.run pins s σ H _ I h) fun u s1 ⟨x, H1, I1, rx, d, kvs, ex, hd, q⟩ => ?_
  subst ex
  obtain rfl : u = Value.ref d := rx
  obtain ⟨od, I2⟩ := I1.lock hd trivial
  have hd2 : (upd H1 d (.frz od (.dK kvs))) d = some (.frz od (.dK kvs)) := upd_same
  obtain ⟨hs, hgd, hx, es, ep, vs, hdt, hsz, kv, hm⟩ := I2.frzK hd2
  refine iter_keys hs hgd hx hdt (pi_one (tk := s1.toks) I2 _ (turn_keys _ hdt) ⟨_, Heap.get?_push_size _ rfl, rfl, ?_⟩ (q od))
  rw [hsz] <;> rfl
/-- a dict comprehension over a walk -/
theorem dc_it {J : It} {n : Nat} {G : Hp → Prop} {Y : Nat → Hp → V → Hp → Prop} (w : Walk J n G Y) {g : TG} {tt : TT} {tk tv : TE} {vs : List Nat} {σ : L2.St} {H1 : Hp} {D : Addr} {Qd : Hp → Prop} (Pv : Nat → Hp → Prop) (h0 : Pv 0 (upd H1 D (.dK []))) (hG : ∀ i H, i ≤ n → Pv i H → G H)
    (hs : ∀ i x H H', i < n → Pv i H → Y i H x H' → g x (wipe σ vs) H' fun σ2 H2 => wipe σ2 vs = wipe σ vs ∧ tt σ2 H2 fun b H3 =>
      if b = true then tk σ2 H3 fun y H4 => tv σ2 H4 fun z H5 => ∃ kvs k, y = kV k ∧ H5 D = some (.dK kvs) ∧ kvs.length < sizeLine ∧ Pv (i + 1) (upd H5 D (.dK (putK kvs k z))) else Pv (i + 1) H3) (hd : ∀ H, Pv n H → Qd H) :
    ∃ W : Nat → Nat → Hp → Prop, (∃ m, W 0 m (upd H1 D (.dK []))) ∧ ∀ i m H, W i m H →
      (J.stop i H ∧ Qd H) ∨ (J.go i H ∧ ∃ Nx : Hp → Prop, (∀ H', Nx H' → ∃ m', m' < m ∧ W (i + 1) m' H') ∧ ∀ x H', J.yld i H x H' → g x (wipe σ vs) H' fun σ2 H2 => wipe σ2 vs = wipe σ vs ∧ tt σ2 H2 fun b H3 =>
        if b = true then tk σ2 H3 fun y H4 => tv σ2 H4 fun z H5 => ∃ kvs k, y = kV k ∧ H5 D = some (.dK kvs) ∧ kvs.length < sizeLine ∧ Nx (upd H5 D (.dK (putK kvs k z))) else Nx H3) := by
  refine ⟨fun i m H => m = n - i ∧ i ≤ n ∧ Pv i H, ⟨n, by simp, Nat.zero_le _, h0⟩, ?_⟩
  rintro i m H ⟨rfl, hi, p⟩
  have q := hG i H hi p
  by_cases hlt : i < n
  · exact .inr ⟨w.goes i H hlt q, Pv (i + 1), fun H' p' => ⟨n - (i + 1), by omega, rfl, hlt, p'⟩, fun x H' y => hs i x H H' hlt p (w.yields i H x H' hlt q y)⟩
  · have e : i = n := by omega
    subst e
    exact .inl ⟨w.stops H q, hd H p⟩
/-- k in d, k not in d, d a dict -/
theorem op_inDk {X : Cx} (hu : X.A.units + 1 < cLine) : OpR X (compareOp .In) (fun x y H Q => ∃ a o, y = .ref a ∧ DGet H a x o ∧ Q (.bl o.isSome) H) := by
  intro pins s σ H x y v u Q I rx ry h
  obtain ⟨a, o, rfl, g, q⟩ := h
  obtain rfl : u = Value.ref a := ry
  exact d_in hu I g rx fun s3 I3 => ⟨.bl o.isSome, H, I3, rfl, q⟩
theorem op_notInDk {X : Cx} (hu : X.A.units + 1 < cLine) : OpR X (compareOp .NotIn) (fun x y H Q => ∃ a o, y = .ref a ∧ DGet H a x o ∧ Q (.bl (!o.isSome)) H) := by
  intro pins s σ H x y v u Q I rx ry h
  obtain ⟨a, o, rfl, g, q⟩ := h
  obtain rfl : u = Value.ref a := ry
  exact d_notIn hu I g rx fun s3 I3 => ⟨.bl (!o.isSome), H, I3, rfl, q⟩
/-- e.f within a comprehension: K is told by name -/
theorem pe_fldK {X : Cx} {K : PySem.W.Frag} {e : Expr} {f : Str} {ta : TE} {pos : Pos} (hK : X.K = K) (he : PE X e ta) (hb : attributeBase e f X.env (eval e X.env) = eval e X.env) : PE X (.Attribute e f pos) (tFld K ta f) := by
  subst hK
  exact pe_fld he hb
end Tp

set_option Elab.async false
set_option linter.all false
set_option maxRecDepth 100000
set_option maxHeartbeats 4000000
namespace Tp
open PySem PySem.Spec PyProof.Rows L2
/-! ### dicts of names and ints as rows -/
abbrev Row := List (Str × Int)
def kvR (r : Row) : List (Key × V) := r.map fun p => (Sum.inr p.1, .int p.2)
def atR (r : Row) (x : Str) : Option Int := (r.find? fun p => decide (p.1 = x)).map (·.2)
def putR (r : Row) (x : Str) (i : Int) : Row := if (r.any fun p => decide (p.1 = x)) = true then r.map (fun p => if p.1 = x then (p.1, i) else p) else r ++ [(x, i)]
def fnR (r : Row) (x : Str) : Int := (atR r x).getD 0
def nzR (r : Row) : Row := r.filter fun p => decide (p.2 ≠ 0)
def eqR (r s : Row) : Bool := r.length == s.length && r.all fun p => atR s p.1 == some p.2
def NdR (r : Row) : Prop := (r.map (·.1)).Nodup
def FullR (r : Row) : Prop := ∀ p ∈ r, p.2 ≠ 0
theorem kvR_length (r : Row) : (kvR r).length = r.length := List.length_map _
theorem atR_nil {x : Str} : atR [] x = none := rfl
theorem atR_cons {p : Str × Int} {r : Row} {x : Str} : atR (p :: r) x = if p.1 = x then some p.2 else atR r x := by
  by_cases e : p.1 = x
  · rw [if_pos e]; simp [atR, List.find?_cons, e]
  · rw [if_neg e]; simp [atR, List.find?_cons, e]
theorem val_kvR (x : Str) : ∀ r : Row, valV (kvR r) (Sum.inr x) = (atR r x).map V.int
  | [] => rfl
  | p :: r => by
    rw [atR_cons]
    by_cases e : p.1 = x
    · rw [if_pos e]
      exact valV_pos (p := (Sum.inr p.1, V.int p.2)) (by rw [e])
    · rw [if_neg e]
      exact (valV_neg (p := (Sum.inr p.1, V.int p.2)) (fun z => e (Sum.inr.inj z))).trans (val_kvR x r)
theorem put_kvR (r : Row) (x : Str) (i : Int) : putK (kvR r) (Sum.inr x) (.int i) = kvR (putR r x i) := by
  unfold putK putR
  have h : ((kvR r).any fun kv => decide (kv.1 = (Sum.inr x : Key))) = r.any fun p => decide (p.1 = x) := by
    unfold kvR
    rw [List.any_map]
    congr 1
    funext p
    simp
  rw [h]
  by_cases c : (r.any fun p => decide (p.1 = x)) = true
  · rw [if_pos c, if_pos c]
    unfold kvR
    rw [List.map_map, List.map_map]
    congr 1
    funext p
    by_cases e : p.1 = x
    · simp [e]
    · simp [e]
  · rw [if_neg c, if_neg c]
    unfold kvR
    rw [List.map_append]
    rfl
theorem atR_map (x : Str) (i : Int) (y : Str) : ∀ r : Row, atR (r.map fun p => if p.1 = x then (p.1, i) else p) y = if y = x then (atR r y).map fun _ => i else atR r y
  | [] => by by_cases e : y = x <;> simp [e, atR]
  | p :: r => by
    rw [List.map_cons, atR_cons, atR_cons, atR_map x i y r]
    by_cases e : p.1 = x
    · by_cases h : y = x
      · subst h; simp [e]
      · have : ¬ p.1 = y := fun z => h (z.symm.trans e)
        have h' : ¬ x = y := fun z => h z.symm
        simp [e, h, h']
    · by_cases h : y = x
      · subst h; simp [e]
      · simp [e, h]
theorem atR_append (r s : Row) (y : Str) : atR (r ++ s) y = (atR r y).or (atR s y) := by
  induction r with
  | nil => simp [atR]
  | cons p r ih =>
    rw [List.cons_append, atR_cons, atR_cons, ih]
    by_cases e : p.1 = y
    · simp [e]
    · simp [e]
theorem any_at (x : Str) : ∀ r : Row, (r.any fun p => decide (p.1 = x)) = (atR r x).isSome
  | [] => rfl
  | p :: r => by
    rw [List.any_cons, atR_cons, any_at x r]
    by_cases e : p.1 = x
    · simp [e]
    · simp [e]
theorem atR_put (r : Row) (x : Str) (i : Int) (y : Str) : atR (putR r x i) y = if y = x then some i else atR r y := by
  unfold putR
  rw [any_at]
  cases h : atR r x with
  | some j =>
    rw [if_pos (show (some j).isSome = true from rfl), atR_map]
    by_cases e : y = x
    · subst e; rw [if_pos rfl, if_pos rfl, h]; rfl
    · rw [if_neg e, if_neg e]
  | none =>
    rw [if_neg (by simp), atR_append, atR_cons]
    by_cases e : y = x
    · subst e; rw [h, if_pos rfl, if_pos rfl]; rfl
    · rw [if_neg e, if_neg (fun z => e z.symm)]; cases atR r y <;> rfl
theorem fnR_put (r : Row) (x : Str) (i : Int) (y : Str) : fnR (putR r x i) y = if y = x then i else fnR r y := by
  unfold fnR
  rw [atR_put]
  split <;> rfl
theorem at_none {x : Str} : ∀ {r : Row}, atR r x = none ↔ x ∉ r.map (·.1)
  | [] => by simp [atR]
  | p :: r => by
    rw [atR_cons, List.map_cons, List.mem_cons]
    by_cases e : p.1 = x
    · rw [if_pos e]; simp [e]
    · rw [if_neg e, at_none (r := r)]
      exact ⟨fun h z => z.elim (fun z => e z.symm) h, fun h z => h (.inr z)⟩
theorem at_mem {x : Str} {i : Int} : ∀ {r : Row}, atR r x = some i → (x, i) ∈ r
  | [], h => by cases h
  | p :: r, h => by
    rw [atR_cons] at h
    by_cases e : p.1 = x
    · rw [if_pos e] at h; cases h; rw [← e]; exact List.mem_cons_self
    · rw [if_neg e] at h; exact List.mem_cons_of_mem _ (at_mem h)
theorem mem_at {p : Str × Int} : ∀ {r : Row}, NdR r → p ∈ r → atR r p.1 = some p.2
  | q :: r, nd, h => by
    rw [atR_cons]
    have nd' := List.nodup_cons.mp (show (q.1 :: r.map (·.1)).Nodup from nd)
    rcases List.mem_cons.mp h with rfl | h
    · rw [if_pos rfl]
    · rw [if_neg (fun z => nd'.1 (by rw [z]; exact List.mem_map_of_mem h))]
      exact mem_at nd'.2 h
theorem nd_put {r : Row} (nd : NdR r) (x : Str) (i : Int) : NdR (putR r x i) := by
  unfold putR
  by_cases c : (r.any fun p => decide (p.1 = x)) = true
  · rw [if_pos c]
    unfold NdR
    rw [List.map_map]
    have : ((fun p : Str × Int => p.1) ∘ fun p : Str × Int => if p.1 = x then (p.1, i) else p) = fun p => p.1 := by
      funext p
      by_cases e : p.1 = x <;> simp [e]
    rw [this]
    exact nd
  · rw [if_neg c]
    unfold NdR
    rw [List.map_append, List.nodup_append]
    refine ⟨nd, by simp, fun a ha b hb e => ?_⟩
    simp at hb
    subst hb
    subst e
    rw [any_at] at c
    have : atR r a = none := by
      cases h : atR r a with
      | none => rfl
      | some j => rw [h] at c; exact absurd rfl c
    exact at_none.mp this ha
theorem put_new {r : Row} {x : Str} (h : x ∉ r.map (·.1)) (i : Int) : putR r x i = r ++ [(x, i)] := by
  unfold putR
  rw [any_at, at_none.mpr h]
  exact if_neg (by simp)
theorem nd_sub {r s : Row} (h : List.Sublist s r) (nd : NdR r) : NdR s := List.Nodup.sublist (h.map _) nd
theorem nz_nd {r : Row} (nd : NdR r) : NdR (nzR r) := nd_sub List.filter_sublist nd
theorem nz_full (r : Row) : FullR (nzR r) := fun p hp => of_decide_eq_true (List.mem_filter.mp hp).2
theorem nz_fn {r : Row} (nd : NdR r) (x : Str) : fnR (nzR r) x = fnR r x := by
  unfold fnR
  cases h : atR r x with
  | none =>
    have : atR (nzR r) x = none := at_none.mpr fun z => by
      obtain ⟨p, hp, e⟩ := List.mem_map.mp z
      exact at_none.mp h (by rw [← e]; exact List.mem_map_of_mem (List.mem_filter.mp hp).1)
    rw [this]
  | some i =>
    by_cases z : i = 0
    · have : atR (nzR r) x = none := at_none.mpr fun q => by
        obtain ⟨p, hp, e⟩ := List.mem_map.mp q
        have e2 := mem_at nd (List.mem_filter.mp hp).1
        rw [e, h] at e2
        cases e2
        exact of_decide_eq_true (List.mem_filter.mp hp).2 z
      rw [this, z]; rfl
    · rw [mem_at (p := (x, i)) (nz_nd nd) (List.mem_filter.mpr ⟨at_mem h, decide_eq_true z⟩)]
theorem fn_at {r : Row} (h : FullR r) {x : Str} : atR r x = if fnR r x = 0 then none else some (fnR r x) := by
  unfold fnR
  cases e : atR r x with
  | none => rfl
  | some i => exact (if_neg (h _ (at_mem e))).symm
theorem sub_len {α : Type} [DecidableEq α] : ∀ {l m : List α}, l.Nodup → (∀ x ∈ l, x ∈ m) → l.length ≤ m.length
  | [], m, _, _ => Nat.zero_le _
  | x :: l, m, nd, h => by
    obtain ⟨n1, n2⟩ := List.nodup_cons.mp nd
    have hx : x ∈ m := h x List.mem_cons_self
    have := sub_len (l := l) (m := m.erase x) n2 fun y hy => (List.mem_erase_of_ne (fun z => n1 (by rw [← z]; exact hy))).mpr (h y (List.mem_cons_of_mem _ hy))
    rw [List.length_erase_of_mem hx] at this
    have : 0 < m.length := List.length_pos_of_mem hx
    simp only [List.length_cons]
    omega
theorem sub_all {α : Type} [DecidableEq α] {l m : List α} (nd : l.Nodup) (h : ∀ x ∈ l, x ∈ m) (hl : m.length ≤ l.length) : ∀ x ∈ m, x ∈ l := fun x hx => by
  refine Classical.byContradiction fun n => ?_
  have := sub_len (l := x :: l) (m := m) (List.nodup_cons.mpr ⟨n, nd⟩) fun y hy => (List.mem_cons.mp hy).elim (fun e => by rw [e]; exact hx) (h y)
  simp only [List.length_cons] at this
  omega
theorem nd_of {r : Row} (nd : NdR r) : r.Nodup := List.Pairwise.of_map (·.1) (fun a b h e => h (by rw [e])) nd
theorem eqR_iff {r s : Row} (nr : NdR r) (ns : NdR s) (fr : FullR r) (fs : FullR s) : eqR r s = true ↔ ∀ x, fnR r x = fnR s x := by
  have keys : (∀ x, fnR r x = fnR s x) → ∀ x, atR r x = atR s x := fun h x => by rw [fn_at fr, fn_at fs, h x]
  constructor
  · intro h x
    obtain ⟨hl, ha⟩ := Bool.and_eq_true_iff.mp h
    have hl : r.length = s.length := beq_iff_eq.mp hl
    have ha : ∀ p ∈ r, atR s p.1 = some p.2 := fun p hp => beq_iff_eq.mp (List.all_eq_true.mp ha p hp)
    have sub : ∀ p ∈ r, p ∈ s := fun p hp => at_mem (ha p hp)
    have back := sub_all (nd_of nr) sub (by omega)
    unfold fnR
    have : atR r x = atR s x := by
      cases e : atR r x with
      | some i => exact (ha _ (at_mem e)).symm
      | none =>
        refine (at_none.mpr fun z => at_none.mp e ?_).symm
        obtain ⟨p, hp, e⟩ := List.mem_map.mp z
        exact List.mem_map.mpr ⟨p, back p hp, e⟩
    rw [this]
  · intro h
    have k := keys h
    have sub1 : ∀ p ∈ r, p ∈ s := fun p hp => at_mem (by rw [← k]; exact mem_at nr hp)
    have sub2 : ∀ p ∈ s, p ∈ r := fun p hp => at_mem (by rw [k]; exact mem_at ns hp)
    have l1 := sub_len (nd_of nr) sub1
    have l2 := sub_len (nd_of ns) sub2
    refine Bool.and_eq_true_iff.mpr ⟨beq_iff_eq.mpr (by omega), List.all_eq_true.mpr fun p hp => beq_iff_eq.mpr ?_⟩
    rw [← k]
    exact mem_at nr hp
theorem kv_names (r : Row) : (kvR r).map (·.1) = (r.map (·.1)).map Sum.inr := by
  unfold kvR
  rw [List.map_map, List.map_map]
  rfl
theorem kv_nd {r : Row} (nd : NdR r) : ((kvR r).map (·.1)).Nodup := by
  rw [kv_names]
  exact List.Pairwise.map _ (fun a b (h : a ≠ b) e => h (Sum.inr.inj e)) nd
theorem at_of_mem {r : Row} {n : Str} (h : n ∈ r.map (·.1)) : atR r n = some (fnR r n) := by
  unfold fnR
  cases e : atR r n with
  | none => exact absurd h (at_none.mp e)
  | some i => rfl
/-- the rows of r at the names ys, without those of 0 -/
def pickR (r : Row) (ys : List Str) : Row := (ys.filter fun n => decide (fnR r n ≠ 0)).map fun n => (n, fnR r n)
theorem pick_names (r : Row) (ys : List Str) : (pickR r ys).map (·.1) = ys.filter fun n => decide (fnR r n ≠ 0) := by
  unfold pickR
  rw [List.map_map]
  exact List.map_id _
theorem pick_nd {r : Row} {ys : List Str} (h : ys.Nodup) : NdR (pickR r ys) := by
  unfold NdR
  rw [pick_names]
  exact h.sublist List.filter_sublist
theorem pick_full (r : Row) (ys : List Str) : FullR (pickR r ys) := fun p hp => by
  obtain ⟨n, hn, rfl⟩ := List.mem_map.mp hp
  exact of_decide_eq_true (List.mem_filter.mp hn).2
theorem fn_mem {r : Row} {n : Str} (h : fnR r n ≠ 0) : (n, fnR r n) ∈ r := by
  unfold fnR at h ⊢
  cases e : atR r n with
  | none => rw [e] at h; exact absurd rfl h
  | some i => exact at_mem e
theorem pick_mem {r : Row} {ys : List Str} : ∀ p ∈ pickR r ys, p ∈ r := fun p hp => by
  obtain ⟨n, hn, rfl⟩ := List.mem_map.mp hp
  exact fn_mem (of_decide_eq_true (List.mem_filter.mp hn).2)
theorem pick_fn {r : Row} {ys : List Str} (h : ys.Nodup) (hm : ∀ p ∈ r, p.1 ∈ ys) (x : Str) : fnR (pickR r ys) x = fnR r x := by
  by_cases z : fnR r x = 0
  · have : atR (pickR r ys) x = none := at_none.mpr fun q => by
      rw [pick_names] at q
      exact of_decide_eq_true (List.mem_filter.mp q).2 z
    rw [z]
    unfold fnR
    rw [this]
    rfl
  · have m : (x, fnR r x) ∈ pickR r ys := List.mem_map.mpr ⟨x, List.mem_filter.mpr ⟨hm _ (fn_mem z), decide_eq_true z⟩, rfl⟩
    have := mem_at (pick_nd h) m
    show (atR (pickR r ys) x).getD 0 = fnR r x
    rw [this]
    rfl
theorem pick_take {r : Row} {ys : List Str} {i : Nat} {n : Str} (hi : ys[i]? = some n) : pickR r (ys.take (i + 1)) = if fnR r n ≠ 0 then pickR r (ys.take i) ++ [(n, fnR r n)] else pickR r (ys.take i) := by
  unfold pickR
  rw [List.take_add_one, hi]
  simp only [Option.toList_some, List.filter_append, List.map_append]
  by_cases z : fnR r n = 0
  · simp [z]
  · simp [z]
theorem pick_put {r : Row} {ys : List Str} (h : ys.Nodup) {i : Nat} {n : Str} (hi : ys[i]? = some n) (z : fnR r n ≠ 0) : putK (kvR (pickR r (ys.take i))) (Sum.inr n) (.int (fnR r n)) = kvR (pickR r (ys.take (i + 1))) := by
  rw [put_kvR, pick_take hi, if_pos z, put_new]
  rw [pick_names]
  intro q
  have q := (List.mem_filter.mp q).1
  obtain ⟨hlt, e⟩ := List.getElem?_eq_some_iff.mp hi
  obtain ⟨j, hj, ej⟩ := List.mem_iff_getElem.mp q
  rw [List.length_take] at hj
  rw [List.getElem_take] at ej
  exact (List.pairwise_iff_getElem.mp h) j i (by omega) hlt (by omega) (ej.trans e.symm)
/-! ### == and != of such dicts -/
theorem hitsI {A : Around} {s : Shared} {b : Row} {vb : List (Key × Value)} (rb : KV (kvR b) vb) : ∀ {r : Row} {va : List (Key × Value)}, KV (kvR r) va → PySem.W.KeqHits A s vb va (r.all fun p => atR b p.1 == some p.2)
  | [], va, h => by cases h; exact .nil
  | p :: r, va, h => by
    cases h with
    | @cons _ q _ qs h1 t =>
      obtain ⟨e1, e2⟩ := h1
      obtain ⟨key, v⟩ := q
      have e1 : (Sum.inr p.1 : Key) = key := e1
      subst e1
      obtain ⟨tk, rfl⟩ := (show ∃ t, v = Value.int p.2 t from e2)
      have ih := hitsI (A := A) (s := s) rb (show KV (kvR r) qs from t)
      have rr : RelO (valV (kvR b) (Sum.inr p.1)) (valueAt vb (Sum.inr p.1)) := rb.val _
      rw [val_kvR] at rr
      rw [List.all_cons]
      cases e : atR b p.1 with
      | none =>
        rw [e] at rr
        exact .miss (RelO.none_of rr)
      | some j =>
        rw [e] at rr
        obtain ⟨y, hy, ry⟩ := RelO.some_of rr
        obtain ⟨t2, rfl⟩ := (show ∃ t, y = Value.int j t from ry)
        have : (some j == some p.2) = (p.2 == j) := by
          by_cases z : p.2 = j
          · subst z; simp
          · rw [beq_eq_false_iff_ne.mpr z, beq_eq_false_iff_ne.mpr fun q => z (Option.some.inj q).symm]
        rw [this]
        exact .hit hy (SeqAt.EqAt.int_int _ _ _ _) ih
def rEqDI : R2 := fun x y H Q => ∃ a b r s, x = .ref a ∧ y = .ref b ∧ H a = some (.dK (kvR r)) ∧ H b = some (.dK (kvR s)) ∧ Q (.bl (eqR r s)) H
def rNeDI : R2 := fun x y H Q => ∃ a b r s, x = .ref a ∧ y = .ref b ∧ H a = some (.dK (kvR r)) ∧ H b = some (.dK (kvR s)) ∧ Q (.bl (!eqR r s)) H
section
variable {X : Cx}
theorem op_eqDI (hu : X.A.units < cLine) : OpR X (compareOp .Eq) rEqDI := by
  intro pins s σ H x y v u Q I rx ry h
  obtain ⟨a, b, r, t, rfl, rfl, ea, eb, q⟩ := h
  obtain rfl : v = Value.ref a := rx
  obtain rfl : u = Value.ref b := ry
  obtain ⟨_, ya, va, ra, da⟩ := (show ObjOk X.prog X.w H s.heap a (.dK (kvR r)) from I.hok a _ ea)
  obtain ⟨_, yb, vb, rb, db⟩ := (show ObjOk X.prog X.w H s.heap b (.dK (kvR t)) from I.hok b _ eb)
  refine PySem.W.keq_eq (knd := mixKind X.prog X.w) ya yb da db hu (fun _ => hitsI rb ra) (fin_bl I q ?_)
  unfold eqR
  rw [← ra.length, ← rb.length, kvR_length, kvR_length]
theorem op_neDI (hu : X.A.units < cLine) : OpR X (compareOp .NotEq) rNeDI := by
  intro pins s σ H x y v u Q I rx ry h
  obtain ⟨a, b, r, t, rfl, rfl, ea, eb, q⟩ := h
  obtain rfl : v = Value.ref a := rx
  obtain rfl : u = Value.ref b := ry
  obtain ⟨_, ya, va, ra, da⟩ := (show ObjOk X.prog X.w H s.heap a (.dK (kvR r)) from I.hok a _ ea)
  obtain ⟨_, yb, vb, rb, db⟩ := (show ObjOk X.prog X.w H s.heap b (.dK (kvR t)) from I.hok b _ eb)
  refine PySem.W.keq_ne (knd := mixKind X.prog X.w) ya yb da db hu (fun _ => hitsI rb ra) (fin_bl I q ?_)
  unfold eqR
  rw [← ra.length, ← rb.length, kvR_length, kvR_length]
end
end Tp

set_option Elab.async false
set_option linter.all false
set_option maxRecDepth 100000
set_option maxHeartbeats 4000000
namespace Tp
open PySem PySem.Spec PyProof.Rows L2
/-! ### sorted texts: there is just one order -/
def leS (a b : Str) : Prop := ¬ b.cps.toList < a.cps.toList
theorem leS_trans {a b c : Str} (h : leS a b) (k : leS b c) : leS a c := by
  have h : a.cps.toList ≤ b.cps.toList := h
  have k : b.cps.toList ≤ c.cps.toList := k
  exact List.le_trans h k
theorem leS_anti {a b : Str} (h : leS a b) (k : leS b a) : a = b := by
  have e : a.cps.toList = b.cps.toList := List.le_antisymm (show a.cps.toList ≤ b.cps.toList from h) k
  obtain ⟨⟨x⟩⟩ := a
  obtain ⟨⟨y⟩⟩ := b
  cases (show x = y from e)
  rfl
theorem rising_pair : ∀ (p : Str) (l : List Str), risingS p l = true → (p :: l).Pairwise leS
  | p, [], _ => by simp
  | p, x :: r, h => by
    obtain ⟨h1, h2⟩ := Bool.and_eq_true_iff.mp (show (!ltCps x.cps.toList p.cps.toList && risingS x r) = true from h)
    have h1 : leS p x := by
      rw [ltCps_eq] at h1
      have : decide (x.cps.toList < p.cps.toList) = false := by simpa using h1
      exact of_decide_eq_false this
    have ih := rising_pair x r h2
    refine List.pairwise_cons.mpr ⟨fun y hy => ?_, ih⟩
    rcases List.mem_cons.mp hy with rfl | hy
    · exact h1
    · exact leS_trans h1 ((List.pairwise_cons.mp ih).1 y hy)
theorem sorted_pair : ∀ (l : List Str), sortedS l = true → l.Pairwise leS
  | [], _ => .nil
  | x :: r, h => rising_pair x r h
theorem sorted_one {l m : List Str} (h : sortedS l = true) (k : sortedS m = true) (p : l.Perm m) : l = m :=
  p.eq_of_pairwise (fun a b _ _ h k => leS_anti h k) (sorted_pair l h) (sorted_pair m k)
theorem nodup_perm {α : Type} {l m : List α} (nl : l.Nodup) (nm : m.Nodup) (h : ∀ x, x ∈ l ↔ x ∈ m) : l.Perm m := by
  exact (List.perm_ext_iff_of_nodup nl nm).mpr h
theorem full_names {r s : Row} (nr : NdR r) (ns : NdR s) (fr : FullR r) (fs : FullR s) (h : ∀ x, fnR r x = fnR s x) : (r.map (·.1)).Perm (s.map (·.1)) := by
  refine nodup_perm nr ns fun x => ?_
  have key : ∀ {t : Row}, FullR t → (x ∈ t.map (·.1) ↔ fnR t x ≠ 0) := fun {t} ft => by
    constructor
    · intro hx
      have e := at_of_mem hx
      rw [fn_at ft] at e
      intro z
      rw [if_pos z] at e
      cases e
    · intro hz
      exact List.mem_map.mpr ⟨_, fn_mem hz, rfl⟩
  rw [key fr, key fs, h x]
end Tp

set_option Elab.async false
set_option linter.all false
set_option maxRecDepth 100000
set_option maxHeartbeats 4000000
namespace Tp
open PySem PySem.Spec PyProof.Rows L2
/-! ### rules whose reading names K, for use within a comprehension -/
section
variable {X : Cx} {K : PySem.W.Frag}
theorem call_dictPK (hK : X.K = K) (hcalm : X.calm = true) : CallR X (.type "dict") (fun xs H Q => ∃ (a : Addr) (ps : List Addr) (kvs : List (Key × V)), xs = [.ref a] ∧ SqL K H a (ps.map V.ref) ∧ Paired (fun p kv => SqT K H p [kV kv.1, kv.2]) ps kvs ∧
    ∀ p, H p = none → Q (.ref p) (upd H p (.dK (mergeK [] kvs)))) := by
  subst hK
  exact call_dictP hcalm
end
end Tp

set_option Elab.async false
set_option linter.all false
set_option maxRecDepth 100000
set_option maxHeartbeats 4000000
namespace Tp
open PySem PySem.Spec PyProof.Rows L2
/-! ### a list or a tuple: b says which (true: a tuple) -/
def SqB (b : Bool) (K : PySem.W.Frag) (H : Hp) (a : Addr) (xs : List V) : Prop := match b with
  | true => SqT K H a xs
  | false => SqL K H a xs
theorem SqT.same {K : PySem.W.Frag} {H H' : Hp} {a : Addr} {xs : List V} (S : Same H H') (h : SqT K H a xs) : SqT K H' a xs := by
  rcases h with (h | ⟨o, h⟩) | h
  · exact .inl (.inl (S _ _ h))
  · exact .inl (.inr ⟨o, S _ _ h⟩)
  · exact .inr h
theorem SqB.same {b : Bool} {K : PySem.W.Frag} {H H' : Hp} {a : Addr} {xs : List V} (S : Same H H') (h : SqB b K H a xs) : SqB b K H' a xs := by
  cases b with
  | true => exact SqT.same S h
  | false => exact Same.seq S h
def ItB (b : Bool) (K : PySem.W.Frag) (a : Addr) : It := match b with
  | true => Itt K a
  | false => Itl K a
theorem walk_B {b : Bool} {K : PySem.W.Frag} {a : Addr} {xs : List V} : Walk (ItB b K a) xs.length (fun H => SqB b K H a xs) (YAt xs) := by
  cases b with
  | true => exact walk_tup
  | false => exact walk_list
def iSeqB (K : PySem.W.Frag) (te : TE) : TI := fun σ H R => te σ H fun x H1 => ∃ (b : Bool) (a : Addr) (xs : List V), x = .ref a ∧ SqB b K H1 a xs ∧ R (ItB b K a) H1
section
variable {X : Cx} {K : PySem.W.Frag} {tg e : Expr} {te : TE}
theorem pi_B (hK : X.K = K) (he : PE X e te) : PI X tg e (iSeqB K te) := by
  subst hK
  refine ⟨fun pins s σ H R I h => ?_⟩
  refine thn (he.run pins s σ H _ I h) fun v s1 ⟨x, H1, I1, r1, b, a, xs, ex, hq, q⟩ => ?_
  subst ex
  cases r1
  cases b with
  | false =>
    obtain ⟨its, rv, p, hz⟩ := I1.list hq
    refine wpAny_pyIter_list p.isList ?_
    refine ⟨s1.heap.objs.size, [s1.heap.objs.size], _, _, H1, rfl, I1.kept (t' := s1.toks) fun b o e => Heap.get?_push_of_some _ e, turn_list a _, ⟨_, Heap.get?_push_size _ rfl, rfl, rfl⟩, fun b hb => ?_, q⟩
    have e : b = s1.heap.objs.size := by simpa using hb
    subst e
    exact I1.fpOk (Nat.le_refl _) (I1.hok.fresh (Nat.le_refl _))
  | true =>
    obtain ⟨its, rv, p, hz⟩ := I1.tuple hq
    refine wpAny_pyIter_tuple (show s1.heap.IsTuple a its.toArray from p) ?_
    refine ⟨s1.heap.objs.size, [s1.heap.objs.size], _, _, H1, rfl, I1.kept (t' := s1.toks) fun b o e => Heap.get?_push_of_some _ e, turn_tuple a _, ⟨_, Heap.get?_push_size _ rfl, rfl, rfl⟩, fun b hb => ?_, q⟩
    have e : b = s1.heap.objs.size := by simpa using hb
    subst e
    exact I1.fpOk (Nat.le_refl _) (I1.hok.fresh (Nat.le_refl _))
end
/-! ### enumerate of a tuple -/
def IteT (K : PySem.W.Frag) (a : Addr) : It :=
  ⟨fun i H => ∃ (xs : List V) (x : V), SqT K H a xs ∧ xs[i]? = some x, fun i H v H' => ∃ T x, v = .ref T ∧ H T = none ∧ H' = upd H T (.tup [.int (i : Nat), x]) ∧ ∀ xs, SqT K H a xs → xs[i]? = some x, fun i H => ∃ xs : List V, SqT K H a xs ∧ xs.length = i⟩
theorem tup_inj {X : Cx} {pins : List (Addr × Obj)} {σ : L2.St} {H : Hp} {s : Shared} {a : Addr} {xs ys : List V} (I : Inv X pins σ H s) (h : SqT X.K H a xs) (k : SqT X.K H a ys) : ys = xs := by
  obtain ⟨its, rv, p, _⟩ := I.tuple h
  obtain ⟨its', rv', p', _⟩ := I.tuple k
  obtain ⟨o, ho, _, n, hd⟩ := p
  obtain ⟨o', ho', _, n', hd'⟩ := p'
  rw [ho] at ho'
  cases ho'
  rw [hd] at hd'
  cases hd'
  exact Vals.inj rv' rv
theorem turn_enumT {P : Program} {w : World} {K : PySem.W.Frag} {elts : List Expr} {kk : Nat} {tpos : Pos} (a e it : Addr) :
    Turn P w K (.Tuple elts kk tpos) (IteT K a) [e, it] e (fun i h => (∃ old, IsEnum h e it ((i : Nat) : Int) old) ∧ h.IsTupleIter it a i ∧ e ≠ it ∧ a ≠ e ∧ a ≠ it) where
  mem := by simp
  obj := fun i h st b hb => by
    obtain ⟨⟨old, he⟩, ⟨o, ho, hc, hd⟩, _⟩ := st
    have e' : b = e ∨ b = it := by simpa using hb
    rcases e' with z | z
    · rw [z]; exact ⟨_, he, fun v q => nomatch q⟩
    · rw [z]; exact ⟨o, ho, fun v q => by rw [hd] at q; cases q⟩
  keep := fun i h h' st k => let ⟨⟨old, he⟩, ⟨o, ho, r⟩, hne⟩ := st; ⟨⟨old, k e (by simp) _ he⟩, ⟨o, k it (by simp) o ho, r⟩, hne⟩
  item := by
    intro X hP hw hK hc i pins s σ H E I hf st hg
    subst hP hw hK
    obtain ⟨⟨old, he⟩, hit, hne, hae, hai⟩ := st
    obtain ⟨xs, x, hq, hx⟩ := hg
    obtain ⟨its, rv, p, hz⟩ := I.tuple hq
    obtain ⟨u, hu, ru⟩ := rv.get hx
    have hel : e < s.heap.objs.size := Heap.lt_size he
    have hil : it < s.heap.objs.size := by obtain ⟨_, q, _⟩ := hit; exact Heap.lt_size q
    have hi : i < its.toArray.size := by
      have := (List.getElem?_eq_some_iff.mp hu).1
      simpa using this
    refine wpAny_pyNext_enum_itemD (Draws.tuple (A := X.A.in1) (show X.A.in1.handled = none from I.ok.hd hc) it a hai its.toArray) he ⟨hit, p⟩ hi hne (by simp [Ne.symm hae, hne]) fun x' h' tk hP ho hst hT hsz hk => ?_
    obtain ⟨hit', _⟩ := hst
    have ex : x' = u := by
      have h1 : its[i]? = some x' := by simpa using hP
      rw [hu] at h1
      exact (Option.some.inj h1).symm
    subst ex
    refine ⟨_, rfl, wpAny_letOwnedTupleGo_enum (s := { s with heap := h', toks := tk + 1 }) ho fun h'' he' sb => ?_⟩
    have hT2 : h''.get? s.heap.objs.size = some { cls := .type "tuple", data := .seq #[.int i tk, x'] } := (sb.2 _ (Nat.ne_of_gt hel)).trans hT
    have new : ObjOk X.prog X.w (upd H s.heap.objs.size (.tup [.int (i : Nat), x])) h'' s.heap.objs.size (.tup [.int (i : Nat), x]) :=
      ⟨by show 2 ≤ sizeLine; decide, [.int i tk, x'], .cons ⟨_, rfl⟩ (.cons ru .nil), ⟨_, hT2, rfl, _, rfl⟩⟩
    have I1 : Inv X pins σ (upd H s.heap.objs.size (.tup [.int (i : Nat), x])) { s with heap := h'', toks := tk + 1 } :=
      I.turnedNew (ch := [e, it]) (fun b ob hb q => (sb.2 b (fun z => hb (by simp [z]))).trans (hk b ob (fun z => hb (by simp [z])) (fun z => hb (by simp [z])) q)) hf (Nat.le_refl _) new
    refine ⟨.ref s.heap.objs.size, _, I1, rfl, ⟨_, x, rfl, I.hok.fresh (Nat.le_refl _), rfl, fun ys hy => by rw [tup_inj I hq hy]; exact hx⟩, ⟨⟨x', ?_⟩, ?_, hne, hae, hai⟩, fun b hb => ?_⟩
    · have e1 : ((i + 1 : Nat) : Int) = (i : Int) + 1 := by omega
      rw [e1]; exact he'
    · obtain ⟨o, ho2, r⟩ := hit'
      exact ⟨o, (sb.2 it (Ne.symm hne)).trans ho2, r⟩
    · have hb' : b < s.heap.objs.size := by
        have e' : b = e ∨ b = it := by simpa using hb
        rcases e' with z | z
        · rw [z]; exact hel
        · rw [z]; exact hil
      rw [upd_ne (Nat.ne_of_lt hb')]
      exact (hf b hb).1
  done := by
    intro X hP hw hK hc i pins s σ H E I hf st hg
    subst hP hw hK
    obtain ⟨⟨old, he⟩, hit, hne, hae, hai⟩ := st
    obtain ⟨xs, hq, hx⟩ := hg
    obtain ⟨its, rv, p, hz⟩ := I.tuple hq
    obtain ⟨f0, f1, f2, f3, f4, f5⟩ := hf it (by simp)
    have hl := rv.length
    have hi : its.toArray.size = i := by simp; omega
    refine wpAny_pyNext_enum_endD (Draws.tuple (A := X.A.in1) (show X.A.in1.handled = none from I.ok.hd hc) it a hai its.toArray) he (by rw [hi]; exact ⟨hit, p⟩) fun h' eb => ⟨rfl, I.turned (t' := s.toks) (fun b o hb q => eb b o hb q) f0 f1 f3 f4 f5⟩
  self := fun A i s Q E st h => let ⟨⟨_, he⟩, _⟩ := st; wpAny_pyIter_enum he h
theorem call_enumerate_tuple {prog : Program} {w : World} {A : Around} {E : Value → Shared → Prop} {s : Shared} {t : Addr} {items : Array Value} {Q : Value → Shared → Prop} (hL : s.heap.IsTuple t items)
    (h : ∀ h', IsEnum h' (s.heap.objs.size + 1) s.heap.objs.size 0 .none → h'.IsTupleIter s.heap.objs.size t 0 → h'.objs.size = s.heap.objs.size + 2 →
      (∀ b o, s.heap.get? b = some o → h'.get? b = some o) → Q (.ref (s.heap.objs.size + 1)) { s with heap := h' }) :
    wpAny (model prog w) A (call (.type "enumerate") [.ref t]) Q E s := by
  have B := begins_tuple t items
  have mt : Meets (Builtin.«enumerate.__new__» ⟨[.type "enumerate", .ref t], []⟩) (fun _ R s => s.heap.IsTuple t items ∧
      R (.ok (.ret (.ref (s.heap.push { cls := .type "tuple_iterator", data := .fields #[.ref t, .int 0 0] }).objs.size)))
        { s with heap := (s.heap.push { cls := .type "tuple_iterator", data := .fields #[.ref t, .int 0 0] }).push { cls := .type "enumerate", data := .fields #[.none, .bool false, .ref s.heap.objs.size, rawInt 0, .none, .none] } }) :=
    .of_wp fun prog w A R s h => by
      obtain ⟨hp, g, d, tk, os⟩ := s; obtain ⟨h1, h⟩ := h
      have hsub := sub_enumerate
      have q1 : ∀ {A' : Around} {E : Value → Shared → Prop} {Q : Value → Shared → Prop}, Q (.ref hp.objs.size) ⟨hp.push { cls := .type "tuple_iterator", data := .fields #[.ref t, .int 0 0] }, g, d, tk, os⟩ → wpAny (model prog w) A' (pyIter (.ref t)) Q E ⟨hp, g, d, tk, os⟩ :=
        fun q => B.iter prog w _ _ ⟨hp, g, d, tk, os⟩ _ h1 q
      wp_walk using q1
      refine wpAny_stack_any fun st => wpAny_pure ?_
      split
      · rename_i c _ _ _ _ _
        cases (c == Value.type "enumerate")
        · wp_walk using q1
          exact ⟨_, rfl, h⟩
        · wp_walk using q1
          exact ⟨_, rfl, h⟩
      · wp_walk using q1
        exact ⟨_, rfl, h⟩
  refine callType_new F.called_enumerate (by decide) (F.typeCall_enumerate_1 _) (F.newCall_enumerate_1 _) (fun obj => F.args_object_init_2 obj _) F.entry_enumerate_new mt ⟨hL, ?_⟩
  have hz : (s.heap.push { cls := .type "tuple_iterator", data := .fields #[.ref t, .int 0 0] }).objs.size = s.heap.objs.size + 1 := Heap.size_push ..
  show _ ∧ _
  rw [hz]
  have he : IsEnum ((s.heap.push { cls := .type "tuple_iterator", data := .fields #[.ref t, .int 0 0] }).push
      { cls := .type "enumerate", data := .fields #[.none, .bool false, .ref s.heap.objs.size, rawInt 0, .none, .none] }) (s.heap.objs.size + 1) s.heap.objs.size 0 .none := by
    have := Heap.get?_push_size (s.heap.push { cls := .type "tuple_iterator", data := .fields #[.ref t, .int 0 0] })
      (o := { cls := .type "enumerate", data := .fields #[.none, .bool false, .ref s.heap.objs.size, rawInt 0, .none, .none] }) rfl
    rw [hz] at this; exact this
  refine ⟨⟨_, he, rfl⟩, h _ he ⟨_, Heap.get?_push_of_some _ (Heap.get?_push_size _ rfl), rfl, rfl⟩ (by rw [Heap.size_push, hz]) fun b o x => Heap.get?_push_of_some _ (Heap.get?_push_of_some _ x)⟩
def ItE (b : Bool) (K : PySem.W.Frag) (a : Addr) : It := match b with
  | true => IteT K a
  | false => Ite K a
theorem walk_enumB {b : Bool} {K : PySem.W.Frag} {a : Addr} {xs : List V} : Walk (ItE b K a) xs.length (fun H => SqB b K H a xs) (YPair (fun i => some (.int (i : Nat))) (fun i => xs[i]?)) := by
  cases b with
  | false => exact walk_enum
  | true =>
    refine ⟨fun i _ hi q => ⟨xs, xs[i], q, by simp [hi]⟩, fun _ q => ⟨xs, q, rfl⟩, fun i H v H' _ q y => ?_⟩
    obtain ⟨T, x, h1, h2, h3, h4⟩ := y
    exact ⟨T, .int (i : Nat), x, h1, h2, h3, rfl, h4 xs q⟩
def iEnumB (K : PySem.W.Frag) (ta : TA) : TI := fun σ H R => ta σ H fun vs H1 => ∃ (b : Bool) (a : Addr) (xs : List V), vs = [.ref a] ∧ SqB b K H1 a xs ∧ R (ItE b K a) H1
theorem pi_enumB {X : Cx} {K : PySem.W.Frag} {e : Expr} {ta : TA} {p pos tpos : Pos} {elts : List Expr} {kk : Nat} (hK : X.K = K) (hg : Gl X "enumerate") (hm : X.mg "enumerate" = none) (ha : PA X [e] ta) (hs : starEach [e] X.env = [(false, eval e X.env)] := by rfl) :
    PI X (.Tuple elts kk tpos) (.Call (.Name "enumerate" p) [e] [] pos) (iEnumB K ta) := by
  subst hK
  refine ⟨fun pins s σ H R I h => ?_⟩
  refine Call_ (ld_blt I hg hm boot_enumerate (PyProof.Rows.callWith_type1 (thn (ha.run pos pins s σ H _ I h) fun us s1 ⟨vs, H1, I1, r1, q1⟩ => ?_) hs rfl))
  obtain ⟨b, a, xs, ex, hq, q⟩ := q1
  subst ex
  cases r1 with
  | cons r rr =>
    cases rr
    cases r
    have fin : ∀ b', b' ∈ [s1.heap.objs.size + 1, s1.heap.objs.size] → FpOk X pins H1 b' := fun b' hb => by
      have e' : b' = s1.heap.objs.size + 1 ∨ b' = s1.heap.objs.size := by simpa using hb
      have hle : s1.heap.objs.size ≤ b' := by
        rcases e' with z | z
        · rw [z]; exact Nat.le_add_right _ _
        · rw [z]; exact Nat.le_refl _
      exact I1.fpOk hle (I1.hok.fresh hle)
    cases b with
    | false =>
      obtain ⟨its, rv, p', hz⟩ := I1.list hq
      refine call_enumerate_list p'.isList fun h' he hit hsz hk => wpAny_pyIter_enum he ?_
      have I2 : Inv X pins σ H1 { s1 with heap := h' } := I1.kept (t' := s1.toks) hk
      exact ⟨s1.heap.objs.size + 1, [s1.heap.objs.size + 1, s1.heap.objs.size], _, _, H1, rfl, I2, turn_enum a (s1.heap.objs.size + 1) s1.heap.objs.size, ⟨⟨.none, he⟩, hit, Nat.succ_ne_self _⟩, fun b hb => fin b hb, q⟩
    | true =>
      obtain ⟨its, rv, p', hz⟩ := I1.tuple hq
      have hlt : a < s1.heap.objs.size := by
        obtain ⟨o, ho, _⟩ := p'
        exact Heap.lt_size ho
      refine call_enumerate_tuple (show s1.heap.IsTuple a its.toArray from p') fun h' he hit hsz hk => wpAny_pyIter_enum he ?_
      have I2 : Inv X pins σ H1 { s1 with heap := h' } := I1.kept (t' := s1.toks) hk
      exact ⟨s1.heap.objs.size + 1, [s1.heap.objs.size + 1, s1.heap.objs.size], _, _, H1, rfl, I2, turn_enumT a (s1.heap.objs.size + 1) s1.heap.objs.size, ⟨⟨.none, he⟩, hit, Nat.succ_ne_self _, Nat.ne_of_lt (Nat.lt_succ_of_lt hlt), Nat.ne_of_lt hlt⟩, fun b hb => fin b hb, q⟩
/-! ### what is never reached -/
def tNev : TE := fun _ _ _ => False
theorem pe_never {X : Cx} {e : Expr} : PE X e tNev := ⟨fun _ _ _ _ _ _ h => h.elim⟩
def iNev : TI := fun _ _ _ => False
theorem pi_never {X : Cx} {tg e : Expr} : PI X tg e iNev := ⟨fun _ _ _ _ _ _ h => h.elim⟩
def gNev : TG := fun _ _ _ _ => False
theorem pg_never {X : Cx} {e : Expr} : PG X e gNev := ⟨fun _ _ _ _ _ _ _ _ _ h => h.elim⟩
def tNevT : TT := fun _ _ _ => False
theorem pts_never {X : Cx} {es : List Expr} : PTs X es tNevT := ⟨fun _ _ _ _ _ _ h => h.elim⟩
def sNev : TS := fun _ _ _ => False
theorem pss_never {X : Cx} {ss : List Stmt} : PSs X ss sNev := ⟨fun _ _ _ _ _ _ h => h.elim⟩
end Tp

set_option Elab.async false
set_option linter.all false
set_option maxRecDepth 100000
set_option maxHeartbeats 4000000
namespace Tp
open PySem PySem.Spec PyProof.Rows L2
/-! ### an own exception as a value -/
def tExV (C : Addr) (f : Str) (te : TE) : TE := fun σ H Q => te σ H fun v H1 => ∀ a d, H1 a = none → H1 d = none → d ≠ a → Q (.ref a) (upd (upd H1 d (exd d [(f, v)])) a (exo a C (some d)))
theorem exv_heap {H1 : Hp} {a dx C : Addr} {f : Str} {v : V} (ne : dx ≠ a) : upd (upd (upd H1 a (exo a C none)) dx (exd dx [(f, v)])) a (exo a C (some dx)) = upd (upd H1 dx (exd dx [(f, v)])) a (exo a C (some dx)) := by
  funext b
  by_cases h1 : b = a
  · rw [h1, upd_same, upd_same]
  · rw [upd_ne h1, upd_ne h1]
    by_cases h2 : b = dx
    · rw [h2, upd_same, upd_same]
    · rw [upd_ne h2, upd_ne h2, upd_ne h1]
section
variable {X : Cx} {x f : Str} {C fI : Addr} {fd : FuncData} {e : Expr} {te : TE} {p pos : Pos}
theorem pe_exv {k : Nat} (T : ExT X.prog X.w X.K X.mg X.base C fI fd f) (hr : Room (k + 2) X.A) (hg : Gl X x) (hm : X.mg x = some (.ref C)) (he : PE X e te)
    (hdb : (x == ("__debug__" : Str)) = false := by decide) (hs : starEach (e :: []) X.env = (false, eval e X.env) :: starEach [] X.env := by rfl) (hpl : (backTo pos (starEach [] X.env)).any (·.1) = false := by rfl) :
    PE X (.Call (.Name x p) [e] [] pos) (tExV C f te) := by
  refine ⟨fun pins s σ H Q I h => ?_⟩
  obtain ⟨nm, q, N, bs, bm, sn, sub, ab, col, dd, k0, k1, k2, k3, k5, hC, hbm⟩ := T.ox.cls
  refine wpAny_Call_Name_kw (ld_glob I hg hm ?_ hdb)
  have h2 : tMono te σ H (fun vs H1 => ∃ v, vs = [v] ∧ ∀ a d, H1 a = none → H1 d = none → d ≠ a → Q (.ref a) (upd (upd H1 d (exd d [(f, v)])) a (exo a C (some d)))) := ⟨_, h, fun v H1 q => ⟨v, rfl, q⟩⟩
  refine PySem.W.callWith_K (h₀ := X.base) I.ok.mod.kin T.ox.kC (thn ((pa_mono he hs).run pos pins s σ H _ I h2) fun us s1 ⟨vs, H1, I1, r1, v, ev, q1⟩ => ⟨I1.kIn, ?_⟩) hs hpl
  subst ev
  show wpAny _ _ (call (.ref C) us) _ _ _
  obtain ⟨hp, g, dr, tk, os⟩ := s1
  have hsz : hp.objs.size ≤ hp.objs.size + 1 := Nat.le_succ _
  have hn : H1 (hp.objs.size + 1) = none := I1.hok.fresh hsz
  have kk : ∀ b o, hp.get? b = some o → ((hp.push (PySem.W.kdv_tup us)).push (PySem.HandSPX.excO C hp.objs.size)).get? b = some o := fun b o e => Heap.get?_push_of_some _ (Heap.get?_push_of_some _ e)
  have hget : ((hp.push (PySem.W.kdv_tup us)).push (PySem.HandSPX.excO C hp.objs.size)).get? (hp.objs.size + 1) = some (PySem.HandSPX.excO C hp.objs.size) := by heap_get
  have I2 : Inv X pins σ (upd H1 (hp.objs.size + 1) (exo (hp.objs.size + 1) C none)) ⟨(hp.push (PySem.W.kdv_tup us)).push (PySem.HandSPX.excO C hp.objs.size), g, dr, tk, os⟩ :=
    I1.laid (t' := tk) (a := hp.objs.size + 1) (o := exo (hp.objs.size + 1) C none) (h' := (hp.push (PySem.W.kdv_tup us)).push (PySem.HandSPX.excO C hp.objs.size)) kk hsz (exo_ok hget)
  have r2 : Vals (V.ref (hp.objs.size + 1) :: ([v] ++ [])) (Value.ref (hp.objs.size + 1) :: (us ++ [])) := .cons rfl (r1.append .nil)
  have hq : spXI C f (V.ref (hp.objs.size + 1) :: ([v] ++ [])) (upd H1 (hp.objs.size + 1) (exo (hp.objs.size + 1) C none)) (fun v' H2 => v' = .non ∧ Q (.ref (hp.objs.size + 1)) H2) (fun _ _ _ => False) := by
    refine ⟨_, v, rfl, upd_same, fun dx hd ne => ⟨rfl, ?_⟩⟩
    rw [exv_heap ne]
    rw [upd_ne ne] at hd
    exact q1 _ dx hn hd ne
  have hl : (Value.ref (hp.objs.size + 1) :: us ++ []).length = (["self", f] : List Str).length := by
    have e := r2.length
    rw [T.ok.len _ _ _ _ hq] at e
    exact e.symm
  have hbn := T.bn _ (Value.ref (hp.objs.size + 1) :: us) I2.kIn hl
  rw [List.cons_append] at hbn
  have hus : us.length ≤ sizeLine := by
    rw [← Paired.length r1, sizeLine_eq]
    show 1 ≤ _
    omega
  refine wpAny_call (PySem.HandSPX.call_own F.excBase_ValueError (fun Y => PySem.HandSPX.refsVE_contains Y bm hbm) (I1.kIn _ _ hC) (PySem.W.looks_findIn I1.kIn T.iC) (fun self => PySem.W.bind_fn I1.kIn self T.tI) hus
    (codeAny_mono (T.ok.run _ X.stack _ _ ⟨Value.ref (hp.objs.size + 1) :: us, []⟩ (Value.ref (hp.objs.size + 1) :: (us ++ [])) _ _ (fun _ _ _ => False) ((hr.mono (j := 2) (by omega)).make C us []) (I2.env0.make C us []) hbn r2 hq) fun r s' hq' => ?_))
  cases r with
  | error er => exact False.elim hq'
  | ok fl =>
    cases fl with
    | ret u =>
      obtain ⟨v', H', I3, rv, ev, q3⟩ := I2.after hq'
      subst ev
      exact ⟨rv, ⟨V.ref (hp.objs.size + 1), H', I3, rfl, q3⟩⟩
    | next => exact False.elim hq'
    | brk => exact False.elim hq'
    | cont => exact False.elim hq'
end
/-! ### the type of a value, exceptions too -/
inductive TyA (K : PySem.W.Frag) (H : Hp) : V → Value → Prop
  | x {v : V} {t : Value} (h : TyX K H v t) : TyA K H v t
  | exc {a D dd : Addr} {fs : List (Str × V)} (e : H a = some (exo a D (some dd))) (ed : H dd = some (exd dd fs)) (C : ExcC K D) : TyA K H (.ref a) (.ref D)
theorem TyA.same {K : PySem.W.Frag} {H H' : Hp} (S : Same H H') {v : V} {t : Value} (h : TyA K H v t) : TyA K H' v t := by
  cases h with
  | x h => exact .x (ty_same S h)
  | exc e ed C => exact .exc (S _ _ e) (S _ _ ed) C
theorem kitA_of {X : Cx} {pins : List (Addr × Obj)} {σ : L2.St} {H : Hp} {s : Shared} {x : V} {u t : Value} (I : Inv X pins σ H s) (rx : RelV x u) (ty : TyA X.K H x t) : ∃ P : Heap → Prop, PySem.W.KitX X.K u t P ∧ P s.heap ∧ u ≠ .builtin "__main__.__loader__#opaque" := by
  cases ty with
  | x h => exact kit_of I rx h
  | @exc a D dd fs e ed C =>
    cases rx
    obtain ⟨t1, he⟩ := exo_at I.hok e
    obtain ⟨mA, hns, hr⟩ := exd_at I.hok ed
    obtain ⟨od, ho, hl⟩ := lookIn_ns hns
    refine ⟨_, kitx_excD (x := a) (ox := _) (od := some od) C, ⟨he, rfl, rfl, ho⟩, fun z => nomatch z⟩
def rIsA (K : PySem.W.Frag) : List V → Hp → VK → Prop := fun xs H Q => ∃ (x c : V) (t u : Value) (b : Bool), xs = [x, c] ∧ ClsV c u ∧ TyA K H x t ∧ PySem.W.kitOne K t u = some b ∧ Q (.bl b) H
theorem call_isA {X : Cx} {K : PySem.W.Frag} (hK : X.K = K) : CallR X (.builtin "isinstance") (rIsA K) := by
  subst hK
  intro pins s σ H xs us Q I r h
  obtain ⟨x, c, t, u, b, rfl, k, ty, e, q⟩ := h
  obtain ⟨u1, u2, rfl, r1, r2⟩ := vals2 r
  have e2 := k.eq r2
  subst e2
  obtain ⟨P, Z, p, hx⟩ := kitA_of I r1 ty
  exact PySem.W.kia_one Z I.kIn p e hx fun tk => ⟨.bl b, H, I.tok tk, rfl, q⟩
theorem ty_sqL {K : PySem.W.Frag} {H : Hp} {a : Addr} {xs : List V} (h : SqL K H a xs) : TyX K H (.ref a) (.type "list") := by
  rcases h with (h | ⟨o, h⟩) | ⟨o, its, n, e, c, _⟩
  · exact .base (.lst h)
  · exact .base (.frz h)
  · exact .kList e c
theorem ty_sqT {K : PySem.W.Frag} {H : Hp} {a : Addr} {xs : List V} (h : SqT K H a xs) : TyX K H (.ref a) (.type "tuple") := by
  rcases h with (h | ⟨o, h⟩) | ⟨o, its, n, e, c, _⟩
  · exact .base (.tup h)
  · exact .fTuple h
  · exact .kTuple e c
end Tp

set_option Elab.async false
set_option linter.all false
set_option maxRecDepth 100000
set_option maxHeartbeats 4000000
namespace Tp
open PySem PySem.Spec PyProof.Rows L2
/-! ### data by their kinds -/
def tyD : PyData → Value
  | .none => .type "NoneType"
  | .bool _ => .type "bool"
  | .int _ => .type "int"
  | .str _ => .type "str"
  | .list _ => .type "list"
  | .tuple _ => .type "tuple"
  | .dict _ => .type "dict"
theorem dq_ty {K : PySem.W.Frag} {H : Hp} {v : V} {d : PyData} (h : Dq K H v d) : TyX K H v (tyD d) := by
  cases h with
  | non => exact .base .non
  | bl b => exact .base (.bl b)
  | int i => exact .base (.int i)
  | str x => exact .base (.str x)
  | lst s _ => exact ty_sqL s
  | tup s _ => exact ty_sqT s
  | dic r _ _ =>
    rcases r with r | ⟨o, r⟩
    · exact .base (.dK r)
    · exact .fDict r
def isLT : PyData → Bool
  | .list _ => true
  | .tuple _ => true
  | _ => false
def isS : PyData → Bool
  | .str _ => true
  | _ => false
def isI : PyData → Bool
  | .int _ => true
  | .bool _ => true
  | _ => false
def isB : PyData → Bool
  | .bool _ => true
  | _ => false
def isDc : PyData → Bool
  | .dict _ => true
  | _ => false
section
variable {K : PySem.W.Frag} (d : PyData)
theorem kit_str : PySem.W.kitOne K (tyD d) (.type "str") = some (isS d) := by
  cases d <;> (refine kit_ty ?_; first | (show _ = some true; decide +kernel) | (show _ = some false; decide +kernel))
theorem kit_int : PySem.W.kitOne K (tyD d) (.type "int") = some (isI d) := by
  cases d <;> (refine kit_ty ?_; first | (show _ = some true; decide +kernel) | (show _ = some false; decide +kernel))
theorem kit_bool : PySem.W.kitOne K (tyD d) (.type "bool") = some (isB d) := by
  cases d <;> (refine kit_ty ?_; first | (show _ = some true; decide +kernel) | (show _ = some false; decide +kernel))
theorem kit_dict : PySem.W.kitOne K (tyD d) (.type "dict") = some (isDc d) := by
  cases d <;> (refine kit_ty ?_; first | (show _ = some true; decide +kernel) | (show _ = some false; decide +kernel))
theorem kit_list : PySem.W.kitOne K (tyD d) (.type "list") = some (match d with | .list _ => true | _ => false) := by
  cases d <;> (refine kit_ty ?_; first | (show _ = some true; decide +kernel) | (show _ = some false; decide +kernel))
theorem kit_tuple : PySem.W.kitOne K (tyD d) (.type "tuple") = some (match d with | .tuple _ => true | _ => false) := by
  cases d <;> (refine kit_ty ?_; first | (show _ = some true; decide +kernel) | (show _ = some false; decide +kernel))
theorem kit_lt : PySem.W.kitAny K (tyD d) [.type "list", .type "tuple"] = some (isLT d) := by
  have h1 := kit_list (K := K) d
  have h2 := kit_tuple (K := K) d
  unfold PySem.W.kitAny
  rw [h1]
  cases d with
  | list _ => rfl
  | tuple _ => show PySem.W.kitAny K _ [.type "tuple"] = _; unfold PySem.W.kitAny; rw [h2]; rfl
  | _ => show PySem.W.kitAny K _ [.type "tuple"] = _; unfold PySem.W.kitAny; rw [h2]; show PySem.W.kitAny K _ [] = _; unfold PySem.W.kitAny; rfl
end
theorem cls_lt : Paired ClsV [.ty "list", .ty "tuple"] [.type "list", .type "tuple"] := .cons (.ty _) (.cons (.ty _) .nil)
/-! ### sequences of data -/
theorem dqAll_len {K : PySem.W.Frag} {H : Hp} : ∀ {vs : List V} {ds : List PyData}, DqAll K H vs ds → vs.length = ds.length
  | _, _, .nil => rfl
  | _, _, .cons _ t => congrArg Nat.succ (dqAll_len t)
theorem dqAll_get {K : PySem.W.Frag} {H : Hp} : ∀ {vs : List V} {ds : List PyData}, DqAll K H vs ds → ∀ {i : Nat} {v : V}, vs[i]? = some v → ∃ d, ds[i]? = some d ∧ Dq K H v d
  | _, _, .cons a t, 0, v, h => ⟨_, rfl, by cases h; exact a⟩
  | _, _, .cons a t, i + 1, v, h => dqAll_get t h
theorem dqAll_get' {K : PySem.W.Frag} {H : Hp} : ∀ {vs : List V} {ds : List PyData}, DqAll K H vs ds → ∀ {i : Nat} {d : PyData}, ds[i]? = some d → ∃ v, vs[i]? = some v ∧ Dq K H v d
  | _, _, .cons a t, 0, v, h => ⟨_, rfl, by cases h; exact a⟩
  | _, _, .cons a t, i + 1, v, h => dqAll_get' t h
def itemsD : PyData → List PyData
  | .list xs => xs
  | .tuple xs => xs
  | _ => []
def isTup : PyData → Bool
  | .tuple _ => true
  | _ => false
theorem dq_seq {K : PySem.W.Frag} {H : Hp} {v : V} {d : PyData} (h : Dq K H v d) (l : isLT d = true) : ∃ a xs, v = .ref a ∧ SqB (isTup d) K H a xs ∧ DqAll K H xs (itemsD d) := by
  cases h with
  | lst s r => exact ⟨_, _, rfl, s, r⟩
  | tup s r => exact ⟨_, _, rfl, s, r⟩
  | _ => cases l
theorem dqAll_app {K : PySem.W.Frag} {H : Hp} : ∀ {vs ws : List V} {ds es : List PyData}, DqAll K H vs ds → DqAll K H ws es → DqAll K H (vs ++ ws) (ds ++ es)
  | _, _, _, _, .nil, h => h
  | _, _, _, _, .cons a t, h => .cons a (dqAll_app t h)
theorem dp_dq {K : PySem.W.Frag} {H : Hp} : (∀ {v : V} {d : PyData}, Dp K H v d → Dq K H v d) ∧ (∀ {vs : List V} {ds : List PyData}, DpAll K H vs ds → DqAll K H vs ds) := by
  constructor
  · intro v d h
    exact Dp.rec (motive_1 := fun v d _ => Dq K H v d) (motive_2 := fun vs ds _ => DqAll K H vs ds) .non .bl .int .str (fun s _ ih => .lst s ih) (fun s _ ih => .tup s ih) .nil (fun _ _ a b => .cons a b) h
  · intro vs ds h
    exact DpAll.rec (motive_1 := fun v d _ => Dq K H v d) (motive_2 := fun vs ds _ => DqAll K H vs ds) .non .bl .int .str (fun s _ ih => .lst s ih) (fun s _ ih => .tup s ih) .nil (fun _ _ a b => .cons a b) h
theorem sqB_len {b : Bool} {K : PySem.W.Frag} {H : Hp} {a : Addr} {xs : List V} (h : SqB b K H a xs) : SqL K H a xs ∨ SqT K H a xs := by
  cases b with
  | true => exact .inr h
  | false => exact .inl h
/-! ### how long a repr is, dicts too -/
def FitQ (n w : Nat) (d : PyData) : Prop := d.showable = true ∧ d.depth ≤ n ∧ d.shown.length ≤ w
theorem FitQ.up {n w m v : Nat} {d : PyData} (h : FitQ n w d) (h1 : n ≤ m) (h2 : w ≤ v) : FitQ m v d := ⟨h.1, Nat.le_trans h.2.1 h1, Nat.le_trans h.2.2 h2⟩
theorem fitq_of {n : Nat} {d : PyData} (h : Fit n d) : FitQ n (wt d) d := let ⟨a, _, b, c⟩ := fit_ok n d h; ⟨a, b, c⟩
theorem fitq_int {n : Nat} {i : Int} (h : i.natAbs < 10 ^ 40) : FitQ n 50 (.int i) := by
  have := fitq_of (n := n) (d := .int i) (.int h)
  simpa [wt] using this
theorem fitq_str {n m : Nat} {z : Str} (h : Sm m z) : FitQ n (10 * m + 2) (.str z) := by
  have := fitq_of (n := n) (d := .str z) (h.fit)
  refine this.up (Nat.le_refl _) ?_
  simp only [wt]
  have := h.1
  omega
theorem fitq_bool {n : Nat} (b : Bool) : FitQ n 5 (.bool b) := by
  have := fitq_of (n := n) (d := .bool b) (.bl b)
  simpa [wt] using this
theorem fitq_none {n : Nat} : FitQ n 4 .none := by
  have := fitq_of (n := n) (d := .none) .non
  simpa [wt] using this
theorem fitq_all {n w : Nat} : ∀ xs : List PyData, (∀ x ∈ xs, FitQ n w x) → PyData.showableAll xs = true ∧ PyData.depthAll xs ≤ n ∧ ((PyData.shownAll xs).map (·.length)).sum + 2 * (PyData.shownAll xs).length ≤ xs.length * (w + 2)
  | [], _ => ⟨by simp only [PyData.showableAll], by simp only [PyData.depthAll]; omega, by simp [PyData.shownAll]⟩
  | x :: xs, h => by
    obtain ⟨a1, a3, a4⟩ := h x (List.mem_cons_self ..)
    obtain ⟨b1, b3, b4⟩ := fitq_all xs fun y hy => h y (List.mem_cons_of_mem _ hy)
    refine ⟨by simp only [PyData.showableAll, a1, b1, Bool.and_self], by simp only [PyData.depthAll]; omega, ?_⟩
    simp only [PyData.shownAll, List.map_cons, List.sum_cons, List.length_cons]
    rw [Nat.add_mul xs.length 1 (w + 2), Nat.one_mul]
    omega
theorem fitq_list {n w : Nat} {xs : List PyData} (h : ∀ x ∈ xs, FitQ n w x) : FitQ (n + 1) (xs.length * (w + 2) + 3) (.list xs) := by
  obtain ⟨b1, b3, b4⟩ := fitq_all xs h
  refine ⟨by simp only [PyData.showable, b1], by simp only [PyData.depth]; omega, ?_⟩
  simp only [PyData.shown]
  exact Nat.le_trans (listText_len_le _) (by omega)
theorem fitq_tuple {n w : Nat} {xs : List PyData} (h : ∀ x ∈ xs, FitQ n w x) : FitQ (n + 1) (xs.length * (w + 2) + 3) (.tuple xs) := by
  obtain ⟨b1, b3, b4⟩ := fitq_all xs h
  refine ⟨by simp only [PyData.showable, b1], by simp only [PyData.depth]; omega, ?_⟩
  simp only [PyData.shown]
  exact Nat.le_trans (tupleText_len_le _) (by omega)
/-- what repr asks -/
theorem FitQ.ok {n w : Nat} {d : PyData} (h : FitQ n w d) (hn : n ≤ 60) (hw : w ≤ 16000000) : d.showable = true ∧ d.depth ≤ 60 ∧ d.shown.length ≤ sizeLine := ⟨h.1, Nat.le_trans h.2.1 hn, Nat.le_trans h.2.2 (Nat.le_trans hw (by decide))⟩
end Tp

set_option Elab.async false
set_option linter.all false
set_option maxRecDepth 100000
set_option maxHeartbeats 4000000
namespace Tp
open PySem PySem.Spec PyProof.Rows L2
/-! ### unpacking a list or a tuple -/
def gSeqB (K : PySem.W.Frag) (n : Nat) (t : TGs) : TG := fun v σ H Q => ∃ (b : Bool) (a : Addr) (xs : List V), v = .ref a ∧ SqB b K H a xs ∧ xs.length = n ∧ t xs σ H Q
section
variable {X : Cx} {K : PySem.W.Frag} {es : List Expr} {k : Nat} {t : TGs} {n : Nat} {pos : Pos}
theorem pg_B (hK : X.K = K) (hc : X.calm = true) (h : PGs X es t) (hn : (assignEach es X.env).length = n := by rfl) (hst : (assignEach es X.env).findIdx? (·.1) = none := by rfl) : PG X (.Tuple es k pos) (gSeqB K n t) := by
  subst hK
  refine ⟨fun pins s σ H v u Q I r hw => ?_⟩
  obtain ⟨b, a, xs, e1, hq, hl, hw⟩ := hw
  cases b with
  | true => exact (pg_tup hc h hn hst).run pins s σ H v u Q I r ⟨a, xs, e1, hq, hl, hw⟩
  | false => exact (pg_unl hc h hn hst).run pins s σ H v u Q I r ⟨a, xs, e1, hq, hl, hw⟩
end
/-! ### plain defs called by keywords alone -/
section
variable {X : Cx} {CX : CXT} {k : Nat} {f : Addr} {fd : FuncData} {ps ks : List Str} {sp : Sp} {E : XK} {x : Str} {p pos : Pos} {tk : TA} {kws : List Keyword} {g : List Value → List Value → List Value} {gV : List V → List V → List V}
theorem pe_callFN0 (F : FnOk X.prog X.w X.K X.mg X.base CX k f fd ps sp) (hr : Room k X.A) (hg : Gl X x) (hm : X.mg x = some (.ref f)) (hk : PySem.W.keepIn X.K (.ref f) = true)
    (hb : KBn X.K fd ps 0 ks g gV) (hx : Passes CX X E) (hkw : PK X kws tk)
    (hall : (backToKw pos (keywordEach kws X.env)).all (·.1.isSome) = true := by rfl) (hks : (backToKw pos (keywordEach kws X.env)).filterMap (·.1) = ks := by rfl)
    (hdb : (x == ("__debug__" : Str)) = false := by decide)
    (hpl : ((backTo pos (starEach [] X.env)).any (·.1) || (backToKw pos (keywordEach kws X.env)).any (·.1.isNone)) = false := by rfl) :
    PE X (.Call (.Name x p) [] kws pos) (tCallN0 ks.length sp gV E tk) :=
  ⟨fun pins s σ H Q I h => wpAny_Call_Name_kw (ld_glob I hg hm (PySem.W.callWith_KW0 (h₀ := X.base) I.ok.mod.kin hk hall
    (thn (hkw.run pos pins s σ H _ I h) fun ws s2 ⟨zs, H2, I2, rz, l2, q2⟩ => ⟨I2.kIn, by
      rw [hks]
      exact run_fnN (us := []) (vs := []) F hr hb hx I2 .nil rz rfl l2 q2⟩) hpl) hdb)⟩
end
theorem kbP {K : PySem.W.Frag} {x qual : Str} {st : Stmt} {f : Addr} {fd : FuncData} {ps : List Str} (F : Fun K x qual st f fd) (ks : List Str) (g : {α : Type} → List α → List α) (hrel : ∀ {zs : List V} {ws : List Value}, Vals zs ws → Vals (g zs) (g ws))
    (h : ∀ (kV doc pm : Value) (an : Option Addr) (cdv ct : Value) (ws : List Value), ws.length = ks.length → bindArgs (PySem.W.fnOf x qual (defArgs st) (defBody st) (defScope st) .none kV doc pm an cdv ct) ⟨[], ks.zip ws⟩ = pure (ps.zip (g ws))) :
    KBn K fd ps 0 ks (fun _ ws => g ws) (fun _ zs => g zs) := by
  obtain ⟨oc, od, kV, doc, pm, an, cdv, ct, osl, rfl, lk, hcd⟩ := F.ex
  refine ⟨fun s us ws X l1 l2 => ?_, fun _ r2 => hrel r2⟩
  have : us = [] := List.eq_nil_of_length_eq_zero l1
  subst this
  exact .of_eq (h kV doc pm an cdv ct ws l2)
/-! ### o.f as one of several targets -/
section
variable {M : Model} {A : Around} {E : Value → Shared → Prop} {s : Shared} {env : Env}
theorem wpAny_assign_Attr {o : Expr} {attr : Str} {pos : Pos} {v : Value} {Q : Unit → Shared → Prop} (h : wpAny M A (eval o env) (fun ov s₂ => wpAny M A (setAttr ov attr v) (fun _ => Q ()) E s₂) E s) :
    wpAny M A (assign (.Attribute o attr pos) env v) Q E s := fun Γ p hΓ => by
  simp only [assign_Attribute, Sem.wp_bind', Sem.wp_holding, Sem.wp_cmd_standAt, Sem.wp_release, Sem.wp_pure']
  exact Sem.wp_mono M Γ _ (fun ov _ s₂ h₂ => h₂ Γ _ hΓ) (fun _ _ _ h' => h') _ _ (h Γ _ hΓ)
end
def gFld (K : PySem.W.Frag) (f : Str) (to : TE) : TG := fun v σ H Q => to σ H fun x H1 => ∃ a C dx fs, x = .ref a ∧ H1 a = some (.ins C dx fs) ∧ Cls K C ∧ NoAttr K C f ∧ fs.length < 1000 ∧ Q σ (upd H1 a (.ins C dx (putF f v fs)))
theorem pg_fld {X : Cx} {o : Expr} {f : Str} {to : TE} {pos : Pos} (ho : PE X o to) : PG X (.Attribute o f pos) (gFld X.K f to) := by
  refine ⟨fun pins s σ H v u Q I r hw => ?_⟩
  refine wpAny_assign_Attr (thn (ho.run pins s σ H _ I hw) fun ov s1 ⟨x, H1, I1, rx, a, C, dx, fs, ex, ea, c, n, l, q⟩ => ?_)
  subst ex
  obtain rfl : ov = Value.ref a := rx
  exact setattr_ok I1 ea c n l r fun s3 I3 => ⟨σ, _, I3, q⟩
/-! ### y = {k: v for ..}, y a local name -/
section
variable {X : Cx}
theorem ps_setDc {i : Nat} {y : Str} {py : Pos} {kx vx tg iter : Expr} {ifs : List Expr} {scope : Scope} {own : List (Str × Nat)} {pos spos : Pos} {wi : TI} {g : TG} {tt : TT} {tk tv : TE} (hc : X.calm = true) (hN : X.N.Nodup) (hy : X.N[i]? = some y) (hyl : X.env.scope.names.lookup y = some .local)
    (hsw : swapsWith (.DictComp kx vx [⟨tg, iter, ifs, 0⟩] scope pos) (some (.Name y py)) spos.line X.env = pure true) (hi : PI X tg iter wi) (ok : BlkOk X.N X.env.scope scope own)
    (hg : ∀ (s : Shared) (H : Hp) (C : Addr) (cl : List (Str × Addr)) (fp : List Addr), PG (X.blk s H scope (compEnvC scope cl C X.env) fp) tg g) (ht : ∀ (s : Shared) (H : Hp) (C : Addr) (cl : List (Str × Addr)) (fp : List Addr), PTs (X.blk s H scope (compEnvC scope cl C X.env) fp) ifs tt)
    (hk : ∀ (s : Shared) (H : Hp) (C : Addr) (cl : List (Str × Addr)) (fp : List Addr), PE (X.blk s H scope (compEnvC scope cl C X.env) fp) kx tk)
    (he : ∀ (s : Shared) (H : Hp) (C : Addr) (cl : List (Str × Addr)) (fp : List Addr), PE (X.blk s H scope (compEnvC scope cl C X.env) fp) vx tv) (hs : ∀ x, foldedSetIterable iter X.env x = pure x := by intro _; rfl) :
    PS X (.Assign [.Name y py] (.DictComp kx vx [⟨tg, iter, ifs, 0⟩] scope pos) spos) (tAsg (tDc wi g tt tk tv (own.map (·.2))) (gName i)) := by
  refine ⟨fun pins s σ H D I h => ?_⟩
  rw [exec_Assign_Name_used _ _ _ _ hsw]
  refine wpAny_bind (wpAny_standAt (wpAny_bind ?_))
  show wpAny _ X.A (do let _ ← comprehension (.DictComp kx vx [⟨tg, iter, ifs, 0⟩] scope pos) scope X.env (firstIterPos [⟨tg, iter, ifs, 0⟩] pos) newDict false (eval iter X.env) (some (assign (.Name y py) X.env))) _ _ s
  have h : tDc wi g tt tk tv (own.map (·.2)) σ H (fun x H1 => gName i x σ H1 D.nx) := h
  refine wpAny_bind (thn (dc_core (Qf := fun _ s' => SP X pins D .next s') hc hN I hi ok hg ht hk he hs h fun L C s' m H' I' q hn f => ?_) fun _ s' hq => wpAny_pure (wpAny_pure hq))
  show wpAny _ _ (assign (.Name y py) X.env (.ref L)) _ _ _
  refine wpAny_assign_Name (store_ok2 (v := V.ref L) I' hN hy (.inl hyl) rfl (fun s2 I2 ⟨a, sb, ha⟩ => ?_) (.inr hyl))
  obtain ⟨f0, f1, f2, f3, f4, f5⟩ := f
  have haC : C ≠ a := by
    rcases ha with z | z
    · rw [z]; exact f1
    · exact fun e => f4 y a z e.symm
  refine ⟨m, hn.sameBut sb haC, fun h3 sb3 => ?_⟩
  exact ⟨_, H', I2.turned (t' := s2.toks) (fun b o hb e => (sb3.2 b hb).trans e) f0 f1 f3 f4 f5, q⟩
theorem sw_trueD {kx vx : Expr} {gs : List Comprehension} {scope : Scope} {pos py : Pos} {y : Str} {l : Nat} {env : Env} (hk : env.scope.kind = .function) (hy : env.scope.names.lookup y = some .local) (hl : (py.line == pos.line) = true)
    (ha : (scope.names.any fun (n, k) => n == y && (k == .local || k == .cell)) = false) : swapsWith (.DictComp kx vx gs scope pos) (some (.Name y py)) l env = pure true := by
  have ky : env.kindOf y = some .local := hy
  have hb : env.blockKind = .function := by unfold Env.blockKind; rw [hk]; rfl
  unfold swapsWith
  simp only [hb, ky, ha, Expr.pos, hl]
  rfl
end
end Tp

set_option Elab.async false
set_option linter.all false
set_option maxRecDepth 100000
set_option maxHeartbeats 4000000
namespace Tp
open PySem PySem.Spec PyProof.Rows L2
/-! ### names -/
/-- a name -/
def lowC (c : Nat) : Bool := decide (97 ≤ c) && decide (c ≤ 122)
def digC (c : Nat) : Bool := decide (48 ≤ c) && decide (c ≤ 57)
def nmB (z : Str) : Bool := match z.cps.toList with
  | [] => false
  | c :: cs => decide (cs.length + 1 ≤ 8) && (lowC c && (c :: cs).all fun x => lowC x || digC x)
theorem mem_low (c : Nat) : c ∈ ("abcdefghijklmnopqrstuvwxyz" : Str).cps.toList ↔ lowC c = true := by
  have e : ("abcdefghijklmnopqrstuvwxyz" : Str).cps.toList = [97, 98, 99, 100, 101, 102, 103, 104, 105, 106, 107, 108, 109, 110, 111, 112, 113, 114, 115, 116, 117, 118, 119, 120, 121, 122] := by decide +kernel
  rw [e]
  simp only [List.mem_cons, List.not_mem_nil, or_false, lowC, Bool.and_eq_true, decide_eq_true_eq]
  omega
theorem mem_sign (c : Nat) : c ∈ (("abcdefghijklmnopqrstuvwxyz" : Str) ++ ("0123456789" : Str)).cps.toList ↔ (lowC c || digC c) = true := by
  have e : (("abcdefghijklmnopqrstuvwxyz" : Str) ++ ("0123456789" : Str)).cps.toList = [97, 98, 99, 100, 101, 102, 103, 104, 105, 106, 107, 108, 109, 110, 111, 112, 113, 114, 115, 116, 117, 118, 119, 120, 121, 122, 48, 49, 50, 51, 52, 53, 54, 55, 56, 57] := by decide +kernel
  rw [e]
  simp only [List.mem_cons, List.not_mem_nil, or_false, lowC, digC, Bool.and_eq_true, Bool.or_eq_true, decide_eq_true_eq]
  omega
theorem nm_nil {z : Str} (h : ¬ (0 : Int) < z.length) : nmB z = false := by
  unfold nmB
  have e : z.cps.toList = [] := List.eq_nil_of_length_eq_zero (by rw [len_list]; omega)
  rw [e]
theorem nm_long {z : Str} (h : ¬ (z.length : Int) ≤ 8) : nmB z = false := by
  unfold nmB
  have l := len_list z
  cases e : z.cps.toList with
  | nil => rfl
  | cons c cs =>
    rw [e] at l
    simp only [List.length_cons] at l
    have : decide (cs.length + 1 ≤ 8) = false := decide_eq_false (by omega)
    show (decide (cs.length + 1 ≤ 8) && _) = false
    rw [this, Bool.false_and]
theorem nm_cons {z : Str} {c : Nat} {cs : List Nat} (e : z.cps.toList = c :: cs) (h : (z.length : Int) ≤ 8) : nmB z = (lowC c && (c :: cs).all fun x => lowC x || digC x) := by
  unfold nmB
  have l := len_list z
  rw [e] at l ⊢
  simp only [List.length_cons] at l
  have : decide (cs.length + 1 ≤ 8) = true := decide_eq_true (by omega)
  show (decide (cs.length + 1 ≤ 8) && _) = _
  rw [this, Bool.true_and]
theorem nm_len {n : Str} (h : nmB n = true) : n.length ≤ 8 := by
  refine Classical.byContradiction fun k => ?_
  rw [nm_long (by omega)] at h
  cases h
theorem nm_sm {n : Str} (h : nmB n = true) : Sm 8 n := by
  refine ⟨nm_len h, fun c hc => ?_⟩
  unfold nmB at h
  cases e : n.cps.toList with
  | nil => rw [e] at hc; cases hc
  | cons x xs =>
    rw [e] at h hc
    have h := (Bool.and_eq_true_iff.mp (Bool.and_eq_true_iff.mp (show (decide (xs.length + 1 ≤ 8) && (lowC x && (x :: xs).all fun y => lowC y || digC y)) = true from h)).2).2
    have := List.all_eq_true.mp h c hc
    simp only [lowC, digC, Bool.or_eq_true, Bool.and_eq_true, decide_eq_true_eq] at this
    omega
def nmD : PyData → Bool
  | .str z => nmB z
  | _ => false
def NoS (K : PySem.W.Frag) (H : Hp) (v : V) : Prop := ∃ t, TyA K H v t ∧ PySem.W.kitOne K t (.type "str") = some false
def NameIs (K : PySem.W.Frag) (H : Hp) (v : V) (b : Bool) : Prop := (∃ z : Str, v = .str z ∧ z.length ≤ 10000 ∧ b = nmB z) ∨ (NoS K H v ∧ b = false)
def spName (K : PySem.W.Frag) : Sp := fun vs H Q _ => ∃ (v : V) (b : Bool), vs = [v] ∧ NameIs K H v b ∧ Q (.bl b) H
/-- what is_name says of data -/
theorem name_dq {K : PySem.W.Frag} {H : Hp} {v : V} {d : PyData} (h : Dq K H v d) (l : ∀ z, d = .str z → z.length ≤ 10000) : NameIs K H v (nmD d) := by
  cases e : isS d with
  | true =>
    cases h with
    | str z => exact .inl ⟨z, rfl, l z rfl, rfl⟩
    | _ => cases e
  | false =>
    refine .inr ⟨⟨_, .x (dq_ty h), by rw [kit_str, e]⟩, ?_⟩
    cases d <;> first | rfl | cases e
end Tp

set_option Elab.async false
set_option linter.all false
set_option maxRecDepth 100000
set_option maxHeartbeats 2000000
/-! the head of a larger program: one kernel run of the top (HandS.Head0-2), its facts read by a Hook: defs by DefD, all else by a list of Bools -/
namespace Tp
open PySem PySem.Spec PyProof.Rows L2 He
def obsK (fn : List DefD) (ex : List (PySem.W.Frag → Bool)) (K : PySem.W.Frag) : AlD := ((ex.all fun f => f K) && fn.all fun d => d.ok K, fn.map fun d => fnW K d.at_)
def SaysB (fn : List DefD) (ex : List (PySem.W.Frag → Bool)) (K : PySem.W.Frag) : Prop := obsK fn ex K = valD fn
/-! a part of the heap, by names: the classes, what stands over them, the defs, their codes and defaults; each list made whole before it is used -/
def frL {α : Type} : List Addr → (List Addr → α) → α
  | [], k => k []
  | a :: r, k => HandSHeadRun.frNat a fun a => frL r fun r => k (a :: r)
theorem frL_eq {α : Type} : ∀ (l : List Addr) (k : List Addr → α), frL l k = k l
  | [], _ => rfl
  | a :: r, k => by
    show HandSHeadRun.frNat a (fun a => frL r fun r => k (a :: r)) = _
    rw [HandSHeadRun.frNat_eq, frL_eq r]
def frF {α : Type} (g : Addr → Option Obj) : List Addr → (PySem.W.Frag → α) → α
  | [], k => k []
  | a :: r, k => match g a with
    | some ⟨c, d, dt, sl⟩ => HandSHeadRun.frNat a fun a => frF g r fun K => k ((a, ⟨c, d, dt, sl⟩) :: K)
    | none => frF g r k
theorem frF_eq {α : Type} (g : Addr → Option Obj) : ∀ (l : List Addr) (k : PySem.W.Frag → α), frF g l k = k (frG g l)
  | [], _ => rfl
  | a :: r, k => by
    unfold frF frG
    cases e : g a with
    | none =>
      rw [List.filterMap_cons, e]
      exact frF_eq g r k
    | some o =>
      rw [List.filterMap_cons, e]
      show HandSHeadRun.frNat a (fun a => frF g r fun K => k ((a, o) :: K)) = _
      rw [HandSHeadRun.frNat_eq, frF_eq g r] <;> rfl
def upG (g : Addr → Option Obj) (a : Addr) : List Addr := match g a with
  | some ⟨_, _, .cls cd, _⟩ => cd.ns :: cd.mro.flatMap refV
  | _ => []
def outG (g : Addr → Option Obj) (a : Addr) : List Addr := match g a with
  | some o => refsD o
  | none => []
def withAs {α : Type} (g : Addr → Option Obj) (cs : List Str) (ds : List (Str × Option Str)) (k : List Addr → α) : α :=
  frF g [mainGlobals] fun K0 => frL (cs.map (ga K0)) fun as1 => frL (as1.flatMap (upG g)) fun as2 => frL (as2.flatMap (upG g)) fun as3 => frL (mainGlobals :: cStatics :: (as1 ++ (as2 ++ as3))).eraseDups fun as4 =>
  frF g as4 fun K1 => frL (ds.map (fAd K1)) fun fs => frL (fs.flatMap (outG g)) fun c1 => frL (c1.flatMap (outG g)) fun c2 => frL (as4 ++ (fs ++ (c1 ++ c2))).eraseDups k
theorem withAs_eq {α : Type} {g : Addr → Option Obj} {cs : List Str} {ds : List (Str × Option Str)} (k : List Addr → α) : withAs g cs ds k = k (withAs g cs ds id) := by
  unfold withAs
  simp only [frF_eq, frL_eq, id]
def withK {α : Type} (g : Addr → Option Obj) (cs : List Str) (ds : List (Str × Option Str)) (k : PySem.W.Frag → α) : α := withAs g cs ds fun as => frF g as k
def KK (g : Addr → Option Obj) (cs : List Str) (ds : List (Str × Option Str)) : PySem.W.Frag := frG g (withAs g cs ds id)
theorem withK_eq {α : Type} {g : Addr → Option Obj} {cs : List Str} {ds : List (Str × Option Str)} (k : PySem.W.Frag → α) : withK g cs ds k = k (KK g cs ds) := by
  unfold withK
  rw [withAs_eq, frF_eq] <;> rfl
def obsB (cs : List Str) (fn : List DefD) (ex : List (PySem.W.Frag → Bool)) (g : Addr → Option Obj) : AlD := obsK fn ex (KK g cs (fn.map DefD.at_))
def hookB (cs : List Str) (fn : List DefD) (ex : List (PySem.W.Frag → Bool)) : PySem.W.Hook where
  α := AlD
  obs := fun s => obsB cs fn ex s.heap.get?
  val := fun _ => valD fn
  says := fun _ h => ∃ K : PySem.W.Frag, K.In h ∧ SaysB fn ex K
  of := fun _ _ e => ⟨_, frG_in, e⟩
  keeps := fun _ _ _ ⟨K, hK, c⟩ k => ⟨K, PySem.W.Frag.In.keeps hK k, c⟩
theorem obsB_eq {cs : List Str} {fn : List DefD} {ex : List (PySem.W.Frag → Bool)} {g : Addr → Option Obj} {s : Shared} (h : ∀ a, g a = s.heap.get? a) : obsB cs fn ex g = (hookB cs fn ex).obs s := by
  have e : g = s.heap.get? := funext h
  rw [e] <;> rfl
def AllP {α : Type} (p : α → Prop) : List α → Prop
  | [] => True
  | e :: r => p e ∧ AllP p r
/-- the run, one look at a time -/
theorem run_join {α β : Type} {x : Option PySem.W.SharedT} {A : PySem.W.SharedT → α} {a : α} {B : PySem.W.SharedT → β} {b : β} {cs : List Str} {fn : List DefD} {exs : List (List (PySem.W.Frag → Bool))} (hA : x.map A = some a) (hB : x.map B = some b)
    (hE : AllP (fun e : List (PySem.W.Frag → Bool) => x.map (fun s => withK (HandSHeadRun.getT s) cs (fn.map DefD.at_) fun K => e.all fun f => f K) = some true) exs)
    (hF : x.map (fun s => withK (HandSHeadRun.getT s) cs (fn.map DefD.at_) fun K => fn.all fun d => d.ok K) = some true)
    (hV : x.map (fun s => withK (HandSHeadRun.getT s) cs (fn.map DefD.at_) fun K => fn.map fun d => fnW K d.at_) = some (fn.map DefD.val)) :
    x.map (fun s => (A s, B s, obsB cs fn exs.flatten (HandSHeadRun.getT s))) = some (a, b, valD fn) := by
  simp only [withK_eq] at hE hF hV
  cases x with
  | none => cases hA
  | some s =>
    have e1 : A s = a := Option.some.inj hA
    have e2 : B s = b := Option.some.inj hB
    have e3 : (fn.all fun d => d.ok (KK (HandSHeadRun.getT s) cs (fn.map DefD.at_))) = true := Option.some.inj hF
    have e4 : (fn.map fun d => fnW (KK (HandSHeadRun.getT s) cs (fn.map DefD.at_)) d.at_) = fn.map DefD.val := Option.some.inj hV
    have e5 : ∀ exs : List (List (PySem.W.Frag → Bool)), AllP (fun e : List (PySem.W.Frag → Bool) => (some s).map (fun s => e.all fun f => f (KK (HandSHeadRun.getT s) cs (fn.map DefD.at_))) = some true) exs → (exs.flatten.all fun f => f (KK (HandSHeadRun.getT s) cs (fn.map DefD.at_))) = true := by
      intro exs
      induction exs with
      | nil => intro _; rfl
      | cons e r ih =>
        intro ⟨h1, h2⟩
        rw [List.flatten_cons, List.all_append, ih h2, show (e.all fun f => f (KK (HandSHeadRun.getT s) cs (fn.map DefD.at_))) = true from Option.some.inj h1] <;> rfl
    show some (A s, B s, obsK fn exs.flatten (KK (HandSHeadRun.getT s) cs (fn.map DefD.at_))) = _
    unfold obsK valD
    rw [e1, e2, e3, e4, e5 exs hE] <;> rfl
section
variable {fn : List DefD} {ex : List (PySem.W.Frag → Bool)} {K : PySem.W.Frag}
theorem SaysB.fact (c : SaysB fn ex K) (i : Nat) {f : PySem.W.Frag → Bool} (h : ex[i]? = some f) : f K = true := by
  have c1 := (ba (show ((ex.all fun f => f K) && fn.all fun d => d.ok K) = true from congrArg (fun z : AlD => z.1) c)).1
  exact List.all_eq_true.mp c1 f (List.mem_of_getElem? h)
theorem SaysB.factP {exs : List (List (PySem.W.Frag → Bool))} (c : SaysB fn exs.flatten K) (i j : Nat) {e : List (PySem.W.Frag → Bool)} {f : PySem.W.Frag → Bool} (h1 : exs[i]? = some e) (h2 : e[j]? = some f) : f K = true := by
  have c1 := (ba (show ((exs.flatten.all fun f => f K) && fn.all fun d => d.ok K) = true from congrArg (fun z : AlD => z.1) c)).1
  exact List.all_eq_true.mp c1 f (List.mem_flatten.mpr ⟨e, List.mem_of_getElem? h1, List.mem_of_getElem? h2⟩)
theorem SaysB.def_ (c : SaysB fn ex K) (i : Nat) {d : DefD} (h : fn[i]? = some d) : ∃ fd, FunD K d.name d.qual d.params d.body d.scope (d.dvs K) (d.kws K) (fAd K d.at_) fd := by
  have c2 := (ba (show ((ex.all fun f => f K) && fn.all fun d => d.ok K) = true from congrArg (fun z : AlD => z.1) c)).2
  have e : fn.map (fun d => fnW K d.at_) = fn.map DefD.val := congrArg (fun z : AlD => z.2) c
  have e2 : (fn.map fun d => fnW K d.at_)[i]? = (fn.map DefD.val)[i]? := by rw [e]
  rw [List.getElem?_map, List.getElem?_map, h] at e2
  exact DefD.funD (Option.some.inj e2) (List.all_eq_true.mp c2 d (List.mem_of_getElem? h))
theorem fun_of {x qual : Str} {st : Stmt} {f : Addr} {fd : FuncData} {kws : List (Str × V)} (F : FunD K x qual (defArgs st) (defBody st) (defScope st) [] kws f fd) : Fun K x qual st f fd := by
  obtain ⟨⟨oc, od, dV, kV, doc, pm, an, cdv, ct, osl, rfl, lk, hc, hd, _⟩, kp⟩ := F
  rcases hd with ⟨_, rfl⟩ | ⟨ne, _⟩
  · exact fun_mk lk hc kp
  · exact (ne rfl).elim
/-! ### the classes -/
def excB (K : PySem.W.Frag) (C : Addr) : Bool := match K.lookup C with
  | some ⟨.type t, _, .cls cd, sl⟩ => decide (t = "type") && (match cd.mro, sl.toList with
    | .ref C' :: bm, [_, _, _, _, some (.builtin n), _] => decide (C' = C) && (decide (n = "ValueError.__new__") && (!cd.hasDel && (cd.hasDict && HandSPX.refsVE bm)))
    | _, _ => false)
  | _ => false
theorem excB_ok {C : Addr} (h : excB K C = true) : ∃ nm q N bs bm sn sub ab col dd k0 k1 k2 k3 k5, K.lookup C = some (excClassObj nm q C N bs bm true sn sub ab col dd k0 k1 k2 k3 k5 "ValueError.__new__") ∧ PySem.HandSPX.refsVE bm = true := by
  unfold excB at h
  cases q : K.lookup C with
  | none => rw [q] at h; cases h
  | some o =>
    obtain ⟨oc, od, dt, sl⟩ := o
    rw [q] at h
    cases oc with
    | type t =>
      cases dt with
      | cls cd =>
        obtain ⟨h1, h2⟩ := ba h
        have e1 : t = "type" := of_decide_eq_true h1
        subst e1
        obtain ⟨nm, bs, mro, N, qn, hd, sn, sub, ab, col, del⟩ := cd
        obtain ⟨sl⟩ := sl
        dsimp only at h2
        split at h2
        · rename_i C' bm k0 k1 k2 k3 n k5
          obtain ⟨h3, h4⟩ := ba h2
          obtain ⟨h5, h6⟩ := ba h4
          obtain ⟨h7, h8⟩ := ba h6
          obtain ⟨h9, h10⟩ := ba h8
          have e4 : C' = C := of_decide_eq_true h3
          have e5 : n = "ValueError.__new__" := of_decide_eq_true h5
          subst e4 e5
          cases del
          · cases hd
            · cases h9
            · exact ⟨_, _, _, _, _, _, _, _, _, _, _, _, _, _, _, rfl, h10⟩
          · cases h7
        · cases h2
      | _ => cases h
    | _ => cases dt <;> cases h
def clsB (K : PySem.W.Frag) (C : Addr) (f : Str) (id : String) : Bool := match PySem.W.findCls K (.ref C) (.type "type") f with
  | some (.val (.builtin n)) => decide (n = id)
  | _ => false
theorem clsB_ok {C : Addr} {f : Str} {id : String} (h : clsB K C f id = true) : PySem.W.findCls K (.ref C) (.type "type") f = some (.val (.builtin id)) := by
  unfold clsB at h
  split at h
  · rename_i n e
    rw [e, of_decide_eq_true h]
  · cases h
def tup0B (K : PySem.W.Frag) (a : Addr) : Bool := match K.lookup a with
  | some ⟨.type c, _, .seq its _, _⟩ => decide (c = "tuple") && its.isEmpty
  | _ => false
theorem tup0B_ok {a : Addr} (h : tup0B K a = true) : ∃ dd n sl, K.lookup a = some ⟨.type "tuple", dd, .seq #[] n, sl⟩ := by
  unfold tup0B at h
  cases q : K.lookup a with
  | none => rw [q] at h; cases h
  | some o =>
    obtain ⟨oc, od, dt, sl⟩ := o
    rw [q] at h
    cases oc with
    | type t =>
      cases dt with
      | seq its n =>
        obtain ⟨h1, h2⟩ := ba h
        rw [of_decide_eq_true h1, Array.isEmpty_iff.mp h2]
        exact ⟨_, _, _, rfl⟩
      | _ => cases h
    | _ => cases dt <;> cases h
end
/-! ### the end -/
theorem walkSE {l : PySem.W.OpenLaw} {n k : Nat} {q : Program} {loose : List Str} {XP : (Str → Option Value) → Heap → Prop} {YP : World → Heap → Prop} {d : DefRec} {sp : PySem.W.Frag → Sp} {x : Str}
    (hn : l.most = some n) (hn2 : n ≤ sizeLine) (hdf : d.params.defaults = []) (himp : importsNone q = true) (hr : Room k callerA)
    (F : ∀ (w : World) (mg : Str → Option Value) (fa : Addr) (h : Heap), YP w h → h.Ns mainGlobals mg → mg d.name = some (.ref fa) →
      ∃ (K : PySem.W.Frag) (fd : FuncData), K.In h ∧ (∀ (s : Shared) (u : Value), BindsTo s fd ⟨[u], []⟩ [(x, u)]) ∧
        ∀ base : Heap, K.In base → base.Ns mainGlobals mg → FnG l.prog w K mg base CX0 k fa fd [x] (sp K))
    (hsp : ∀ (K : PySem.W.Frag) (H : Hp) (a : Addr) (ns : List Int), ns.length ≤ n → Sys K H → SqL K H a (ns.map V.int) → sp K [.ref a] H (fun v _ => v = .bl true) fun _ _ _ => False) :
    PySem.W.WalkO q loose XP YP l.row.toRowW d [] (fun f vs => PySem.call f vs) := by
  refine Att.attach_call hn hdf fun w s₀ s₁ mg mb fa o pm cd doc a vs ns G Y ho hd hcd hmg hobj hints hlen hg => ?_
  obtain ⟨K, fd, KX, hb, hF⟩ := F w mg fa _ Y G.T.g hmg
  obtain ⟨mm, hmm, _⟩ := (G.T.seer himp).mods
  exact law_endS KX G.T.g G.T.b G.T.builtins ⟨mm, hmm⟩ G.T.nolimit hg hobj hints (Nat.le_trans hlen hn2) hr hF hb (fun _ _ _ z => z) fun H hO hS => hsp K H a ns hlen hO hS
end Tp

set_option Elab.async false
set_option linter.all false
set_option maxRecDepth 100000
set_option maxHeartbeats 4000000
/-! own exceptions over ValueError, KeyError, LookupError alike -/
/-- what a built-in exception class must say of its __init__ -/
structure PySem.InitF (B initId : String) : Prop where
  init : Slot B "__init__" initId
  initEntry : entryFor table initId = some Builtin.«BaseException.__init__»
  initSplit : splitId initId = some (B, "__init__")
  initKind : builtinKind initId = some .slot
  initRow : Manifest.signature? initId = some ⟨.positional, "*", B, .self, [⟨"args", .varPos, false⟩]⟩
  noStar : (B != "*") = true
namespace PySem.F
theorem initF_of {B newId initId : String} {bm : List Value} (F : ExcBaseFacts B newId initId bm) : InitF B initId := ⟨F.init, F.initEntry, F.initSplit, F.initKind, F.initRow, F.noStar⟩
theorem initF_KeyError : InitF "KeyError" "KeyError.__init__" where
  init := .of (owner := "KeyError") (n := "__init__") (by rw [typeLookup_type, builtinLookup_eq_fast]; kernel_rfl) (by decide +kernel) (by decide +kernel) (by decide +kernel)
    (by first | exact .inl (by decide +kernel) | exact .inr (by decide +kernel)) (by rw [isSubtype_type]; kernel_rfl)
  initEntry := entryFor_alias (id' := "BaseException.__init__") (by rw [fastTable_eq_tree]; kernel_rfl) (by first | rfl | decide +kernel) (by decide +kernel) (by rw [fastTable_eq_tree]; kernel_rfl)
  initSplit := by kernel_rfl
  initKind := by kernel_rfl
  initRow := by kernel_rfl
  noStar := by decide +kernel
end PySem.F
/-! made by the __new__ of B, a class among those over C; initialised by the __init__ of B2 -/
namespace PySem.HandSPX
open Builtin Builtin.ObjectAttr
/-- C stands over B, and is no AttributeError, no NameError -/
structure Over (bm : List Value) (B : String) : Prop where
  hasB : bm.contains (.type B) = true
  noA : bm.contains (.type "AttributeError") = false
  noN : bm.contains (.type "NameError") = false
section
variable {prog : Program} {w : World} {A : Around} {E : Value → Shared → Prop} {R : Result → Shared → Prop} {h : Heap} {g : Array GenState} {d : Drawn} {t : Nat} {os : OsState}
variable {nm q : Str} {C N : Addr} {bs bm bmB : List Value} {hdct : Bool} {sn : List Str} {sub : List Value} {ab : Bool} {col : Option Bool} {dd : Option Addr} {k0 k1 k2 k3 k5 : Option Value} {B newId initId : String}
theorem check_new_over {M : Model} (F : ExcBaseFacts B newId initId bmB) (hT : Over bm B) {rest : List Value} {Q : Unit → Shared → Prop}
    (hC : h.get? C = some (excClassObj nm q C N bs bm hdct sn sub ab col dd k0 k1 k2 k3 k5 newId)) (hq : Q () ⟨h, g, d, t, os⟩) : wpAny M A (checkBuiltinCall newId ⟨.ref C :: rest, []⟩) Q E ⟨h, g, d, t, os⟩ := by
  have hcont : (Value.ref C :: bm).contains (.type B) = true := by rw [List.contains_cons, hT.hasB, Bool.or_true]
  have hstar := F.noStar
  simp only [checkBuiltinCall, F.newKind, F.newSplit, F.newRow]
  repeat (first | refine wpAny_loadPart_at hC ?_ | (refine wpAny_isSubtype_exc hC ?_; rw [hcont]) | refine wpAny_staticBase_exc hC ?_ | refine wpAny_madeBy_exc hC ?_ | simp only [bne_self_eq_false, Bool.false_eq_true, if_false] | wp_step)
  exact hq
theorem new_over (F : ExcBaseFacts B newId initId bmB) (hT : Over bm B) {rest : List Value}
    (hC : h.get? C = some (excClassObj nm q C N bs bm hdct sn sub ab col dd k0 k1 k2 k3 k5 newId))
    (hq : R (.ok (.ret (.ref (h.objs.size + 1)))) ⟨(h.push { cls := .type "tuple", data := .seq rest.toArray }).push
      { cls := .ref C, data := .fields #[.ref h.objs.size, .none, .none, .none, .bool false, .none] }, g, d, t, os⟩) (hrest : rest.length ≤ sizeLine) :
    codeAny (model prog w) A (.builtin newId ⟨.ref C :: rest, []⟩) R ⟨h, g, d, t, os⟩ := by
  have hends := F.ends
  have hcB : (Value.ref C :: bm).contains (.type B) = true := by rw [List.contains_cons, hT.hasB, Bool.or_true]
  have hcA : (Value.ref C :: bm).contains (.type "AttributeError") = false := by rw [List.contains_cons, hT.noA]; rfl
  have hcN : (Value.ref C :: bm).contains (.type "NameError") = false := by rw [List.contains_cons, hT.noN]; rfl
  refine codeAny_builtinAt F.entry ?_
  unfold Builtin.«BaseException.__new__»
  refine wpAt_bind ?_
  show wpAt _ _ _ (stack >>= _) _ _ _
  refine wpAt_bind (wpAt_stack fun p below => wpAt_of_wpAny ?_)
  wp_walk
  refine wpAt_of_wpAny ?_
  rw [F.owner]
  repeat (first | with_reducible refine wpAny_madeHere_exc F.canon hC ?_ | with_reducible refine wpAny_loadPart_at hC ?_ | (with_reducible refine wpAny_isSubtype_exc hC ?_; first | rw [hcB] | rw [hcA] | rw [hcN]) | wp_step)
  show R _ _
  rw [Heap.size_push]
  exact hq
theorem init_over {B2 initId2 : String} (F : InitF B2 initId2) (hT : bm.contains (.type B2) = true) {e t0 : Addr} {rest : List Value}
    (hC : h.get? C = some (excClassObj nm q C N bs bm hdct sn sub ab col dd k0 k1 k2 k3 k5 newId)) (he : h.get? e = some (excO C t0)) (hrest : rest.length ≤ sizeLine)
    (hq : ∀ h' t1, (∀ b o, b ≠ e → h.get? b = some o → h'.get? b = some o) → h'.get? e = some (excO C t1) → R (.ok (.ret .none)) ⟨h', g, d, t, os⟩) :
    codeAny (model prog w) A (.call (.builtin initId2) ⟨.ref e :: rest, []⟩) R ⟨h, g, d, t, os⟩ := by
  have hcB : (Value.ref C :: bm).contains (.type B2) = true := by rw [List.contains_cons, hT, Bool.or_true]
  have hshort := F.noStar
  refine codeAny_call_builtin F.init.plain F.initEntry ?_
  simp only [checkBuiltinCall, F.initKind, F.initSplit, F.initRow]
  repeat (first | with_reducible refine wpAny_loadPart_at he ?_ | with_reducible refine wpAny_loadPart_at hC ?_ | (with_reducible refine wpAny_isSubtype_exc hC ?_; rw [hcB]) | wp_step)
  refine wpAny_onRaise ?_
  rw [show ∀ (a b : String) (n : Nat), Bind.check ⟨.positional, "*", B2, .self, [⟨"args", .varPos, false⟩]⟩ a b n (List.map (fun x => x.fst) ({ pos := Value.ref e :: rest } : Args).kw) = pure () from
    fun a b n => check_star_args _ _ _ _ _ _]
  refine wpAny_pure ?_
  wp_walk
  refine hq _ h.objs.size (fun b o hb ho => ?_) ?_
  · rw [Heap.get?_update_other _ _ (Ne.symm hb)]
    exact Heap.get?_push_of_some _ ho
  · rw [Heap.get?_update_self _ (Heap.get?_push_of_some _ he) rfl]
    rfl
theorem type_call_over (F : ExcBaseFacts B newId initId bmB) (hT : Over bm B) {rest : List Value} {fI : Addr} {Q : Fin → Shared → Prop}
    (hC : h.get? C = some (excClassObj nm q C N bs bm hdct sn sub ab col dd k0 k1 k2 k3 k5 newId))
    (hi : W.Looks (model prog w) h (typeLookup (.ref C) "__init__") (some (.ref fI))) (hb : ∀ self, W.Looks (model prog w) h (bindSpecial (.ref fI) self) (.ref fI, [self])) (hrest : rest.length ≤ sizeLine)
    (hq : codeAny (model prog w) A (.call (.ref fI) ⟨.ref (h.objs.size + 1) :: rest, []⟩)
      (fun r s' => match r with | .ok (.ret v) => v = .none ∧ Q (.done (.ret (.ref (h.objs.size + 1)))) s' | .ok _ => False | .error e => E e s')
      ⟨(h.push (W.kdv_tup rest)).push (excO C h.objs.size), g, d, t, os⟩) :
    wpAny (model prog w) A (Builtin.«type.__call__» ⟨.ref C :: rest, []⟩) Q E ⟨h, g, d, t, os⟩ := by
  repeat (first | with_reducible refine wpAny_loadPart_at hC ?_ | with_reducible refine wpAny_madeBy_exc hC ?_ | wp_step)
  refine codeAny_call_builtin_code (Code.quiet_builtin _ F.quiet) (check_new_over F hT hC ?_)
  refine new_over F hT hC ?_ hrest
  show wpAny _ _ _ _ _ _
  have k : ∀ b o, h.get? b = some o → ((h.push (W.kdv_tup rest)).push (excO C h.objs.size)).get? b = some o := fun b o e => Heap.get?_push_of_some _ (Heap.get?_push_of_some _ e)
  have hC₁ := k _ _ hC
  have hget : ((h.push (W.kdv_tup rest)).push (excO C h.objs.size)).get? (h.objs.size + 1) = some (excO C h.objs.size) := by heap_get
  have hcC : (Value.ref C :: bm).contains (.ref C) = true := by simp
  have i1 := hi.keeps k
  have b1 := (hb (.ref (h.objs.size + 1))).keeps k
  unfold isInstance
  repeat (first | with_reducible refine wpAny_loadPart_at hget ?_ | (with_reducible refine wpAny_isSubtype_exc hC₁ ?_; rw [hcC]) | wp_step)
  show wpAny _ _ (typeLookup (.ref C) _) _ _ _
  refine i1.at ?_
  refine wpAny_holding (wpAny_bind (b1.at ?_))
  refine wpAny_bind (wpAny_call (codeAny_mono hq fun r s' z => ?_))
  rcases r with e | (v | _ | _ | _) <;> first | exact z | exact z.elim | skip
  obtain ⟨rfl, z⟩ := z
  first
    | exact wpAny_pure (wpAny_pure z)
    | (wp_walk; exact z)
/-- C(..), its own __init__ a def -/
theorem call_over (F : ExcBaseFacts B newId initId bmB) (hT : Over bm B) {rest : List Value} {fI : Addr}
    (hC : h.get? C = some (excClassObj nm q C N bs bm hdct sn sub ab col dd k0 k1 k2 k3 k5 newId))
    (hi : W.Looks (model prog w) h (typeLookup (.ref C) "__init__") (some (.ref fI))) (hb : ∀ self, W.Looks (model prog w) h (bindSpecial (.ref fI) self) (.ref fI, [self])) (hrest : rest.length ≤ sizeLine)
    (hq : codeAny (model prog w) (A.under (.builtin "type.__call__" ⟨.ref C :: rest, []⟩)) (.call (.ref fI) ⟨.ref (h.objs.size + 1) :: rest, []⟩) (W.InitBack (h.objs.size + 1) R)
      ⟨(h.push (W.kdv_tup rest)).push (excO C h.objs.size), g, d, t, os⟩) :
    codeAny (model prog w) A (.call (.ref C) ⟨rest, []⟩) R ⟨h, g, d, t, os⟩ := by
  have f1 := tc_lookup
  have f2 := tc_bind (.ref C)
  have hTy : (⟨h, g, d, t, os⟩ : Shared).TypeIs (.ref C) "type" := ⟨_, hC, rfl⟩
  refine codeAny_of_tree ?_
  show wpAny _ _ (callAny (.ref C) _) _ _ _
  repeat (any_goals (first | assumption | with_reducible refine wpAny_loadPart_at hC ?_ | wp_step))
  refine ⟨rfl, ?_⟩
  refine codeAny_call_builtin_at (Code.quiet_builtin _ (by decide +kernel)) entry_typeCall (wpAny_check_type_call_sub hC (type_call_over F hT hC hi hb hrest ?_))
  refine codeAny_mono hq fun r s' z => ?_
  rcases r with e | (v | _ | _ | _) <;> exact z
end
end PySem.HandSPX
namespace Tp
open PySem PySem.Spec PyProof.Rows L2 PySem.Builtin PySem.Builtin.ObjectAttr
/-- the built-in class at the root of an own exception class -/
inductive XB where
  | ve | ke | le
def XB.name : XB → String
  | .ve => "ValueError"
  | .ke => "KeyError"
  | .le => "LookupError"
def XB.tail : XB → List Value
  | .ve => [.type "ValueError", .type "Exception", .type "BaseException", .type "object"]
  | .ke => [.type "KeyError", .type "LookupError", .type "Exception", .type "BaseException", .type "object"]
  | .le => [.type "LookupError", .type "Exception", .type "BaseException", .type "object"]
/-- the class whose __new__ makes it -/
def XB.mk : XB → String
  | .ve => "ValueError"
  | _ => "LookupError"
def XB.newId : XB → String
  | .ve => "ValueError.__new__"
  | _ => "LookupError.__new__"
def XB.initId : XB → String
  | .ve => "ValueError.__init__"
  | .ke => "KeyError.__init__"
  | .le => "LookupError.__init__"
theorem XB.fb : ∀ b : XB, ∃ i bmB, ExcBaseFacts b.mk b.newId i bmB
  | .ve => ⟨_, _, F.excBase_ValueError⟩
  | .ke => ⟨_, _, F.excBase_LookupError⟩
  | .le => ⟨_, _, F.excBase_LookupError⟩
theorem XB.fi : ∀ b : XB, InitF b.name b.initId
  | .ve => F.initF_of F.excBase_ValueError
  | .ke => F.initF_KeyError
  | .le => F.initF_of F.excBase_LookupError
theorem XB.over : ∀ b : XB, PySem.HandSPX.Over b.tail b.mk
  | .ve => ⟨by decide +kernel, by decide +kernel, by decide +kernel⟩
  | .ke => ⟨by decide +kernel, by decide +kernel, by decide +kernel⟩
  | .le => ⟨by decide +kernel, by decide +kernel, by decide +kernel⟩
theorem XB.pass : ∀ (b : XB) (self : Value), refuseLoop self "__setattr__" b.tail = pure ()
  | .ve, self => by kernel_rfl
  | .ke, self => by kernel_rfl
  | .le, self => by kernel_rfl
theorem XB.ob : ∀ b : XB, b.tail.contains (.type "object") = true
  | .ve => by decide +kernel
  | .ke => by decide +kernel
  | .le => by decide +kernel
end Tp

set_option Elab.async false
set_option linter.all false
set_option maxRecDepth 100000
set_option maxHeartbeats 4000000
/-! the same, in the layer -/
namespace PySem.HandSPX
open Builtin Builtin.ObjectAttr
section
variable {prog : Program} {w : World} {A : Around} {E : Value → Shared → Prop} {R : Result → Shared → Prop} {hp : Heap} {g : Array GenState} {d : Drawn} {t : Nat} {os : OsState}
/-- what a store into an instance asks of the classes over it -/
structure Stores (m : List Value) : Prop where
  pass : ∀ self, refuseLoop self "__setattr__" m = pure ()
  ob : m.contains (.type "object") = true
  ne : m.isEmpty = false
theorem osa_newB {K : W.Frag} {name : Str} {tk : Tok} {v : Value} {x C : Addr} {fv : Array Value} {cd : ClassData}
    (X : K.In hp) (hx : hp.get? x = some { cls := .ref C, data := .fields fv }) (hcd : W.clsIn K C = some cd) (hm : Stores cd.mro) (hh : cd.hasDict = true) (ha : W.findIn K (.ref C) name = some none)
    (hq : ∀ h' tk' dx, (∀ b o, b ≠ x → hp.get? b = some o → h'.get? b = some o) → hp.objs.size ≤ dx → dx ≠ x → h'.get? x = some { cls := .ref C, dict := some dx, data := .fields fv } →
      h'.Ns1 dx (fun y => if y = name then some v else none) → R (.ok (.ret .none)) ⟨h', g, d, tk', os⟩) :
    codeAny (model prog w) A (.call (.builtin "object.__setattr__") ⟨[.ref x, .str name tk, v], []⟩) R ⟨hp, g, d, t, os⟩ := by
  have I : W.InstAt hp x { cls := .ref C, data := .fields fv } C none := ⟨hx, rfl, rfl, trivial⟩
  have SF := F.store_object
  have ne := hm.ne
  have hob := hm.ob
  have hxs : x ≠ hp.objs.size := Nat.ne_of_lt (Heap.lt_size hx)
  have sub : W.Looks (model prog w) hp (isInstance (.ref x) (.type "object")) true := I.type.andThen (W.looks_mroIn X (by unfold W.mroIn; rw [hcd, Option.bind_some, if_neg (by rw [ne]; decide), hob]))
  refine codeAny_call_builtin SF.slot.plain SF.entry (@W.check_slot (model prog w) _ _ ⟨hp, g, d, t, os⟩ "object.__setattr__" "object" "__setattr__" (.ref x) [.str name tk, v] [] _ SF.kind SF.split sub (SF.args (.ref x) (.str name tk) v) ?_)
  have hmr : W.Looks (model prog w) hp (mroOf (.ref C)) cd.mro := (W.looks_clsIn X hcd).andThen .now
  have L3 : W.Looks (model prog w) hp (storeTaker? none) none := .now
  have hcls : W.Looks (model prog w) hp (classData C) cd := W.looks_clsIn X hcd
  rw [W.osa_eq, refuse_eq]
  refine wpAny_bind (wpAny_bind (I.type.at (wpAny_bind (hmr.at ?_))))
  rw [hm.pass]
  refine wpAny_pure (wpAny_bind (I.type.at (wpAny_bind ((W.looks_findIn X ha).at (wpAny_bind (L3.at ?_))))))
  show wpAny _ _ (storeInOwnDict (.ref x) (.ref C) (.str name tk) name v false) _ _ _
  obtain ⟨nm, bs, mro, ns, qn, hd, sn, sb, ab, col, del⟩ := cd
  dsimp only at hh
  subst hh
  unfold storeInOwnDict ownDictForStores
  repeat (first | with_reducible refine store_in_new ?_ ?_ | with_reducible refine wpAny_loadPart_at hx ?_ | with_reducible refine hcls.at ?_ | wp_step)
  · exact ⟨_, #[], _, (Heap.get?_update_ne _ _ _ _ hxs.symm).trans (Heap.get?_push_at rfl rfl), rfl, fun e he => absurd he (by simp), fun _ => rfl⟩
  · intro h' tk' hn' hs
    have hx₁ : (hp.push { cls := .type "dict", data := .dict #[] }).get? x = some { cls := .ref C, data := .fields fv } := Heap.get?_push_of_some _ hx
    refine hq h' tk' hp.objs.size (fun b o hb ho => ?_) (Nat.le_refl _) hxs.symm ?_ hn'
    · exact (hs.2 b (Nat.ne_of_lt (Heap.lt_size ho))).trans ((Heap.get?_update_ne _ _ _ _ hb).trans (Heap.get?_push_of_some _ ho))
    · exact (hs.2 x hxs).trans (Heap.get?_update_self _ hx₁ rfl)
theorem osa_oldB {K : W.Frag} {name : Str} {tk : Tok} {v : Value} {x C dx : Addr} {fv : Array Value} {cd : ClassData} {m0 : Str → Option Value} {nl : List Str}
    (X : K.In hp) (hx : hp.get? x = some { cls := .ref C, dict := some dx, data := .fields fv }) (hns : hp.Ns1 dx m0) (hw : Within m0 nl) (hz : nl.length ≤ 1000) (hcd : W.clsIn K C = some cd) (hm : Stores cd.mro) (hh : cd.hasDict = true)
    (ha : W.findIn K (.ref C) name = some none)
    (hq : ∀ h' tk', (∀ b o, b ≠ dx → hp.get? b = some o → h'.get? b = some o) → h'.Ns1 dx (fun y => if y = name then some v else m0 y) → R (.ok (.ret .none)) ⟨h', g, d, tk', os⟩) :
    codeAny (model prog w) A (.call (.builtin "object.__setattr__") ⟨[.ref x, .str name tk, v], []⟩) R ⟨hp, g, d, t, os⟩ := by
  obtain ⟨oD, esD, epD, hoD, hdD, _⟩ := hns.count hw
  have I : W.InstAt hp x { cls := .ref C, dict := some dx, data := .fields fv } C (some oD) := ⟨hx, rfl, rfl, hoD⟩
  have SF := F.store_object
  have ne := hm.ne
  have hob := hm.ob
  have sub : W.Looks (model prog w) hp (isInstance (.ref x) (.type "object")) true := I.type.andThen (W.looks_mroIn X (by unfold W.mroIn; rw [hcd, Option.bind_some, if_neg (by rw [ne]; decide), hob]))
  refine codeAny_call_builtin SF.slot.plain SF.entry (@W.check_slot (model prog w) _ _ ⟨hp, g, d, t, os⟩ "object.__setattr__" "object" "__setattr__" (.ref x) [.str name tk, v] [] _ SF.kind SF.split sub (SF.args (.ref x) (.str name tk) v) ?_)
  have hmr : W.Looks (model prog w) hp (mroOf (.ref C)) cd.mro := (W.looks_clsIn X hcd).andThen .now
  have L3 : W.Looks (model prog w) hp (storeTaker? none) none := .now
  have hcls : W.Looks (model prog w) hp (classData C) cd := W.looks_clsIn X hcd
  rw [W.osa_eq, refuse_eq]
  refine wpAny_bind (wpAny_bind (I.type.at (wpAny_bind (hmr.at ?_))))
  rw [hm.pass]
  refine wpAny_pure (wpAny_bind (I.type.at (wpAny_bind ((W.looks_findIn X ha).at (wpAny_bind (L3.at ?_))))))
  show wpAny _ _ (storeInOwnDict (.ref x) (.ref C) (.str name tk) name v false) _ _ _
  obtain ⟨nm, bs, mro, ns, qn, hd, sn, sb, ab, col, del⟩ := cd
  dsimp only at hh
  subst hh
  unfold storeInOwnDict ownDictForStores
  repeat (first | with_reducible refine PySem.OEX.store_in_old hns hw hz ?_ | with_reducible refine wpAny_loadPart_at hx ?_ | with_reducible refine hcls.at ?_ | wp_step)
  intro h' tk' hn' hs
  exact hq h' tk' (fun b o hb ho => (hs.2 b hb).trans ho) hn'
end
end PySem.HandSPX
namespace Tp
open PySem PySem.Spec PyProof.Rows L2
/-- what the written part says of the class -/
structure OexB (b : XB) (K : PySem.W.Frag) (C : Addr) : Prop where
  cls : ∃ nm q N bs bm sn sub ab col dd k0 k1 k2 k3 k5, K.lookup C = some (excClassObj nm q C N bs bm true sn sub ab col dd k0 k1 k2 k3 k5 b.newId) ∧ PySem.W.excTail b.tail bm = true
  sa : PySem.W.findIn K (.ref C) "__setattr__" = some (some (.builtin "object.__setattr__"))
  exC : PySem.W.subIn K (.ref C) (.type "BaseException") = some true
  tyC : PySem.W.typeIn K (.ref C) = some (.type "type")
  kC : PySem.W.keepIn K (.ref C) = true
theorem over_of {b : XB} {bm : List Value} (h : PySem.W.excTail b.tail bm = true) : PySem.HandSPX.Over bm b.mk := by
  have o := b.over
  exact ⟨(PySem.W.excTail_contains _ bm h).trans o.hasB, (PySem.W.excTail_contains _ bm h).trans o.noA, (PySem.W.excTail_contains _ bm h).trans o.noN⟩
theorem XB.hasN : ∀ b : XB, b.tail.contains (.type b.name) = true
  | .ve => by decide +kernel
  | .ke => by decide +kernel
  | .le => by decide +kernel
theorem stores_of {b : XB} {C : Addr} {bm : List Value} (h : PySem.W.excTail b.tail bm = true) : PySem.HandSPX.Stores (.ref C :: bm) :=
  ⟨fun self => PySem.W.excTail_pass self (b.pass self) (.ref C :: bm) h, (PySem.W.excTail_contains "object" (.ref C :: bm) h).trans b.ob, rfl⟩
section
variable {b : XB} {X : Cx} {pins : List (Addr × Obj)} {σ : L2.St} {H : Hp} {s : Shared} {a C dx : Addr} {f : Str} {y : V} {u : Value} {fs : List (Str × V)} {Q : Unit → Shared → Prop} {E : Value → Shared → Prop} {A : Around}
theorem ost_newB (T : OexB b X.K C) (I : Inv X pins σ H s) (e : H a = some (exo a C none)) (hno : PySem.W.findIn X.K (.ref C) f = some none) (ry : RelV y u)
    (h : ∀ dx s', H dx = none → dx ≠ a → Inv X pins σ (upd (upd H dx (exd dx [(f, y)])) a (exo a C (some dx))) s' → Q () s') : wpAny (model X.prog X.w) A (setAttr (.ref a) f u) Q E s := by
  obtain ⟨nm, q, N, bs, bm, sn, sub, ab, col, dd, k0, k1, k2, k3, k5, hC, hbm⟩ := T.cls
  have hcl : PySem.W.clsIn X.K C = some { name := nm, bases := bs, mro := .ref C :: bm, ns := N, qualname := q, hasDict := true, slotNames := sn, subclasses := sub, abstract := ab, collection := col, hasDel := false } := by unfold PySem.W.clsIn; rw [hC] <;> rfl
  obtain ⟨t1, ho⟩ := exo_at I.hok e
  obtain ⟨hp, g, d, t, os⟩ := s
  refine PySem.W.set_plain I.kIn (ox := { cls := .ref C, dict := none, data := .fields #[.ref t1, .none, .none, .none, .bool false, .none] }) (od := none) ⟨ho, rfl, rfl, trivial⟩ T.sa ?_
  refine PySem.HandSPX.osa_newB I.kIn ho hcl (stores_of hbm) rfl hno (fun h' tk' dx k dn dne hx hn => ?_)
  have hnd : H dx = none := I.hok.fresh dn
  have nd : ∀ {b : Addr} {o : Obj}, hp.get? b = some o → b ≠ dx := fun {b o} q => Nat.ne_of_lt (Nat.lt_of_lt_of_le (Heap.lt_size q) dn)
  have na : ∀ {b : Addr}, H b = none → b ≠ a := fun {b} n z => by
    rw [z, e] at n
    cases n
  have Un1 : Un X.fs [] H (upd (upd H dx (exd dx [(f, y)])) a (exo a C (some dx))) hp h' := {
    keep := fun b o q n _ _ => k b o (na n) q
    slot := fun b o q n _ _ => ⟨o.slots, k b o (na n) q⟩
    free := fun b o q n _ => by rw [upd_ne (na n), upd_ne (nd q)]; exact n
    there := fun b o q _ => by
      by_cases hb : b = a
      · exact ⟨_, by rw [hb]; exact hx⟩
      · exact ⟨o, k b o hb q⟩
    tups := fun b xs q => by rw [upd_ne (at_ne e q exo_tup), upd_ne (ne_of_none q hnd)]; exact q
    frzs := fun b o v q => by rw [upd_ne (at_ne e q exo_frz), upd_ne (ne_of_none q hnd)]; exact q
    tbls := fun b ps q => ⟨#[], by rw [upd_ne (at_ne e q exo_tbl), upd_ne (ne_of_none q hnd), q]; simp⟩ }
  refine h dx _ hnd dne (I.un (t' := tk') Un1 fun b o q => ?_)
  by_cases hb : b = a
  · subst hb
    rw [upd_same] at q
    cases q
    exact exo_ok hx
  · rw [upd_ne hb] at q
    by_cases hd : b = dx
    · subst hd
      rw [upd_same] at q
      cases q
      exact exd_ok hn (relO_put (fs := []) ry fun g => True.intro)
    · rw [upd_ne hd] at q
      exact (I.hok b o q).stay (fun c v hc z => k c v (by
          rcases hc with hc | hc
          · rw [hc]
            exact hb
          · exact at_ne e hc exo_own) z)
        (fun c hc => by rw [upd_ne (at_ne e hc exo_own), upd_ne (ne_of_none hc hnd)]; exact hc) (fun c xs hc => by rw [upd_ne (at_ne e hc exo_tup), upd_ne (ne_of_none hc hnd)]; exact hc)
theorem ost_oldB (T : OexB b X.K C) (I : Inv X pins σ H s) (e : H a = some (exo a C (some dx))) (ed : H dx = some (exd dx fs)) (hl : fs.length ≤ 900) (hno : PySem.W.findIn X.K (.ref C) f = some none) (ry : RelV y u)
    (h : ∀ s', Inv X pins σ (upd H dx (exd dx ((f, y) :: fs))) s' → Q () s') : wpAny (model X.prog X.w) A (setAttr (.ref a) f u) Q E s := by
  obtain ⟨nm, q, N, bs, bm, sn, sub, ab, col, dd, k0, k1, k2, k3, k5, hC, hbm⟩ := T.cls
  have hcl : PySem.W.clsIn X.K C = some { name := nm, bases := bs, mro := .ref C :: bm, ns := N, qualname := q, hasDict := true, slotNames := sn, subclasses := sub, abstract := ab, collection := col, hasDel := false } := by unfold PySem.W.clsIn; rw [hC] <;> rfl
  obtain ⟨t1, ho⟩ := exo_at I.hok e
  obtain ⟨mA, hns, rel⟩ := exd_at I.hok ed
  have hw := within_of rel
  obtain ⟨hp, g, d, t, os⟩ := s
  obtain ⟨oD, _, _, hoD, _, _⟩ := hns.count hw
  refine PySem.W.set_plain I.kIn (ox := { cls := .ref C, dict := some dx, data := .fields #[.ref t1, .none, .none, .none, .bool false, .none] }) (od := some oD) ⟨ho, rfl, rfl, hoD⟩ T.sa ?_
  refine PySem.HandSPX.osa_oldB I.kIn ho hns hw (by rw [List.length_map]; omega) hcl (stores_of hbm) rfl hno (fun h' tk' k hn => ?_)
  have hd : ∃ o, h'.get? dx = some o := by
    obtain ⟨o, _, _, e', _⟩ := hn
    exact ⟨o, e'⟩
  exact h _ (I.write (t' := tk') (x := dx) (e := dx) (o := exd dx ((f, y) :: fs)) (by rw [ed]; exact True.intro) (.inl rfl) k hd (exd_ok hn (relO_put ry rel)))
theorem oinit_okB {us : List Value} {Q : Value → Shared → Prop} (T : OexB b X.K C) (I : Inv X pins σ H s) (e : H a = some (exo a C none)) (hl : us.length ≤ sizeLine) (h : ∀ s', Inv X pins σ H s' → Q .none s') :
    wpAny (model X.prog X.w) A (call (.builtin b.initId) (.ref a :: us)) Q E s := by
  obtain ⟨nm, q, N, bs, bm, sn, sub, ab, col, dd, k0, k1, k2, k3, k5, hC, hbm⟩ := T.cls
  obtain ⟨t1, ho⟩ := exo_at I.hok e
  obtain ⟨hp, g, d, t, os⟩ := s
  refine wpAny_call (PySem.HandSPX.init_over b.fi ((PySem.W.excTail_contains _ bm hbm).trans b.hasN) (I.kIn _ _ hC) ho hl fun h' t2 k hx => ?_)
  have J := I.write (t' := t) (x := a) (e := a) (o := exo a C none) (by rw [e]; exact True.intro) (.inl rfl) k ⟨_, hx⟩ (exo_ok hx)
  have eu : upd H a (exo a C none) = H := by
    funext b
    by_cases hb : b = a
    · rw [hb, upd_same, e]
    · rw [upd_ne hb]
  rw [eu] at J
  exact h _ J
end
end Tp

set_option Elab.async false
set_option linter.all false
set_option maxRecDepth 100000
set_option maxHeartbeats 4000000
namespace PySem.HandSPX
open Builtin Builtin.ObjectAttr
section
variable {prog : Program} {w : World} {A : Around} {E : Value → Shared → Prop} {R : Result → Shared → Prop} {h : Heap} {g : Array GenState} {d : Drawn} {t : Nat} {os : OsState}
variable {nm q : Str} {C N : Addr} {bs bm bmB : List Value} {hdct : Bool} {sn : List Str} {sub : List Value} {ab : Bool} {col : Option Bool} {dd : Option Addr} {k0 k1 k2 k3 k5 : Option Value} {B newId initId : String}
theorem check_new_overK {M : Model} (F : ExcBaseFacts B newId initId bmB) (hT : Over bm B) {rest : List Value} {kws : List (Str × Value)} {Q : Unit → Shared → Prop}
    (hC : h.get? C = some (excClassObj nm q C N bs bm hdct sn sub ab col dd k0 k1 k2 k3 k5 newId)) (hq : Q () ⟨h, g, d, t, os⟩) : wpAny M A (checkBuiltinCall newId ⟨.ref C :: rest, kws⟩) Q E ⟨h, g, d, t, os⟩ := by
  have hcont : (Value.ref C :: bm).contains (.type B) = true := by rw [List.contains_cons, hT.hasB, Bool.or_true]
  have hstar := F.noStar
  simp only [checkBuiltinCall, F.newKind, F.newSplit, F.newRow]
  repeat (first | refine wpAny_loadPart_at hC ?_ | (refine wpAny_isSubtype_exc hC ?_; rw [hcont]) | refine wpAny_staticBase_exc hC ?_ | refine wpAny_madeBy_exc hC ?_ | simp only [bne_self_eq_false, Bool.false_eq_true, if_false] | wp_step)
  exact hq
theorem new_overK (F : ExcBaseFacts B newId initId bmB) (hT : Over bm B) {rest : List Value} {kws : List (Str × Value)}
    (hC : h.get? C = some (excClassObj nm q C N bs bm hdct sn sub ab col dd k0 k1 k2 k3 k5 newId))
    (hq : R (.ok (.ret (.ref (h.objs.size + 1)))) ⟨(h.push { cls := .type "tuple", data := .seq rest.toArray }).push
      { cls := .ref C, data := .fields #[.ref h.objs.size, .none, .none, .none, .bool false, .none] }, g, d, t, os⟩) (hrest : rest.length ≤ sizeLine) :
    codeAny (model prog w) A (.builtin newId ⟨.ref C :: rest, kws⟩) R ⟨h, g, d, t, os⟩ := by
  have hends := F.ends
  have hcB : (Value.ref C :: bm).contains (.type B) = true := by rw [List.contains_cons, hT.hasB, Bool.or_true]
  have hcA : (Value.ref C :: bm).contains (.type "AttributeError") = false := by rw [List.contains_cons, hT.noA]; rfl
  have hcN : (Value.ref C :: bm).contains (.type "NameError") = false := by rw [List.contains_cons, hT.noN]; rfl
  refine codeAny_builtinAt F.entry ?_
  unfold Builtin.«BaseException.__new__»
  refine wpAt_bind ?_
  show wpAt _ _ _ (stack >>= _) _ _ _
  refine wpAt_bind (wpAt_stack fun p below => wpAt_of_wpAny ?_)
  wp_walk
  refine wpAt_of_wpAny ?_
  rw [F.owner]
  repeat (first | with_reducible refine wpAny_madeHere_exc F.canon hC ?_ | with_reducible refine wpAny_loadPart_at hC ?_ | (with_reducible refine wpAny_isSubtype_exc hC ?_; first | rw [hcB] | rw [hcA] | rw [hcN]) | wp_step)
  show R _ _
  rw [Heap.size_push]
  exact hq
theorem type_call_overK (F : ExcBaseFacts B newId initId bmB) (hT : Over bm B) {rest : List Value} {kws : List (Str × Value)} {fI : Addr} {Q : Fin → Shared → Prop}
    (hC : h.get? C = some (excClassObj nm q C N bs bm hdct sn sub ab col dd k0 k1 k2 k3 k5 newId))
    (hi : W.Looks (model prog w) h (typeLookup (.ref C) "__init__") (some (.ref fI))) (hb : ∀ self, W.Looks (model prog w) h (bindSpecial (.ref fI) self) (.ref fI, [self])) (hrest : rest.length ≤ sizeLine)
    (hq : codeAny (model prog w) A (.call (.ref fI) ⟨.ref (h.objs.size + 1) :: rest, kws⟩)
      (fun r s' => match r with | .ok (.ret v) => v = .none ∧ Q (.done (.ret (.ref (h.objs.size + 1)))) s' | .ok _ => False | .error e => E e s')
      ⟨(h.push (W.kdv_tup rest)).push (excO C h.objs.size), g, d, t, os⟩) :
    wpAny (model prog w) A (Builtin.«type.__call__» ⟨.ref C :: rest, kws⟩) Q E ⟨h, g, d, t, os⟩ := by
  repeat (first | with_reducible refine wpAny_loadPart_at hC ?_ | with_reducible refine wpAny_madeBy_exc hC ?_ | wp_step)
  refine codeAny_call_builtin_code (Code.quiet_builtin _ F.quiet) (check_new_overK F hT hC ?_)
  refine new_overK F hT hC ?_ hrest
  show wpAny _ _ _ _ _ _
  have k : ∀ b o, h.get? b = some o → ((h.push (W.kdv_tup rest)).push (excO C h.objs.size)).get? b = some o := fun b o e => Heap.get?_push_of_some _ (Heap.get?_push_of_some _ e)
  have hC₁ := k _ _ hC
  have hget : ((h.push (W.kdv_tup rest)).push (excO C h.objs.size)).get? (h.objs.size + 1) = some (excO C h.objs.size) := by heap_get
  have hcC : (Value.ref C :: bm).contains (.ref C) = true := by simp
  have i1 := hi.keeps k
  have b1 := (hb (.ref (h.objs.size + 1))).keeps k
  unfold isInstance
  repeat (first | with_reducible refine wpAny_loadPart_at hget ?_ | (with_reducible refine wpAny_isSubtype_exc hC₁ ?_; rw [hcC]) | wp_step)
  show wpAny _ _ (typeLookup (.ref C) _) _ _ _
  refine i1.at ?_
  refine wpAny_holding (wpAny_bind (b1.at ?_))
  refine wpAny_bind (wpAny_call (codeAny_mono hq fun r s' z => ?_))
  rcases r with e | (v | _ | _ | _) <;> first | exact z | exact z.elim | skip
  obtain ⟨rfl, z⟩ := z
  first
    | exact wpAny_pure (wpAny_pure z)
    | (wp_walk; exact z)
/-- C(..), its own __init__ a def -/
theorem call_overK (F : ExcBaseFacts B newId initId bmB) (hT : Over bm B) {rest : List Value} {kws : List (Str × Value)} {fI : Addr}
    (hC : h.get? C = some (excClassObj nm q C N bs bm hdct sn sub ab col dd k0 k1 k2 k3 k5 newId))
    (hi : W.Looks (model prog w) h (typeLookup (.ref C) "__init__") (some (.ref fI))) (hb : ∀ self, W.Looks (model prog w) h (bindSpecial (.ref fI) self) (.ref fI, [self])) (hrest : rest.length ≤ sizeLine)
    (hq : codeAny (model prog w) (A.under (.builtin "type.__call__" ⟨.ref C :: rest, kws⟩)) (.call (.ref fI) ⟨.ref (h.objs.size + 1) :: rest, kws⟩) (W.InitBack (h.objs.size + 1) R)
      ⟨(h.push (W.kdv_tup rest)).push (excO C h.objs.size), g, d, t, os⟩) :
    codeAny (model prog w) A (.call (.ref C) ⟨rest, kws⟩) R ⟨h, g, d, t, os⟩ := by
  have f1 := tc_lookup
  have f2 := tc_bind (.ref C)
  have hTy : (⟨h, g, d, t, os⟩ : Shared).TypeIs (.ref C) "type" := ⟨_, hC, rfl⟩
  refine codeAny_of_tree ?_
  show wpAny _ _ (callAny (.ref C) _) _ _ _
  repeat (any_goals (first | assumption | with_reducible refine wpAny_loadPart_at hC ?_ | wp_step))
  refine ⟨rfl, ?_⟩
  refine codeAny_call_builtin_at (Code.quiet_builtin _ (by decide +kernel)) entry_typeCall (wpAny_check_type_call_sub hC (type_call_overK F hT hC hi hb hrest ?_))
  refine codeAny_mono hq fun r s' z => ?_
  rcases r with e | (v | _ | _ | _) <;> exact z
end
end PySem.HandSPX

set_option Elab.async false
set_option linter.all false
set_option maxRecDepth 100000
set_option maxHeartbeats 4000000
namespace Tp
open PySem PySem.Spec PyProof.Rows L2
/-! ### readings and rules -/
/-- an own class straight over a built-in one, with that one's __init__ -/
structure BaseB (b : XB) (K : PySem.W.Frag) (B : Addr) : Prop where
  ga : PySem.W.specialIn K (.ref B) "__getattribute__" = some (some (.builtin "type.__getattribute__"))
  rd : PySem.W.readsIn K B (.type "type") = true
  fi : PySem.W.findCls K (.ref B) (.type "type") "__init__" = some (.val (.builtin b.initId))
theorem XB.handed : ∀ b : XB, PySem.W.handedIn (.builtin b.initId) = true
  | .ve => by decide +kernel
  | .ke => by decide +kernel
  | .le => by decide +kernel
def tInB (b : XB) (K : PySem.W.Frag) (ta : TA) : TE := fun σ H Q => ta σ H fun vs H1 => ∃ (a C : Addr) (ws : List V), vs = .ref a :: ws ∧ ws.length ≤ 1000 ∧ OexB b K C ∧ H1 a = some (exo a C none) ∧ Q .non H1
def tOstB (b : XB) (K : PySem.W.Frag) (f : Str) (to te : TE) : TS := fun D σ H => te σ H fun y H1 => to σ H1 fun x H2 => ∃ a C : Addr, x = .ref a ∧ OexB b K C ∧ PySem.W.findIn K (.ref C) f = some none ∧
  ((H2 a = some (exo a C none) ∧ ∀ dx, H2 dx = none → dx ≠ a → D.nx σ (upd (upd H2 dx (exd dx [(f, y)])) a (exo a C (some dx)))) ∨
    ∃ (dx : Addr) (fs : List (Str × V)), H2 a = some (exo a C (some dx)) ∧ H2 dx = some (exd dx fs) ∧ fs.length ≤ 900 ∧ D.nx σ (upd H2 dx (exd dx ((f, y) :: fs))))
section
variable {b : XB} {X : Cx} {o e : Expr} {es : List Expr} {to te : TE} {ta : TA} {x f : Str} {B : Addr} {p p' p1 p2 pos : Pos}
theorem pe_initB {pl : Sem Bool} (hg : Gl X x) (hm : X.mg x = some (.ref B)) (T : BaseB b X.K B) (ha : PA X (e :: es) ta)
    (hc : eval (.Call (.Attribute (.Name x p1) "__init__" p2) (e :: es) [] pos) X.env = (do
      let ov ← eval (.Name x p1) X.env
      standAt p2.atName
      let (f, first) ← holding [ov] (getMethod ov "__init__" pl)
      callWith pos f first (backTo pos (starEach (e :: es) X.env)) (backToKw pos (keywordEach [] X.env))) := by rfl)
    (hdb : (x == ("__debug__" : Str)) = false := by decide)
    (he : starEach (e :: es) X.env = (false, eval e X.env) :: starEach es X.env := by rfl) (hpl : (backTo pos (starEach es X.env)).any (·.1) = false := by rfl) :
    PE X (.Call (.Attribute (.Name x p1) "__init__" p2) (e :: es) [] pos) (tInB b X.K ta) := by
  refine ⟨fun pins s σ H Q I h => ?_⟩
  refine PySem.W.methodCall_KW (ld_glob I hg hm ?_ hdb) hc
  refine PySem.W.method_cls I.kIn T.ga (PySem.W.cls_value I.kIn T.rd T.fi b.handed ?_)
  show wpAny _ _ (callWith pos (Value.builtin b.initId) [] (backTo pos (starEach (e :: es) X.env)) []) _ _ _
  refine PyProof.Rows.callWith_method1 (thn (ha.run pos pins _ σ H _ (I.tok _) h) fun us s1 ⟨vs, H1, I1, r1, a, C, ws, ev, hl, TC, ea, q⟩ => ?_) he hpl
  subst ev
  cases r1 with
  | cons ra rr =>
    cases (ra : _ = Value.ref a)
    refine oinit_okB TC I1 ea ?_ fun s' J => ⟨.non, H1, J, rfl, q⟩
    have := Paired.length rr
    exact Nat.le_trans (by omega) (show 1000 ≤ sizeLine from by decide)
theorem ps_ostB (ho : PE X o to) (he : PE X e te) (hs : swapsWith e (some (.Attribute o f p')) pos.line X.env = pure false := by rfl) : PS X (.Assign [.Attribute o f p'] e pos) (tOstB b X.K f to te) := by
  refine ⟨fun pins s σ H D I h => ?_⟩
  refine plainObj_wpAny_Assign_Attribute (thn (he.run pins s σ H _ I h) fun v s1 ⟨y, H1, I1, r1, q1⟩ => thn (ho.run pins s1 σ H1 _ I1 q1) fun u s2 ⟨x, H2, I2, r2, a, C, ex, T, hno, q⟩ => ?_) hs
  subst ex
  obtain rfl : u = Value.ref a := r2
  rcases q with ⟨ea, q⟩ | ⟨dx, fs, ea, ed, hl, q⟩
  · exact ost_newB T I2 ea hno r1 fun dx s' n ne J => ⟨σ, _, J, q dx n ne⟩
  · exact ost_oldB T I2 ea ed hl hno r1 fun s' J => ⟨σ, _, J, q⟩
end
/-! ### C(..) as a value -/
/-- an own exception class: its __init__ keeps sp -/
structure ExB (b : XB) (P : Program) (w : World) (K : PySem.W.Frag) (mg : Str → Option Value) (base : Heap) (C fI : Addr) (fd : FuncData) (ps : List Str) (sp : Sp) : Prop where
  ox : OexB b K C
  iC : PySem.W.findIn K (.ref C) "__init__" = some (some (.ref fI))
  tI : PySem.W.typeIn K (.ref fI) = some (.type "function")
  ok : FnOk P w K mg base CX0 1 fI fd ps sp
  bn : Binds K fd ps []
def tExB (C : Addr) (sp : Sp) (ta : TA) : TE := fun σ H Q => ta σ H fun vs H1 => vs.length ≤ 1000 ∧ ∀ a, H1 a = none → sp (.ref a :: vs) (upd H1 a (exo a C none)) (fun v H2 => v = .non ∧ Q (.ref a) H2) (fun _ _ _ => False)
section
variable {b : XB} {X : Cx} {x : Str} {C fI : Addr} {fd : FuncData} {ps : List Str} {sp : Sp} {e : Expr} {es : List Expr} {ta : TA} {p pos : Pos}
/-- behind the arguments -/
theorem exB_call {k : Nat} {pins : List (Addr × Obj)} {σ : L2.St} {H1 : Hp} {Q : VK} {s1 : Shared} {vs : List V} {us : List Value} {E : Value → Shared → Prop} (T : ExB b X.prog X.w X.K X.mg X.base C fI fd ps sp) (hr : Room (k + 2) X.A) (I1 : Inv X pins σ H1 s1) (r1 : Vals vs us) (hz : vs.length ≤ 1000)
    (q1 : ∀ a, H1 a = none → sp (.ref a :: vs) (upd H1 a (exo a C none)) (fun v H2 => v = .non ∧ Q (.ref a) H2) (fun _ _ _ => False)) :
    wpAny (model X.prog X.w) X.A (call (.ref C) us) (fun u s' => ∃ v H', Inv X pins σ H' s' ∧ RelV v u ∧ Q v H') E s1 := by
  obtain ⟨nm, q, N, bs, bm, sn, sub, ab, col, dd, k0, k1, k2, k3, k5, hC, hbm⟩ := T.ox.cls
  obtain ⟨hp, g, dr, tk, os⟩ := s1
  have hsz : hp.objs.size ≤ hp.objs.size + 1 := Nat.le_succ _
  have hn : H1 (hp.objs.size + 1) = none := I1.hok.fresh hsz
  have kk : ∀ b o, hp.get? b = some o → ((hp.push (PySem.W.kdv_tup us)).push (PySem.HandSPX.excO C hp.objs.size)).get? b = some o := fun b o e => Heap.get?_push_of_some _ (Heap.get?_push_of_some _ e)
  have hget : ((hp.push (PySem.W.kdv_tup us)).push (PySem.HandSPX.excO C hp.objs.size)).get? (hp.objs.size + 1) = some (PySem.HandSPX.excO C hp.objs.size) := by heap_get
  have I2 : Inv X pins σ (upd H1 (hp.objs.size + 1) (exo (hp.objs.size + 1) C none)) ⟨(hp.push (PySem.W.kdv_tup us)).push (PySem.HandSPX.excO C hp.objs.size), g, dr, tk, os⟩ :=
    I1.laid (t' := tk) (a := hp.objs.size + 1) (o := exo (hp.objs.size + 1) C none) (h' := (hp.push (PySem.W.kdv_tup us)).push (PySem.HandSPX.excO C hp.objs.size)) kk hsz (exo_ok hget)
  have r2 : Vals (V.ref (hp.objs.size + 1) :: (vs ++ [])) (Value.ref (hp.objs.size + 1) :: (us ++ [])) := .cons rfl (r1.append .nil)
  have hq := q1 (hp.objs.size + 1) hn
  rw [← List.append_nil vs] at hq
  have hl : (Value.ref (hp.objs.size + 1) :: us ++ []).length = ps.length := by
    have e := r2.length
    rw [T.ok.len _ _ _ _ hq] at e
    exact e.symm
  have hbn := T.bn _ (Value.ref (hp.objs.size + 1) :: us) I2.kIn hl
  rw [List.cons_append] at hbn
  have hus : us.length ≤ sizeLine := by
    rw [← Paired.length r1, sizeLine_eq]
    omega
  obtain ⟨i0, bmB, FB⟩ := b.fb
  refine wpAny_call (PySem.HandSPX.call_over FB (over_of hbm) (I1.kIn _ _ hC) (PySem.W.looks_findIn I1.kIn T.iC) (fun self => PySem.W.bind_fn I1.kIn self T.tI) hus
    (codeAny_mono (T.ok.run _ X.stack _ _ ⟨Value.ref (hp.objs.size + 1) :: us, []⟩ (Value.ref (hp.objs.size + 1) :: (us ++ [])) _ _ (fun _ _ _ => False) ((hr.mono (j := 2) (by omega)).make C us []) (I2.env0.make C us []) hbn r2 hq) fun r s' hq' => ?_))
  cases r with
  | error er => exact False.elim hq'
  | ok fl =>
    cases fl with
    | ret u =>
      obtain ⟨v', H', I3, rv, ev, q3⟩ := I2.after hq'
      subst ev
      exact ⟨rv, ⟨V.ref (hp.objs.size + 1), H', I3, rfl, q3⟩⟩
    | next => exact False.elim hq'
    | brk => exact False.elim hq'
    | cont => exact False.elim hq'
theorem pe_exB {k : Nat} (T : ExB b X.prog X.w X.K X.mg X.base C fI fd ps sp) (hr : Room (k + 2) X.A) (hg : Gl X x) (hm : X.mg x = some (.ref C)) (ha : PA X (e :: es) ta)
    (hdb : (x == ("__debug__" : Str)) = false := by decide) (hs : starEach (e :: es) X.env = (false, eval e X.env) :: starEach es X.env := by rfl) (hpl : (backTo pos (starEach es X.env)).any (·.1) = false := by rfl) :
    PE X (.Call (.Name x p) (e :: es) [] pos) (tExB C sp ta) := by
  refine ⟨fun pins s σ H Q I h => ?_⟩
  refine wpAny_Call_Name_kw (ld_glob I hg hm ?_ hdb)
  refine PySem.W.callWith_K (h₀ := X.base) I.ok.mod.kin T.ox.kC (thn (ha.run pos pins s σ H _ I h) fun us s1 ⟨vs, H1, I1, r1, hz, q1⟩ => ⟨I1.kIn, ?_⟩) hs hpl
  exact exB_call T hr I1 r1 hz q1
end
end Tp

set_option Elab.async false
set_option linter.all false
set_option maxRecDepth 100000
set_option maxHeartbeats 4000000
namespace Tp
open PySem PySem.Spec PyProof.Rows L2
section
variable {b : XB} {X : Cx} {x : Str} {C fI : Addr} {fd : FuncData} {ps ks : List Str} {sp : Sp} {e : Expr} {es : List Expr} {ta tk : TA} {p pos : Pos} {kws : List Keyword} {g : List Value → List Value → List Value} {gV : List V → List V → List V}
theorem pe_exB0 {k : Nat} (T : ExB b X.prog X.w X.K X.mg X.base C fI fd ps sp) (hr : Room (k + 2) X.A) (hg : Gl X x) (hm : X.mg x = some (.ref C)) (hdb : (x == ("__debug__" : Str)) = false := by decide) : PE X (.Call (.Name x p) [] [] pos) (tExB C sp tNil) := by
  refine ⟨fun pins s σ H Q I h => ?_⟩
  refine wpAny_Call_Name_kw (ld_glob I hg hm ?_ hdb)
  obtain ⟨hz, q1⟩ : ([] : List V).length ≤ 1000 ∧ ∀ a, H a = none → sp (.ref a :: []) (upd H a (exo a C none)) (fun v H2 => v = .non ∧ Q (.ref a) H2) (fun _ _ _ => False) := h
  exact PySem.W.callWith_K0 I.kIn T.ox.kC (exB_call (us := []) T hr I .nil hz q1)
/-- C(f = e, ..) -/
def tExBK (C : Addr) (m : Nat) (sp : Sp) (gV : List V → List V → List V) (tk : TA) : TE := fun σ H Q => tk σ H fun zs H1 => zs.length = m ∧ ∀ a, H1 a = none → sp (gV [.ref a] zs) (upd H1 a (exo a C none)) (fun v H2 => v = .non ∧ Q (.ref a) H2) (fun _ _ _ => False)
theorem pe_exBK {k : Nat} (T : ExB b X.prog X.w X.K X.mg X.base C fI fd ps sp) (hb : KBn X.K fd ps 1 ks g gV) (hr : Room (k + 2) X.A) (hg : Gl X x) (hm : X.mg x = some (.ref C)) (hkw : PK X kws tk)
    (hall : (backToKw pos (keywordEach kws X.env)).all (·.1.isSome) = true := by rfl) (hks : (backToKw pos (keywordEach kws X.env)).filterMap (·.1) = ks := by rfl)
    (hdb : (x == ("__debug__" : Str)) = false := by decide)
    (hpl : ((backTo pos (starEach [] X.env)).any (·.1) || (backToKw pos (keywordEach kws X.env)).any (·.1.isNone)) = false := by rfl) : PE X (.Call (.Name x p) [] kws pos) (tExBK C ks.length sp gV tk) := by
  refine ⟨fun pins s σ H Q I h => ?_⟩
  refine wpAny_Call_Name_kw (ld_glob I hg hm (PySem.W.callWith_KW0 (h₀ := X.base) I.ok.mod.kin T.ox.kC hall (thn (hkw.run pos pins s σ H _ I h) fun ws s1 ⟨zs, H1, I1, rz, l2, q1⟩ => ⟨I1.kIn, ?_⟩) hpl) hdb)
  rw [hks]
  obtain ⟨nm, q, N, bs, bm, sn, sub, ab, col, dd, k0, k1, k2, k3, k5, hC, hbm⟩ := T.ox.cls
  obtain ⟨hp, gs, dr, tk, os⟩ := s1
  have hsz : hp.objs.size ≤ hp.objs.size + 1 := Nat.le_succ _
  have hn : H1 (hp.objs.size + 1) = none := I1.hok.fresh hsz
  have kk : ∀ b o, hp.get? b = some o → ((hp.push (PySem.W.kdv_tup [])).push (PySem.HandSPX.excO C hp.objs.size)).get? b = some o := fun b o e => Heap.get?_push_of_some _ (Heap.get?_push_of_some _ e)
  have hget : ((hp.push (PySem.W.kdv_tup [])).push (PySem.HandSPX.excO C hp.objs.size)).get? (hp.objs.size + 1) = some (PySem.HandSPX.excO C hp.objs.size) := by heap_get
  have I2 : Inv X pins σ (upd H1 (hp.objs.size + 1) (exo (hp.objs.size + 1) C none)) ⟨(hp.push (PySem.W.kdv_tup [])).push (PySem.HandSPX.excO C hp.objs.size), gs, dr, tk, os⟩ :=
    I1.laid (t' := tk) (a := hp.objs.size + 1) (o := exo (hp.objs.size + 1) C none) (h' := (hp.push (PySem.W.kdv_tup [])).push (PySem.HandSPX.excO C hp.objs.size)) kk hsz (exo_ok hget)
  have hq := q1 (hp.objs.size + 1) hn
  have r1 : Vals [V.ref (hp.objs.size + 1)] [Value.ref (hp.objs.size + 1)] := .cons rfl .nil
  have r2 := hb.rel r1 rz
  obtain ⟨i0, bmB, FB⟩ := b.fb
  refine wpAny_call (PySem.HandSPX.call_overK (rest := []) FB (over_of hbm) (I1.kIn _ _ hC) (PySem.W.looks_findIn I1.kIn T.iC) (fun self => PySem.W.bind_fn I1.kIn self T.tI) (Nat.zero_le _)
    (codeAny_mono (T.ok.run _ X.stack _ _ ⟨[Value.ref (hp.objs.size + 1)], ks.zip ws⟩ (g [Value.ref (hp.objs.size + 1)] ws) _ _ (fun _ _ _ => False) ((hr.mono (j := 2) (by omega)).make C [] (ks.zip ws)) (I2.env0.make C [] (ks.zip ws)) (hb.to _ _ ws I2.kIn rfl (rz.length.symm.trans l2)) r2 hq) fun r s' hq' => ?_))
  cases r with
  | error er => exact False.elim hq'
  | ok fl =>
    cases fl with
    | ret u =>
      obtain ⟨v', H', I3, rv, ev, q3⟩ := I2.after hq'
      subst ev
      exact ⟨rv, ⟨V.ref (hp.objs.size + 1), H', I3, rfl, q3⟩⟩
    | next => exact False.elim hq'
    | brk => exact False.elim hq'
    | cont => exact False.elim hq'
/-! ### raise C(e, ..) -/
def tMkB (C : Addr) (sp : Sp) (ta : TA) : L2.St → Hp → XK → Prop := fun σ H Q => ta σ H fun vs H1 => vs.length ≤ 1000 ∧ ∀ a, H1 a = none → sp (.ref a :: vs) (upd H1 a (exo a C none))
  (fun v H2 => v = .non ∧ ∃ (d : Addr) (fs : List (Str × V)), H2 a = some (exo a C (some d)) ∧ H2 d = some (exd d fs) ∧ H1 d = none ∧ Q (.ref C) (some d) (upd (del H2 a) d (.xd fs))) (fun _ _ _ => False)
theorem pmk_B {k : Nat} (T : ExB b X.prog X.w X.K X.mg X.base C fI fd ps sp) (hr : Room (k + 2) X.A) (hg : Gl X x) (hm : X.mg x = some (.ref C)) (ha : PA X (e :: es) ta)
    (hdb : (x == ("__debug__" : Str)) = false := by decide) (he : starEach (e :: es) X.env = (false, eval e X.env) :: starEach es X.env := by rfl) (hpl : (backTo pos (starEach es X.env)).any (·.1) = false := by rfl) :
    PMk X (.Call (.Name x p) (e :: es) [] pos) (tMkB C sp ta) := by
  intro pins s σ H Q I h
  obtain ⟨nm, q, N, bs, bm, sn, sub, ab, col, dd, k0, k1, k2, k3, k5, hC, hbm⟩ := T.ox.cls
  refine wpAny_Call_Name_kw (ld_glob I hg hm ?_ hdb)
  refine PySem.W.callWith_K (h₀ := X.base) I.ok.mod.kin T.ox.kC (thn (ha.run pos pins s σ H _ I h) fun us s1 ⟨vs, H1, I1, r1, hz, q1⟩ => ⟨I1.kIn, ?_⟩) he hpl
  show wpAny _ _ (call (.ref C) us) _ _ _
  obtain ⟨hp, g, dr, tk, os⟩ := s1
  have hsz : hp.objs.size ≤ hp.objs.size + 1 := Nat.le_succ _
  have hn : H1 (hp.objs.size + 1) = none := I1.hok.fresh hsz
  have hq := q1 (hp.objs.size + 1) hn
  rw [← List.append_nil vs] at hq
  have kk : ∀ b o, hp.get? b = some o → ((hp.push (PySem.W.kdv_tup us)).push (PySem.HandSPX.excO C hp.objs.size)).get? b = some o := fun b o e => Heap.get?_push_of_some _ (Heap.get?_push_of_some _ e)
  have hget : ((hp.push (PySem.W.kdv_tup us)).push (PySem.HandSPX.excO C hp.objs.size)).get? (hp.objs.size + 1) = some (PySem.HandSPX.excO C hp.objs.size) := by heap_get
  have I2 : Inv X pins σ (upd H1 (hp.objs.size + 1) (exo (hp.objs.size + 1) C none)) ⟨(hp.push (PySem.W.kdv_tup us)).push (PySem.HandSPX.excO C hp.objs.size), g, dr, tk, os⟩ :=
    I1.laid (t' := tk) (a := hp.objs.size + 1) (o := exo (hp.objs.size + 1) C none) (h' := (hp.push (PySem.W.kdv_tup us)).push (PySem.HandSPX.excO C hp.objs.size)) kk hsz (exo_ok hget)
  have r2 : Vals (V.ref (hp.objs.size + 1) :: (vs ++ [])) (Value.ref (hp.objs.size + 1) :: (us ++ [])) := .cons rfl (r1.append .nil)
  have hl : (Value.ref (hp.objs.size + 1) :: us ++ []).length = ps.length := by
    have e := r2.length
    rw [T.ok.len _ _ _ _ hq] at e
    exact e.symm
  have hbn := T.bn _ (Value.ref (hp.objs.size + 1) :: us) I2.kIn hl
  rw [List.cons_append] at hbn
  have hus : us.length ≤ sizeLine := by
    rw [← Paired.length r1, sizeLine_eq]
    omega
  obtain ⟨i0, bmB, FB⟩ := b.fb
  refine wpAny_call (PySem.HandSPX.call_over FB (over_of hbm) (I1.kIn _ _ hC) (PySem.W.looks_findIn I1.kIn T.iC) (fun self => PySem.W.bind_fn I1.kIn self T.tI) hus
    (codeAny_mono (T.ok.run _ X.stack _ _ ⟨Value.ref (hp.objs.size + 1) :: us, []⟩ (Value.ref (hp.objs.size + 1) :: (us ++ [])) _ _ (fun _ _ _ => False) ((hr.mono (j := 2) (by omega)).make C us []) (I2.env0.make C us []) hbn r2 hq) fun r s' hq' => ?_))
  cases r with
  | error er => exact False.elim hq'
  | ok fl =>
    cases fl with
    | ret u =>
      obtain ⟨v, H2, os2, bare2, un2, hok2, rv, ev, d, fs, ea, ed, hd1, q2⟩ := hq'
      subst ev
      obtain ⟨h2, g2, d2, t2, os'⟩ := s'
      exact ⟨rv, mk_end (raises_own T.ox.exC T.ox.tyC) I1 hsz kk un2 hok2 os2 bare2 ea ed hd1 q2⟩
    | next => exact False.elim hq'
    | brk => exact False.elim hq'
    | cont => exact False.elim hq'
theorem ps_raiseB {k : Nat} {W : WX} {pos2 : Pos} (hc : X.calm = true) (T : ExB b X.prog X.w X.K X.mg X.base C fI fd ps sp) (hr : Room (k + 2) X.A) (tk : Takes X W) (hg : Gl X x) (hm : X.mg x = some (.ref C)) (ha : PA X (e :: es) ta)
    (hdb : (x == ("__debug__" : Str)) = false := by decide) (hs : starEach (e :: es) X.env = (false, eval e X.env) :: starEach es X.env := by rfl) (hpl : (backTo pos (starEach es X.env)).any (·.1) = false := by rfl) :
    PS X (.Raise (some (.Call (.Name x p) (e :: es) [] pos)) none pos2) (fun _ σ H => tMkB C sp ta σ H fun cls d H' => W cls d σ H') := ps_raise hc tk (pmk_B T hr hg hm ha hdb hs hpl)
end
end Tp

set_option Elab.async false
set_option linter.all false
set_option maxRecDepth 100000
set_option maxHeartbeats 4000000
namespace PySem.HandSPX
open Builtin Builtin.ObjectAttr
section
variable {prog : Program} {w : World} {A : Around} {E : Value → Shared → Prop} {R : Result → Shared → Prop} {h : Heap} {g : Array GenState} {d : Drawn} {t : Nat} {os : OsState}
variable {nm q : Str} {C N : Addr} {bs bm bmB : List Value} {hdct : Bool} {sn : List Str} {sub : List Value} {ab : Bool} {col : Option Bool} {dd : Option Addr} {k0 k1 k2 k3 k5 : Option Value} {B newId initId B2 initId2 : String}
/-- C(..), its __init__ a built-in one -/
theorem type_call_overB (F : ExcBaseFacts B newId initId bmB) (hT : Over bm B) (F2 : InitF B2 initId2) (hT2 : bm.contains (.type B2) = true) {rest : List Value} {Q : Fin → Shared → Prop}
    (hC : h.get? C = some (excClassObj nm q C N bs bm hdct sn sub ab col dd k0 k1 k2 k3 k5 newId))
    (hi : W.Looks (model prog w) h (typeLookup (.ref C) "__init__") (some (.builtin initId2))) (hrest : rest.length ≤ sizeLine)
    (hq : ∀ h' t1, (∀ b o, h.get? b = some o → h'.get? b = some o) → h'.get? (h.objs.size + 1) = some (excO C t1) → Q (.done (.ret (.ref (h.objs.size + 1)))) ⟨h', g, d, t, os⟩) :
    wpAny (model prog w) A (Builtin.«type.__call__» ⟨.ref C :: rest, []⟩) Q E ⟨h, g, d, t, os⟩ := by
  repeat (first | with_reducible refine wpAny_loadPart_at hC ?_ | with_reducible refine wpAny_madeBy_exc hC ?_ | wp_step)
  refine codeAny_call_builtin_code (Code.quiet_builtin _ F.quiet) (check_new_over F hT hC ?_)
  refine new_over F hT hC ?_ hrest
  show wpAny _ _ _ _ _ _
  have k : ∀ b o, h.get? b = some o → ((h.push (W.kdv_tup rest)).push (excO C h.objs.size)).get? b = some o := fun b o e => Heap.get?_push_of_some _ (Heap.get?_push_of_some _ e)
  have hC₁ := k _ _ hC
  have hget : ((h.push (W.kdv_tup rest)).push (excO C h.objs.size)).get? (h.objs.size + 1) = some (excO C h.objs.size) := by heap_get
  have hcC : (Value.ref C :: bm).contains (.ref C) = true := by simp
  have i1 := hi.keeps k
  unfold isInstance
  repeat (first | with_reducible refine wpAny_loadPart_at hget ?_ | (with_reducible refine wpAny_isSubtype_exc hC₁ ?_; rw [hcC]) | wp_step)
  show wpAny _ _ (typeLookup (.ref C) _) _ _ _
  refine i1.at ?_
  refine wpAny_holding (wpAny_bind (wpAny_of_eq (F2.init.bind _) ?_))
  refine wpAny_bind (wpAny_call (init_over F2 hT2 hC₁ hget hrest fun h' t1 k' e' => ?_))
  have z := hq h' t1 (fun b o hb => k' b o (Nat.ne_of_lt (Nat.lt_succ_of_lt (Heap.lt_size hb))) (k b o hb)) e'
  first
    | exact wpAny_pure (wpAny_pure z)
    | (wp_walk; exact z)
theorem call_overB (F : ExcBaseFacts B newId initId bmB) (hT : Over bm B) (F2 : InitF B2 initId2) (hT2 : bm.contains (.type B2) = true) {rest : List Value} {Q : Value → Shared → Prop}
    (hC : h.get? C = some (excClassObj nm q C N bs bm hdct sn sub ab col dd k0 k1 k2 k3 k5 newId))
    (hi : W.Looks (model prog w) h (typeLookup (.ref C) "__init__") (some (.builtin initId2))) (hrest : rest.length ≤ sizeLine)
    (hq : ∀ h' t1, (∀ b o, h.get? b = some o → h'.get? b = some o) → h'.get? (h.objs.size + 1) = some (excO C t1) → Q (.ref (h.objs.size + 1)) ⟨h', g, d, t, os⟩) :
    wpAny (model prog w) A (call (.ref C) rest) Q E ⟨h, g, d, t, os⟩ := by
  have f1 := tc_lookup
  have f2 := tc_bind (.ref C)
  have hTy : (⟨h, g, d, t, os⟩ : Shared).TypeIs (.ref C) "type" := ⟨_, hC, rfl⟩
  refine wpAny_call (codeAny_of_tree ?_)
  show wpAny _ _ (callAny (.ref C) _) _ _ _
  repeat (any_goals (first | assumption | with_reducible refine wpAny_loadPart_at hC ?_ | wp_step))
  refine ⟨rfl, ?_⟩
  exact codeAny_call_builtin_at (Code.quiet_builtin _ (by decide +kernel)) entry_typeCall (wpAny_check_type_call_sub hC (type_call_overB F hT F2 hT2 hC hi hrest hq))
end
end PySem.HandSPX
namespace Tp
open PySem PySem.Spec PyProof.Rows L2
/-! ### B('..'), B an own class without an __init__ of its own -/
def tExN (C : Addr) (ta : TA) : TE := fun σ H Q => ta σ H fun vs H1 => vs.length ≤ 1000 ∧ ∀ a, H1 a = none → Q (.ref a) (upd H1 a (exo a C none))
theorem pe_exN {b : XB} {X : Cx} {x : Str} {C : Addr} {e : Expr} {es : List Expr} {ta : TA} {p pos : Pos} (T : OexB b X.K C) (hi : PySem.W.findIn X.K (.ref C) "__init__" = some (some (.builtin b.initId))) (hg : Gl X x) (hm : X.mg x = some (.ref C)) (ha : PA X (e :: es) ta)
    (hdb : (x == ("__debug__" : Str)) = false := by decide) (hs : starEach (e :: es) X.env = (false, eval e X.env) :: starEach es X.env := by rfl) (hpl : (backTo pos (starEach es X.env)).any (·.1) = false := by rfl) :
    PE X (.Call (.Name x p) (e :: es) [] pos) (tExN C ta) := by
  refine ⟨fun pins s σ H Q I h => ?_⟩
  obtain ⟨nm, q, N, bs, bm, sn, sub, ab, col, dd, k0, k1, k2, k3, k5, hC, hbm⟩ := T.cls
  refine wpAny_Call_Name_kw (ld_glob I hg hm ?_ hdb)
  refine PySem.W.callWith_K (h₀ := X.base) I.ok.mod.kin T.kC (thn (ha.run pos pins s σ H _ I h) fun us s1 ⟨vs, H1, I1, r1, hz, q1⟩ => ⟨I1.kIn, ?_⟩) hs hpl
  obtain ⟨hp, g, dr, tk, os⟩ := s1
  obtain ⟨i0, bmB, FB⟩ := b.fb
  have hus : us.length ≤ sizeLine := by
    rw [← Paired.length r1, sizeLine_eq]
    omega
  have hsz : hp.objs.size ≤ hp.objs.size + 1 := Nat.le_succ _
  refine PySem.HandSPX.call_overB FB (over_of hbm) b.fi ((PySem.W.excTail_contains _ bm hbm).trans b.hasN) (I1.kIn _ _ hC) (PySem.W.looks_findIn I1.kIn hi) hus fun h' t1 k hx => ?_
  exact ⟨.ref (hp.objs.size + 1), _, I1.laid (t' := tk) (a := hp.objs.size + 1) (o := exo (hp.objs.size + 1) C none) (h' := h') k hsz (exo_ok hx), rfl, q1 _ (I1.hok.fresh hsz)⟩
/-! ### e.f, e an exception that is a value -/
def tExF (K : PySem.W.Frag) (f : Str) (te : TE) : TE := fun σ H Q => te σ H fun x H1 => ∃ (a C d : Addr) (fs : List (Str × V)) (v : V), x = .ref a ∧ H1 a = some (exo a C (some d)) ∧ H1 d = some (exd d fs) ∧ XfC K C ∧ PySem.W.findIn K (.ref C) f = some none ∧ fs.lookup f = some v ∧ Q v H1
theorem pe_exF {X : Cx} {e : Expr} {te : TE} {pos : Pos} {n : Str} (he : PE X e te) (hb : attributeBase e n X.env (eval e X.env) = eval e X.env := by rfl) : PE X (.Attribute e n pos) (tExF X.K n te) := by
  refine ⟨fun pins s σ H Q I h => ?_⟩
  refine attr_of hb (thn (he.run pins s σ H _ I h) fun u s1 hh => ?_)
  obtain ⟨x, H1, I1, rx, a, C, d, fs, v, ex, ea, ed, T, hno, l, q⟩ := hh
  subst ex
  obtain rfl : u = Value.ref a := rx
  obtain ⟨t1, ha⟩ := exo_at I1.hok ea
  obtain ⟨mA, hns, hr⟩ := exd_at I1.hok ed
  obtain ⟨od, ho, hl⟩ := lookIn_ns hns
  obtain ⟨u, hu, ru⟩ := RelO.some_of (v := v) (o := mA n) (by rw [← l]; exact hr n)
  have J : PySem.W.InstAt s1.heap a _ C (some od) := ⟨ha, rfl, rfl, ho⟩
  exact HandSPX.exc_get I1.kIn J T.ga T.gg T.exC (PySem.W.findObj_own T.hdC hno rfl (by rw [hl, hu])) (handed_of ru) ⟨v, H1, I1.tok _, ru, q⟩
/-! ### isinstance -/
inductive TyB (K : PySem.W.Frag) (H : Hp) : V → Value → Prop
  | a {v : V} {t : Value} (h : TyA K H v t) : TyB K H v t
  | exc0 {a D : Addr} (e : H a = some (exo a D none)) (C : ExcC K D) : TyB K H (.ref a) (.ref D)
theorem TyB.same {K : PySem.W.Frag} {H H' : Hp} (S : Same H H') {v : V} {t : Value} (h : TyB K H v t) : TyB K H' v t := by
  cases h with
  | a h => exact .a (h.same S)
  | exc0 e C => exact .exc0 (S _ _ e) C
theorem kitB_of {X : Cx} {pins : List (Addr × Obj)} {σ : L2.St} {H : Hp} {s : Shared} {x : V} {u t : Value} (I : Inv X pins σ H s) (rx : RelV x u) (ty : TyB X.K H x t) : ∃ P : Heap → Prop, PySem.W.KitX X.K u t P ∧ P s.heap ∧ u ≠ .builtin "__main__.__loader__#opaque" := by
  cases ty with
  | a h => exact kitA_of I rx h
  | @exc0 a D e C =>
    cases rx
    obtain ⟨t1, he⟩ := exo_at I.hok e
    refine ⟨_, kitx_excD (x := a) (ox := _) (od := none) C, ⟨he, rfl, rfl, trivial⟩, fun z => nomatch z⟩
def rIsB (K : PySem.W.Frag) : List V → Hp → VK → Prop := fun xs H Q => ∃ (x c : V) (t u : Value) (b : Bool), xs = [x, c] ∧ ClsV c u ∧ TyB K H x t ∧ PySem.W.kitOne K t u = some b ∧ Q (.bl b) H
theorem call_isB {X : Cx} {K : PySem.W.Frag} (hK : X.K = K) : CallR X (.builtin "isinstance") (rIsB K) := by
  subst hK
  intro pins s σ H xs us Q I r h
  obtain ⟨x, c, t, u, b, rfl, k, ty, e, q⟩ := h
  obtain ⟨u1, u2, rfl, r1, r2⟩ := vals2 r
  have e2 := k.eq r2
  subst e2
  obtain ⟨P, Z, p, hx⟩ := kitB_of I r1 ty
  exact PySem.W.kia_one Z I.kIn p e hx fun tk => ⟨.bl b, H, I.tok tk, rfl, q⟩
def rIsBT (K : PySem.W.Frag) : List V → Hp → VK → Prop := fun xs H Q => ∃ (x : V) (tp : Addr) (cs : List V) (t : Value) (us : List Value) (b : Bool), xs = [x, .ref tp] ∧ H tp = some (.tup cs) ∧ Paired ClsV cs us ∧ TyB K H x t ∧ PySem.W.kitAny K t us = some b ∧ Q (.bl b) H
theorem call_isBT {X : Cx} {K : PySem.W.Frag} (hK : X.K = K) : CallR X (.builtin "isinstance") (rIsBT K) := by
  subst hK
  intro pins s σ H xs us Q I r h
  obtain ⟨x, tp, cs, t, ws, b, rfl, hT, k, ty, e, q⟩ := h
  obtain ⟨u1, u2, rfl, r1, r2⟩ := vals2 r
  cases (show u2 = Value.ref tp from r2)
  obtain ⟨P, Z, p, hx⟩ := kitB_of I r1 ty
  obtain ⟨_, its, rv, o, h1, h2, n, h3⟩ := (show ObjOk X.prog X.w H s.heap tp (.tup cs) from I.hok tp _ hT)
  have e3 := ClsV.all k rv
  subst e3
  obtain ⟨oc, od, dt, sl⟩ := o
  simp only at h2 h3
  subst h2 h3
  exact PySem.W.kia_tup Z I.kIn p h1 e hx fun tk => ⟨.bl b, H, I.tok tk, rfl, q⟩
end Tp

set_option Elab.async false
set_option linter.all false
set_option maxRecDepth 100000
set_option maxHeartbeats 4000000
/-! what a head's Bool tells of an own exception class -/
namespace Tp
open PySem PySem.Spec PyProof.Rows L2 He
/-- C over the own classes up, over the built-in b -/
structure ClsX (b : XB) (K : PySem.W.Frag) (C : Addr) (up : List Addr) : Prop where
  lk : ∃ nm q N bs sn sub ab col dd k0 k1 k2 k3 k5, K.lookup C = some (excClassObj nm q C N bs (up.map Value.ref ++ b.tail) true sn sub ab col dd k0 k1 k2 k3 k5 b.newId)
  sa : PySem.W.findIn K (.ref C) "__setattr__" = some (some (.builtin "object.__setattr__"))
  hg : PySem.W.findIn K (.ref C) "__getattribute__" = some (some (.builtin "BaseException.__getattribute__"))
  hk : PySem.W.findIn K (.ref C) "__getattr__" = some none
  ha : PySem.W.findIn K (.ref C) "__class__" = some (some (.builtin "object.__class__"))
  kC : PySem.W.keepIn K (.ref C) = true
  hn : PySem.W.specialIn K (.builtin "object.__class__") "__get__" = some (some (.builtin "getset_descriptor.__get__"))
  ht : PySem.W.takesIn K (.builtin "object.__class__") = some true
def clsXB (b : XB) (K : PySem.W.Frag) (C : Addr) (up : List Addr) : Bool := (match K.lookup C with
  | some ⟨.type t, _, .cls cd, sl⟩ => decide (t = "type") && (match sl.toList with
    | [_, _, _, _, some (.builtin n), _] => decide (n = b.newId) && (decide (cd.mro = .ref C :: (up.map Value.ref ++ b.tail)) && (!cd.hasDel && cd.hasDict))
    | _ => false)
  | _ => false) && (eqO (PySem.W.findIn K (.ref C) "__setattr__") (some (some (.builtin "object.__setattr__"))) && (eqO (PySem.W.findIn K (.ref C) "__getattribute__") (some (some (.builtin "BaseException.__getattribute__"))) &&
  (eqO (PySem.W.findIn K (.ref C) "__getattr__") (some none) && (eqO (PySem.W.findIn K (.ref C) "__class__") (some (some (.builtin "object.__class__"))) && (PySem.W.keepIn K (.ref C) &&
  (eqO (PySem.W.specialIn K (.builtin "object.__class__") "__get__") (some (some (.builtin "getset_descriptor.__get__"))) && decide (PySem.W.takesIn K (.builtin "object.__class__") = some true)))))))
theorem clsXB_ok {b : XB} {K : PySem.W.Frag} {C : Addr} {up : List Addr} (h : clsXB b K C up = true) : ClsX b K C up := by
  obtain ⟨h, g⟩ := ba h
  obtain ⟨g1, g⟩ := ba g
  obtain ⟨g2, g⟩ := ba g
  obtain ⟨g3, g⟩ := ba g
  obtain ⟨g4, g⟩ := ba g
  obtain ⟨g5, g⟩ := ba g
  obtain ⟨g6, g7⟩ := ba g
  refine ⟨?_, eqO_ok g1, eqO_ok g2, eqO_ok g3, eqO_ok g4, g5, eqO_ok g6, of_decide_eq_true g7⟩
  cases q : K.lookup C with
  | none => rw [q] at h; cases h
  | some o =>
    obtain ⟨oc, od, dt, sl⟩ := o
    rw [q] at h
    cases oc with
    | type t =>
      cases dt with
      | cls cd =>
        obtain ⟨h1, h2⟩ := ba h
        have e1 : t = "type" := of_decide_eq_true h1
        subst e1
        obtain ⟨nm, bs, mro, N, qn, hd, sn, sub, ab, col, del⟩ := cd
        obtain ⟨sl⟩ := sl
        dsimp only at h2
        split at h2
        · rename_i k0 k1 k2 k3 n k5
          obtain ⟨h5, h6⟩ := ba h2
          obtain ⟨h3, h8⟩ := ba h6
          obtain ⟨h7, h9⟩ := ba h8
          have e5 : n = b.newId := of_decide_eq_true h5
          have e3 : mro = .ref C :: (up.map Value.ref ++ b.tail) := of_decide_eq_true h3
          subst e3 e5
          cases del
          · cases hd
            · cases h9
            · exact ⟨_, _, _, _, _, _, _, _, _, _, _, _, _, _, rfl⟩
          · cases h7
        · cases h2
      | _ => cases h
    | _ => cases dt <;> cases h
section
variable {b : XB} {K : PySem.W.Frag} {C : Addr} {up : List Addr}
theorem ClsX.cls (T : ClsX b K C up) : ∃ cd, PySem.W.clsIn K C = some cd ∧ cd.mro = .ref C :: (up.map Value.ref ++ b.tail) ∧ cd.hasDict = true := by
  obtain ⟨nm, q, N, bs, sn, sub, ab, col, dd, k0, k1, k2, k3, k5, hC⟩ := T.lk
  exact ⟨_, by unfold PySem.W.clsIn; rw [hC] <;> rfl, rfl, rfl⟩
theorem ClsX.sub (T : ClsX b K C up) (t : Value) : PySem.W.subIn K (.ref C) t = some ((Value.ref C :: (up.map Value.ref ++ b.tail)).contains t) := by
  obtain ⟨cd, hc, hm, _⟩ := T.cls
  show PySem.W.mroIn K C t = _
  unfold PySem.W.mroIn
  rw [hc, Option.bind_some, hm]
  rfl
theorem tail_ok : ∀ up : List Addr, PySem.W.excTail b.tail (up.map Value.ref ++ b.tail) = true
  | [] => by cases b <;> decide +kernel
  | _ :: r => tail_ok r
theorem tail_has (n : String) : ∀ up : List Addr, (up.map Value.ref ++ b.tail).contains (.type n) = b.tail.contains (.type n) := fun up => PySem.W.excTail_contains n _ (tail_ok up)
theorem ClsX.isB (T : ClsX b K C up) (n : String) : PySem.W.subIn K (.ref C) (.type n) = some (b.tail.contains (.type n)) := by
  rw [T.sub, List.contains_cons, tail_has]
  rfl
theorem ClsX.dict (T : ClsX b K C up) : PySem.W.hasDictIn K C = true := by
  obtain ⟨cd, hc, _, hd⟩ := T.cls
  unfold PySem.W.hasDictIn
  rw [hc]
  exact hd
theorem ClsX.ty (T : ClsX b K C up) : PySem.W.typeIn K (.ref C) = some (.type "type") := by
  obtain ⟨nm, q, N, bs, sn, sub, ab, col, dd, k0, k1, k2, k3, k5, hC⟩ := T.lk
  show (K.lookup C).map (·.cls) = _
  rw [hC] <;> rfl
theorem XB.isE : ∀ b : XB, b.tail.contains (.type "BaseException") = true
  | .ve => by decide +kernel
  | .ke => by decide +kernel
  | .le => by decide +kernel
theorem ClsX.exc (T : ClsX b K C up) : PySem.W.subIn K (.ref C) (.type "BaseException") = some true := by rw [T.isB, b.isE]
theorem ClsX.ox (T : ClsX b K C up) : OexB b K C := by
  obtain ⟨nm, q, N, bs, sn, sub, ab, col, dd, k0, k1, k2, k3, k5, hC⟩ := T.lk
  exact ⟨⟨_, _, _, _, _, _, _, _, _, _, _, _, _, _, _, hC, tail_ok up⟩, T.sa, T.exc, T.ty, T.kC⟩
theorem ClsX.ec (T : ClsX b K C up) : ExcC K C := ⟨T.hg, T.hk, T.exc, T.dict, T.ha, T.hn, T.ht, by
  have e := T.isB "object"
  rw [b.ob] at e
  exact e⟩
theorem ClsX.xf (T : ClsX b K C up) : XfC K C := ⟨T.hg, T.hk, T.exc, T.dict⟩
theorem tail_ref (D : Addr) : ∀ b : XB, b.tail.contains (.ref D) = false
  | .ve => rfl
  | .ke => rfl
  | .le => rfl
theorem up_has (D : Addr) : ∀ up : List Addr, (up.map Value.ref ++ b.tail).contains (.ref D) = up.contains D
  | [] => tail_ref D b
  | c :: r => by
    have e : (Value.ref D == Value.ref c) = (D == c) := by
      by_cases q : D = c
      · rw [q]; simp
      · have q1 : (D == c) = false := by simpa using q
        rw [q1]
        simpa using q
    rw [List.map_cons, List.cons_append, List.contains_cons, List.contains_cons, up_has D r, e]
/-- isinstance of an exception of class C, with an own class D -/
theorem kit_X {b2 : XB} {D : Addr} {up2 : List Addr} (T : ClsX b K C up) (T2 : ClsX b2 K D up2) : PySem.W.kitOne K (.ref C) (.ref D) = some ((C :: up).contains D) := by
  have e : PySem.W.subIn K (.ref C) (.ref D) = some ((C :: up).contains D) := by
    rw [T.sub]
    exact congrArg some (up_has (b := b) D (C :: up))
  by_cases q : D = C
  · subst q
    rw [kit_self]
    simp
  · exact kit_ref (by
      have : ¬ C = D := fun z => q z.symm
      simpa using this) T2.dict T2.ty e
/-- .. with a built-in class -/
theorem kit_XB (T : ClsX b K C up) (n : String) (hm : PySem.W.kitMeta n = true) : PySem.W.kitOne K (.ref C) (.type n) = some (b.tail.contains (.type n)) := kit_own (T.isB n) hm
theorem kit_any {t : Value} {us : List Value} {bs : List Bool} (h : Paired (fun u b => PySem.W.kitOne K t u = some b) us bs) : PySem.W.kitAny K t us = some (bs.any id) := by
  induction h with
  | nil => rfl
  | @cons u b us bs h1 _ ih =>
    unfold PySem.W.kitAny
    rw [h1]
    cases b
    · exact ih
    · rfl
/-- except D at an exception of class C -/
theorem exm_X {b2 : XB} {D : Addr} {up2 : List Addr} (T : ClsX b K C up) (T2 : ClsX b2 K D up2) : PySem.W.exmOne K (.ref C) (.ref D) = some ((C :: up).contains D) := by
  refine PySem.W.exm_ref T2.exc T2.dict T2.ty ?_
  rw [T.sub]
  exact congrArg some (up_has (b := b) D (C :: up))
end
end Tp

set_option Elab.async false
set_option linter.all false
set_option maxRecDepth 100000
set_option maxHeartbeats 4000000
namespace Tp
open PySem PySem.Spec PyProof.Rows L2 He
/-- the __init__ of an own exception class, the names of its fields -/
structure InitX (K : PySem.W.Frag) (C fI : Addr) (fs : List Str) : Prop where
  iC : PySem.W.findIn K (.ref C) "__init__" = some (some (.ref fI))
  tI : PySem.W.typeIn K (.ref fI) = some (.type "function")
  no : ∀ f ∈ fs, PySem.W.findIn K (.ref C) f = some none
def initXB (K : PySem.W.Frag) (C fI : Addr) (fs : List Str) : Bool := eqO (PySem.W.findIn K (.ref C) "__init__") (some (some (.ref fI))) && (decide (PySem.W.typeIn K (.ref fI) = some (.type "function")) && fs.all fun f => eqO (PySem.W.findIn K (.ref C) f) (some none))
theorem initXB_ok {K : PySem.W.Frag} {C fI : Addr} {fs : List Str} (h : initXB K C fI fs = true) : InitX K C fI fs := by
  obtain ⟨h1, h⟩ := ba h
  obtain ⟨h2, h3⟩ := ba h
  exact ⟨eqO_ok h1, of_decide_eq_true h2, fun f hf => eqO_ok (List.all_eq_true.mp h3 f hf)⟩
/-- __init__'s promise: no field, one, two -/
def spX0 (C : Addr) : Sp := fun vs H Q _ => ∃ a : Addr, vs = [.ref a] ∧ H a = some (exo a C none) ∧ Q .non H
def spX2 (C : Addr) (f g : Str) : Sp := fun vs H Q _ => ∃ (a : Addr) (v w : V), vs = [.ref a, v, w] ∧ H a = some (exo a C none) ∧
  ∀ dx, H dx = none → dx ≠ a → Q .non (upd (upd H dx (exd dx [(g, w), (f, v)])) a (exo a C (some dx)))
theorem two_heap {H : Hp} {a dx C : Addr} {l l2 : List (Str × V)} (ne : dx ≠ a) : upd (upd (upd H dx (exd dx l)) a (exo a C (some dx))) dx (exd dx l2) = upd (upd H dx (exd dx l2)) a (exo a C (some dx)) := by
  funext b
  by_cases h1 : b = dx
  · rw [h1, upd_same, upd_ne ne, upd_same]
  · rw [upd_ne h1]
    by_cases h2 : b = a
    · rw [h2, upd_same, upd_same]
    · rw [upd_ne h2, upd_ne h1, upd_ne h2, upd_ne h1]
theorem mkX {b : XB} {P : Program} {w : World} {K : PySem.W.Frag} {mg : Str → Option Value} {base : Heap} {C fI : Addr} {up : List Addr} {fs : List Str} {fd : FuncData} {ps : List Str} {sp : Sp} (T : ClsX b K C up) (J : InitX K C fI fs) (ok : FnOk P w K mg base CX0 1 fI fd ps sp) (bn : Binds K fd ps []) :
    ExB b P w K mg base C fI fd ps sp := ⟨T.ox, J.iC, J.tI, ok, bn⟩
/-- what a reading at such a call asks: one field -/
theorem ask1 {C : Addr} {f : Str} {H1 : Hp} {v : V} {Q : VK} (h : ∀ a d, H1 a = none → H1 d = none → d ≠ a → Q (.ref a) (upd (upd H1 d (exd d [(f, v)])) a (exo a C (some d)))) :
    [v].length ≤ 1000 ∧ ∀ a, H1 a = none → spXI C f (.ref a :: [v]) (upd H1 a (exo a C none)) (fun v H2 => v = .non ∧ Q (.ref a) H2) (fun _ _ _ => False) :=
  ⟨(show 1 ≤ 1000 from by decide), fun a ha => ⟨a, v, rfl, upd_same, fun dx hd ne => ⟨rfl, by
    rw [exv_heap ne]
    rw [upd_ne ne] at hd
    exact h a dx ha hd ne⟩⟩⟩
theorem exv_heapL {H1 : Hp} {a dx C : Addr} {l : List (Str × V)} (ne : dx ≠ a) : upd (upd (upd H1 a (exo a C none)) dx (exd dx l)) a (exo a C (some dx)) = upd (upd H1 dx (exd dx l)) a (exo a C (some dx)) := by
  funext b
  by_cases h1 : b = a
  · rw [h1, upd_same, upd_same]
  · rw [upd_ne h1, upd_ne h1]
    by_cases h2 : b = dx
    · rw [h2, upd_same, upd_same]
    · rw [upd_ne h2, upd_ne h2, upd_ne h1]
theorem ask2 {C : Addr} {f g : Str} {H1 : Hp} {v w : V} {Q : VK} (h : ∀ a d, H1 a = none → H1 d = none → d ≠ a → Q (.ref a) (upd (upd H1 d (exd d [(g, w), (f, v)])) a (exo a C (some d)))) :
    [v, w].length ≤ 1000 ∧ ∀ a, H1 a = none → spX2 C f g (.ref a :: [v, w]) (upd H1 a (exo a C none)) (fun v H2 => v = .non ∧ Q (.ref a) H2) (fun _ _ _ => False) :=
  ⟨(show 2 ≤ 1000 from by decide), fun a ha => ⟨a, v, w, rfl, upd_same, fun dx hd ne => ⟨rfl, by
    rw [exv_heapL ne]
    rw [upd_ne ne] at hd
    exact h a dx ha hd ne⟩⟩⟩
theorem ask0 {C : Addr} {H1 : Hp} {Q : VK} (h : ∀ a, H1 a = none → Q (.ref a) (upd H1 a (exo a C none))) :
    ([] : List V).length ≤ 1000 ∧ ∀ a, H1 a = none → spX0 C (.ref a :: []) (upd H1 a (exo a C none)) (fun v H2 => v = .non ∧ Q (.ref a) H2) (fun _ _ _ => False) :=
  ⟨Nat.zero_le _, fun a ha => ⟨a, rfl, upd_same, rfl, h a ha⟩⟩
theorem bt_ValueError : bootBuiltins "ValueError" = some (.type "ValueError") := by decide +kernel
theorem bt_KeyError : bootBuiltins "KeyError" = some (.type "KeyError") := by decide +kernel
theorem bt_LookupError : bootBuiltins "LookupError" = some (.type "LookupError") := by decide +kernel
end Tp

set_option Elab.async false
set_option linter.all false
set_option maxRecDepth 100000
set_option maxHeartbeats 4000000
namespace Tp
open PySem PySem.Spec PyProof.Rows L2
theorem ix_eq {L : List Addr} (nd : L.Nodup) {i j : Nat} {x y : Addr} (hi : L[i]? = some x) (hj : L[j]? = some y) : (y == x) = decide (i = j) := by
  by_cases e : i = j
  · subst e
    rw [hi] at hj
    cases hj
    simp
  · have ne : ¬ y = x := fun z => by
      subst z
      obtain ⟨li, ei⟩ := List.getElem?_eq_some_iff.mp hi
      obtain ⟨lj, ej⟩ := List.getElem?_eq_some_iff.mp hj
      exact e ((List.getElem_inj nd).mp (ei.trans ej.symm))
    rw [decide_eq_false e]
    simpa using ne
theorem has_ix {L : List Addr} (nd : L.Nodup) {i k j : Nat} {D B C : Addr} (hi : L[i]? = some D) (hk : L[k]? = some B) (hj : L[j]? = some C) : ([D, B] : List Addr).contains C = (decide (i = j) || decide (k = j)) := by
  rw [List.contains_cons, List.contains_cons, ix_eq nd hi hj, ix_eq nd hk hj]
  simp
/-! ### own exceptions as values, over a heap that is not told -/
def ExAt (H : Hp) (x : V) (C : Addr) (l : List (Str × V)) : Prop := ∃ a, x = .ref a ∧ ((l = [] ∧ H a = some (exo a C none)) ∨ ∃ d, H a = some (exo a C (some d)) ∧ H d = some (exd d l))
theorem ExAt.same {H H' : Hp} {x : V} {C : Addr} {l : List (Str × V)} (h : ExAt H x C l) (S : Same H H') : ExAt H' x C l := by
  obtain ⟨a, e, ⟨hl, h⟩ | ⟨d, h1, h2⟩⟩ := h
  · exact ⟨a, e, .inl ⟨hl, S _ _ h⟩⟩
  · exact ⟨a, e, .inr ⟨d, S _ _ h1, S _ _ h2⟩⟩
theorem ExAt.ty {b : XB} {K : PySem.W.Frag} {up : List Addr} {H : Hp} {x : V} {C : Addr} {l : List (Str × V)} (h : ExAt H x C l) (c : ClsX b K C up) : TyB K H x (.ref C) := by
  obtain ⟨a, rfl, ⟨_, h⟩ | ⟨d, h1, h2⟩⟩ := h
  · exact .exc0 h c.ec
  · exact .a (.exc h1 h2 c.ec)
theorem same_two {H : Hp} {a d : Addr} {x y : HO} (ha : H a = none) (hd : H d = none) : Same H (upd (upd H d x) a y) := fun b o h => by
  rw [upd_ne (ne_of_none h ha), upd_ne (ne_of_none h hd)]
  exact h
theorem same_three {H : Hp} {a d : Addr} {x y z : HO} (ha : H a = none) (hd : upd H a x d = none) : Same H (upd (upd (upd H a x) d y) a z) := fun b o h => by
  have ne : d ≠ a := fun e => by rw [e, upd_same] at hd; cases hd
  rw [upd_ne ne] at hd
  rw [upd_ne (ne_of_none h ha), upd_ne (ne_of_none h hd), upd_ne (ne_of_none h ha)]
  exact h
/-- what is left of an exception that flies -/
theorem same_fly {H : Hp} {a d : Addr} {x y z u : HO} (ha : H a = none) (hd : upd H a x d = none) : Same H (upd (del (upd (upd (upd H a x) d y) a z) a) d u) := fun b o h => by
  have ne : d ≠ a := fun e => by rw [e, upd_same] at hd; cases hd
  rw [upd_ne ne] at hd
  rw [upd_ne (ne_of_none h hd), del_ne (ne_of_none h ha)]
  exact same_three ha (by rw [upd_ne ne]; exact hd) b o h
theorem askE1 {C : Addr} {f : Str} {H1 : Hp} {v : V} {Q : VK} (h : ∀ x H2, Same H1 H2 → ExAt H2 x C [(f, v)] → Q x H2) :
    [v].length ≤ 1000 ∧ ∀ a, H1 a = none → spXI C f (.ref a :: [v]) (upd H1 a (exo a C none)) (fun v H2 => v = .non ∧ Q (.ref a) H2) (fun _ _ _ => False) :=
  ask1 fun a d ha hd ne => h _ _ (same_two ha hd) ⟨a, rfl, .inr ⟨d, upd_same, by rw [upd_ne ne]; exact upd_same⟩⟩
theorem askE2 {C : Addr} {f g : Str} {H1 : Hp} {v w : V} {Q : VK} (h : ∀ x H2, Same H1 H2 → ExAt H2 x C [(g, w), (f, v)] → Q x H2) :
    [v, w].length ≤ 1000 ∧ ∀ a, H1 a = none → spX2 C f g (.ref a :: [v, w]) (upd H1 a (exo a C none)) (fun v H2 => v = .non ∧ Q (.ref a) H2) (fun _ _ _ => False) :=
  ask2 fun a d ha hd ne => h _ _ (same_two ha hd) ⟨a, rfl, .inr ⟨d, upd_same, by rw [upd_ne ne]; exact upd_same⟩⟩
theorem askE0 {C : Addr} {H1 : Hp} {Q : VK} (h : ∀ x H2, Same H1 H2 → ExAt H2 x C [] → Q x H2) :
    ([] : List V).length ≤ 1000 ∧ ∀ a, H1 a = none → spX0 C (.ref a :: []) (upd H1 a (exo a C none)) (fun v H2 => v = .non ∧ Q (.ref a) H2) (fun _ _ _ => False) :=
  ask0 fun a ha => h _ _ (same_new ha) ⟨a, rfl, .inl ⟨rfl, upd_same⟩⟩
/-- the same of a list laid -/
theorem askL {H1 : Hp} {xs : List V} {Q : VK} {n : Nat} (hn : xs.length = n) (hz : n ≤ sizeLine) (h : ∀ x H2, Same H1 H2 → H2 x = some (.lst xs) → Q (.ref x) H2) : xs.length ≤ sizeLine ∧ ∀ x, H1 x = none → Q (.ref x) (upd H1 x (.lst xs)) :=
  ⟨by rw [hn]; exact hz, fun x hx => h x _ (same_new hx) upd_same⟩
theorem kbP1 {K : PySem.W.Frag} {x qual : Str} {st : Stmt} {f : Addr} {fd : FuncData} {ps : List Str} (F : Fun K x qual st f fd) (ks : List Str) (g : {α : Type} → List α → List α) (hrel : ∀ {zs : List V} {ws : List Value}, Vals zs ws → Vals (g zs) (g ws))
    (h : ∀ (kV doc pm : Value) (an : Option Addr) (cdv ct u : Value) (ws : List Value), ws.length = ks.length → bindArgs (PySem.W.fnOf x qual (defArgs st) (defBody st) (defScope st) .none kV doc pm an cdv ct) ⟨[u], ks.zip ws⟩ = pure (ps.zip (u :: g ws))) :
    KBn K fd ps 1 ks (fun us ws => us ++ g ws) (fun vs zs => vs ++ g zs) := by
  obtain ⟨oc, od, kV, doc, pm, an, cdv, ct, osl, rfl, lk, hcd⟩ := F.ex
  refine ⟨fun s us ws X l1 l2 => ?_, fun r1 r2 => r1.append (hrel r2)⟩
  match us, l1 with
  | [u], _ => exact .of_eq (h kV doc pm an cdv ct u ws l2)
def swap2 {α : Type} : List α → List α
  | [x, y] => [y, x]
  | l => l
theorem swap2_rel {zs : List V} {ws : List Value} (r : Vals zs ws) : Vals (swap2 zs) (swap2 ws) := by
  match r with
  | .nil => exact .nil
  | .cons a .nil => exact .cons a .nil
  | .cons a (.cons b .nil) => exact .cons b (.cons a .nil)
  | .cons a (.cons b (.cons c t)) => exact .cons a (.cons b (.cons c t))
theorem none_same {H H' : Hp} {z : Addr} (S : Same H H') (h : H' z = none) : H z = none := by
  cases e : H z with
  | none => rfl
  | some u => rw [S _ _ e] at h; cases h
theorem sys_kp {K : PySem.W.Frag} {b : Addr} {n : Nat} {H H' : Hp} (bx : BoxAt b n H) (k : Kp b H H') (h : Sys K H) : Sys K H' := by
  rcases h with h | ⟨h, o, φ, e⟩
  · exact .inl h
  · refine .inr ⟨h, o, φ, k _ _ (fun z => ?_) e⟩
    obtain ⟨x, y, z', e', _⟩ := bx
    rw [z, e'] at e
    cases e
/-- a built-in type's things are no own exceptions -/
theorem kit_no {K : PySem.W.Frag} {b : XB} {C : Addr} {up : List Addr} (d : PyData) (T2 : ClsX b K C up) : PySem.W.kitOne K (tyD d) (.ref C) = some false := by
  have key : ∀ (n : String) (l : List String), PySem.fastBuiltinMro n = some (l.map Value.type) → PySem.W.subIn K (.type n) (.ref C) = some false := by
    intro n l e
    show (PySem.fastBuiltinMro n).map (·.contains (.ref C)) = _
    rw [e]
    show some ((l.map Value.type).contains (.ref C)) = some false
    congr 1
    clear e
    induction l with
    | nil => rfl
    | cons x l ih => rw [List.map_cons, List.contains_cons, ih]; rfl
  refine kit_ref ?_ T2.dict T2.ty ?_
  · cases d <;> rfl
  · cases d with
    | none => exact key _ ["NoneType", "object"] (by decide +kernel)
    | bool _ => exact key _ ["bool", "int", "object"] (by decide +kernel)
    | int _ => exact key _ ["int", "object"] (by decide +kernel)
    | str _ => exact key _ ["str", "object"] (by decide +kernel)
    | list _ => exact key _ ["list", "object"] (by decide +kernel)
    | tuple _ => exact key _ ["tuple", "object"] (by decide +kernel)
    | dict _ => exact key _ ["dict", "object"] (by decide +kernel)
/-! ### flat things -/
inductive FlV : V → PyData → Prop
  | int {i : Int} (h : i.natAbs < 10 ^ 40) : FlV (.int i) (.int i)
  | str {z : Str} (h : ∀ c ∈ z.cps.toList, c < 16 ^ 8) (l : z.length ≤ 50) : FlV (.str z) (.str z)
  | non : FlV .non .none
  | bl (b : Bool) : FlV (.bl b) (.bool b)
theorem FlV.dq {K : PySem.W.Frag} {H : Hp} {v : V} {d : PyData} (h : FlV v d) : Dq K H v d := by
  cases h with
  | int _ => exact .int _
  | str _ _ => exact .str _
  | non => exact .non
  | bl b => exact .bl b
theorem FlV.fit {v : V} {d : PyData} (h : FlV v d) : FitQ 0 600 d := by
  cases h with
  | int h => exact (fitq_int h).up (Nat.le_refl _) (by decide)
  | str h l =>
    refine (fitq_of (n := 0) (.str h)).up (Nat.le_refl _) ?_
    simp only [wt]
    omega
  | non => exact fitq_none.up (Nat.le_refl _) (by decide)
  | bl b => exact (fitq_bool b).up (Nat.le_refl _) (by decide)
theorem text_codes (s : String) : ∀ c ∈ (Str.ofString s).cps.toList, c < 16 ^ 8 := by
  intro c hc
  have e : (Str.ofString s).cps.toList = s.toList.map Char.toNat := by rw [Str.ofString_eq_toList]
  rw [e] at hc
  obtain ⟨ch, _, rfl⟩ := List.mem_map.mp hc
  have := ch.val.toNat_lt
  show ch.val.toNat < _
  omega
/-- draws of any size up to 2 ^ 100 -/
def spTakeW : Sp := fun vs H Q _ => ∃ (b : Addr) (m : Int) (n : Nat), vs = [.ref b, .int m] ∧ BoxAt b n H ∧ n < 1000000 ∧ 0 < m ∧ m < 2 ^ 100 ∧
  ∀ r H', 0 ≤ r → r < m → Kp b H H' → BoxAt b (n + 1) H' → Q (.int r) H'
end Tp

set_option Elab.async false
set_option linter.all false
set_option maxRecDepth 100000
set_option maxHeartbeats 4000000
/-! dicts whose keys are tuples of ints, texts and such tuples -/
namespace Tp
open PySem PySem.Spec PyProof.Rows L2
mutual
inductive NkV (K : PySem.W.Frag) (H : Hp) : NestedKey → V → Prop
  | num (i : Int) : NkV K H (.num i) (.int i)
  | text (x : Str) : NkV K H (.text x) (.str x)
  | tup {b : Addr} {ks : List NestedKey} {vs : List V} : SqT K H b vs → NkAll K H ks vs → NkV K H (.tup ks) (.ref b)
inductive NkAll (K : PySem.W.Frag) (H : Hp) : List NestedKey → List V → Prop
  | nil : NkAll K H [] []
  | cons {k : NestedKey} {ks : List NestedKey} {v : V} {vs : List V} : NkV K H k v → NkAll K H ks vs → NkAll K H (k :: ks) (v :: vs)
end
theorem sqT_same {K : PySem.W.Frag} {H H' : Hp} (S : Same H H') {a : Addr} {xs : List V} : SqT K H a xs → SqT K H' a xs := by
  rintro ((h | ⟨o, h⟩) | h)
  · exact .inl (.inl (S _ _ h))
  · exact .inl (.inr ⟨o, S _ _ h⟩)
  · exact .inr h
/-- tuples stay while all that is no list, dict or instance stays -/
def SameT (H H' : Hp) : Prop := (∀ a xs, H a = some (.tup xs) → H' a = some (.tup xs)) ∧ ∀ a o xs, H a = some (.frz o (.tup xs)) → H' a = some (.frz o (.tup xs))
theorem Same.toT {H H' : Hp} (S : Same H H') : SameT H H' := ⟨fun a xs h => S _ _ h, fun a o xs h => S _ _ h⟩
theorem SameT.trans {H H1 H2 : Hp} (p : SameT H H1) (q : SameT H1 H2) : SameT H H2 := ⟨fun a xs h => q.1 a xs (p.1 a xs h), fun a o xs h => q.2 a o xs (p.2 a o xs h)⟩
theorem SameT.sq {K : PySem.W.Frag} {H H' : Hp} (S : SameT H H') {a : Addr} {xs : List V} : SqT K H a xs → SqT K H' a xs := by
  rintro ((h | ⟨o, h⟩) | h)
  · exact .inl (.inl (S.1 _ _ h))
  · exact .inl (.inr ⟨o, S.2 _ _ _ h⟩)
  · exact .inr h
def NoTup : HO → Prop
  | .tup _ => False
  | .frz _ (.tup _) => False
  | _ => True
theorem SameT.upd {H : Hp} {a : Addr} {o u : HO} (h : H a = some o) (n : NoTup o) : SameT H (L2.upd H a u) :=
  ⟨fun b xs e => by rw [upd_ne (fun z => by rw [z, h] at e; cases e; exact n)]; exact e, fun b ob xs e => by rw [upd_ne (fun z => by rw [z, h] at e; cases e; exact n)]; exact e⟩
mutual
theorem NkV.same {K : PySem.W.Frag} {H H' : Hp} (S : SameT H H') : ∀ {k : NestedKey} {v : V}, NkV K H k v → NkV K H' k v
  | _, _, .num i => .num i
  | _, _, .text x => .text x
  | _, _, .tup s r => .tup (S.sq s) (NkAll.same S r)
theorem NkAll.same {K : PySem.W.Frag} {H H' : Hp} (S : SameT H H') : ∀ {k : List NestedKey} {v : List V}, NkAll K H k v → NkAll K H' k v
  | _, _, .nil => .nil
  | _, _, .cons a b => .cons (NkV.same S a) (NkAll.same S b)
end
section
variable {X : Cx} {pins : List (Addr × Obj)} {σ : L2.St} {H : Hp} {s : Shared}
mutual
theorem NkV.is (I : Inv X pins σ H s) : ∀ {k : NestedKey} {v : V}, NkV X.K H k v → ∀ u, RelV v u → NestedIs s.heap k u
  | _, _, .num i, u, r => by obtain ⟨t, rfl⟩ := r; exact .int _ _
  | _, _, .text x, u, r => by obtain ⟨t, rfl⟩ := r; exact .text _ _
  | _, _, .tup hs hr, u, r => by
    obtain ⟨its, rv, ⟨o, ho, hc, n, hd⟩, _⟩ := I.tuple hs
    cases r
    exact .tup ho hc hd (by simpa using NkAll.is I hr its rv)
theorem NkAll.is (I : Inv X pins σ H s) : ∀ {k : List NestedKey} {v : List V}, NkAll X.K H k v → ∀ u, Vals v u → NestedAll s.heap k u
  | _, _, .nil, u, r => by cases r; exact .nil
  | _, _, .cons a b, u, r => by
    cases r with
    | cons r1 r2 => exact .cons (NkV.is I a _ r1) (NkAll.is I b _ r2)
end
end
abbrev NX := List (NestedKey × Addr × V)
def RelN (x : NestedKey × Addr × V) (y : NestedKey × Addr × Value) : Prop := x.1 = y.1 ∧ x.2.1 = y.2.1 ∧ RelV x.2.2 y.2.2
def dNφ (P : Program) (w : World) (a : Addr) (xs : NX) : Heap → Prop := fun h => xs.length ≤ sizeLine ∧ (a == sysModules) = false ∧ ∃ ys, Paired RelN xs ys ∧ ∃ o es ep, h.get? a = some o ∧ o.ExactDict ∧ o.data = .dict es ep ∧ es.toList = ys.map (entryOfKey (nestedKind P w)) ∧ (ys.map (·.1)).Nodup
/-- a dict with such keys -/
def dN (P : Program) (w : World) (a : Addr) (xs : NX) : HO := .ext (dNφ P w a xs)
def NOk (K : PySem.W.Frag) (H : Hp) (xs : NX) : Prop := ∀ x ∈ xs, NkV K H x.1 (.ref x.2.1) ∧ x.1.depth ≤ 8
theorem NOk.same {K : PySem.W.Frag} {H H' : Hp} {xs : NX} (h : NOk K H xs) (S : SameT H H') : NOk K H' xs := fun x hx => ⟨(h x hx).1.same S, (h x hx).2⟩
theorem dN_ok {P : Program} {w : World} {H : Hp} {h : Heap} {a : Addr} {xs : NX} (d : dNφ P w a xs h) : ObjOk P w H h a (dN P w a xs) := by
  obtain ⟨_, _, ys, _, o, es, ep, ho, _⟩ := id d
  refine ⟨d, ⟨o, ho⟩, fun h1 h2 q k => ?_⟩
  obtain ⟨l, n, ys, r, o, es, ep, ho, rest⟩ := q
  exact ⟨l, n, ys, r, o, es, ep, k _ ho, rest⟩
def lookN (xs : NX) (k : NestedKey) : Option V := (xs.find? fun x => decide (x.1 = k)).map (·.2.2)
theorem look_rel {xs : NX} {ys : List (NestedKey × Addr × Value)} (r : Paired RelN xs ys) (k : NestedKey) : RelO (lookN xs k) ((atKey ys k).map (·.2)) := by
  unfold lookN atKey
  induction r with
  | nil => trivial
  | @cons x y xs ys h _ ih =>
    obtain ⟨h1, h2, h3⟩ := h
    rw [List.find?_cons, List.find?_cons, ← h1]
    cases decide (x.1 = k) with
    | true => exact h3
    | false => exact ih
theorem lookN_new {xs : NX} {k : NestedKey} {b : Addr} {v : V} (h : lookN xs k = none) : lookN (xs ++ [(k, b, v)]) k = some v := by
  unfold lookN at h ⊢
  have e : xs.find? (fun x => decide (x.1 = k)) = none := Option.map_eq_none_iff.mp h
  rw [List.find?_append, e]
  simp
theorem lookN_old {xs : NX} {k j : NestedKey} {b : Addr} {v u : V} (h : lookN xs j = some u) : lookN (xs ++ [(k, b, v)]) j = some u := by
  unfold lookN at h ⊢
  obtain ⟨x, hx, e⟩ := Option.map_eq_some_iff.mp h
  rw [List.find?_append, hx]
  simpa using e
section
variable {X : Cx} {pins : List (Addr × Obj)} {σ : L2.St} {H : Hp} {s : Shared} {a b : Addr} {xs : NX} {k : NestedKey} {A : Around} {E : Value → Shared → Prop}
theorem dn_at (I : Inv X pins σ H s) (e : H a = some (dN X.prog X.w a xs)) (ok : NOk X.K H xs) : xs.length ≤ sizeLine ∧ (a == sysModules) = false ∧ ∃ ys, Paired RelN xs ys ∧ s.heap.DictOfH (nestedKind X.prog X.w) a ys := by
  obtain ⟨⟨l, n, ys, r, o, es, ep, ho, h1, h2, h3, h4⟩, _⟩ := (show ObjOk X.prog X.w H s.heap a (dN X.prog X.w a xs) from I.hok a _ e)
  refine ⟨l, n, ys, r, o, es, ep, ho, h1, h2, h3, fun y hy => ?_, h4⟩
  have key : ∀ {xs : NX} {ys : List (NestedKey × Addr × Value)}, Paired RelN xs ys → (∀ x ∈ xs, NkV X.K H x.1 (.ref x.2.1) ∧ x.1.depth ≤ 8) → ∀ y ∈ ys, NestedIs s.heap y.1 (.ref y.2.1) ∧ y.1.depth ≤ 8 := by
    intro xs ys r
    induction r with
    | nil => intro _ y hy; cases hy
    | @cons x y xs ys h _ ih =>
      intro ok z hz
      rcases List.mem_cons.mp hz with e | hz
      · subst e
        obtain ⟨h1, h2, _⟩ := h
        obtain ⟨k1, k2⟩ := ok x List.mem_cons_self
        rw [← h1, ← h2]
        exact ⟨k1.is I _ rfl, k2⟩
      · exact ih (fun x hx => ok x (List.mem_cons_of_mem _ hx)) z hz
  exact key r ok y hy
theorem roomN (hu : A.units + 64 < cLine) : (nestedKind X.prog X.w).room A.in1 := by
  show A.in1.units + 8 < cLine
  have : A.in1.units = A.units + 1 := rfl
  omega
/-- k in d, k not in d -/
def rInN (P : Program) (w : World) (K : PySem.W.Frag) (f : Bool → Bool) : R2 := fun x y H Q => ∃ a b xs k, y = .ref a ∧ x = .ref b ∧ H a = some (dN P w a xs) ∧ NOk K H xs ∧ NkV K H k (.ref b) ∧ k.depth ≤ 8 ∧ Q (.bl (f (lookN xs k).isSome)) H
theorem op_inN (hu : X.A.units + 64 < cLine) : OpR X (compareOp .In) (rInN X.prog X.w X.K id) := by
  intro pins s σ H x y v u Q I rx ry h
  obtain ⟨a, b, xs, k, rfl, rfl, e, ok, nk, dp, q⟩ := h
  obtain rfl : u = Value.ref a := ry
  obtain rfl : v = Value.ref b := rx
  obtain ⟨l, n, ys, r, d⟩ := dn_at I e ok
  refine wpAny_in_heap (roomN hu) ⟨nk.is I _ rfl, dp⟩ n d ⟨.bl (lookN xs k).isSome, H, I.tok _, ?_, q⟩
  have z := (look_rel r k).isSome_eq
  rw [Option.isSome_map] at z
  rw [z]
  rfl
theorem op_notInN (hu : X.A.units + 64 < cLine) : OpR X (compareOp .NotIn) (rInN X.prog X.w X.K not) := by
  intro pins s σ H x y v u Q I rx ry h
  obtain ⟨a, b, xs, k, rfl, rfl, e, ok, nk, dp, q⟩ := h
  obtain rfl : u = Value.ref a := ry
  obtain rfl : v = Value.ref b := rx
  obtain ⟨l, n, ys, r, d⟩ := dn_at I e ok
  refine wpAny_notIn_heap (roomN hu) ⟨nk.is I _ rfl, dp⟩ n d ⟨.bl (!(lookN xs k).isSome), H, I.tok _, ?_, q⟩
  have z := (look_rel r k).isSome_eq
  rw [Option.isSome_map] at z
  rw [z]
  rfl
end
/-! ### d[k], d[k] = v, {} -/
def tNGet (P : Program) (w : World) (K : PySem.W.Frag) (td ty : TE) : TE := fun σ H Q => td σ H fun x H1 => ty σ H1 fun y H2 => ∃ a b xs k v, x = .ref a ∧ y = .ref b ∧ H2 a = some (dN P w a xs) ∧ NOk K H2 xs ∧ NkV K H2 k (.ref b) ∧ k.depth ≤ 8 ∧ lookN xs k = some v ∧ Q v H2
def sNPut (P : Program) (w : World) (K : PySem.W.Frag) (td ty tv : TE) : TS := fun D σ H => tv σ H fun v H1 => td σ H1 fun x H2 => ty σ H2 fun y H3 => ∃ a b xs k, x = .ref a ∧ y = .ref b ∧ H3 a = some (dN P w a xs) ∧ NOk K H3 xs ∧ NkV K H3 k (.ref b) ∧ k.depth ≤ 8 ∧ lookN xs k = none ∧ xs.length < sizeLine ∧
  D.nx σ (upd H3 a (dN P w a (xs ++ [(k, b, v)])))
def tDNewN (P : Program) (w : World) : TE := fun _ H Q => ∀ p, H p = none → Q (.ref p) (upd H p (dN P w p []))
section
variable {X : Cx} {o i value : Expr} {pos pos' : Pos} {td ty tv : TE}
theorem pe_nget (hu : X.A.units + 64 < cLine) (ho : PE X o td) (hi : PE X i ty) (hs : NoSl i) : PE X (.Subscript o i pos) (tNGet X.prog X.w X.K td ty) := by
  refine ⟨fun pins s σ H Q I h => ?_⟩
  refine subD_of PySem.F.slot_dict_getitem.lookup hs (thn (ho.run pins s σ H _ I h) fun u s1 ⟨x, H1, I1, rx, q1⟩ => thn (hi.run pins s1 σ H1 _ I1 q1) fun iv s2 ⟨y, H2, I2, ry, a, b, xs, k, v, ex, ey, e, ok, nk, dp, lk, q2⟩ => ?_)
  subst ex ey
  obtain rfl : u = Value.ref a := rx
  obtain rfl : iv = Value.ref b := ry
  obtain ⟨l, n, ys, r, d⟩ := dn_at I2 e ok
  obtain ⟨w', hw, rw'⟩ := RelO.some_of (v := v) (o := (atKey ys k).map (·.2)) (by rw [← lk]; exact look_rel r k)
  obtain ⟨p, hp, hp2⟩ := Option.map_eq_some_iff.mp hw
  refine ⟨d.typeIs, wpAny_getItem_heap (roomN hu) ⟨nk.is I2 _ rfl, dp⟩ d hp ?_⟩
  rw [hp2]
  exact ⟨v, H2, I2.tok _, rw', q2⟩
theorem paired_snoc {α β : Type} {F : α → β → Prop} {xs : List α} {ys : List β} {x : α} {y : β} (r : Paired F xs ys) (h : F x y) : Paired F (xs ++ [x]) (ys ++ [y]) := by
  induction r with
  | nil => exact .cons h .nil
  | cons a _ ih => exact .cons a ih
theorem ps_nput (hu : X.A.units + 64 < cLine) (ho : PE X o td) (hi : PE X i ty) (hv : PE X value tv) (hs : swapsWith value (some (.Subscript o i pos')) pos.line X.env = pure false) : PS X (.Assign [.Subscript o i pos'] value pos) (sNPut X.prog X.w X.K td ty tv) := by
  refine ⟨fun pins s σ H D I h => ?_⟩
  refine wpAny_Assign_Subscript (thn (hv.run pins s σ H _ I h) fun r s1 ⟨v, H1, I1, rv, q1⟩ => thn (ho.run pins s1 σ H1 _ I1 q1) fun u s2 ⟨x, H2, I2, rx, q2⟩ => thn (hi.run pins s2 σ H2 _ I2 q2) fun iv s3 ⟨y, H3, I3, ry, a, b, xs, k, ex, ey, e, ok, nk, dp, lk, hl, q3⟩ => ?_) hs
  subst ex ey
  obtain rfl : u = Value.ref a := rx
  obtain rfl : iv = Value.ref b := ry
  obtain ⟨l, n, ys, pr, d⟩ := dn_at I3 e ok
  have hz : ys.length ≤ sizeLine := by rw [← Paired.length pr]; exact l
  have hn : atKey ys k = none := by
    have z := RelO.none_of (o := (atKey ys k).map (·.2)) (by rw [← lk]; exact look_rel pr k)
    exact Option.map_eq_none_iff.mp z
  refine wpAny_setItem_heap (hsz := hz) (roomN hu) ⟨nk.is I3 _ rfl, dp⟩ d fun h' d' hs => ⟨σ, _, ?_, q3⟩
  rw [storedH_new hn] at d'
  obtain ⟨q, es, ep, hq, h2, h3, h4, _, h5⟩ := d'
  refine d_write I3 (by rw [e]; exact True.intro) hs ⟨q, hq⟩ (dN_ok ⟨?_, n, _, paired_snoc pr ⟨rfl, rfl, rv⟩, q, es, ep, hq, h2, h3, h4, h5⟩)
  rw [List.length_append]
  exact hl
theorem pe_dnewN : PE X (.Dict [] [] pos) (tDNewN X.prog X.w) := ⟨fun pins s σ H Q I h =>
  wpAny_Dict_empty ⟨.ref s.heap.objs.size, _, I.laid (a := s.heap.objs.size) (o := dN X.prog X.w s.heap.objs.size []) (t' := s.toks) (fun _ _ q => Heap.get?_push_of_some _ q) (Nat.le_refl _)
    (dN_ok ⟨Nat.zero_le _, beq_eq_false_iff_ne.mpr (Ne.symm (Nat.ne_of_lt I.big)), [], .nil, _, #[], 0, Heap.get?_push_size _ rfl, ⟨rfl, rfl, rfl⟩, rfl, rfl, List.nodup_nil⟩), rfl, h _ (I.hok.fresh (Nat.le_refl _))⟩⟩
end
end Tp

set_option Elab.async false
set_option linter.all false
set_option maxRecDepth 100000
set_option maxHeartbeats 4000000
/-! len of an own object, the view of a dict's keys, sorted of it -/
namespace Tp
open PySem PySem.Spec PyProof.Rows L2
section
variable {X : Cx} {CX : CXT} {k : Nat} {f C : Addr} {fd : FuncData} {ps : List Str} {sp : Sp} {E : XK}
def rLenE (C : Addr) (sp : Sp) (E : XK) : List V → Hp → VK → Prop := fun xs H Q => ∃ a dx fs, xs = [.ref a] ∧ H a = some (.ins C dx fs) ∧ sp xs H (fun v H' => ∃ n : Int, v = .int n ∧ 0 ≤ n ∧ n < 2 ^ 63 ∧ Q (.int n) H') E
theorem call_lenE (hs : PySem.W.findIn X.K (.ref C) "__len__" = some (some (.ref f))) (hf : PySem.W.isFn X.K (.ref f) = true) (F : FnOk X.prog X.w X.K X.mg X.base CX k f fd ps sp) (hr : Room (k + 1) X.A) (hb : Binds X.K fd ps []) (hx : Passes CX X E) :
    CallR X (.builtin "len") (rLenE C sp E) := by
  intro pins s σ H xs us Q I r h
  obtain ⟨a, dx, fs, rfl, ha, q⟩ := h
  obtain ⟨u, rfl, ru⟩ := vals1 r
  cases (show u = Value.ref a from ru)
  obtain ⟨mA, O, _, _, _, _⟩ := ins_get I.hok ha
  obtain ⟨od, J, _⟩ := O.look
  refine Calls.call_function_entry kind_len plain_len entry_len (args_len1 _) ?_
  unfold Builtin.«len»
  refine wpAny_bind (m := oneArg "len" _) (wpAny_pure ?_)
  refine wpAny_bind (m := callSpecial? (.ref a) (Str.ofString "__len__")) (PySem.W.special_fn I.kIn J hs (beq_iff_eq.mp hf) ?_)
  refine wpAny_mono (runE (us := [.ref a]) (vs := [.ref a]) F hr.in1 I.env0.in1 hb .nil (pass_at hx) I (.cons rfl .nil) q) (fun w s' z => ?_) fun _ _ x => x
  obtain ⟨v, H', I', rv, n, ev, h0, h1, q'⟩ := z
  subst ev
  obtain ⟨t, rfl⟩ := rv
  refine wpAny_bind (wpAny_holding (wpAny_pure ?_))
  refine wpAny_bind (wpAny_letGo ?_)
  show wpAny _ _ (if n < 0 then _ else _) _ _ _
  rw [if_neg (by omega)]
  show wpAny _ _ (if n ≥ 2 ^ 63 then _ else _) _ _ _
  rw [if_neg (by omega)]
  exact wpAny_bind (wpAny_mkInt (wpAny_pure ⟨_, rfl, .int n, H', I'.tok _, ⟨_, rfl⟩, q'⟩))
end
/-! ### d.keys() -/
def kview (r d : Addr) : HO := .ext fun h => PySem.W.KdlKeysView h r d
theorem kview_ok {P : Program} {w : World} {H : Hp} {h : Heap} {r d : Addr} (k : PySem.W.KdlKeysView h r d) : ObjOk P w H h r (kview r d) := by
  obtain ⟨o, ho, h1, h2⟩ := k
  exact ⟨⟨o, ho, h1, h2⟩, ⟨o, ho⟩, fun g1 g2 ⟨o', e, q⟩ st => ⟨o', st _ e, q⟩⟩
def tKeysV (td : TE) : TE := fun σ H Q => td σ H fun x H1 => ∃ d kvs, x = .ref d ∧ Rd H1 d (.dK kvs) ∧ ∀ r, H1 r = none → Q (.ref r) (upd H1 r (kview r d))
theorem pe_keysV {X : Cx} {e : Expr} {td : TE} {apos cpos : Pos} (he : PE X e td) (hbase : attributeBase e "keys" X.env (eval e X.env) = eval e X.env := by rfl) (hline : (apos.endLine == cpos.line) = true := by rfl) : PE X (.Call (.Attribute e "keys" apos) [] [] cpos) (tKeysV td) := by
  refine ⟨fun pins s σ H Q I h => ?_⟩
  refine wpAny_Call_method (T := "dict") (id := "dict.keys") hbase rfl hline F.plainAttrs_dict F.slot_dict_keys F.type_dict_keys (thn (he.run pins s σ H _ I h) fun u s1 ⟨x, H1, I1, rx, d, kvs, ex, hd, q⟩ => ?_)
  subst ex
  obtain rfl : u = Value.ref d := rx
  obtain ⟨z, lo, vs, rel, dd⟩ := dk_rd I1.hok hd
  refine ⟨dd.typeIs, dd.mapOf.noDict, ?_⟩
  show wpAny _ _ (callWith cpos (.builtin "dict.keys") [.ref d] [] []) _ X.xe s1
  refine method_meetsIn F.slot_dict_keys F.entry_dict_keys rfl (PySem.evalArgs_none ⟨rfl, dd.typeIs, F.args_dict_keys_1 _, _, PySem.W.kdl_meets_keys (mixKind X.prog X.w) d lo, ⟨vs, dd⟩, ?_⟩)
  exact ⟨.ref s1.heap.objs.size, _, I1.laid (t' := s1.toks) (a := s1.heap.objs.size) (o := kview s1.heap.objs.size d) (fun _ _ q => Heap.get?_push_of_some _ q) (Nat.le_refl _) (kview_ok ⟨_, Heap.get?_push_size _ rfl, rfl, rfl⟩), rfl, q _ (I1.hok.fresh (Nat.le_refl _))⟩
def rSortedKV : List V → Hp → VK → Prop := fun xs H Q => ∃ (r d : Addr) (kvs : List (L2.Key × V)) (ks : List Int), xs = [.ref r] ∧ H r = some (kview r d) ∧ Rd H d (.dK kvs) ∧ kvs.map (·.1) = ks.map Sum.inl ∧
  ∀ (ys : List Int) (p : Addr), ys.Perm ks → ys.Pairwise (· ≤ ·) → H p = none → Q (.ref p) (upd H p (.lst (ys.map V.int)))
theorem call_sortedKV {X : Cx} (hcalm : X.calm = true) : CallR X (.builtin "sorted") rSortedKV := by
  intro pins s σ H xs us Q I r q
  obtain ⟨rr, a, kvs, ks, ex, hv, hd, hks, q⟩ := q
  subst ex
  obtain ⟨u, eu, rx⟩ := vals1 r
  subst eu
  cases rx
  obtain ⟨kv, _⟩ := (show ObjOk X.prog X.w H s.heap rr (kview rr a) from I.hok rr _ hv)
  obtain ⟨z, lo, vs, rel, dd⟩ := dk_rd I.hok hd
  obtain ⟨ep, hat⟩ := dd.dictAt
  have hkeys : vs.map (·.1) = ks.map Sum.inl := rel.keys.symm.trans hks
  have hl : vs.length = ks.length := by
    have e := congrArg List.length hkeys
    rw [List.length_map, List.length_map] at e
    exact e
  have hkl : kvs.length = vs.length := rel.length
  have h16 : vs.length ≤ sizeLine := by rw [← hkl]; exact z
  refine Calls.call_function_entry PyProof.Rows.kind_sorted PyProof.Rows.plain_sorted PyProof.Rows.entry_sorted (PyProof.Rows.args_sorted1 _) ?_
  unfold Builtin.«sorted»
  refine wpAny_bind (m := checkCount "sorted" 1 1 _) (wpAny_pure ?_)
  refine wpAny_bind (PySem.W.kdu_collect (A := X.A.in1) (PySem.W.kdl_keys (knd := mixKind X.prog X.w) (kvs := vs) (ep := ep)) (I.ok.hd hcalm) ⟨kv, hat⟩ h16 fun h' tk acc hk hacc => ?_)
  have hal : acc.toList.length = ks.length := by rw [Array.length_toList, hacc.1, hl]
  have hS : IntsAre acc.toList ks := ints_each hal fun j v e => by
    obtain ⟨k, x, e1, e2⟩ := hacc.2 j v (by rw [← Array.getElem?_toList]; exact e)
    have e3 : (vs.map (·.1))[j]? = some k := by rw [List.getElem?_map, e1]; rfl
    rw [hkeys, List.getElem?_map] at e3
    cases e4 : ks[j]? with
    | none => rw [e4] at e3; cases e3
    | some y =>
      rw [e4] at e3
      have e5 : Sum.inl y = k := Option.some.inj e3
      subst e5
      rcases keyIs_shape (show keyIs (Sum.inl y) v = true from e2) with ⟨i, t, ek, ev⟩ | ⟨z, t, ek, ev⟩
      · cases ek
        exact ⟨y, t, rfl, ev⟩
      · cases ek
  have I1 : Inv X pins σ H { s with heap := h', toks := tk } := I.kept hk
  have hks16 : acc.toList.length ≤ sizeLine := by rw [hal, ← hl]; exact h16
  refine wpAny_bind (wpAny_newList ?_ hks16)
  have hoL : (h'.push (seqObj "list" acc.toList.toArray 0)).get? h'.objs.size = some (seqObj "list" acc.toList.toArray 0) := Heap.get?_push_size _ rfl
  show wpAny _ _ _ _ _ { s with heap := h'.push (seqObj "list" acc.toList.toArray 0), toks := tk }
  refine wpAny_bind (wpAny_holding (wpAny_call_entry PyProof.Rows.slot_list_sort ⟨_, hoL, rfl⟩ PyProof.Rows.entry_list_sort
    (SrtO.list_sort_ord (s := { s with heap := h'.push (seqObj "list" acc.toList.toArray 0), toks := tk }) SrtO.swo_int hoL hks16 (fun h2 => SrtO.ints_sortable hS h2) fun out g0 g00 => ⟨_, rfl, ?_⟩) (PyProof.Rows.args_list_sort _)))
  obtain ⟨g1, g2, g3⟩ := SrtO.ints_out hS g0 g00
  obtain ⟨e', he'⟩ := PyProof.Rows.sortedHeap_at (vs := acc.toList) (out := out.toArray) hoL
  have hlen : ((out.map SrtO.iv).map V.int).length ≤ sizeLine := by
    rw [List.length_map, g2.length_eq, ← hal]
    exact hks16
  refine wpAny_pure ⟨_, rfl, .ref h'.objs.size, upd H h'.objs.size (.lst ((out.map SrtO.iv).map V.int)), I1.laid (t' := tk) (fun b u e => ?_) (Nat.le_refl _)
    (show ObjOk X.prog X.w _ _ _ (.lst ((out.map SrtO.iv).map V.int)) from ⟨hlen, out, e', vals_of_ints g1, he'⟩), rfl, q _ _ g2 g3 (I1.hok.fresh (Nat.le_refl _))⟩
  have hb : b < h'.objs.size := Heap.lt_size e
  rw [PyProof.Rows.sortedHeap_old (Nat.ne_of_lt hb) (by rw [size_push']; exact Nat.lt_succ_of_lt hb)]
  exact Heap.get?_push_of_some _ e
end Tp

set_option Elab.async false
set_option linter.all false
set_option maxRecDepth 100000
set_option maxHeartbeats 4000000
/-! rows of books, and books as they stand -/
namespace Tp
open PySem PySem.Spec PyProof.Rows L2
structure BRow where
  nm : Str
  sec : Sum (List Nat) Nat
deriving DecidableEq
def numsD (l : List Nat) : List PyData := l.map fun (n : Nat) => .int n
def numsV (l : List Nat) : List V := l.map fun (n : Nat) => .int n
def BRow.data (r : BRow) : PyData := .tuple [.str r.nm, match r.sec with | .inl l => .tuple (numsD l) | .inr t => .int t]
def BRow.key (r : BRow) : NestedKey := .tup [.text r.nm, match r.sec with | .inl l => .tup (l.map fun (n : Nat) => .num n) | .inr t => .num t]
def BRow.args (r : BRow) : List Nat := match r.sec with | .inl l => l | .inr _ => []
theorem nums_inj : ∀ {l m : List Nat}, (l.map fun (n : Nat) => NestedKey.num (n : Nat)) = (m.map fun (n : Nat) => NestedKey.num (n : Nat)) → l = m
  | [], [], _ => rfl
  | [], _ :: _, h => by cases h
  | _ :: _, [], h => by cases h
  | x :: l, y :: m, h => by
    rw [List.map_cons, List.map_cons] at h
    injection h with h1 h2
    injection h1 with h1
    rw [nums_inj h2, Int.ofNat.inj h1]
theorem key_inj {r s : BRow} (h : r.key = s.key) : r = s := by
  obtain ⟨n, a⟩ := r
  obtain ⟨m, b⟩ := s
  unfold BRow.key at h
  injection h with h
  injection h with h1 h2
  injection h1 with h1
  injection h2 with h2 _
  have h1 : n = m := h1
  subst h1
  cases a with
  | inl l =>
    cases b with
    | inl k => injection h2 with h2; rw [nums_inj h2]
    | inr u => cases h2
  | inr t =>
    cases b with
    | inl k => cases h2
    | inr u => injection h2 with h2; rw [Int.ofNat.inj h2]
theorem key_depth (r : BRow) : r.key.depth ≤ 8 := by
  have dl : ∀ l : List Nat, NestedKey.depthAll (l.map fun (n : Nat) => NestedKey.num (n : Nat)) ≤ 0 := by
    intro l
    induction l with
    | nil => simp [NestedKey.depthAll]
    | cons x l ih => simp [NestedKey.depthAll, NestedKey.depth]; simpa using ih
  obtain ⟨n, a⟩ := r
  cases a with
  | inl l =>
    have := dl l
    simp [BRow.key, NestedKey.depth, NestedKey.depthAll]
    omega
  | inr t => simp [BRow.key, NestedKey.depth, NestedKey.depthAll]
/-! ### a row in the heap -/
def RowAt (K : PySem.W.Frag) (H : Hp) (r : BRow) (a : Addr) : Prop := Dp K H (.ref a) r.data
theorem RowAt.same {K : PySem.W.Frag} {H H' : Hp} {r : BRow} {a : Addr} (h : RowAt K H r a) (S : Same H H') : RowAt K H' r a := (dp_same S).1 h
theorem dpN_inv {K : PySem.W.Frag} {H : Hp} : ∀ {xs : List V} {l : List Nat}, DpAll K H xs (numsD l) → xs = numsV l
  | _, [], h => by cases h; rfl
  | _, n :: l, h => by
    cases h with
    | cons h1 h2 =>
      cases h1
      rw [dpN_inv h2]
      rfl
theorem dpN {K : PySem.W.Frag} {H : Hp} : ∀ l : List Nat, DpAll K H (numsV l) (numsD l)
  | [] => .nil
  | n :: l => .cons (.int _) (dpN l)
/-- what a row's tuple looks like -/
theorem RowAt.inv {K : PySem.W.Frag} {H : Hp} {r : BRow} {a : Addr} (h : RowAt K H r a) : (∃ l b, r.sec = .inl l ∧ SqT K H a [.str r.nm, .ref b] ∧ SqT K H b (numsV l)) ∨ ∃ t, r.sec = .inr t ∧ SqT K H a [.str r.nm, .int (t : Nat)] := by
  obtain ⟨n, s⟩ := r
  unfold RowAt BRow.data at h
  cases h with
  | tup s1 h1 =>
    cases h1 with
    | cons d1 h2 =>
      cases h2 with
      | cons d2 h3 =>
        cases h3
        cases d1
        cases s with
        | inl l =>
          cases d2 with
          | tup s2 h2 =>
            obtain rfl := dpN_inv h2
            exact .inl ⟨l, _, rfl, s1, s2⟩
        | inr t =>
          cases d2
          exact .inr ⟨t, rfl, s1⟩
theorem RowAt.mkL {K : PySem.W.Frag} {H : Hp} {n : Str} {l : List Nat} {a b : Addr} (h : SqT K H a [.str n, .ref b]) (h2 : SqT K H b (numsV l)) : RowAt K H ⟨n, .inl l⟩ a := .tup h (.cons (.str n) (.cons (.tup h2 (dpN l)) .nil))
theorem RowAt.mkT {K : PySem.W.Frag} {H : Hp} {n : Str} {t : Nat} {a : Addr} (h : SqT K H a [.str n, .int (t : Nat)]) : RowAt K H ⟨n, .inr t⟩ a := .tup h (.cons (.str n) (.cons (.int _) .nil))
theorem RowAt.mk' {K : PySem.W.Frag} {H : Hp} {r : BRow} {a : Addr} (h : (∃ l b, r.sec = .inl l ∧ SqT K H a [.str r.nm, .ref b] ∧ SqT K H b (numsV l)) ∨ ∃ t, r.sec = .inr t ∧ SqT K H a [.str r.nm, .int (t : Nat)]) : RowAt K H r a := by
  obtain ⟨n, s⟩ := r
  rcases h with ⟨l, b, e, h1, h2⟩ | ⟨t, e, h1⟩
  · obtain rfl : s = .inl l := e
    exact .mkL h1 h2
  · obtain rfl : s = .inr t := e
    exact .mkT h1
theorem RowAt.sameT {K : PySem.W.Frag} {H H' : Hp} {r : BRow} {a : Addr} (h : RowAt K H r a) (S : SameT H H') : RowAt K H' r a :=
  .mk' (h.inv.imp (fun ⟨l, b, e, h1, h2⟩ => ⟨l, b, e, S.sq h1, S.sq h2⟩) fun ⟨t, e, h1⟩ => ⟨t, e, S.sq h1⟩)
theorem nkN {K : PySem.W.Frag} {H : Hp} : ∀ l : List Nat, NkAll K H (l.map fun (n : Nat) => NestedKey.num (n : Nat)) (numsV l)
  | [] => .nil
  | n :: l => .cons (.num _) (nkN l)
theorem RowAt.nk {K : PySem.W.Frag} {H : Hp} {r : BRow} {a : Addr} (h : RowAt K H r a) : NkV K H r.key (.ref a) := by
  obtain ⟨n, s⟩ := r
  rcases h.inv with ⟨l, b, e, h1, h2⟩ | ⟨t, e, h1⟩
  · obtain rfl : s = .inl l := e
    exact .tup h1 (.cons (.text _) (.cons (.tup h2 (nkN l)) .nil))
  · obtain rfl : s = .inr t := e
    exact .tup h1 (.cons (.text _) (.cons (.num _) .nil))
/-! ### the table of numbers -/
def ents : Nat → List BRow → List Addr → NX
  | i, r :: rs, a :: as => (r.key, a, .int (i : Nat)) :: ents (i + 1) rs as
  | _, _, _ => []
theorem ents_snoc : ∀ (i : Nat) (rs : List BRow) (as : List Addr) (r : BRow) (a : Addr), rs.length = as.length → ents i (rs ++ [r]) (as ++ [a]) = ents i rs as ++ [(r.key, a, .int ((i + rs.length : Nat)))]
  | i, [], [], r, a, _ => rfl
  | i, x :: rs, y :: as, r, a, h => by
    rw [List.cons_append, List.cons_append]
    show _ :: ents (i + 1) (rs ++ [r]) (as ++ [a]) = _ :: (ents (i + 1) rs as ++ _)
    rw [ents_snoc (i + 1) rs as r a (by simpa using h), List.length_cons, Nat.add_right_comm, Nat.add_assoc]
  | i, [], y :: as, r, a, h => by cases h
  | i, x :: rs, [], r, a, h => by cases h
theorem ents_len : ∀ (i : Nat) (rs : List BRow) (as : List Addr), rs.length = as.length → (ents i rs as).length = rs.length
  | i, [], [], _ => rfl
  | i, x :: rs, y :: as, h => congrArg (· + 1) (ents_len (i + 1) rs as (by simpa using h))
  | i, [], y :: as, h => by cases h
  | i, x :: rs, [], h => by cases h
/-- the number of the first such row -/
def idxR : List BRow → BRow → Option Nat
  | [], _ => none
  | x :: l, r => if x = r then some 0 else (idxR l r).map (· + 1)
theorem ents_look : ∀ (i : Nat) (rs : List BRow) (as : List Addr) (r : BRow), rs.length = as.length → lookN (ents i rs as) r.key = (idxR rs r).map fun j => V.int ((i + j : Nat))
  | i, [], [], r, _ => rfl
  | i, x :: rs, y :: as, r, h => by
    have ih := ents_look (i + 1) rs as r (by simpa using h)
    unfold lookN at ih ⊢
    show ((_ :: ents (i + 1) rs as).find? _).map _ = _
    rw [List.find?_cons]
    unfold idxR
    by_cases e : x = r
    · subst e
      rw [if_pos rfl]
      show (match decide (x.key = x.key) with | true => _ | false => _ : Option _).map _ = _
      rw [decide_eq_true rfl]
      rfl
    · rw [if_neg e]
      show (match decide (x.key = r.key) with | true => _ | false => _ : Option _).map _ = _
      rw [decide_eq_false (fun k => e (key_inj k))]
      show ((ents (i + 1) rs as).find? _).map _ = _
      rw [ih, Option.map_map]
      refine congrArg (fun f => Option.map f (idxR rs r)) (funext fun j => ?_)
      show V.int ((i + 1 + j : Nat)) = V.int ((i + (j + 1) : Nat))
      rw [Nat.add_right_comm, Nat.add_assoc]
  | i, [], y :: as, r, h => by cases h
  | i, x :: rs, [], r, h => by cases h
theorem idx_none : ∀ {l : List BRow} {r : BRow}, r ∉ l → idxR l r = none
  | [], _, _ => rfl
  | x :: l, r, h => by
    unfold idxR
    rw [if_neg (fun e => h (by rw [e]; exact List.mem_cons_self)), idx_none (fun m => h (List.mem_cons_of_mem _ m))]
    rfl
theorem idx_some : ∀ {l : List BRow} {r : BRow}, l.Nodup → ∀ {i : Nat}, l[i]? = some r → idxR l r = some i
  | [], _, _, i, h => by cases h
  | x :: l, r, n, 0, h => by
    cases h
    unfold idxR
    rw [if_pos rfl]
  | x :: l, r, n, i + 1, h => by
    have n2 := List.nodup_cons.mp n
    have h : l[i]? = some r := h
    unfold idxR
    rw [if_neg (fun e => n2.1 (by rw [e]; exact List.mem_of_getElem? h)), idx_some n2.2 h]
    rfl
theorem idx_mem : ∀ {l : List BRow} {r : BRow} {i : Nat}, idxR l r = some i → l[i]? = some r
  | [], _, _, h => by cases h
  | x :: l, r, i, h => by
    unfold idxR at h
    by_cases e : x = r
    · rw [if_pos e] at h
      cases h
      rw [e]
      rfl
    · rw [if_neg e] at h
      obtain ⟨j, hj, rfl⟩ := Option.map_eq_some_iff.mp h
      exact idx_mem (l := l) hj
theorem ents_mem : ∀ {i : Nat} {rs : List BRow} {as : List Addr} {x : NestedKey × Addr × V} {F : BRow → Addr → Prop}, Paired F rs as → x ∈ ents i rs as → ∃ r a, F r a ∧ x.1 = r.key ∧ x.2.1 = a
  | i, _, _, x, F, .nil, h => by cases h
  | i, _, _, x, F, .cons h t, m => by
    rcases List.mem_cons.mp m with e | m
    · subst e
      exact ⟨_, _, h, rfl, rfl⟩
    · exact ents_mem t m
theorem paired_imp {α β : Type} {F G : α → β → Prop} (f : ∀ a b, F a b → G a b) {l : List α} {m : List β} (h : Paired F l m) : Paired G l m := by
  induction h with
  | nil => exact .nil
  | cons h _ ih => exact .cons (f _ _ h) ih
theorem paired_get {α β : Type} {F : α → β → Prop} : ∀ {l : List α} {m : List β}, Paired F l m → ∀ {i : Nat} {a : α}, l[i]? = some a → ∃ b, m[i]? = some b ∧ F a b
  | _, _, .cons h _, 0, a, e => by cases e; exact ⟨_, rfl, h⟩
  | _, _, .cons _ t, i + 1, a, e => paired_get t e
/-! ### a book: the object x, the list l, the dict m, the rows -/
structure BookAt (P : Program) (w : World) (K : PySem.W.Frag) (C : Addr) (H : Hp) (x l m : Addr) (rows : List BRow) (as : List Addr) : Prop where
  obj : ∃ dx, H x = some (.ins C dx [("held", .ref l), ("numbers", .ref m)])
  lst : H l = some (.lst (as.map V.ref))
  num : H m = some (dN P w m (ents 0 rows as))
  row : Paired (RowAt K H) rows as
  nd : rows.Nodup
  few : rows.length ≤ 100000
def Kp2 (l m : Addr) (H H' : Hp) : Prop := ∀ a o, a ≠ l → a ≠ m → H a = some o → H' a = some o
theorem Kp2.refl (l m : Addr) (H : Hp) : Kp2 l m H H := fun _ _ _ _ h => h
theorem Kp2.trans {l m : Addr} {H H1 H2 : Hp} (p : Kp2 l m H H1) (q : Kp2 l m H1 H2) : Kp2 l m H H2 := fun a o n k h => q a o n k (p a o n k h)
theorem Kp2.same {l m : Addr} {H H1 H2 : Hp} (p : Kp2 l m H H1) (q : Same H1 H2) : Kp2 l m H H2 := fun a o n k h => q a o (p a o n k h)
theorem Kp2.of {l m : Addr} {H H1 : Hp} (q : Same H H1) : Kp2 l m H H1 := fun a o _ _ h => q a o h
section
variable {P : Program} {w : World} {K : PySem.W.Frag} {C x l m : Addr} {H H' : Hp} {rows : List BRow} {as : List Addr}
theorem BookAt.len (b : BookAt P w K C H x l m rows as) : rows.length = as.length := Paired.length b.row
theorem BookAt.nok (b : BookAt P w K C H x l m rows as) : NOk K H (ents 0 rows as) := fun y hy => by
  obtain ⟨r, a, h, e1, e2⟩ := ents_mem b.row hy
  rw [e1, e2]
  exact ⟨h.nk, key_depth r⟩
theorem BookAt.same (b : BookAt P w K C H x l m rows as) (S : Same H H') : BookAt P w K C H' x l m rows as :=
  ⟨let ⟨dx, h⟩ := b.obj; ⟨dx, S _ _ h⟩, S _ _ b.lst, S _ _ b.num, paired_imp (fun _ _ h => h.same S) b.row, b.nd, b.few⟩
theorem BookAt.sameT (b : BookAt P w K C H x l m rows as) (k : Kp2 l m H H') : SameT H H' :=
  ⟨fun a xs h => k a _ (fun z => by rw [z, b.lst] at h; cases h) (fun z => by rw [z, b.num] at h; cases h) h, fun a o xs h => k a _ (fun z => by rw [z, b.lst] at h; cases h) (fun z => by rw [z, b.num] at h; cases h) h⟩
theorem BookAt.nlm (b : BookAt P w K C H x l m rows as) : l ≠ m := fun z => by
  have h := b.lst
  rw [z, b.num] at h
  cases h
theorem BookAt.nxl (b : BookAt P w K C H x l m rows as) : x ≠ l := fun z => by
  obtain ⟨dx, h⟩ := b.obj
  rw [z, b.lst] at h
  cases h
theorem BookAt.nxm (b : BookAt P w K C H x l m rows as) : x ≠ m := fun z => by
  obtain ⟨dx, h⟩ := b.obj
  rw [z, b.num] at h
  cases h
/-- another book's list and dict change -/
theorem BookAt.other (b : BookAt P w K C H x l m rows as) {l' m' : Addr} {C' x' : Addr} {rows' : List BRow} {as' : List Addr} (c : BookAt P w K C' H x' l' m' rows' as') (k : Kp2 l' m' H H') (n1 : l ≠ l') (n2 : m ≠ m') : BookAt P w K C H' x l m rows as := by
  have nl : l ≠ m' := fun z => by have h := b.lst; rw [z, c.num] at h; cases h
  have nm : m ≠ l' := fun z => by have h := b.num; rw [z, c.lst] at h; cases h
  obtain ⟨dx, ho⟩ := b.obj
  have nx1 : x ≠ l' := fun z => by rw [z, c.lst] at ho; cases ho
  have nx2 : x ≠ m' := fun z => by rw [z, c.num] at ho; cases ho
  exact ⟨⟨dx, k _ _ nx1 nx2 ho⟩, k _ _ n1 nl b.lst, k _ _ nm n2 b.num, paired_imp (fun _ _ h => h.sameT (c.sameT k)) b.row, b.nd, b.few⟩
theorem BookAt.get (b : BookAt P w K C H x l m rows as) {i : Nat} {r : BRow} (h : rows[i]? = some r) : ∃ a, (as.map V.ref)[i]? = some (.ref a) ∧ RowAt K H r a := by
  obtain ⟨a, ha, hr⟩ := paired_get b.row h
  exact ⟨a, by rw [List.getElem?_map, ha]; rfl, hr⟩
end
/-- numbers stand behind what they are made of -/
def WfR (rows : List BRow) : Prop := ∀ (i : Nat) (r : BRow), rows[i]? = some r → ∀ j ∈ r.args, j < i
/-! ### parts -/
def argsAt (rows : List BRow) (i : Nat) : List Nat := match rows[i]? with | some r => r.args | none => []
def mark (rows : List BRow) (i : Nat) (f : Nat → Bool) : Nat → Bool := fun j => f j || (f i && decide (j ∈ argsAt rows i))
def marks (rows : List BRow) (n : Nat) : Nat → Nat → Bool
  | 0 => fun j => decide (j = n)
  | k + 1 => mark rows (n - k) (marks rows n k)
def partsR (rows : List BRow) (n : Nat) : List Nat := (List.range (n + 1)).filter (marks rows n (n + 1))
theorem marks_up {rows : List BRow} {n j : Nat} : ∀ {k k' : Nat}, k ≤ k' → marks rows n k j = true → marks rows n k' j = true
  | k, 0, h, e => by cases Nat.le_zero.mp h; exact e
  | k, k' + 1, h, e => by
    by_cases z : k = k' + 1
    · rw [← z]; exact e
    · show (marks rows n k' j || _) = true
      rw [marks_up (show k ≤ k' by omega) e]
      rfl
theorem marks_le {rows : List BRow} (wf : WfR rows) {n : Nat} : ∀ {k j : Nat}, marks rows n k j = true → j ≤ n
  | 0, j, h => by have := of_decide_eq_true (p := j = n) h; omega
  | k + 1, j, h => by
    rcases Bool.or_eq_true_iff.mp (show (marks rows n k j || _) = true from h) with h | h
    · exact marks_le wf h
    · obtain ⟨h1, h2⟩ := Bool.and_eq_true_iff.mp h
      have h2 : j ∈ argsAt rows (n - k) := of_decide_eq_true h2
      unfold argsAt at h2
      split at h2
      · rename_i r hr
        have := wf _ _ hr j h2
        omega
      · cases h2
/-- behind its own turn a number is not marked any more -/
theorem marks_done {rows : List BRow} (wf : WfR rows) {n : Nat} : ∀ {k j : Nat}, n < k + j → marks rows n (k + 1) j = true → marks rows n k j = true
  | k, j, hk, h => by
    rcases Bool.or_eq_true_iff.mp (show (marks rows n k j || _) = true from h) with h | h
    · exact h
    · obtain ⟨_, h2⟩ := Bool.and_eq_true_iff.mp h
      have h2 : j ∈ argsAt rows (n - k) := of_decide_eq_true h2
      unfold argsAt at h2
      split at h2
      · rename_i r hr
        have := wf _ _ hr j h2
        omega
      · cases h2
theorem marks_last {rows : List BRow} (wf : WfR rows) {n j : Nat} : ∀ {d k : Nat}, n < k + j → marks rows n (k + d) j = true → marks rows n k j = true
  | 0, k, _, h => h
  | d + 1, k, hk, h => marks_last wf hk (marks_done wf (k := k + d) (by omega) h)
theorem parts_mem {rows : List BRow} {n j : Nat} : j ∈ partsR rows n ↔ j ≤ n ∧ marks rows n (n + 1) j = true := by
  unfold partsR
  rw [List.mem_filter, List.mem_range]
  exact ⟨fun h => ⟨by omega, h.2⟩, fun h => ⟨by omega, h.2⟩⟩
theorem parts_self {rows : List BRow} {n : Nat} : n ∈ partsR rows n := parts_mem.mpr ⟨Nat.le_refl _, marks_up (Nat.zero_le _) (decide_eq_true rfl)⟩
/-- the arguments of a part are parts -/
theorem parts_args {rows : List BRow} (wf : WfR rows) {n i j : Nat} (h : i ∈ partsR rows n) (hj : j ∈ argsAt rows i) : j ∈ partsR rows n ∧ j < i := by
  obtain ⟨h1, h2⟩ := parts_mem.mp h
  have lt : j < i := by
    have hj' := hj
    unfold argsAt at hj'
    split at hj'
    · rename_i r hr
      exact wf _ _ hr j hj'
    · cases hj'
  refine ⟨parts_mem.mpr ⟨by omega, ?_⟩, lt⟩
  have h3 : marks rows n (n - i) i = true ∨ marks rows n (n - i + 1) i = true := .inr (marks_last wf (d := i) (k := n - i + 1) (by omega) (by rw [show n - i + 1 + i = n + 1 by omega]; exact h2))
  have h4 : marks rows n (n - i + 1) j = true ∨ marks rows n (n - i + 2) j = true := by
    rcases h3 with h | h
    · left
      show (marks rows n (n - i) j || (marks rows n (n - i) (n - (n - i)) && decide (j ∈ argsAt rows (n - (n - i))))) = true
      rw [show n - (n - i) = i by omega, h, decide_eq_true hj]
      simp
    · -- marked at its own turn: only by itself, so before
      left
      have h0 : marks rows n (n - i) i = true := by
        rcases Bool.or_eq_true_iff.mp (show (marks rows n (n - i) i || _) = true from h) with h | h
        · exact h
        · obtain ⟨_, k2⟩ := Bool.and_eq_true_iff.mp h
          rw [show n - (n - i) = i by omega] at k2
          have k2 : i ∈ argsAt rows i := of_decide_eq_true k2
          unfold argsAt at k2
          split at k2
          · rename_i r hr
            exact absurd (wf _ _ hr i k2) (Nat.lt_irrefl _)
          · cases k2
      show (marks rows n (n - i) j || (marks rows n (n - i) (n - (n - i)) && decide (j ∈ argsAt rows (n - (n - i))))) = true
      rw [show n - (n - i) = i by omega, h0, decide_eq_true hj]
      simp
  rcases h4 with h | h
  · exact marks_up (by omega) h
  · exact marks_up (by omega) h
theorem parts_sorted (rows : List BRow) (n : Nat) : (partsR rows n).Pairwise (· < ·) := List.Pairwise.filter _ (List.pairwise_lt_range)
theorem parts_nodup (rows : List BRow) (n : Nat) : (partsR rows n).Nodup := (parts_sorted rows n).imp fun h => Nat.ne_of_lt h
/-- a sorted list of just these numbers is the list of them -/
theorem sorted_nums {ys ks : List Int} {ps : List Nat} (p : ys.Perm ks) (s : ys.Pairwise (· ≤ ·)) (nd : ks.Nodup) (h : ∀ i, i ∈ ks ↔ i ∈ ps.map fun n => ((n : Nat) : Int)) (sp : ps.Pairwise (· < ·)) : ys = ps.map fun n => ((n : Nat) : Int) := by
  have nd2 : (ps.map fun n => ((n : Nat) : Int)).Nodup := List.Pairwise.map _ (fun a b h => by omega) sp
  have p2 : ys.Perm (ps.map fun n => ((n : Nat) : Int)) := p.trans ((List.perm_ext_iff_of_nodup nd nd2).mpr h)
  exact p2.eq_of_pairwise (fun a b _ _ h k => by omega) s (List.Pairwise.map _ (fun a b h => by omega) sp)
/-- the parts before the i-th: what a walk over them has seen -/
theorem parts_before {rows : List BRow} (wf : WfR rows) {n i p j : Nat} (h : (partsR rows n)[i]? = some p) (hj : j ∈ argsAt rows p) : j ∈ (partsR rows n).take i := by
  obtain ⟨m, lt⟩ := parts_args wf (List.mem_of_getElem? h) hj
  obtain ⟨k, hk, e⟩ := List.mem_iff_getElem.mp m
  have hi := (List.getElem?_eq_some_iff.mp h).1
  have ei := (List.getElem?_eq_some_iff.mp h).2
  have lt2 : k < i := by
    refine Classical.byContradiction fun c => ?_
    rcases Nat.lt_or_eq_of_le (Nat.le_of_not_lt c) with c | c
    · have := List.pairwise_iff_getElem.mp (parts_sorted rows n) i k hi hk c
      omega
    · subst c
      omega
  rw [List.mem_take_iff_getElem]
  exact ⟨k, by omega, e⟩
end Tp

set_option Elab.async false
set_option linter.all false
set_option maxRecDepth 100000
set_option maxHeartbeats 4000000
/-! max(xs, default = d) of a list of ints -/
namespace Tp
open PySem PySem.Spec PyProof.Rows
section
variable {prog : Program} {w : World} {A : Around} {R : Result → Shared → Prop} {I : Addr} {fp wr : List Addr} {n : Nat} {PP : Nat → Value → Prop} {St : Nat → Heap → Prop} {kw : List (Str × Value)}
theorem mx_name : (toString "max" ++ toString ".loop" : String) = "max.loop" := by decide
/-- behind the first item -/
theorem mx_more (W : Walks prog w A.in1 I fp wr n PP St) (bt : Nat → Nat → Bool) (hcmp : CmpOf prog w A.in1 .Gt PP bt) (S : Addr) (hSf : S ∉ fp) :
    ∀ (k j : Nat) (s : Shared) (vb : Value) (c : Nat), n - (j + 1) = k → j + 1 ≤ n → St (j + 1) s.heap → PP (argBest bt j) vb → s.heap.get? S = some { cls := .type "list", dict := none, data := .seq #[vb, vb] c, slots := #[] } →
    (∀ v h' tk, PP (argBest bt (n - 1)) v → (∀ b o, b ∉ wr → b ≠ S → s.heap.get? b = some o → h'.get? b = some o) → R (.ok (.ret v)) { s with heap := h', toks := tk }) → codeAny (model prog w) A (.builtin "max.loop" ⟨[.ref I, .none, .ref S], kw⟩) R s := by
  have hSw : S ∉ wr := fun h => hSf (W.sub _ h)
  intro k
  induction k with
  | zero =>
    intro j s vb c hk hj hst hPb hS hR
    have e : j + 1 = n := by omega
    refine codeAny_builtin F.entry_max_loop ?_
    rw [Around.under_plainId F.plain_max_loop _]
    refine wpAny_bind (m := seqItems? (.ref S)) (wpAny_seqItems hS rfl ?_)
    refine wpAny_bind (m := tryCatch (pyNext (.ref I)) _) (wpAny_tryCatch (W.done s _ _ (e ▸ hst) fun h' tk hk' => ?_))
    have hS' := hk' S _ hSw hS
    refine wpAny_bind (m := updateSeq S (fun _ => #[])) (wpAny_updateSeq hS' rfl (wpAny_bind (wpAny_letGo (wpAny_pure ?_))))
    exact hR vb _ tk (by rw [← e]; exact hPb) fun b o hb hbS z => (Heap.get?_update_other _ _ (Ne.symm hbS)).trans (hk' b o hb z)
  | succ k ih =>
    intro j s vb c hk hj hst hPb hS hR
    have lt : j + 1 < n := by omega
    refine codeAny_builtin F.entry_max_loop ?_
    rw [Around.under_plainId F.plain_max_loop _]
    refine wpAny_bind (m := seqItems? (.ref S)) (wpAny_seqItems hS rfl ?_)
    refine wpAny_bind (m := tryCatch (pyNext (.ref I)) _) (wpAny_tryCatch (W.item (j + 1) s _ _ lt hst fun v h' tk hP hst' hk' => ?_))
    have hS' := hk' S _ hSw hS
    refine wpAny_bind (m := tryCatch (holding [v, v] (richCompare .Gt v vb >>= _)) _) (wpAny_tryCatch (wpAny_holding (wpAny_bind (hcmp (j + 1) (argBest bt j) v vb _ _ _ hP hPb ?_))))
    refine wpAny_bind (wpAny_holding (wpAny_truthy_bool ?_))
    refine wpAny_bind (wpAny_letGo (wpAny_pure ?_))
    cases hb : bt (j + 1) (argBest bt j) with
    | true =>
      simp only [if_true]
      refine wpAny_bind (wpAny_updateSeq hS' rfl (wpAny_bind (wpAny_letGo ?_)))
      rw [mx_name]
      refine wpAny_pure ⟨plainId_quiet F.plain_max_loop _, ih (j + 1) _ v _ (by omega) lt (W.frame _ _ _ hst' fun b hbf o z => ?_) (by simp only [argBest, hb, if_true]; exact hP) (Heap.get?_update_self _ hS' rfl) fun v' h'' tk'' hP' hk'' => ?_⟩
      · exact (Heap.get?_update_other _ _ (fun q : S = b => hSf (by rw [q]; exact hbf))).trans z
      · exact hR v' h'' tk'' hP' fun b o hw hbS z => hk'' b o hw hbS ((Heap.get?_update_other _ _ (Ne.symm hbS)).trans (hk' b o hw z))
    | false =>
      simp only [Bool.false_eq_true, if_false]
      refine wpAny_bind (wpAny_letGo ?_)
      rw [mx_name]
      refine wpAny_pure ⟨plainId_quiet F.plain_max_loop _, ih (j + 1) _ vb c (by omega) lt hst' (by simp only [argBest, hb, Bool.false_eq_true, if_false]; exact hPb) hS' fun v' h'' tk'' hP' hk'' => ?_⟩
      exact hR v' h'' tk'' hP' fun b o hw hbS z => hk'' b o hw hbS (hk' b o hw z)
theorem mx_first (W : Walks prog w A.in1 I fp wr n PP St) (bt : Nat → Nat → Bool) (hcmp : CmpOf prog w A.in1 .Gt PP bt) (S : Addr) (hSf : S ∉ fp) (hn : 0 < n) {s : Shared} {c : Nat} (hst : St 0 s.heap) (hS : s.heap.get? S = some { cls := .type "list", dict := none, data := .seq #[] c, slots := #[] })
    (hR : ∀ v h' tk, PP (argBest bt (n - 1)) v → (∀ b o, b ∉ wr → b ≠ S → s.heap.get? b = some o → h'.get? b = some o) → R (.ok (.ret v)) { s with heap := h', toks := tk }) : codeAny (model prog w) A (.builtin "max.loop" ⟨[.ref I, .none, .ref S], kw⟩) R s := by
  have hSw : S ∉ wr := fun h => hSf (W.sub _ h)
  refine codeAny_builtin F.entry_max_loop ?_
  rw [Around.under_plainId F.plain_max_loop _]
  refine wpAny_bind (m := seqItems? (.ref S)) (wpAny_seqItems hS rfl ?_)
  refine wpAny_bind (m := tryCatch (pyNext (.ref I)) _) (wpAny_tryCatch (W.item 0 s _ _ hn hst fun v h' tk hP hst' hk' => ?_))
  have hS' := hk' S _ hSw hS
  refine wpAny_bind (m := updateSeq S (fun _ => #[v, v])) (wpAny_updateSeq hS' rfl ?_)
  rw [mx_name]
  refine wpAny_pure ⟨plainId_quiet F.plain_max_loop _, mx_more W bt hcmp S hSf _ 0 _ v _ rfl hn (W.frame _ _ _ hst' fun b hbf o z => ?_) hP (Heap.get?_update_self _ hS' rfl) fun v' h'' tk'' hP' hk'' => ?_⟩
  · exact (Heap.get?_update_other _ _ (fun q : S = b => hSf (by rw [q]; exact hbf))).trans z
  · exact hR v' h'' tk'' hP' fun b o hw hbS z => hk'' b o hw hbS ((Heap.get?_update_other _ _ (Ne.symm hbS)).trans (hk' b o hw z))
theorem mx_none (W : Walks prog w A.in1 I fp wr 0 PP St) (S : Addr) {k0 : Str} {d : Value} {s : Shared} {c : Nat} (hst : St 0 s.heap) (hS : s.heap.get? S = some { cls := .type "list", dict := none, data := .seq #[] c, slots := #[] })
    (hR : ∀ h' tk, (∀ b o, b ∉ wr → s.heap.get? b = some o → h'.get? b = some o) → R (.ok (.ret d)) { s with heap := h', toks := tk }) : codeAny (model prog w) A (.builtin "max.loop" ⟨[.ref I, .none, .ref S], [(k0, d)]⟩) R s := by
  refine codeAny_builtin F.entry_max_loop ?_
  rw [Around.under_plainId F.plain_max_loop _]
  refine wpAny_bind (m := seqItems? (.ref S)) (wpAny_seqItems hS rfl ?_)
  refine wpAny_bind (m := tryCatch (pyNext (.ref I)) _) (wpAny_tryCatch (W.done s _ _ hst fun h' tk hk' => ?_))
  refine wpAny_bind (m := rule _) (wpAny_rule (wpAny_pure ?_))
  exact hR h' tk hk'
end
section
variable {prog : Program} {w : World} {A : Around} {E : Value → Shared → Prop} {s : Shared} {l : Addr} {xs : Array (Int × Tok)} {d : Value}
theorem mx_args (a d : Value) : argsOk "max" ⟨[a], [(Str.ofString "default", d)]⟩ := by unfold argsOk; kernel_rfl
theorem call_treeK {id : String} {b : Builtin} {args : List Value} {kw : List (Str × Value)} {Q : Value → Shared → Prop} (hk : builtinKind id = none) (hp : plainId id = true) (hb : entryFor table id = some b) (ha : argsOk id ⟨args, kw⟩)
    (hc : wpAny (model prog w) A.in1 (b ⟨args, kw⟩) (fun fin s' => match fin with
      | .done f => (match (Except.ok f : Result) with | .ok (.ret v) => Q v s' | .ok _ => False | .error e => E e s')
      | .again c => c.quiet = true ∧ codeAny (model prog w) A c (fun r s' => match r with | .ok (.ret v) => Q v s' | .ok _ => False | .error e => E e s') s') E s) : wpAny (model prog w) A (call (.builtin id) args kw) Q E s := by
  refine wpAny_call (codeAny_call_builtin hp hb ?_)
  simp only [checkBuiltinCall, hk]
  cases q : Manifest.signature? id with
  | none => exact wpAny_pure hc
  | some sig =>
    have h2 : Bind.checkArgs id sig ⟨args, kw⟩ = pure () := by simpa only [argsOk, q] using ha
    simp only [h2]
    exact wpAny_pure hc
theorem max_default {Q : Value → Shared → Prop} (hh : A.handled = none) (hl : s.heap.IsList l (intItems xs))
    (h : ∀ v h' tk, (0 < xs.size → (intItems xs)[argBest (fun i j => decide (numAt xs i > numAt xs j)) (xs.size - 1)]? = some v) → (xs.size = 0 → v = d) → (∀ b o, s.heap.get? b = some o → h'.get? b = some o) → Q v { s with heap := h', toks := tk }) :
    wpAny (model prog w) A (call (.builtin "max") [.ref l] [(Str.ofString "default", d)]) Q E s := by
  refine call_treeK F.kind_max F.plain_max F.entry_max (mx_args _ _) ?_
  show wpAny _ A.in1 (Builtin.Builtins.bindParams "max" ["key", "default"] 0 ⟨[], [(Str.ofString "default", d)]⟩ >>= _) _ _ s
  refine wpAny_bind (wpAny_of_eq (show Builtin.Builtins.bindParams "max" ["key", "default"] 0 ⟨[], [(Str.ofString "default", d)]⟩ = pure [none, some d] from by first | rfl | kernel_rfl) ?_)
  refine wpAny_bind (wpAny_pure ?_)
  refine wpAny_bind (iter_intList hl fun s₂ e st hfp hlI => ?_)
  subst e
  refine wpAny_bind (wpAny_newObj_type ?_)
  have W := Walks.list (prog := prog) (w := w) (A := A.in1) hh s.heap.objs.size l hlI (intItems xs)
  have hsz : (intItems xs).size = xs.size := by simp [intItems]
  rw [hsz] at W
  rw [mx_name]
  generalize hS2 : (s.heap.push { cls := .type "list_iterator", data := .fields #[.ref l, .int 0 0] }) = h2 at *
  have hSf : h2.objs.size ∉ [s.heap.objs.size, l] := fun hm => Nat.lt_irrefl _ (hfp _ hm)
  by_cases hn : 0 < xs.size
  · refine wpAny_pure ⟨plainId_quiet F.plain_max_loop _, mx_first W (fun i j => decide (numAt xs i > numAt xs j)) (CmpOf.ints_gt (numAt xs) (fun _ _ => intItems_at)) h2.objs.size hSf hn (W.frame _ _ _ st fun b _ o e => Heap.get?_push_of_some _ e) (Heap.get?_push_size _ rfl) fun v h' tk hP hk => ?_⟩
    refine h v h' tk (fun _ => hP) (fun z => by omega) fun b o e => ?_
    have h2b : h2.get? b = some o := by rw [← hS2]; exact Heap.get?_push_of_some _ e
    refine hk b o (fun hm => ?_) (Nat.ne_of_lt (Heap.lt_size h2b)) (Heap.get?_push_of_some _ h2b)
    rcases List.mem_cons.mp hm with e1 | hm
    · exact absurd (e1 ▸ Heap.lt_size e) (Nat.lt_irrefl _)
    · cases hm
  · have e0 : xs.size = 0 := by omega
    rw [e0] at W
    refine wpAny_pure ⟨plainId_quiet F.plain_max_loop _, mx_none W h2.objs.size (W.frame _ _ _ st fun b _ o e => Heap.get?_push_of_some _ e) (Heap.get?_push_size _ rfl) fun h' tk hk => ?_⟩
    refine h d h' tk (fun z => absurd z hn) (fun _ => rfl) fun b o e => ?_
    have h2b : h2.get? b = some o := by rw [← hS2]; exact Heap.get?_push_of_some _ e
    refine hk b o (fun hm => ?_) (Heap.get?_push_of_some _ h2b)
    rcases List.mem_cons.mp hm with e1 | hm
    · exact absurd (e1 ▸ Heap.lt_size e) (Nat.lt_irrefl _)
    · cases hm
end
end Tp
namespace Tp
open PySem PySem.Spec PyProof.Rows L2
def rMaxDf (K : PySem.W.Frag) : List V → List V → Hp → VK → Prop := fun vs zs H Q => ∃ (a : Addr) (ns : List Int) (d : V), vs = [V.ref a] ∧ zs = [d] ∧ SqL K H a (ns.map V.int) ∧ (ns = [] → Q d H) ∧ ∀ m, m ∈ ns → (∀ y, y ∈ ns → y ≤ m) → Q (.int m) H
theorem cr_maxDf {X : Cx} (hc : X.calm = true) : CallRK X (.builtin "max") [Str.ofString "default"] (rMaxDf X.K) := by
  intro pins s σ H vs zs us ws Q I r rz h
  obtain ⟨a, ns, d, rfl, rfl, hs, q0, q⟩ := h
  obtain ⟨its, rv, hl, _⟩ := I.list hs
  rw [Vals.ref1 r]
  obtain ⟨dv, rfl, rd⟩ := vals1 rz
  have hi := rv.ints
  obtain ⟨xs, e⟩ := hi.allInts.items
  have hn : numsOf (intItems xs).toList = ns := by rw [← e]; exact hi.numsOf
  rw [nums_intItems] at hn
  have hl' := hl.isList
  rw [e] at hl'
  refine max_default (d := dv) (I.ok.hd hc) hl' fun v h' tk h1 h2 hk => ?_
  by_cases hz : 0 < xs.size
  · have hv := h1 hz
    obtain ⟨t, rfl⟩ := intItems_at hv
    obtain ⟨_, b2⟩ := argBest_gt (numAt xs) (xs.size - 1)
    refine ⟨.int _, H, I.kept hk, ⟨_, rfl⟩, q _ ?_ fun y hy => ?_⟩
    · rw [numAt_eq, ← hn]
      exact PySem.getD_mem (by rw [List.length_map, Array.length_toList]; omega)
    · rw [← hn] at hy
      obtain ⟨j, hj, rfl⟩ := mem_getD hy
      rw [List.length_map, Array.length_toList] at hj
      rw [← numAt_eq]
      exact b2 j (by omega)
  · have e0 : xs.size = 0 := by omega
    have en : ns = [] := by
      rw [← hn]
      have : xs.toList = [] := by
        have : xs.toList.length = 0 := by rw [Array.length_toList]; exact e0
        exact List.eq_nil_of_length_eq_zero this
      rw [this]
      rfl
    rw [h2 e0]
    exact ⟨d, H, I.kept hk, rd, q0 en⟩
theorem pt_never {X : Cx} {e : Expr} : PT X e (fun _ _ _ => False) := ⟨fun _ _ _ _ _ _ h => h.elim⟩
/-! ### rules whose reading names K, for use within a comprehension -/
section
variable {X : Cx} {K : PySem.W.Frag}
theorem ix_tupK (hK : X.K = K) : IxR X (rIxT K) := by
  subst hK
  exact ix_tup
theorem ix_listK (hK : X.K = K) : IxR X (rIxL K) := by
  subst hK
  exact ix_list
theorem ix_seqK (hK : X.K = K) : IxR X (rIx K) := by
  subst hK
  exact ix_seq
theorem call_lenK (hK : X.K = K) : CallR X (.builtin "len") (fun xs H Q => ∃ p ys, xs = [.ref p] ∧ (SqL K H p ys ∨ SqT K H p ys) ∧ Q (.int ys.length) H) := by
  subst hK
  exact call_len_seq
end
end Tp

set_option Elab.async false
set_option linter.all false
set_option maxRecDepth 100000
set_option maxHeartbeats 4000000
/-! tuple * 1: the very tuple -/
namespace Tp
open PySem PySem.Spec PyProof.Rows L2
theorem tuple_mul1 (l : Addr) (items : Array Value) (n : Nat) (dd : Option Addr) (sl : Array (Option Value)) (u : Tok) :
    Meets (Builtin.«tuple.__mul__» ⟨[.ref l, .int 1 u], []⟩) (fun _ R s => s.heap.get? l = some { cls := .type "tuple", dict := dd, data := .seq items n, slots := sl } ∧ R (.ok (.ret (Value.ref l))) s) :=
  .of_wp fun prog w A R s h => by
    obtain ⟨hp, g, d, tk, os⟩ := s
    obtain ⟨hl, h⟩ := h
    have f1 := AutoSeq1.idx_int
    have c1 : (items.isEmpty || (1 : Int) == 1) = true := by simp
    wp_walk using wpAny_loadPart' hl
    repeat (first
      | (refine wpAny_ite_true (decide_eq_true c1) ?_; wp_walk using wpAny_loadPart' hl))
    all_goals first
      | exact ⟨_, rfl, h⟩
      | skip
def rRepW (K : PySem.W.Frag) : R2 := fun x y H Q => ∃ l k xs, x = .ref l ∧ y = .int k ∧ SqT K H l xs ∧ xs ≠ [] ∧ 1 ≤ k ∧ k ≤ 1000 ∧ xs.length ≤ 1000 ∧ (k = 1 → Q (.ref l) H) ∧ (2 ≤ k → ∀ p, H p = none → Q (.ref p) (upd H p (.tup (List.replicate k.toNat xs).flatten)))
theorem op_repW {X : Cx} : OpR X (binaryOp .Mult) (rRepW X.K) := by
  intro pins s σ H x y v u Q I rx ry h
  obtain ⟨l, k, xs, rfl, rfl, hT, hne, h1, h2, hz, q1, q2⟩ := h
  by_cases h2k : 2 ≤ k
  · exact op_repT pins s σ H _ _ v u Q I rx ry ⟨l, k, xs, rfl, rfl, hT, hne, h2k, h2, hz, q2 h2k⟩
  · obtain rfl : k = 1 := by omega
    cases rx
    obtain ⟨t, rfl⟩ := ry
    obtain ⟨its, r, ⟨⟨cls, dd, data, sl⟩, ho, hc, n, hd⟩, hs⟩ := I.tuple hT
    simp only at hc hd
    subst hc hd
    exact wpAny_binaryOp_repeat_ref (T := "tuple") (U := "int") (by decide) ⟨_, ho, rfl⟩ (fun s' => typeIs_int s' 1 t) noFill_tuple_mul F.fills_int_mul F.slot_int_rmul repeat_tuple F.slot_int_index.lookup
      (call_meets F.slot_int_rmul (typeIs_int s 1 t) F.entry_int_rmul (F.args_int_rmul_2 _ _) (int_rmul_tuple 1 t l its.toArray n dd sl)
        ⟨ho, rfl, ⟨_, ho, rfl⟩, call_meets F.slot_tuple_mul ⟨_, ho, rfl⟩ F.entry_tuple_mul (F.args_tuple_mul_2 _ _) (tuple_mul1 l its.toArray n dd sl t) ⟨ho, ⟨.ref l, H, I, rfl, q1 rfl⟩⟩⟩)
end Tp

set_option Elab.async false
set_option linter.all false
set_option maxRecDepth 100000
set_option maxHeartbeats 4000000
/-! x in y, x not in y by an own __contains__ -/
namespace Tp
open PySem PySem.Spec PyProof.Rows L2
theorem in_own {M : Model} {A : Around} {E : Value → Shared → Prop} {s : Shared} {K : PySem.W.Frag} {x C f : Addr} {ox : Obj} {od : Option Obj} {v : Value} {Q : Bool → Shared → Prop} (X : K.In s.heap) (I : PySem.W.InstAt s.heap x ox C od)
    (hs : PySem.W.findIn K (.ref C) "__contains__" = some (some (.ref f))) (hf : PySem.W.isFn K (.ref f) = true)
    (h : wpAny M A (call (.ref f) [.ref x, v]) (fun u s' => ∃ r, u = .bool r ∧ Q r s') E s) : wpAny M A (contains (.ref x) v) Q E s := by
  unfold contains
  refine wpAny_holding ?_
  have n : stdlibNamesSay? (.ref x) v = none := by cases v <;> rfl
  rw [n]
  refine wpAny_bind (wpAny_bind (I.type.here ((PySem.W.looks_findIn X hs).here ?_)))
  show wpAny M A (if (some (Value.ref f) == some Value.none) = true then _ else _) Q E s
  rw [if_neg (by simp)]
  refine wpAny_bind ?_
  simp only [callSpecialUnlessNone?]
  refine wpAny_bind (wpAny_bind (I.type.here ((PySem.W.looks_findIn X hs).here ?_)))
  refine wpAny_holding (wpAny_bind ((PySem.W.bind_fn X _ (beq_iff_eq.mp hf)).here ?_))
  show wpAny M A (if (Value.ref f == Value.none) = true then _ else _) _ E s
  rw [if_neg (by simp)]
  refine wpAny_bind (wpAny_mono h (fun u s' z => ?_) fun _ _ e => e)
  obtain ⟨r, rfl, q⟩ := z
  exact wpAny_pure (wpAny_truthy_bool q)
section
variable {X : Cx} {CX : CXT} {k : Nat} {f C : Addr} {fd : FuncData} {ps : List Str} {sp : Sp} {E : XK}
def rInE (g : Bool → Bool) (C : Addr) (sp : Sp) (E : XK) : R2 := fun y x H Q => ∃ a dx fs, x = .ref a ∧ H a = some (.ins C dx fs) ∧ sp [x, y] H (fun z H' => ∃ b, z = .bl b ∧ Q (.bl (g b)) H') E
theorem op_inE (hs : PySem.W.findIn X.K (.ref C) "__contains__" = some (some (.ref f))) (hf : PySem.W.isFn X.K (.ref f) = true) (F : FnOk X.prog X.w X.K X.mg X.base CX k f fd ps sp) (hr : Room k X.A) (hb : Binds X.K fd ps []) (hx : Passes CX X E) :
    OpR X (compareOp .In) (rInE id C sp E) := by
  intro pins s σ H y x u v Q I ry rx h
  obtain ⟨a, dx, fs, rfl, ha, q⟩ := h
  cases (show v = Value.ref a from rx)
  obtain ⟨mA, O, _, _, _, _⟩ := ins_get I.hok ha
  obtain ⟨od, J, _⟩ := O.look
  show wpAny _ _ (do return Value.bool (← contains (.ref a) u)) _ _ _
  refine wpAny_bind (in_own I.kIn J hs hf ?_)
  refine wpAny_mono (runE (us := [.ref a, u]) (vs := [.ref a, y]) F hr I.env0 hb .nil (pass_at hx) I (.cons rfl (.cons ry .nil)) q) (fun w s' z => ?_) fun _ _ x => x
  obtain ⟨z', H', I', rz, r, ez, qz⟩ := z
  subst ez
  exact ⟨r, rz, wpAny_pure ⟨.bl r, H', I', rfl, qz⟩⟩
theorem op_notInE (hs : PySem.W.findIn X.K (.ref C) "__contains__" = some (some (.ref f))) (hf : PySem.W.isFn X.K (.ref f) = true) (F : FnOk X.prog X.w X.K X.mg X.base CX k f fd ps sp) (hr : Room k X.A) (hb : Binds X.K fd ps []) (hx : Passes CX X E) :
    OpR X (compareOp .NotIn) (rInE not C sp E) := by
  intro pins s σ H y x u v Q I ry rx h
  obtain ⟨a, dx, fs, rfl, ha, q⟩ := h
  cases (show v = Value.ref a from rx)
  obtain ⟨mA, O, _, _, _, _⟩ := ins_get I.hok ha
  obtain ⟨od, J, _⟩ := O.look
  show wpAny _ _ (do return Value.bool (!(← contains (.ref a) u))) _ _ _
  refine wpAny_bind (in_own I.kIn J hs hf ?_)
  refine wpAny_mono (runE (us := [.ref a, u]) (vs := [.ref a, y]) F hr I.env0 hb .nil (pass_at hx) I (.cons rfl (.cons ry .nil)) q) (fun w s' z => ?_) fun _ _ x => x
  obtain ⟨z', H', I', rz, r, ez, qz⟩ := z
  subst ez
  exact ⟨r, rz, wpAny_pure ⟨.bl (!r), H', I', rfl, qz⟩⟩
end
end Tp

set_option Elab.async false
set_option linter.all false
set_option maxRecDepth 100000
set_option maxHeartbeats 4000000
/-! C() that may raise; x not in l with K by name; dicts beside other data in == -/
namespace Tp
open PySem PySem.Spec PyProof.Rows L2
section
variable {X : Cx} {CX : CXT} {k : Nat} {f C : Addr} {fd : FuncData} {ps : List Str} {sp : Sp} {dvs : List V} {ds : List Value} {E : L2.St → XK} {x : Str} {p pos : Pos}
theorem pe_makeE0 (M : Mk X.K C f) (F : FnOk X.prog X.w X.K X.mg X.base CX k f fd ps sp) (hr : Room (k + 1) X.A) (hg : Gl X x) (hm : X.mg x = some (.ref C)) (hb : Binds X.K fd ps ds) (hd : Vals dvs ds) (hx : ∀ σ, PassesAt CX X σ (E σ))
    (hdb : (x == ("__debug__" : Str)) = false := by decide) : PE X (.Call (.Name x p) [] [] pos) (tMakeE C sp dvs E tNil) :=
  ⟨fun pins s σ H Q I h => wpAny_Call_Name_kw (ld_glob I hg hm (PySem.W.callWith_K0 I.kIn M.kp (run_makeE (us := []) M F hr hb hd (hx σ) I .nil h)) hdb)⟩
theorem op_notInDK {K : PySem.W.Frag} (hK : X.K = K) (hu : X.A.units + 65 < cLine) : OpR X (compareOp .NotIn) (rNotInD K) := by
  subst hK
  exact op_notInD hu
end
/-! ### dicts and other things -/
section
open PySem.AutoSeq1 (wpAny_loadPart')
theorem tup_dec_dict (l b : Addr) (its : Array Value) (n : Nat) (dd dd2 : Option Addr) (sl sl2 : Array (Option Value)) (es : Array DictEntry) (ep : Nat) :
    Meets (Builtin.«tuple.__eq__» ⟨[.ref l, .ref b], []⟩) (fun _ R s => s.heap.get? l = some ⟨.type "tuple", dd, .seq its n, sl⟩ ∧ s.heap.get? b = some ⟨.type "dict", dd2, .dict es ep, sl2⟩ ∧ R (.ok (.ret .notImplemented)) s) :=
  .of_wp fun _ _ _ _ st z => by
    obtain ⟨hp, g, d, tk, os⟩ := st
    obtain ⟨z1, z2, z3⟩ := z
    have f1 := F.sub_dict_tuple
    wp_walk using wpAny_loadPart' z1, wpAny_loadPart' z2
    exact ⟨_, rfl, z3⟩
theorem dict_dec_tup (l b : Addr) (its : Array Value) (n : Nat) (dd dd2 : Option Addr) (sl sl2 : Array (Option Value)) (es : Array DictEntry) (ep : Nat) :
    Meets (Builtin.«dict.__eq__» ⟨[.ref b, .ref l], []⟩) (fun _ R s => s.heap.get? l = some ⟨.type "tuple", dd, .seq its n, sl⟩ ∧ s.heap.get? b = some ⟨.type "dict", dd2, .dict es ep, sl2⟩ ∧ R (.ok (.ret .notImplemented)) s) :=
  .of_wp fun _ _ _ _ st z => by
    obtain ⟨hp, g, d, tk, os⟩ := st
    obtain ⟨z1, z2, z3⟩ := z
    have f1 := F.sub_tuple_dict
    wp_walk using wpAny_loadPart' z1, wpAny_loadPart' z2
    exact ⟨_, rfl, z3⟩
theorem str_dec_dict (x : Str) (t : Tok) (b : Addr) (dd2 : Option Addr) (sl2 : Array (Option Value)) (es : Array DictEntry) (ep : Nat) :
    Meets (Builtin.«str.__eq__» ⟨[.str x t, .ref b], []⟩) (fun _ R s => s.heap.get? b = some ⟨.type "dict", dd2, .dict es ep, sl2⟩ ∧ R (.ok (.ret .notImplemented)) s) :=
  .of_wp fun _ _ _ _ st z => by
    obtain ⟨hp, g, d, tk, os⟩ := st
    obtain ⟨z2, z3⟩ := z
    have f1 := F.sub_dict_str
    wp_walk using wpAny_loadPart' z2, wpAny_load z2
    exact ⟨_, rfl, z3⟩
theorem dict_dec_str (x : Str) (t : Tok) (b : Addr) (dd2 : Option Addr) (sl2 : Array (Option Value)) (es : Array DictEntry) (ep : Nat) :
    Meets (Builtin.«dict.__eq__» ⟨[.ref b, .str x t], []⟩) (fun _ R s => s.heap.get? b = some ⟨.type "dict", dd2, .dict es ep, sl2⟩ ∧ R (.ok (.ret .notImplemented)) s) :=
  .of_wp fun _ _ _ _ st z => by
    obtain ⟨hp, g, d, tk, os⟩ := st
    obtain ⟨z2, z3⟩ := z
    have f1 := F.sub_str_dict
    wp_walk using wpAny_loadPart' z2, wpAny_load z2
    exact ⟨_, rfl, z3⟩
theorem int_dec_dict (x : Int) (t : Tok) (b : Addr) (dd2 : Option Addr) (sl2 : Array (Option Value)) (es : Array DictEntry) (ep : Nat) :
    Meets (Builtin.«int.__eq__» ⟨[.int x t, .ref b], []⟩) (fun _ R s => s.heap.get? b = some ⟨.type "dict", dd2, .dict es ep, sl2⟩ ∧ R (.ok (.ret .notImplemented)) s) :=
  .of_wp fun _ _ _ _ st z => by
    obtain ⟨hp, g, d, tk, os⟩ := st
    obtain ⟨z2, z3⟩ := z
    have f1 := F.sub_dict_int
    wp_walk using wpAny_loadPart' z2, wpAny_load z2
    exact ⟨_, rfl, z3⟩
theorem dict_dec_int (x : Int) (t : Tok) (b : Addr) (dd2 : Option Addr) (sl2 : Array (Option Value)) (es : Array DictEntry) (ep : Nat) :
    Meets (Builtin.«dict.__eq__» ⟨[.ref b, .int x t], []⟩) (fun _ R s => s.heap.get? b = some ⟨.type "dict", dd2, .dict es ep, sl2⟩ ∧ R (.ok (.ret .notImplemented)) s) :=
  .of_wp fun _ _ _ _ st z => by
    obtain ⟨hp, g, d, tk, os⟩ := st
    obtain ⟨z2, z3⟩ := z
    have f1 := F.sub_int_dict
    wp_walk using wpAny_loadPart' z2, wpAny_load z2
    exact ⟨_, rfl, z3⟩
/-- a dict lies at b -/
def DicAt (h : Heap) (b : Addr) : Prop := ∃ dd es ep sl, h.get? b = some ⟨.type "dict", dd, .dict es ep, sl⟩
section
variable {A : Around} {s : Shared}
theorem ne_tup_dic {l b : Addr} {its : Array Value} (hl : s.heap.IsTuple l its) (hb : DicAt s.heap b) : l ≠ b := fun e => by
  subst e
  obtain ⟨o, ho, hc, _⟩ := hl
  obtain ⟨dd, es, ep, sl, h⟩ := hb
  rw [ho] at h
  cases h
  exact absurd hc (by simp)
theorem rc_tup_dic {l b : Addr} {its : Array Value} (hl : s.heap.IsTuple l its) (hb : DicAt s.heap b) (hu : A.units < cLine) : SeqAt.RcAt A s (.ref l) (.ref b) false := fun prog w E Q h => by
  have ne := ne_tup_dic hl hb
  obtain ⟨⟨cls, dd, data, sl⟩, ho, hc, n, hd⟩ := hl
  obtain ⟨dd2, es, ep, sl2, ho2⟩ := hb
  simp only at hc hd
  subst hc hd
  refine SeqAt.rc_eq_decline_or (k := false) (Ta := "tuple") (Tb := "dict") ⟨_, ho, rfl⟩ ⟨_, ho2, rfl⟩ (by decide) F.sub_dict_tuple F.slot_tuple_eq F.slot_dict_eq_refl ?_ ?_ ?_ (.inr hu) h
  · exact fun _ hq => call_meets F.slot_tuple_eq ⟨_, ho, rfl⟩ F.entry_tuple_eq (F.args_tuple_eq_2 _ _) (tup_dec_dict l b its n dd dd2 sl sl2 es ep) ⟨ho, ho2, hq⟩
  · exact fun _ hq => call_meets F.slot_dict_eq_refl ⟨_, ho2, rfl⟩ F.entry_dict_eq (F.args_dict_eq_2 _ _) (dict_dec_tup l b its n dd dd2 sl sl2 es ep) ⟨ho, ho2, hq⟩
  · exact fun _ hq => SeqAt.wpAny_isSame_ref_other' ne ho ho2 (by simp) hq
theorem eq_tup_dic {l b : Addr} {its : Array Value} (hl : s.heap.IsTuple l its) (hb : DicAt s.heap b) (hu : A.units < cLine) : SeqAt.EqAt A s (.ref l) (.ref b) false := .of_refs (ne_tup_dic hl hb) (rc_tup_dic hl hb hu)
theorem eq_str_dic {x : Str} {t : Tok} {b : Addr} (hb : DicAt s.heap b) (hu : A.units < cLine) : SeqAt.EqAt A s (.str x t) (.ref b) false := fun prog w E Q h => by
  obtain ⟨dd2, es, ep, sl2, ho2⟩ := hb
  unfold eqBool
  refine wpAny_holding (wpAny_ite_split (fun z => absurd (eq_of_beq z) nofun) (fun _ => wpAny_bind ?_))
  refine SeqAt.rc_eq_decline_or (k := false) (Ta := "str") (Tb := "dict") (typeIs_str s x t) ⟨_, ho2, rfl⟩ (by decide) F.sub_dict_str F.slot_str_eq F.slot_dict_eq_refl ?_ ?_ ?_ (.inr hu) (wpAny_truthy_bool h)
  · exact fun _ hq => call_meets F.slot_str_eq (typeIs_str s x t) F.entry_str_eq (F.args_str_eq_2 _ _) (str_dec_dict x t b dd2 sl2 es ep) ⟨ho2, hq⟩
  · exact fun _ hq => call_meets F.slot_dict_eq_refl ⟨_, ho2, rfl⟩ F.entry_dict_eq (F.args_dict_eq_2 _ _) (dict_dec_str x t b dd2 sl2 es ep) ⟨ho2, hq⟩
  · exact fun _ hq => wpAny_of_eq (rfl : isSame (.str x t) (.ref b) = pure false) hq
theorem eq_int_dic {x : Int} {t : Tok} {b : Addr} (hb : DicAt s.heap b) (hu : A.units < cLine) : SeqAt.EqAt A s (.int x t) (.ref b) false := fun prog w E Q h => by
  obtain ⟨dd2, es, ep, sl2, ho2⟩ := hb
  unfold eqBool
  refine wpAny_holding (wpAny_ite_split (fun z => absurd (eq_of_beq z) nofun) (fun _ => wpAny_bind ?_))
  refine SeqAt.rc_eq_decline_or (k := false) (Ta := "int") (Tb := "dict") (typeIs_int s x t) ⟨_, ho2, rfl⟩ (by decide) F.sub_dict_int F.slot_int_eq F.slot_dict_eq_refl ?_ ?_ ?_ (.inr hu) (wpAny_truthy_bool h)
  · exact fun _ hq => call_meets F.slot_int_eq (typeIs_int s x t) F.entry_int_eq (F.args_int_eq_2 _ _) (int_dec_dict x t b dd2 sl2 es ep) ⟨ho2, hq⟩
  · exact fun _ hq => call_meets F.slot_dict_eq_refl ⟨_, ho2, rfl⟩ F.entry_dict_eq (F.args_dict_eq_2 _ _) (dict_dec_int x t b dd2 sl2 es ep) ⟨ho2, hq⟩
  · exact fun _ hq => wpAny_of_eq (rfl : isSame (.int x t) (.ref b) = pure false) hq
end
end
/-! ### how things compare, with dicts among them on the right -/
/-! things that are never one -/
mutual
inductive NeV (K : PySem.W.Frag) (H : Hp) : V → V → Prop
  | int {i : Int} {b : Addr} : NeV K H (.int i) (.ref b)
  | str {z : Str} {b : Addr} : NeV K H (.str z) (.ref b)
  | tup {a b : Addr} {xs ys : List V} : SqT K H a xs → SqT K H b ys → NeVs K H xs ys → NeV K H (.ref a) (.ref b)
inductive NeVs (K : PySem.W.Frag) (H : Hp) : List V → List V → Prop
  | nil {y : V} {ys : List V} : NeVs K H [] (y :: ys)
  | hd {x y : V} {xs ys : List V} : NeV K H x y → NeVs K H (x :: xs) (y :: ys)
  | tl {x y : V} {xs ys : List V} : NeVs K H xs ys → NeVs K H (x :: xs) (y :: ys)
end
mutual
inductive EqZ (K : PySem.W.Frag) (H : Hp) : Nat → V → V → Bool → Prop
  | data {n : Nat} {v x : V} {d e : PyData} : Dp K H v d → Dp K H x e → d.canLay0 = true → e.canLay0 = true → d.depth ≤ n → EqZ K H n v x (PyData.eqv d e)
  | tup {n : Nat} {a b : Addr} {xs : List V} : SqT K H a xs → H b = some (.dK []) → EqZ K H n (.ref a) (.ref b) false
  | str {n : Nat} {x : Str} {b : Addr} : H b = some (.dK []) → EqZ K H n (.str x) (.ref b) false
  | int {n : Nat} {x : Int} {b : Addr} : H b = some (.dK []) → EqZ K H n (.int x) (.ref b) false
  | intT {n : Nat} {x : Int} {b : Addr} {ys : List V} : SqT K H b ys → EqZ K H n (.int x) (.ref b) false
  | tups {n : Nat} {a b : Addr} {xs ys : List V} {p : Bool} : NeVs K H xs ys → SqT K H a xs → SqT K H b ys → EqZs K H n xs ys p → EqZ K H (n + 1) (.ref a) (.ref b) (p && xs.length == ys.length)
inductive EqZs (K : PySem.W.Frag) (H : Hp) : Nat → List V → List V → Bool → Prop
  | nil1 {n : Nat} {ys : List V} : EqZs K H n [] ys true
  | nil2 {n : Nat} {xs : List V} : EqZs K H n xs [] true
  | cons {n : Nat} {x y : V} {xs ys : List V} {p q : Bool} : EqZ K H n x y p → EqZs K H n xs ys q → EqZs K H n (x :: xs) (y :: ys) (p && q)
end
section
variable {X : Cx} {pins : List (Addr × Obj)} {σ : L2.St} {H : Hp} {s : Shared}
theorem dic_at (I : Inv X pins σ H s) {b : Addr} (h : H b = some (.dK [])) : DicAt s.heap b := by
  obtain ⟨_, ya, va, ra, da⟩ := (show ObjOk X.prog X.w H s.heap b (.dK []) from I.hok b _ h)
  obtain ⟨⟨c, dd, dt, sl⟩, es, ep, e1, ⟨e2, _, _⟩, e3, _⟩ := da
  simp only at e2 e3
  subst e2 e3
  exact ⟨_, _, _, _, e1⟩
mutual
theorem NeV.at (I : Inv X pins σ H s) : ∀ {v x : V}, NeV X.K H v x → ∀ (u : Value), RelV v u → RelV x u → False
  | _, _, .int, u, r1, r2 => by
    obtain ⟨t, rfl⟩ := r1
    cases r2
  | _, _, .str, u, r1, r2 => by
    obtain ⟨t, rfl⟩ := r1
    cases r2
  | _, _, .tup h1 h2 z, u, r1, r2 => by
    cases r1
    cases r2
    obtain ⟨its, rv, ⟨o, e1, _, n, d1⟩, _⟩ := I.tuple h1
    obtain ⟨its2, rv2, ⟨o2, e2, _, n2, d2⟩, _⟩ := I.tuple h2
    rw [e1] at e2
    cases e2
    rw [d1] at d2
    injection d2 with d2 _
    have : its = its2 := by simpa using d2
    subst this
    exact NeVs.at I z its rv rv2
theorem NeVs.at (I : Inv X pins σ H s) : ∀ {xs ys : List V}, NeVs X.K H xs ys → ∀ (us : List Value), Vals xs us → Vals ys us → False
  | _, _, .nil, us, r1, r2 => by
    cases r1
    cases r2
  | _, _, .hd h, us, r1, r2 => by
    cases r1 with
    | cons a b =>
      cases r2 with
      | cons c d => exact NeV.at I h _ a c
  | _, _, .tl h, us, r1, r2 => by
    cases r1 with
    | cons a b =>
      cases r2 with
      | cons c d => exact NeVs.at I h _ b d
end
mutual
theorem EqZ.at (I : Inv X pins σ H s) : ∀ {n : Nat} {v x : V} {b : Bool}, EqZ X.K H n v x b → ∀ (A : Around) (u w : Value), RelV v u → RelV x w → A.units + n < cLine → SeqAt.EqAt A s u w b
  | n, _, _, _, .data (d := d) (e := e) h1 h2 c1 c2 dn, A, u, w, ru, rw_, hu => by
    obtain ⟨as, r1⟩ := Dp.reads I d _ u h1 ru
    obtain ⟨bs, r2⟩ := Dp.reads I e _ w h2 rw_
    exact SeqAt.eqAt_reads d e A s u w as bs r1 r2 c1 c2 (Nat.lt_of_le_of_lt (Nat.add_le_add_left (Nat.le_trans (Nat.min_le_left _ _) dn) _) hu)
  | n, _, _, _, .tup h1 h2, A, u, w, ru, rw_, hu => by
    obtain ⟨its, rv, it, _⟩ := I.tuple h1
    cases ru
    cases rw_
    exact eq_tup_dic it (dic_at I h2) (by omega)
  | n, _, _, _, .str h2, A, u, w, ru, rw_, hu => by
    obtain ⟨t, rfl⟩ := ru
    cases rw_
    exact eq_str_dic (dic_at I h2) (by omega)
  | n, _, _, _, .int h2, A, u, w, ru, rw_, hu => by
    obtain ⟨t, rfl⟩ := ru
    cases rw_
    exact eq_int_dic (dic_at I h2) (by omega)
  | n, _, _, _, .intT h2, A, u, w, ru, rw_, hu => by
    obtain ⟨its, rv, it, _⟩ := I.tuple h2
    obtain ⟨t, rfl⟩ := ru
    cases rw_
    exact SeqAt.EqAt.int_tuple _ t it (by omega)
  | _, _, _, _, .tups (n := n) (a := a) (b := b) (xs := xs) (ys := ys) ne h1 h2 z, A, u, w, ru, rw_, hu => by
    obtain ⟨its, rv, it, _⟩ := I.tuple h1
    obtain ⟨its2, rv2, it2, _⟩ := I.tuple h2
    cases ru
    cases rw_
    obtain ⟨e, he, ha⟩ := EqZs.at I z A.in1 its its2 rv rv2 (show A.units + 1 + n < cLine by omega)
    have := SeqAt.RcAt.tuples (e := e) it it2 (show A.units < cLine by omega) (fun j g1 g2 => by
      have g1' : j < its.length := by simpa using g1
      have g2' : j < its2.length := by simpa using g2
      simpa using he j _ _ (List.getElem?_eq_getElem g1') (List.getElem?_eq_getElem g2'))
    have ne : a ≠ b := fun z => by
      subst z
      exact NeV.at I (.tup h1 h2 ne) _ rfl rfl
    refine .of_refs ne ?_
    have e1 : its.toArray.size = xs.length := by simpa using rv.length.symm
    have e2 : its2.toArray.size = ys.length := by simpa using rv2.length.symm
    rw [e1, e2] at this
    rw [rv.length, rv2.length, ha] at this
    rw [rv.length, rv2.length]
    exact this
theorem EqZs.at (I : Inv X pins σ H s) : ∀ {n : Nat} {xs ys : List V} {p : Bool}, EqZs X.K H n xs ys p → ∀ (A : Around) (us ws : List Value), Vals xs us → Vals ys ws → A.units + n < cLine →
    ∃ e : Nat → Bool, (∀ (j : Nat) (a b : Value), us[j]? = some a → ws[j]? = some b → SeqAt.EqAt A s a b (e j)) ∧ (List.range (min us.length ws.length)).all e = p
  | n, _, _, _, .nil1, A, us, ws, ru, rw_, hu => by
    cases ru
    exact ⟨fun _ => true, (fun j a b h => by cases h), by simp⟩
  | n, _, _, _, .nil2, A, us, ws, ru, rw_, hu => by
    cases rw_
    exact ⟨fun _ => true, (fun j a b _ h => by cases h), by simp⟩
  | n, _, _, _, .cons (p := p) (q := q) h t, A, us, ws, ru, rw_, hu => by
    cases ru with
    | cons r1 r2 =>
      cases rw_ with
      | cons w1 w2 =>
        obtain ⟨e, he, ha⟩ := EqZs.at I t A _ _ r2 w2 hu
        refine ⟨fun j => match j with | 0 => p | j + 1 => e j, fun j a b g1 g2 => ?_, ?_⟩
        · cases j with
          | zero =>
            cases g1
            cases g2
            exact EqZ.at I h A _ _ r1 w1 hu
          | succ j => exact he j a b g1 g2
        · rw [List.length_cons, List.length_cons, Nat.add_min_add_right, List.range_succ_eq_map, List.all_cons, List.all_map, ← ha]
          rfl
end
end
/-- x not in l: no item equals x -/
def rNotInZ (K : PySem.W.Frag) : R2 := fun x y H Q => ∃ (l : Addr) (xs : List V), y = .ref l ∧ SqL K H l xs ∧ (∀ v ∈ xs, EqZ K H 60 v x false) ∧ Q (.bl true) H
theorem op_notInZ0 {X : Cx} (hu : X.A.units + 65 < cLine) : OpR X (compareOp .NotIn) (rNotInZ X.K) := by
  intro pins s σ H x y v u Q I rx ry h
  obtain ⟨l, xs, rfl, hl, hp, q⟩ := h
  cases ry
  obtain ⟨its, rv, il, _⟩ := I.list hl
  have key : ∀ {xs : List V} {its : List Value}, (∀ v ∈ xs, EqZ X.K H 60 v x false) → Vals xs its → ∀ y ∈ its, SeqAt.EqAt X.A.in1 s y v false := by
    intro xs its hp r
    induction r with
    | nil => intro y hy; cases hy
    | @cons v' u' vs' us' r1 r2 ih =>
      intro y hy
      rcases List.mem_cons.mp hy with e | hy
      · rw [e]
        exact (hp _ List.mem_cons_self).at I X.A.in1 _ _ r1 rx (show X.A.units + 1 + 60 < cLine by omega)
      · exact ih (fun z hz => hp z (List.mem_cons_of_mem _ hz)) y hy
  obtain ⟨ol, nl, e1, e2, _, e3⟩ := il
  refine SeqAt.notIn_listAt (items := its.toArray) (fun _ => false) ⟨ol, e1, e2, nl, e3⟩ (fun y hy => key hp rv y (by simpa using hy)) ⟨.bl true, H, I, ?_, q⟩
  show Value.bool _ = _
  simp
theorem op_orR {X : Cx} {f : Value → Value → Sem Value} {r1 r2 : R2} (h1 : OpR X f r1) (h2 : OpR X f r2) : OpR X f (fun x y H Q => r1 x y H Q ∨ r2 x y H Q) := by
  intro pins s σ H x y v u Q I rx ry h
  rcases h with h | h
  · exact h1 pins s σ H x y v u Q I rx ry h
  · exact h2 pins s σ H x y v u Q I rx ry h
theorem op_notInZ {X : Cx} {K : PySem.W.Frag} (hK : X.K = K) (hu : X.A.units + 65 < cLine) : OpR X (compareOp .NotIn) (fun x y H Q => rNotInD K x y H Q ∨ rNotInZ K x y H Q) := by
  subst hK
  exact op_orR (op_notInD hu) (op_notInZ0 hu)
end Tp

set_option Elab.async false
set_option linter.all false
set_option maxRecDepth 100000
set_option maxHeartbeats 4000000
/-! t + u of any two tuples -/
namespace Tp
open PySem PySem.Spec PyProof.Rows L2
section
variable {prog : Program} {w : World} {A : Around} {E : Value → Shared → Prop} {s : Shared}
theorem cat_tup0 {t b : Addr} {ws : List Value} {Q : Value → Shared → Prop} (ht : IsTup s.heap t #[]) (hb : IsTup s.heap b ws.toArray) (h : Q (.ref b) s) : wpAny (model prog w) A (binaryOp .Add (.ref t) (.ref b)) Q E s := by
  obtain ⟨⟨cls, dd, data, sl⟩, ho, hc, n, hd⟩ := id ht
  obtain ⟨⟨cls2, dd2, data2, sl2⟩, ho2, hc2, n2, hd2⟩ := id hb
  simp only at hc hd hc2 hd2
  subst hc hd hc2 hd2
  exact concat_meets ⟨_, ho, rfl⟩ ⟨_, ho2, rfl⟩ noFill_tuple_add seq_tuple_add PySem.F.slot_tuple_add PySem.F.entry_tuple_add (PySem.F.args_tuple_add_2 _ _)
      (tuple_addW0 t b #[] ws.toArray n n2 dd dd2 sl sl2 (by simp)) ⟨ho, ho2, h⟩
end
def rCatU (K : PySem.W.Frag) : R2 := fun x y H Q => ∃ (a b : Addr) (xs ys : List V), x = .ref a ∧ y = .ref b ∧ SqT K H a xs ∧ SqT K H b ys ∧ xs.length + ys.length ≤ sizeLine ∧ ∀ p H', Same H H' → SqT K H' p (xs ++ ys) → Q (.ref p) H'
theorem op_catU {X : Cx} : OpR X (binaryOp .Add) (rCatU X.K) := by
  intro pins s σ H x y v u Q I rx ry h
  obtain ⟨a, b, xs, ys, rfl, rfl, ha, hb, hz, q⟩ := h
  by_cases hx : xs = []
  · subst hx
    cases rx
    cases ry
    obtain ⟨its, r1, p1, _⟩ := I.tuple ha
    obtain ⟨its2, r2, p2, _⟩ := I.tuple hb
    cases r1
    exact cat_tup0 p1 p2 ⟨.ref b, H, I, rfl, q b H (Same.refl _) hb⟩
  · refine op_catT pins s σ H _ _ v u Q I rx ry ⟨a, b, xs, ys, rfl, rfl, ha, hb, hx, hz, fun e => ?_, fun e p hp => ?_⟩
    · subst e
      exact q a H (Same.refl _) (by rw [List.append_nil]; exact ha)
    · exact q p _ (same_new hp) (SqT.of upd_same)
theorem op_eqDK {X : Cx} {K : PySem.W.Frag} (hK : X.K = K) (hu : X.A.units + 64 < cLine) : OpR X (compareOp .Eq) (rEqD K) := by
  subst hK
  exact op_eqD hu
/-- isinstance(e, (c, ..)), e the exception that the suite holds -/
def rIsXT (K : PySem.W.Frag) (a : Addr) (cls : Value) (d : Option Addr) : List V → Hp → VK → Prop := fun xs H Q => ∃ (D dd : Addr) (fs : List (Str × V)) (tp : Addr) (cs : List V) (ws : List Value) (b : Bool), xs = [.ref a, .ref tp] ∧ cls = .ref D ∧ ExcC K D ∧ d = some dd ∧ H dd = some (.xd fs) ∧
  H tp = some (.tup cs) ∧ Paired ClsV cs ws ∧ PySem.W.kitAny K (.ref D) ws = some b ∧ Q (.bl b) H
theorem call_isXT {X : Cx} {a : Addr} {oe : Obj} {cls : Value} {d : Option Addr} {pn : List (Addr × Obj)} (hz : Zc cls d oe) (hf : ∃ vs, oe.data = .fields vs) : CallR (X.suite a ((a, oe) :: pn)) (.builtin "isinstance") (rIsXT X.K a cls d) := by
  intro pins s σ H xs us Q I r h
  obtain ⟨D, dd, fs, tp, cs, ws, b, rfl, rfl, C, rfl, ea, hT, k, e, q⟩ := h
  obtain ⟨u1, u2, rfl, rx, r2⟩ := vals2 r
  cases (show u2 = Value.ref tp from r2)
  cases rx
  obtain ⟨ha, _⟩ := I.pin (a, oe) (List.mem_append_left _ List.mem_cons_self)
  obtain ⟨vs, hd⟩ := hf
  have hx : ObjOk X.prog X.w H s.heap dd (.xd fs) := I.hok dd _ ea
  obtain ⟨mA, hns, hr⟩ := hx
  obtain ⟨od, ho, hl⟩ := lookIn_ns hns
  have J : PySem.W.InstAt s.heap a oe D (some od) := ⟨ha, hz.1, by unfold PySem.W.notCls; rw [hd] <;> rfl, by rw [hz.2]; exact ho⟩
  obtain ⟨_, its, rv, o, h1, h2, n, h3⟩ := (show ObjOk X.prog X.w H s.heap tp (.tup cs) from I.hok tp _ hT)
  have e3 := ClsV.all k rv
  subst e3
  obtain ⟨oc, od', dt, sl⟩ := o
  simp only at h2 h3
  subst h2 h3
  exact PySem.W.kia_tup (kitx_excD C) I.kIn J h1 e (fun z => nomatch z) fun tk => ⟨.bl b, H, I.kept (t' := tk) fun _ _ z => z, rfl, q⟩
end Tp

set_option Elab.async false
set_option linter.all false
set_option maxRecDepth 100000
set_option maxHeartbeats 4000000
namespace L04
open PySem L2 Tp
def top (i : Nat) : Stmt := PySem.Challenge.pw_toldpast_k04_books_of_distinct_rows.main.body.getD i (.Pass ⟨0, 0, 0, 0⟩)
abbrev scInvalidPart_st : Stmt := inClass (top 5) 0
abbrev scInvalidPart_N : List Str := ["self", "value"]
theorem scInvalidPart : FnScope scInvalidPart_N ["self", "value"] (defScope scInvalidPart_st) := ⟨rfl, rfl, rfl, by decide +kernel, rfl, by decide +kernel, by decide +kernel⟩
abbrev scInvalidName_st : Stmt := inClass (top 6) 0
abbrev scInvalidName_N : List Str := ["self", "value"]
theorem scInvalidName : FnScope scInvalidName_N ["self", "value"] (defScope scInvalidName_st) := ⟨rfl, rfl, rfl, by decide +kernel, rfl, by decide +kernel, by decide +kernel⟩
abbrev scInvalidRow_st : Stmt := inClass (top 7) 0
abbrev scInvalidRow_N : List Str := ["self", "value"]
theorem scInvalidRow : FnScope scInvalidRow_N ["self", "value"] (defScope scInvalidRow_st) := ⟨rfl, rfl, rfl, by decide +kernel, rfl, by decide +kernel, by decide +kernel⟩
abbrev scInvalidTurn_st : Stmt := inClass (top 8) 0
abbrev scInvalidTurn_N : List Str := ["self", "value"]
theorem scInvalidTurn : FnScope scInvalidTurn_N ["self", "value"] (defScope scInvalidTurn_st) := ⟨rfl, rfl, rfl, by decide +kernel, rfl, by decide +kernel, by decide +kernel⟩
abbrev scUnknownTerm_st : Stmt := inClass (top 10) 0
abbrev scUnknownTerm_N : List Str := ["self", "number"]
theorem scUnknownTerm : FnScope scUnknownTerm_N ["self", "number"] (defScope scUnknownTerm_st) := ⟨rfl, rfl, rfl, by decide +kernel, rfl, by decide +kernel, by decide +kernel⟩
abbrev scIsInt_st : Stmt := top 18
abbrev scIsInt_N : List Str := ["value", "low", "high"]
theorem scIsInt : FnScope scIsInt_N ["value", "low", "high"] (defScope scIsInt_st) := ⟨rfl, rfl, rfl, by decide +kernel, rfl, by decide +kernel, by decide +kernel⟩
abbrev scIsName_st : Stmt := top 19
abbrev scIsName_N : List Str := ["value"]
theorem scIsName : FnScope scIsName_N ["value"] (defScope scIsName_st) := ⟨rfl, rfl, rfl, by decide +kernel, rfl, by decide +kernel, by decide +kernel⟩
abbrev scIsList_st : Stmt := top 20
abbrev scIsList_N : List Str := ["value"]
theorem scIsList : FnScope scIsList_N ["value"] (defScope scIsList_st) := ⟨rfl, rfl, rfl, by decide +kernel, rfl, by decide +kernel, by decide +kernel⟩
abbrev scIsPair_st : Stmt := top 21
abbrev scIsPair_N : List Str := ["value"]
theorem scIsPair : FnScope scIsPair_N ["value"] (defScope scIsPair_st) := ⟨rfl, rfl, rfl, by decide +kernel, rfl, by decide +kernel, by decide +kernel⟩
abbrev scIsTurn_st : Stmt := top 25
abbrev scIsTurn_N : List Str := ["value"]
theorem scIsTurn : FnScope scIsTurn_N ["value"] (defScope scIsTurn_st) := ⟨rfl, rfl, rfl, by decide +kernel, rfl, by decide +kernel, by decide +kernel⟩
abbrev scBookInit_st : Stmt := inClass (top 29) 0
abbrev scBookInit_N : List Str := ["self", "rows", "item"]
theorem scBookInit : FnScope scBookInit_N ["self", "rows"] (defScope scBookInit_st) := ⟨rfl, rfl, rfl, by decide +kernel, rfl, by decide +kernel, by decide +kernel⟩
abbrev scAddItem_st : Stmt := inClass (top 29) 1
abbrev scAddItem_N : List Str := ["self", "item", "name", "second", "number"]
theorem scAddItem : FnScope scAddItem_N ["self", "item"] (defScope scAddItem_st) := ⟨rfl, rfl, rfl, by decide +kernel, rfl, by decide +kernel, by decide +kernel⟩
abbrev scHasNumber_st : Stmt := inClass (top 29) 2
abbrev scHasNumber_N : List Str := ["self", "number"]
theorem scHasNumber : FnScope scHasNumber_N ["self", "number"] (defScope scHasNumber_st) := ⟨rfl, rfl, rfl, by decide +kernel, rfl, by decide +kernel, by decide +kernel⟩
abbrev scNeedNumber_st : Stmt := inClass (top 29) 3
abbrev scNeedNumber_N : List Str := ["self", "number"]
theorem scNeedNumber : FnScope scNeedNumber_N ["self", "number"] (defScope scNeedNumber_st) := ⟨rfl, rfl, rfl, by decide +kernel, rfl, by decide +kernel, by decide +kernel⟩
abbrev scNumberOf_st : Stmt := inClass (top 29) 4
abbrev scNumberOf_N : List Str := ["self", "row"]
theorem scNumberOf : FnScope scNumberOf_N ["self", "row"] (defScope scNumberOf_st) := ⟨rfl, rfl, rfl, by decide +kernel, rfl, by decide +kernel, by decide +kernel⟩
abbrev scConstant_st : Stmt := inClass (top 29) 5
abbrev scConstant_N : List Str := ["self", "symbol"]
theorem scConstant : FnScope scConstant_N ["self", "symbol"] (defScope scConstant_st) := ⟨rfl, rfl, rfl, by decide +kernel, rfl, by decide +kernel, by decide +kernel⟩
abbrev scApply_st : Stmt := inClass (top 29) 6
abbrev scApply_N : List Str := ["self", "symbol", "numbers", "number"]
theorem scApply : FnScope scApply_N ["self", "symbol", "numbers"] (defScope scApply_st) := ⟨rfl, rfl, rfl, by decide +kernel, rfl, by decide +kernel, by decide +kernel⟩
abbrev scSample_st : Stmt := inClass (top 29) 7
abbrev scSample_N : List Str := ["self", "name", "turn"]
theorem scSample : FnScope scSample_N ["self", "name", "turn"] (defScope scSample_st) := ⟨rfl, rfl, rfl, by decide +kernel, rfl, by decide +kernel, by decide +kernel⟩
abbrev scRows_st : Stmt := inClass (top 29) 8
abbrev scRows_N : List Str := ["self"]
theorem scRows : FnScope scRows_N ["self"] (defScope scRows_st) := ⟨rfl, rfl, rfl, by decide +kernel, rfl, by decide +kernel, by decide +kernel⟩
abbrev scLen_st : Stmt := inClass (top 29) 9
abbrev scLen_N : List Str := ["self"]
theorem scLen : FnScope scLen_N ["self"] (defScope scLen_st) := ⟨rfl, rfl, rfl, by decide +kernel, rfl, by decide +kernel, by decide +kernel⟩
abbrev scGet_st : Stmt := inClass (top 29) 10
abbrev scGet_N : List Str := ["self", "number"]
theorem scGet : FnScope scGet_N ["self", "number"] (defScope scGet_st) := ⟨rfl, rfl, rfl, by decide +kernel, rfl, by decide +kernel, by decide +kernel⟩
abbrev scHas_st : Stmt := inClass (top 29) 12
abbrev scHas_N : List Str := ["self", "value", "item"]
theorem scHas : FnScope scHas_N ["self", "value"] (defScope scHas_st) := ⟨rfl, rfl, rfl, by decide +kernel, rfl, by decide +kernel, by decide +kernel⟩
abbrev scEq_st : Stmt := inClass (top 29) 13
abbrev scEq_N : List Str := ["self", "other"]
theorem scEq : FnScope scEq_N ["self", "other"] (defScope scEq_st) := ⟨rfl, rfl, rfl, by decide +kernel, rfl, by decide +kernel, by decide +kernel⟩
abbrev scCopied_st : Stmt := inClass (top 29) 14
abbrev scCopied_N : List Str := ["self"]
theorem scCopied : FnScope scCopied_N ["self"] (defScope scCopied_st) := ⟨rfl, rfl, rfl, by decide +kernel, rfl, by decide +kernel, by decide +kernel⟩
abbrev scCell_st : Stmt := top 32
abbrev scCell_N : List Str := ["_law_script", "_law_k"]
theorem scCell : FnScope scCell_N ["_law_script", "_law_k"] (defScope scCell_st) := ⟨rfl, rfl, rfl, by decide +kernel, rfl, by decide +kernel, by decide +kernel⟩
abbrev scBox_st : Stmt := top 33
abbrev scBox_N : List Str := ["_law_cell_here"]
theorem scBox : FnScope scBox_N ["_law_cell_here"] (defScope scBox_st) := ⟨rfl, rfl, rfl, by decide +kernel, rfl, by decide +kernel, by decide +kernel⟩
abbrev scTake_st : Stmt := top 34
abbrev scTake_N : List Str := ["_law_box_here", "_law_many", "_law_digit", "_law_mixed"]
theorem scTake : FnScope scTake_N ["_law_box_here", "_law_many"] (defScope scTake_st) := ⟨rfl, rfl, rfl, by decide +kernel, rfl, by decide +kernel, by decide +kernel⟩
abbrev scLabel_st : Stmt := top 35
abbrev scLabel_N : List Str := ["_law_box_here", "_law_signs", "_law_k"]
theorem scLabel : FnScope scLabel_N ["_law_box_here"] (defScope scLabel_st) := ⟨rfl, rfl, rfl, by decide +kernel, rfl, by decide +kernel, by decide +kernel⟩
abbrev scOdd_st : Stmt := top 36
abbrev scOdd_N : List Str := ["_law_box_here", "_law_good", "_law_some"]
theorem scOdd : FnScope scOdd_N ["_law_box_here", "_law_good"] (defScope scOdd_st) := ⟨rfl, rfl, rfl, by decide +kernel, rfl, by decide +kernel, by decide +kernel⟩
abbrev scCall_st : Stmt := top 37
abbrev scCall_N : List Str := ["_law_box_here", "_law_rows", "_law_name", "_law_many", "_law_way", "_law_turn", "_law_numbers", "_law_lap", "_law_k"]
theorem scCall : FnScope scCall_N ["_law_box_here", "_law_rows"] (defScope scCall_st) := ⟨rfl, rfl, rfl, by decide +kernel, rfl, by decide +kernel, by decide +kernel⟩
abbrev scIsNamed_st : Stmt := top 38
abbrev scIsNamed_N : List Str := ["_law_word", "_law_small", "_law_sign"]
theorem scIsNamed : FnScope scIsNamed_N ["_law_word"] (defScope scIsNamed_st) := ⟨rfl, rfl, rfl, by decide +kernel, rfl, by decide +kernel, by decide +kernel⟩
abbrev scIsWhole_st : Stmt := top 39
abbrev scIsWhole_N : List Str := ["_law_thing"]
theorem scIsWhole : FnScope scIsWhole_N ["_law_thing"] (defScope scIsWhole_st) := ⟨rfl, rfl, rfl, by decide +kernel, rfl, by decide +kernel, by decide +kernel⟩
abbrev scDue_st : Stmt := top 40
abbrev scDue_N : List Str := ["_law_rows", "_law_call_here", "_law_one"]
theorem scDue : FnScope scDue_N ["_law_rows", "_law_call_here"] (defScope scDue_st) := ⟨rfl, rfl, rfl, by decide +kernel, rfl, by decide +kernel, by decide +kernel⟩
abbrev scTold_st : Stmt := top 41
abbrev scTold_N : List Str := ["_law_book", "_law_call_here", "e"]
theorem scTold : FnScope scTold_N ["_law_book", "_law_call_here"] (defScope scTold_st) := ⟨rfl, rfl, rfl, by decide +kernel, rfl, by decide +kernel, by decide +kernel⟩
abbrev scMade_st : Stmt := top 42
abbrev scMade_N : List Str := ["_law_rows", "e"]
theorem scMade : FnScope scMade_N ["_law_rows"] (defScope scMade_st) := ⟨rfl, rfl, rfl, by decide +kernel, rfl, by decide +kernel, by decide +kernel⟩
abbrev scMadeDue_st : Stmt := top 43
abbrev scMadeDue_N : List Str := ["_law_rows", "_law_kept", "_law_item", "_law_name", "_law_rest", "_law_one"]
theorem scMadeDue : FnScope scMadeDue_N ["_law_rows"] (defScope scMadeDue_st) := ⟨rfl, rfl, rfl, by decide +kernel, rfl, by decide +kernel, by decide +kernel⟩
abbrev scHolds_st : Stmt := top 44
abbrev scHolds_N : List Str := ["_law_book", "_law_rows", "_law_at", "_law_row", "_law_outside", "_law_one"]
theorem scHolds : FnScope scHolds_N ["_law_book", "_law_rows"] (defScope scHolds_st) := ⟨rfl, rfl, rfl, by decide +kernel, rfl, by decide +kernel, by decide +kernel⟩
abbrev scFormsR_st : Stmt := top 45
abbrev scFormsR_N : List Str := ["_law_book", "_law_name", "_law_rest", "_law_at", "_law_one", "_law_truth"]
theorem scFormsR : FnScope scFormsR_N ["_law_book", "_law_name", "_law_rest"] (defScope scFormsR_st) := ⟨rfl, rfl, rfl, by decide +kernel, rfl, by decide +kernel, by decide +kernel⟩
abbrev scNumsR_st : Stmt := top 46
abbrev scNumsR_N : List Str := ["_law_book", "_law_many", "_law_thing", "_law_found", "e", "_law_right"]
theorem scNumsR : FnScope scNumsR_N ["_law_book", "_law_many"] (defScope scNumsR_st) := ⟨rfl, rfl, rfl, by decide +kernel, rfl, by decide +kernel, by decide +kernel⟩
abbrev scGrown_st : Stmt := top 47
abbrev scGrown_N : List Str := ["_law_box_here", "_law_book", "_law_rows", "_law_turn", "_law_call_here", "_law_held", "_law_due_here", "_law_lap"]
theorem scGrown : FnScope scGrown_N ["_law_box_here", "_law_book", "_law_rows"] (defScope scGrown_st) := ⟨rfl, rfl, rfl, by decide +kernel, rfl, by decide +kernel, by decide +kernel⟩
abbrev scAgainR_st : Stmt := top 48
abbrev scAgainR_N : List Str := ["_law_box_here", "_law_book", "_law_rows", "_law_other", "_law_copy", "_law_bent", "_law_at", "_law_to", "_law_lap", "_law_odds", "_law_due_here", "_law_found"]
theorem scAgainR : FnScope scAgainR_N ["_law_box_here", "_law_book", "_law_rows"] (defScope scAgainR_st) := ⟨rfl, rfl, rfl, by decide +kernel, rfl, by decide +kernel, by decide +kernel⟩
abbrev scCopyR_st : Stmt := top 49
abbrev scCopyR_N : List Str := ["_law_book", "_law_copy", "_law_rows", "_law_told_here", "_law_free", "_law_fresh", "_law_more", "_law_both", "_law_name", "_law_k"]
theorem scCopyR : FnScope scCopyR_N ["_law_book", "_law_copy", "_law_rows"] (defScope scCopyR_st) := ⟨rfl, rfl, rfl, by decide +kernel, rfl, by decide +kernel, by decide +kernel⟩
abbrev scLaw_st : Stmt := top 50
abbrev scLaw_N : List Str := ["_law_script", "_law_k", "_law_box_here", "_law_book", "_law_rows", "_law_thing", "_law_found"]
theorem scLaw : FnScope scLaw_N ["_law_script"] (defScope scLaw_st) := ⟨rfl, rfl, rfl, by decide +kernel, rfl, by decide +kernel, by decide +kernel⟩
structure Ad where
  iInvalidPart : Addr
  iInvalidName : Addr
  iInvalidRow : Addr
  iInvalidTurn : Addr
  iUnknownTerm : Addr
  isInt : Addr
  isName : Addr
  isList : Addr
  isPair : Addr
  isTurn : Addr
  bookInit : Addr
  addItem : Addr
  hasNumber : Addr
  needNumber : Addr
  numberOf : Addr
  constant : Addr
  apply : Addr
  sample : Addr
  rows : Addr
  len : Addr
  get : Addr
  has : Addr
  eq : Addr
  copied : Addr
  cell : Addr
  box : Addr
  take : Addr
  label : Addr
  odd : Addr
  call : Addr
  isNamed : Addr
  isWhole : Addr
  due : Addr
  told : Addr
  made : Addr
  madeDue : Addr
  holds : Addr
  formsR : Addr
  numsR : Addr
  grown : Addr
  againR : Addr
  copyR : Addr
  law : Addr
  CNetError : Addr
  CMissingError : Addr
  CStateError : Addr
  CInvalidPart : Addr
  CInvalidName : Addr
  CInvalidRow : Addr
  CInvalidTurn : Addr
  CUnknownTerm : Addr
  CBook : Addr
  bkE : Addr
structure Fd where
  iInvalidPart : FuncData
  iInvalidName : FuncData
  iInvalidRow : FuncData
  iInvalidTurn : FuncData
  iUnknownTerm : FuncData
  isInt : FuncData
  isName : FuncData
  isList : FuncData
  isPair : FuncData
  isTurn : FuncData
  bookInit : FuncData
  addItem : FuncData
  hasNumber : FuncData
  needNumber : FuncData
  numberOf : FuncData
  constant : FuncData
  apply : FuncData
  sample : FuncData
  rows : FuncData
  len : FuncData
  get : FuncData
  has : FuncData
  eq : FuncData
  copied : FuncData
  cell : FuncData
  box : FuncData
  take : FuncData
  label : FuncData
  odd : FuncData
  call : FuncData
  isNamed : FuncData
  isWhole : FuncData
  due : FuncData
  told : FuncData
  made : FuncData
  madeDue : FuncData
  holds : FuncData
  formsR : FuncData
  numsR : FuncData
  grown : FuncData
  againR : FuncData
  copyR : FuncData
  law : FuncData
structure Txt (K : PySem.W.Frag) (mg : Str → Option Value) (a : Ad) (d : Fd) : Prop where
  F_iInvalidPart : Fun K "__init__" "InvalidPart.__init__" scInvalidPart_st a.iInvalidPart d.iInvalidPart
  b_iInvalidPart : Binds K d.iInvalidPart ["self", "value"] []
  F_iInvalidName : Fun K "__init__" "InvalidName.__init__" scInvalidName_st a.iInvalidName d.iInvalidName
  b_iInvalidName : Binds K d.iInvalidName ["self", "value"] []
  F_iInvalidRow : Fun K "__init__" "InvalidRow.__init__" scInvalidRow_st a.iInvalidRow d.iInvalidRow
  b_iInvalidRow : Binds K d.iInvalidRow ["self", "value"] []
  F_iInvalidTurn : Fun K "__init__" "InvalidTurn.__init__" scInvalidTurn_st a.iInvalidTurn d.iInvalidTurn
  b_iInvalidTurn : Binds K d.iInvalidTurn ["self", "value"] []
  F_iUnknownTerm : Fun K "__init__" "UnknownTerm.__init__" scUnknownTerm_st a.iUnknownTerm d.iUnknownTerm
  b_iUnknownTerm : Binds K d.iUnknownTerm ["self", "number"] []
  F_isInt : Fun K "is_integer" "is_integer" scIsInt_st a.isInt d.isInt
  b_isInt : Binds K d.isInt ["value", "low", "high"] []
  mg_isInt : mg "is_integer" = some (.ref a.isInt)
  F_isName : Fun K "is_name" "is_name" scIsName_st a.isName d.isName
  b_isName : Binds K d.isName ["value"] []
  mg_isName : mg "is_name" = some (.ref a.isName)
  F_isList : Fun K "is_list" "is_list" scIsList_st a.isList d.isList
  b_isList : Binds K d.isList ["value"] []
  mg_isList : mg "is_list" = some (.ref a.isList)
  F_isPair : Fun K "is_pair" "is_pair" scIsPair_st a.isPair d.isPair
  b_isPair : Binds K d.isPair ["value"] []
  mg_isPair : mg "is_pair" = some (.ref a.isPair)
  F_isTurn : Fun K "is_turn" "is_turn" scIsTurn_st a.isTurn d.isTurn
  b_isTurn : Binds K d.isTurn ["value"] []
  mg_isTurn : mg "is_turn" = some (.ref a.isTurn)
  F_bookInit : FunD K "__init__" "Book.__init__" (defArgs scBookInit_st) (defBody scBookInit_st) (defScope scBookInit_st) [V.ref a.bkE] [] a.bookInit d.bookInit
  F_addItem : Fun K "add_item" "Book.add_item" scAddItem_st a.addItem d.addItem
  b_addItem : Binds K d.addItem ["self", "item"] []
  F_hasNumber : Fun K "has_number" "Book.has_number" scHasNumber_st a.hasNumber d.hasNumber
  b_hasNumber : Binds K d.hasNumber ["self", "number"] []
  F_needNumber : Fun K "need_number" "Book.need_number" scNeedNumber_st a.needNumber d.needNumber
  b_needNumber : Binds K d.needNumber ["self", "number"] []
  F_numberOf : Fun K "number_of" "Book.number_of" scNumberOf_st a.numberOf d.numberOf
  b_numberOf : Binds K d.numberOf ["self", "row"] []
  F_constant : Fun K "constant" "Book.constant" scConstant_st a.constant d.constant
  b_constant : Binds K d.constant ["self", "symbol"] []
  F_apply : Fun K "apply" "Book.apply" scApply_st a.apply d.apply
  b_apply : Binds K d.apply ["self", "symbol", "numbers"] []
  F_sample : Fun K "sample" "Book.sample" scSample_st a.sample d.sample
  b_sample : Binds K d.sample ["self", "name", "turn"] []
  F_rows : Fun K "rows" "Book.rows" scRows_st a.rows d.rows
  b_rows : Binds K d.rows ["self"] []
  F_len : Fun K "__len__" "Book.__len__" scLen_st a.len d.len
  b_len : Binds K d.len ["self"] []
  F_get : Fun K "__getitem__" "Book.__getitem__" scGet_st a.get d.get
  b_get : Binds K d.get ["self", "number"] []
  F_has : Fun K "__contains__" "Book.__contains__" scHas_st a.has d.has
  b_has : Binds K d.has ["self", "value"] []
  F_eq : Fun K "__eq__" "Book.__eq__" scEq_st a.eq d.eq
  b_eq : Binds K d.eq ["self", "other"] []
  F_copied : Fun K "copied" "Book.copied" scCopied_st a.copied d.copied
  b_copied : Binds K d.copied ["self"] []
  F_cell : Fun K "_law_cell" "_law_cell" scCell_st a.cell d.cell
  b_cell : Binds K d.cell ["_law_script", "_law_k"] []
  mg_cell : mg "_law_cell" = some (.ref a.cell)
  F_box : Fun K "_law_box" "_law_box" scBox_st a.box d.box
  b_box : Binds K d.box ["_law_cell_here"] []
  mg_box : mg "_law_box" = some (.ref a.box)
  F_take : Fun K "_law_take" "_law_take" scTake_st a.take d.take
  b_take : Binds K d.take ["_law_box_here", "_law_many"] []
  mg_take : mg "_law_take" = some (.ref a.take)
  F_label : Fun K "_law_label" "_law_label" scLabel_st a.label d.label
  b_label : Binds K d.label ["_law_box_here"] []
  mg_label : mg "_law_label" = some (.ref a.label)
  F_odd : Fun K "_law_odd" "_law_odd" scOdd_st a.odd d.odd
  b_odd : Binds K d.odd ["_law_box_here", "_law_good"] []
  mg_odd : mg "_law_odd" = some (.ref a.odd)
  F_call : Fun K "_law_call" "_law_call" scCall_st a.call d.call
  b_call : Binds K d.call ["_law_box_here", "_law_rows"] []
  mg_call : mg "_law_call" = some (.ref a.call)
  F_isNamed : Fun K "_law_is_named" "_law_is_named" scIsNamed_st a.isNamed d.isNamed
  b_isNamed : Binds K d.isNamed ["_law_word"] []
  mg_isNamed : mg "_law_is_named" = some (.ref a.isNamed)
  F_isWhole : Fun K "_law_is_whole" "_law_is_whole" scIsWhole_st a.isWhole d.isWhole
  b_isWhole : Binds K d.isWhole ["_law_thing"] []
  mg_isWhole : mg "_law_is_whole" = some (.ref a.isWhole)
  F_due : Fun K "_law_due" "_law_due" scDue_st a.due d.due
  b_due : Binds K d.due ["_law_rows", "_law_call_here"] []
  mg_due : mg "_law_due" = some (.ref a.due)
  F_told : Fun K "_law_told" "_law_told" scTold_st a.told d.told
  b_told : Binds K d.told ["_law_book", "_law_call_here"] []
  mg_told : mg "_law_told" = some (.ref a.told)
  F_made : Fun K "_law_made" "_law_made" scMade_st a.made d.made
  b_made : Binds K d.made ["_law_rows"] []
  mg_made : mg "_law_made" = some (.ref a.made)
  F_madeDue : Fun K "_law_made_due" "_law_made_due" scMadeDue_st a.madeDue d.madeDue
  b_madeDue : Binds K d.madeDue ["_law_rows"] []
  mg_madeDue : mg "_law_made_due" = some (.ref a.madeDue)
  F_holds : Fun K "_law_holds" "_law_holds" scHolds_st a.holds d.holds
  b_holds : Binds K d.holds ["_law_book", "_law_rows"] []
  mg_holds : mg "_law_holds" = some (.ref a.holds)
  F_formsR : Fun K "_law_forms_right" "_law_forms_right" scFormsR_st a.formsR d.formsR
  b_formsR : Binds K d.formsR ["_law_book", "_law_name", "_law_rest"] []
  mg_formsR : mg "_law_forms_right" = some (.ref a.formsR)
  F_numsR : Fun K "_law_numbers_refused" "_law_numbers_refused" scNumsR_st a.numsR d.numsR
  b_numsR : Binds K d.numsR ["_law_book", "_law_many"] []
  mg_numsR : mg "_law_numbers_refused" = some (.ref a.numsR)
  F_grown : Fun K "_law_grown" "_law_grown" scGrown_st a.grown d.grown
  b_grown : Binds K d.grown ["_law_box_here", "_law_book", "_law_rows"] []
  mg_grown : mg "_law_grown" = some (.ref a.grown)
  F_againR : Fun K "_law_again_right" "_law_again_right" scAgainR_st a.againR d.againR
  b_againR : Binds K d.againR ["_law_box_here", "_law_book", "_law_rows"] []
  mg_againR : mg "_law_again_right" = some (.ref a.againR)
  F_copyR : Fun K "_law_copy_right" "_law_copy_right" scCopyR_st a.copyR d.copyR
  b_copyR : Binds K d.copyR ["_law_book", "_law_copy", "_law_rows"] []
  mg_copyR : mg "_law_copy_right" = some (.ref a.copyR)
  F_law : Fun K "law" "law" scLaw_st a.law d.law
  b_law : Binds K d.law ["_law_script"] []
  mg_law : mg "law" = some (.ref a.law)
  mg_LETTERS : ∃ t, mg "LETTERS" = some (.str "abcdefghijklmnopqrstuvwxyz" t)
  mg_DIGITS : ∃ t, mg "DIGITS" = some (.str "0123456789" t)
  mg_LONGEST_NAME : ∃ t, mg "LONGEST_NAME" = some (.int 8 t)
  mg_MOST_ARGUMENTS : ∃ t, mg "MOST_ARGUMENTS" = some (.int 3 t)
  len_ : mg "len" = none
  max_ : mg "max" = none
  min_ : mg "min" = none
  isinstance_ : mg "isinstance" = none
  str_ : mg "str" = none
  int_ : mg "int" = none
  all_ : mg "all" = none
  range_ : mg "range" = none
  repr_ : mg "repr" = none
  list_ : mg "list" = none
  tuple_ : mg "tuple" = none
  bool_ : mg "bool" = none
  enumerate_ : mg "enumerate" = none
  mg_NetError : mg "NetError" = some (.ref a.CNetError)
  cx_NetError : Tp.ClsX .ve K a.CNetError []
  ba_NetError : Tp.BaseB .ve K a.CNetError
  mg_MissingError : mg "MissingError" = some (.ref a.CMissingError)
  cx_MissingError : Tp.ClsX .ke K a.CMissingError []
  ba_MissingError : Tp.BaseB .ke K a.CMissingError
  mg_StateError : mg "StateError" = some (.ref a.CStateError)
  cx_StateError : Tp.ClsX .le K a.CStateError []
  ba_StateError : Tp.BaseB .le K a.CStateError
  mg_InvalidPart : mg "InvalidPart" = some (.ref a.CInvalidPart)
  cx_InvalidPart : Tp.ClsX .ve K a.CInvalidPart [a.CNetError]
  xi_InvalidPart : Tp.InitX K a.CInvalidPart a.iInvalidPart ["value"]
  mg_InvalidName : mg "InvalidName" = some (.ref a.CInvalidName)
  cx_InvalidName : Tp.ClsX .ve K a.CInvalidName [a.CNetError]
  xi_InvalidName : Tp.InitX K a.CInvalidName a.iInvalidName ["value"]
  mg_InvalidRow : mg "InvalidRow" = some (.ref a.CInvalidRow)
  cx_InvalidRow : Tp.ClsX .ve K a.CInvalidRow [a.CNetError]
  xi_InvalidRow : Tp.InitX K a.CInvalidRow a.iInvalidRow ["value"]
  mg_InvalidTurn : mg "InvalidTurn" = some (.ref a.CInvalidTurn)
  cx_InvalidTurn : Tp.ClsX .ve K a.CInvalidTurn [a.CNetError]
  xi_InvalidTurn : Tp.InitX K a.CInvalidTurn a.iInvalidTurn ["value"]
  mg_UnknownTerm : mg "UnknownTerm" = some (.ref a.CUnknownTerm)
  cx_UnknownTerm : Tp.ClsX .ke K a.CUnknownTerm [a.CMissingError]
  xi_UnknownTerm : Tp.InitX K a.CUnknownTerm a.iUnknownTerm ["number"]
  mg_Book : mg "Book" = some (.ref a.CBook)
  cl_Book : Cls K a.CBook
  mk_Book : Mk K a.CBook a.bookInit
  ca_Book : PySem.W.findIn K (.ref a.CBook) "__class__" = some (some (.builtin "object.__class__"))
  cm_Book : PySem.W.mroIn K a.CBook (.type "object") = some true
  hd_Book : PySem.W.hasDictIn K a.CBook = true
  ty_Book : PySem.W.typeIn K (.ref a.CBook) = some (.type "type")
  n_Book_held : NoAttr K a.CBook "held"
  n_Book_numbers : NoAttr K a.CBook "numbers"
  ki_Book_str : PySem.W.kitOne K (.ref a.CBook) (.type "str") = some false
  ki_Book_int : PySem.W.kitOne K (.ref a.CBook) (.type "int") = some false
  ki_Book_list : PySem.W.kitOne K (.ref a.CBook) (.type "list") = some false
  ki_Book_tuple : PySem.W.kitOne K (.ref a.CBook) (.type "tuple") = some false
  ki_Book_dict : PySem.W.kitOne K (.ref a.CBook) (.type "dict") = some false
  ki_Book_bool : PySem.W.kitOne K (.ref a.CBook) (.type "bool") = some false
  me_addItem : Meth K a.CBook "add_item" a.addItem
  me_hasNumber : Meth K a.CBook "has_number" a.hasNumber
  me_needNumber : Meth K a.CBook "need_number" a.needNumber
  me_numberOf : Meth K a.CBook "number_of" a.numberOf
  me_constant : Meth K a.CBook "constant" a.constant
  me_apply : Meth K a.CBook "apply" a.apply
  me_sample : Meth K a.CBook "sample" a.sample
  me_rows : Meth K a.CBook "rows" a.rows
  me_copied : Meth K a.CBook "copied" a.copied
  me_len : Meth K a.CBook "__len__" a.len
  me_get : Meth K a.CBook "__getitem__" a.get
  me_has : Meth K a.CBook "__contains__" a.has
  me_eq : Meth K a.CBook "__eq__" a.eq
  gi_get : PySem.W.fnIn K a.get = true
  ne_Book : PySem.W.findIn K (.ref a.CBook) "__ne__" = some (some (.builtin "object.__ne__"))
  cn_ : PySem.W.specialIn K (.builtin "object.__class__") "__get__" = some (some (.builtin "getset_descriptor.__get__"))
  ct_ : PySem.W.takesIn K (.builtin "object.__class__") = some true
  lkE : ∃ o n, K.lookup a.bkE = some o ∧ o.cls = .type "tuple" ∧ o.data = .seq #[] n
  xnd : [a.CInvalidPart, a.CInvalidName, a.CInvalidRow, a.CInvalidTurn, a.CUnknownTerm, a.CNetError, a.CMissingError, a.CStateError].Nodup

section
variable {P : Program} {w : World} {K : PySem.W.Frag} {mg : Str → Option Value} {base : Heap} {a : Ad} {d : Fd}
theorem ok_cell (T : Txt K mg a d) : FnG P w K mg base CX0 1 a.cell d.cell ["_law_script", "_law_k"] (Tp.spCell K) := by
  refine okG T.F_cell scCell (fun vs H Q E h => ?_) (fun cdv A outer s H vs Q E hr hg h => ?_)
  · obtain ⟨s, ns, k, rfl, _⟩ := h
    rfl
  · obtain ⟨s, ns, k, rfl, hS, h0, h1, q⟩ := h
    refine ⟨_, (pss_cons (ps_if (pt_cmpR op_lt (pv 1) (pe_callB call_len_seq (by rfl) T.len_ Tp.bt_len (pa_cons (pv 0) pa_nil)) (nomark _)) (pss_one (ps_ret (pe_ix ix_list (pv 0) (pv 1) (fun _ _ => rfl)))) pss_nil)
      (pss_one (ps_ret (pe_op op_add (pe_op op_mul pe_int (pv 1)) pe_int)))), ?_⟩
    refine ⟨_, rfl, _, rfl, s, _, rfl, .inl hS, _, _, rfl, rfl, _, rfl, ?_⟩
    refine ite2 (fun c => ?_) (fun c => ?_)
    · have c' := of_decide_eq_true c
      rw [List.length_map] at c'
      obtain ⟨j, rfl⟩ := Int.eq_ofNat_of_zero_le h0
      have hj : j < ns.length := by omega
      exact ⟨_, rfl, _, rfl, s, _, _, _, rfl, rfl, hS, atI_nat (by rw [List.getElem?_map, List.getElem?_eq_getElem hj]; rfl), q _⟩
    · exact ⟨_, rfl, _, _, rfl, rfl, .inl ⟨by decide, by decide⟩, _, _, rfl, rfl, q _⟩
theorem ok_box (T : Txt K mg a d) : FnG P w K mg base CX0 1 a.box d.box ["_law_cell_here"] Tp.spBox := by
  refine okG T.F_box scBox (fun vs H Q E h => ?_) (fun cdv A outer s H vs Q E hr hg h => ?_)
  · obtain ⟨c, rfl, _⟩ := h
    rfl
  · obtain ⟨c, rfl, q⟩ := h
    refine ⟨_, (pss_one (ps_ret (pe_lst (pa_cons (pe_callB (call_max2 rfl) (by rfl) T.max_ Tp.bt_max (pa_cons pe_int (pa_cons (pe_op op_sub (pv 0) (pe_op op_pow pe_int pe_int)) pa_nil))) (pa_cons (pe_op op_modN (pv 0) pe_int) (pa_cons pe_int pa_nil)))))), ?_⟩
    refine ⟨_, rfl, _, _, rfl, rfl, ⟨by decide, by decide, by decide⟩, _, _, rfl, rfl, _, _, rfl, _, rfl, _, _, rfl, rfl, (show (_ : Int) ≠ 0 from by decide), (show 3 ≤ sizeLine from by decide), fun p hp => q p _ _ hp ?_ ?_ ?_⟩
    · split <;> omega
    · rw [Int.fmod_eq_emod_of_nonneg _ (by decide)]; exact Int.emod_nonneg _ (by decide)
    · rw [Int.fmod_eq_emod_of_nonneg _ (by decide)]; exact Int.emod_lt_of_pos _ (by decide)
theorem ok_take (T : Txt K mg a d) : FnG P w K mg base CX0 1 a.take d.take ["_law_box_here", "_law_many"] Tp.spTake := by
  refine okG T.F_take scTake (fun vs H Q E h => ?_) (fun cdv A outer s H vs Q E hr hg h => ?_)
  · obtain ⟨b, m, n, rfl, _⟩ := h
    rfl
  · obtain ⟨b, m, n, rfl, ⟨x, y, z, hb, x0, y0, y1, z0, z1⟩, hn, m0, m1, q⟩ := h
    refine ⟨_, (pss_cons (ps_if (pt_cmpR op_gt (pe_ix ix_list (pv 0) pe_int (fun _ _ => rfl)) pe_int (nomark _)) (pss_cons (ps_set (i := 2) scTake.nd rfl (Or.inl rfl) (pe_op op_modN (pe_ix ix_list (pv 0) pe_int (fun _ _ => rfl)) (pv 1)))
      (pss_cons (ps_asg (pe_op op_fdivN (pe_ix ix_list (pv 0) pe_int (fun _ _ => rfl)) (pv 1)) (pg_sub (pv 0) pe_int set_list))
      (pss_one (ps_ret (pv 2))))) pss_nil)
      (pss_cons (ps_asg (pe_op op_add (pe_ix ix_list (pv 0) pe_int (fun _ _ => rfl)) pe_int) (pg_sub (pv 0) pe_int set_list))
      (pss_cons (ps_set (i := 3) scTake.nd rfl (Or.inl rfl) (pe_op op_modN (pe_op op_pow (pe_op op_add (pe_op op_add (pe_ix ix_list (pv 0) pe_int (fun _ _ => rfl)) (pe_op op_mul pe_int (pe_ix ix_list (pv 0) pe_int (fun _ _ => rfl)))) pe_int) pe_int) pe_int))
      (pss_cons (ps_set (i := 3) scTake.nd rfl (Or.inl rfl) (pe_op op_modN (pe_op op_pow (pe_op op_add (pv 3) (pe_op op_mul pe_int (pe_ix ix_list (pv 0) pe_int (fun _ _ => rfl)))) pe_int) pe_int))
      (pss_one (ps_ret (pe_op op_modN (pe_op op_fdivN (pv 3) pe_int) (pv 1)))))))), ?_⟩
    refine ⟨_, rfl, b, _, _, _, rfl, rfl, SqL.of hb, rfl, _, _, rfl, rfl, _, rfl, ?_⟩
    refine ite2 (fun c => ?_) (fun c => ?_)
    · have c' := of_decide_eq_true c
      refine ⟨_, rfl, b, _, _, _, rfl, rfl, SqL.of hb, rfl, _, rfl, _, _, rfl, rfl, (by show m ≠ 0; omega), ?_⟩
      refine ⟨_, rfl, b, _, _, _, rfl, rfl, SqL.of hb, rfl, _, rfl, _, _, rfl, rfl, ⟨by omega, by omega⟩, _, rfl, b, _, _, _, rfl, rfl, hb, rfl, _, rfl, ?_⟩
      show Q (V.int (x.fmod m)) _
      rw [Int.fmod_eq_emod_of_nonneg _ (by omega)]
      refine q _ _ (Int.emod_nonneg _ (by omega)) (Int.emod_lt_of_pos _ m0) Kp.box ⟨x.fdiv m, y, z, upd_same, ?_, y0, y1, z0, by omega⟩
      rw [Int.fdiv_eq_ediv_of_nonneg _ (by omega)]
      exact Int.ediv_nonneg x0 (by omega)
    · refine ⟨_, rfl, b, _, _, _, rfl, rfl, SqL.of hb, rfl, _, _, rfl, rfl, _, rfl, b, _, _, _, rfl, rfl, hb, rfl, ?_⟩
      have h2 : (upd H b (.lst [V.int x, V.int y, V.int (z + 1)])) b = some (.lst [V.int x, V.int y, V.int (z + 1)]) := upd_same
      refine ⟨_, rfl, b, _, _, _, rfl, rfl, SqL.of h2, rfl, _, rfl, b, _, _, _, rfl, rfl, SqL.of h2, rfl, _, _, rfl, rfl, .inl ⟨by decide, by decide⟩, _, _, rfl, rfl, _, _, rfl, rfl, _, _, rfl, rfl, ⟨by decide, by decide, mixA y0 y1 z0 (by omega) (by decide) (by decide)⟩, _, _, rfl, rfl, (show (_ : Int) ≠ 0 from by decide), ?_⟩
      refine ⟨_, rfl, _, rfl, b, _, _, _, rfl, rfl, SqL.of h2, rfl, _, _, rfl, rfl, .inl ⟨by decide, by decide⟩, _, _, rfl, rfl, _, _, rfl, rfl, ⟨by decide, by decide, mixB z0 (by omega) (by decide)⟩, _, _, rfl, rfl, (show (_ : Int) ≠ 0 from by decide), ?_⟩
      refine ⟨_, rfl, _, _, rfl, rfl, ⟨by decide, by decide⟩, _, rfl, _, _, rfl, rfl, (by show m ≠ 0; omega), ?_⟩
      show Q (V.int (Int.fmod _ m)) _
      rw [Int.fmod_eq_emod_of_nonneg _ (by omega : (0 : Int) ≤ m)]
      exact q _ _ (Int.emod_nonneg _ (by omega)) (Int.emod_lt_of_pos _ m0) Kp.box ⟨x, y, z + 1, h2, x0, y0, y1, by omega, by omega⟩
end
end L04

set_option Elab.async false
set_option linter.all false
set_option maxRecDepth 100000
set_option maxHeartbeats 4000000
set_option pp.deepTerms false
set_option pp.deepTerms.threshold 4
set_option pp.maxSteps 1000
namespace L04
open PySem L2 Tp
section
variable {P : Program} {w : World} {K : PySem.W.Frag} {mg : Str → Option Value} {base : Heap} {a : Ad} {d : Fd}
theorem ok_isName (T : Txt K mg a d) : FnOk P w K mg base CX0 1 a.isName d.isName ["value"] (spName K) := by
  refine okN T.F_isName scIsName (fun vs H Q E h => ?_) (fun cdv A outer s H vs Q E hr h => ?_)
  · obtain ⟨v, b, rfl, _⟩ := h
    rfl
  · obtain ⟨v, b, rfl, h, q⟩ := h
    refine ⟨_, (pss_cons (ps_if (PW.pt (pw_or (pt_not (pt_val (pe_callB (Tp.call_isA (K := K) rfl) (by rfl) T.isinstance_ Tp.bt_isinstance (pa_cons (pv 0) (pa_cons (pe_bltn (v := .ty "str") (by rfl) T.str_ Tp.bt_str rfl) pa_nil))))) (pw_or1 (pt_not (pt_chain op_lt op_le pe_int (pe_callB call_len_str (by rfl) T.len_ Tp.bt_len (pa_cons (pv 0) pa_nil)) (Tp.pe_glI (by rfl) T.mg_LONGEST_NAME)))))) (pss_one (ps_ret pe_bl)) pss_nil)
      (pss_one (ps_ret (pe_and (pe_cmpR op_in_sign (pe_ix ix_str (pv 0) pe_int (fun _ _ => rfl)) (Tp.pe_glS (by rfl) T.mg_LETTERS) (by rfl)) (pe_one (pe_cmpR op_eq (pe_bm PySem.F.plainAttrs_str PySem.F.slot_str_strip PySem.F.type_str_strip mt_stripChars (pv 0) (pa_cons (pe_op op_add_str (Tp.pe_glS (by rfl) T.mg_LETTERS) (Tp.pe_glS (by rfl) T.mg_DIGITS)) pa_nil)) pe_str (nomark _))))))), ?_⟩
    rcases h with ⟨z, rfl, hz, rfl⟩ | ⟨⟨t, ty, kt⟩, rfl⟩
    · have hz' : z.length ≤ sizeLine := Nat.le_trans hz (by decide)
      refine ⟨_, rfl, _, _, _, _, true, rfl, .ty _, .x (.base (.str z)), kit_ty (by decide +kernel), _, rfl, iteF ?_⟩
      refine ⟨_, rfl, z, rfl, hz', _, _, rfl, rfl, _, rfl, if2 (fun l0 => ?_) (fun l0 => ?_)⟩
      rotate_left
      · rw [nm_nil l0] at q
        exact ⟨_, rfl, iteT q⟩
      refine ⟨_, _, rfl, rfl, _, rfl, ifn2 (fun l1 => ?_) (fun l1 => ?_)⟩
      rotate_left
      · rw [nm_long l1] at q
        exact q
      obtain ⟨c, cs, e⟩ : ∃ c cs, z.cps.toList = c :: cs := by
        cases e : z.cps.toList with
        | nil => have l := len_list z; rw [e] at l; simp at l; omega
        | cons c cs => exact ⟨c, cs, rfl⟩
      rw [nm_cons e l1] at q
      have at0 : atI z.cps.toList 0 = some c := by rw [e]; exact atI_nat (j := 0) rfl
      refine ⟨_, rfl, z, _, c, rfl, rfl, hz', at0, c, _, rfl, rfl, ?_⟩
      rw [show decide (c ∈ (Str.ofString "abcdefghijklmnopqrstuvwxyz").cps.toList) = lowC c from by
        by_cases h : c ∈ ("abcdefghijklmnopqrstuvwxyz" : Str).cps.toList
        · exact (decide_eq_true h).trans ((mem_low c).mp h).symm
        · exact (decide_eq_false h).trans (Bool.eq_false_iff.mpr fun k => h ((mem_low c).mpr k)).symm]
      refine ⟨_, rfl, ?_⟩
      cases hl : lowC c with
      | false =>
        rw [hl, Bool.false_and] at q
        exact iteF q
      | true =>
        rw [hl, Bool.true_and] at q
        refine iteT ⟨_, rfl, rfl, _, _, rfl, rfl, (by decide), z, _, rfl, rfl, hz', rfl, ?_⟩
        have e2 : decide (V.str (Txt.stripChars z (Str.ofString "abcdefghijklmnopqrstuvwxyz" ++ Str.ofString "0123456789")) = V.str (Str.ofString "")) = (c :: cs).all fun x => lowC x || digC x := by
          cases hb : (c :: cs).all fun x => lowC x || digC x with
          | true => exact decide_eq_true (congrArg V.str ((strip_empty _ _).mpr fun x hx => (mem_sign x).mpr (List.all_eq_true.mp hb x (by rw [← e]; exact hx))))
          | false =>
            refine decide_eq_false fun k => Bool.eq_false_iff.mp hb (List.all_eq_true.mpr fun x hx => ?_)
            exact (mem_sign x).mp ((strip_empty _ _).mp (V.str.inj k) x (by rw [e]; exact hx))
        show Q (V.bl (decide _)) H
        rw [e2]
        exact q
    · exact ⟨_, rfl, _, _, _, _, false, rfl, .ty _, ty, kt, _, rfl, iteT q⟩
theorem ok_iInvalidPart (T : Txt K mg a d) : FnOk P w K mg base CX0 1 a.iInvalidPart d.iInvalidPart ["self", "value"] (spXI a.CInvalidPart "value") := by
  refine okN T.F_iInvalidPart scInvalidPart (fun vs H Q E h => ?_) (fun cdv A outer s H vs Q E hr h => ?_)
  · obtain ⟨x, v, rfl, _⟩ := h
    rfl
  · obtain ⟨x, v, rfl, hx, q⟩ := h
    refine ⟨_, (pss_cons (ps_expr (Tp.pe_initB (by rfl) T.mg_NetError T.ba_NetError (pa_cons (pv 0) (pa_cons pe_str pa_nil))))
      (pss_one (Tp.ps_ostB (b := .ve) (pv 0) (pv 1)))), ?_⟩
    exact ⟨_, rfl, x, _, _, rfl, by decide, T.cx_InvalidPart.ox, hx, _, rfl, _, rfl, x, _, rfl, T.cx_InvalidPart.ox, (T.xi_InvalidPart.no "value" (by decide)), .inl ⟨hx, fun dx h1 h2 => q dx h1 h2⟩⟩
theorem x_InvalidPart (T : Txt K mg a d) : ExB .ve P w K mg base a.CInvalidPart a.iInvalidPart d.iInvalidPart ["self", "value"] (spXI a.CInvalidPart "value") := mkX T.cx_InvalidPart T.xi_InvalidPart (ok_iInvalidPart T) T.b_iInvalidPart
theorem ok_iInvalidName (T : Txt K mg a d) : FnOk P w K mg base CX0 1 a.iInvalidName d.iInvalidName ["self", "value"] (spXI a.CInvalidName "value") := by
  refine okN T.F_iInvalidName scInvalidName (fun vs H Q E h => ?_) (fun cdv A outer s H vs Q E hr h => ?_)
  · obtain ⟨x, v, rfl, _⟩ := h
    rfl
  · obtain ⟨x, v, rfl, hx, q⟩ := h
    refine ⟨_, (pss_cons (ps_expr (Tp.pe_initB (by rfl) T.mg_NetError T.ba_NetError (pa_cons (pv 0) (pa_cons pe_str pa_nil))))
      (pss_one (Tp.ps_ostB (b := .ve) (pv 0) (pv 1)))), ?_⟩
    exact ⟨_, rfl, x, _, _, rfl, by decide, T.cx_InvalidName.ox, hx, _, rfl, _, rfl, x, _, rfl, T.cx_InvalidName.ox, (T.xi_InvalidName.no "value" (by decide)), .inl ⟨hx, fun dx h1 h2 => q dx h1 h2⟩⟩
theorem x_InvalidName (T : Txt K mg a d) : ExB .ve P w K mg base a.CInvalidName a.iInvalidName d.iInvalidName ["self", "value"] (spXI a.CInvalidName "value") := mkX T.cx_InvalidName T.xi_InvalidName (ok_iInvalidName T) T.b_iInvalidName
theorem ok_iInvalidRow (T : Txt K mg a d) : FnOk P w K mg base CX0 1 a.iInvalidRow d.iInvalidRow ["self", "value"] (spXI a.CInvalidRow "value") := by
  refine okN T.F_iInvalidRow scInvalidRow (fun vs H Q E h => ?_) (fun cdv A outer s H vs Q E hr h => ?_)
  · obtain ⟨x, v, rfl, _⟩ := h
    rfl
  · obtain ⟨x, v, rfl, hx, q⟩ := h
    refine ⟨_, (pss_cons (ps_expr (Tp.pe_initB (by rfl) T.mg_NetError T.ba_NetError (pa_cons (pv 0) (pa_cons pe_str pa_nil))))
      (pss_one (Tp.ps_ostB (b := .ve) (pv 0) (pv 1)))), ?_⟩
    exact ⟨_, rfl, x, _, _, rfl, by decide, T.cx_InvalidRow.ox, hx, _, rfl, _, rfl, x, _, rfl, T.cx_InvalidRow.ox, (T.xi_InvalidRow.no "value" (by decide)), .inl ⟨hx, fun dx h1 h2 => q dx h1 h2⟩⟩
theorem x_InvalidRow (T : Txt K mg a d) : ExB .ve P w K mg base a.CInvalidRow a.iInvalidRow d.iInvalidRow ["self", "value"] (spXI a.CInvalidRow "value") := mkX T.cx_InvalidRow T.xi_InvalidRow (ok_iInvalidRow T) T.b_iInvalidRow
theorem ok_iInvalidTurn (T : Txt K mg a d) : FnOk P w K mg base CX0 1 a.iInvalidTurn d.iInvalidTurn ["self", "value"] (spXI a.CInvalidTurn "value") := by
  refine okN T.F_iInvalidTurn scInvalidTurn (fun vs H Q E h => ?_) (fun cdv A outer s H vs Q E hr h => ?_)
  · obtain ⟨x, v, rfl, _⟩ := h
    rfl
  · obtain ⟨x, v, rfl, hx, q⟩ := h
    refine ⟨_, (pss_cons (ps_expr (Tp.pe_initB (by rfl) T.mg_NetError T.ba_NetError (pa_cons (pv 0) (pa_cons pe_str pa_nil))))
      (pss_one (Tp.ps_ostB (b := .ve) (pv 0) (pv 1)))), ?_⟩
    exact ⟨_, rfl, x, _, _, rfl, by decide, T.cx_InvalidTurn.ox, hx, _, rfl, _, rfl, x, _, rfl, T.cx_InvalidTurn.ox, (T.xi_InvalidTurn.no "value" (by decide)), .inl ⟨hx, fun dx h1 h2 => q dx h1 h2⟩⟩
theorem x_InvalidTurn (T : Txt K mg a d) : ExB .ve P w K mg base a.CInvalidTurn a.iInvalidTurn d.iInvalidTurn ["self", "value"] (spXI a.CInvalidTurn "value") := mkX T.cx_InvalidTurn T.xi_InvalidTurn (ok_iInvalidTurn T) T.b_iInvalidTurn
theorem ok_iUnknownTerm (T : Txt K mg a d) : FnOk P w K mg base CX0 1 a.iUnknownTerm d.iUnknownTerm ["self", "number"] (spXI a.CUnknownTerm "number") := by
  refine okN T.F_iUnknownTerm scUnknownTerm (fun vs H Q E h => ?_) (fun cdv A outer s H vs Q E hr h => ?_)
  · obtain ⟨x, v, rfl, _⟩ := h
    rfl
  · obtain ⟨x, v, rfl, hx, q⟩ := h
    refine ⟨_, (pss_cons (ps_expr (Tp.pe_initB (by rfl) T.mg_MissingError T.ba_MissingError (pa_cons (pv 0) (pa_cons pe_str pa_nil))))
      (pss_one (Tp.ps_ostB (b := .ke) (pv 0) (pv 1)))), ?_⟩
    exact ⟨_, rfl, x, _, _, rfl, by decide, T.cx_UnknownTerm.ox, hx, _, rfl, _, rfl, x, _, rfl, T.cx_UnknownTerm.ox, (T.xi_UnknownTerm.no "number" (by decide)), .inl ⟨hx, fun dx h1 h2 => q dx h1 h2⟩⟩
theorem x_UnknownTerm (T : Txt K mg a d) : ExB .ke P w K mg base a.CUnknownTerm a.iUnknownTerm d.iUnknownTerm ["self", "number"] (spXI a.CUnknownTerm "number") := mkX T.cx_UnknownTerm T.xi_UnknownTerm (ok_iUnknownTerm T) T.b_iUnknownTerm
/-! ### is_integer -/
def intD (d : PyData) (lo hi : Int) : Bool := match d with
  | .int i => decide (lo ≤ i) && decide (i ≤ hi)
  | _ => false
def IntIs (K : PySem.W.Frag) (H : Hp) (v : V) (lo hi : Int) (b : Bool) : Prop := (∃ d, Dq K H v d ∧ b = intD d lo hi) ∨ ((∃ t, TyX K H v t ∧ PySem.W.kitOne K t (.type "int") = some false) ∧ b = false)
def spIsInt (K : PySem.W.Frag) : Sp := fun vs H Q _ => ∃ (v : V) (lo hi : Int) (b : Bool), vs = [v, .int lo, .int hi] ∧ IntIs K H v lo hi b ∧ Q (.bl b) H
theorem ok_isInt (T : Txt K mg a d) : FnOk P w K mg base CX0 1 a.isInt d.isInt ["value", "low", "high"] (spIsInt K) := by
  refine okN T.F_isInt scIsInt (fun vs H Q E h => ?_) (fun cdv A outer s H vs Q E hr h => ?_)
  · obtain ⟨v, lo, hi, b, rfl, _⟩ := h
    rfl
  · obtain ⟨v, lo, hi, b, rfl, h, q⟩ := h
    refine ⟨_, (pss_one (ps_ret (pe_and (pe_callB call_isi (by rfl) T.isinstance_ Tp.bt_isinstance (pa_cons (pv 0) (pa_cons (pe_bltn (v := .ty "int") (by rfl) T.int_ Tp.bt_int rfl) pa_nil))) (pe_and (pe_not (pe_callB call_isi (by rfl) T.isinstance_ Tp.bt_isinstance (pa_cons (pv 0) (pa_cons (pe_bltn (v := .ty "bool") (by rfl) T.bool_ Tp.bt_bool rfl) pa_nil)))) (pe_one (pe_chain op_le op_le (pv 1) (pv 0) (pv 2))))))), ?_⟩
    rcases h with ⟨dd, dq, rfl⟩ | ⟨⟨t, ty, kt⟩, rfl⟩
    · refine ⟨_, rfl, _, _, _, _, isI dd, rfl, .ty _, dq_ty dq, kit_int dd, _, rfl, ?_⟩
      cases dq with
      | int i =>
        refine iteT ⟨_, rfl, _, _, _, _, false, rfl, .ty _, .base (.int i), kit_ty (by decide +kernel), _, rfl, _, rfl, iteT ?_⟩
        refine ⟨_, rfl, _, rfl, _, _, rfl, rfl, _, rfl, if2 (fun c => ?_) (fun c => ?_)⟩
        · refine ⟨_, rfl, _, _, rfl, rfl, ?_⟩
          show Q (.bl (decide (i ≤ hi))) H
          have e : intD (.int i) lo hi = decide (i ≤ hi) := by
            show (decide (lo ≤ i) && decide (i ≤ hi)) = _
            rw [decide_eq_true c, Bool.true_and]
          rw [e] at q
          exact q
        · have e : intD (.int i) lo hi = false := by
            show (decide (lo ≤ i) && decide (i ≤ hi)) = _
            rw [decide_eq_false c, Bool.false_and]
          rw [e] at q
          exact q
      | bl b => exact iteT ⟨_, rfl, _, _, _, _, true, rfl, .ty _, .base (.bl b), kit_ty (by decide +kernel), _, rfl, _, rfl, iteF q⟩
      | _ => exact iteF q
    · exact ⟨_, rfl, _, _, _, _, false, rfl, .ty _, ty, kt, _, rfl, iteF q⟩
/-! ### is_list, is_pair -/
def spIsList (K : PySem.W.Frag) : Sp := fun vs H Q _ => ∃ (v : V) (t : Value) (b : Bool), vs = [v] ∧ TyX K H v t ∧ PySem.W.kitAny K t [.type "list", .type "tuple"] = some b ∧ ∀ H', Same H H' → Q (.bl b) H'
theorem ok_isList (T : Txt K mg a d) : FnOk P w K mg base CX0 1 a.isList d.isList ["value"] (spIsList K) := by
  refine okN T.F_isList scIsList (fun vs H Q E h => ?_) (fun cdv A outer s H vs Q E hr h => ?_)
  · obtain ⟨v, t, b, rfl, _⟩ := h
    rfl
  · obtain ⟨v, t, b, rfl, ty, kt, q⟩ := h
    refine ⟨_, (pss_one (ps_ret (pe_callB call_isiT (by rfl) T.isinstance_ Tp.bt_isinstance (pa_cons (pv 0) (pa_cons (pe_tup (pa_cons (pe_bltn (v := .ty "list") (by rfl) T.list_ Tp.bt_list rfl) (pa_cons (pe_bltn (v := .ty "tuple") (by rfl) T.tuple_ Tp.bt_tuple rfl) pa_nil))) pa_nil))))), ?_⟩
    refine ⟨_, rfl, (show 2 ≤ sizeLine from by decide), fun tp ntp => ?_⟩
    exact ⟨v, tp, _, t, _, b, rfl, upd_same, cls_lt, ty_same (same_new ntp) ty, kt, q _ (same_new ntp)⟩
def NoLT (K : PySem.W.Frag) (H : Hp) (v : V) : Prop := ∃ t, TyX K H v t ∧ PySem.W.kitAny K t [.type "list", .type "tuple"] = some false
def pairD (d : PyData) : Bool := isLT d && decide ((itemsD d).length = 2)
def PairIs (K : PySem.W.Frag) (H : Hp) (v : V) (b : Bool) : Prop := (∃ d, Dq K H v d ∧ b = pairD d) ∨ (NoLT K H v ∧ b = false)
def spIsPair (K : PySem.W.Frag) : Sp := fun vs H Q _ => ∃ (v : V) (b : Bool), vs = [v] ∧ PairIs K H v b ∧ ∀ H', Same H H' → Q (.bl b) H'
theorem ok_isPair (T : Txt K mg a d) : FnOk P w K mg base CX0 2 a.isPair d.isPair ["value"] (spIsPair K) := by
  have G_isList := ok_isList (P := P) (w := w) (base := base) T
  refine okN T.F_isPair scIsPair (fun vs H Q E h => ?_) (fun cdv A outer s H vs Q E hr h => ?_)
  · obtain ⟨v, b, rfl, _⟩ := h
    rfl
  · obtain ⟨v, b, rfl, h, q⟩ := h
    refine ⟨_, (pss_one (ps_ret (pe_and (pe_call G_isList (hr.mono (by decide)) (by rfl) T.mg_isList T.F_isList.kp T.b_isList .nil pass0 (pa_cons (pv 0) pa_nil)) (pe_one (pe_cmpR op_eq (pe_callB call_len_seq (by rfl) T.len_ Tp.bt_len (pa_cons (pv 0) pa_nil)) pe_int (nomark _)))))), ?_⟩
    rcases h with ⟨dd, dq, rfl⟩ | ⟨⟨t, ty, kt⟩, rfl⟩
    · refine ⟨_, rfl, v, _, _, rfl, dq_ty dq, kit_lt dd, fun H1 S1 => ⟨_, rfl, ?_⟩⟩
      cases e : isLT dd with
      | false =>
        have q := q H1 S1
        unfold pairD at q
        rw [e, Bool.false_and] at q
        exact iteF q
      | true =>
        obtain ⟨l, xs, rfl, sq, da⟩ := dq_seq dq e
        refine iteT ⟨_, rfl, l, xs, rfl, sqB_len (sq.same S1), rfl, ?_⟩
        have q := q H1 S1
        have e2 : decide (V.int (xs.length : Int) = V.int 2) = decide ((itemsD dd).length = 2) := by
          rw [← dqAll_len da]
          by_cases h : xs.length = 2
          · rw [decide_eq_true h]; exact decide_eq_true (by rw [h]; rfl)
          · rw [decide_eq_false h]; exact decide_eq_false (fun k => h (by have := V.int.inj k; omega))
        unfold pairD at q
        rw [e, Bool.true_and, ← e2] at q
        exact q
    · exact ⟨_, rfl, v, _, _, rfl, ty, kt, fun H1 S1 => ⟨_, rfl, iteF (q _ S1)⟩⟩
/-! ### is_turn, is_sample_row, arguments_of, written -/
def turnD (d : PyData) : Bool := match d with
  | .int i => decide (0 ≤ i)
  | _ => false
def spIsTurn (K : PySem.W.Frag) : Sp := fun vs H Q _ => ∃ (v : V) (b : Bool), vs = [v] ∧ ((∃ e, Dq K H v e ∧ b = turnD e) ∨ ((∃ t, TyX K H v t ∧ PySem.W.kitOne K t (.type "int") = some false) ∧ b = false)) ∧ Q (.bl b) H
theorem ok_isTurn (T : Txt K mg a d) : FnOk P w K mg base CX0 1 a.isTurn d.isTurn ["value"] (spIsTurn K) := by
  refine okN T.F_isTurn scIsTurn (fun vs H Q E h => ?_) (fun cdv A outer s H vs Q E hr h => ?_)
  · obtain ⟨v, b, rfl, _⟩ := h
    rfl
  · obtain ⟨v, b, rfl, h, q⟩ := h
    refine ⟨_, (pss_one (ps_ret (pe_and (pe_callB call_isi (by rfl) T.isinstance_ Tp.bt_isinstance (pa_cons (pv 0) (pa_cons (pe_bltn (v := .ty "int") (by rfl) T.int_ Tp.bt_int rfl) pa_nil))) (pe_and (pe_not (pe_callB call_isi (by rfl) T.isinstance_ Tp.bt_isinstance (pa_cons (pv 0) (pa_cons (pe_bltn (v := .ty "bool") (by rfl) T.bool_ Tp.bt_bool rfl) pa_nil)))) (pe_one (pe_cmpR op_ge (pv 0) pe_int (nomark _))))))), ?_⟩
    rcases h with ⟨dd, dq, rfl⟩ | ⟨⟨t, ty, kt⟩, rfl⟩
    · refine ⟨_, rfl, _, _, _, _, isI dd, rfl, .ty _, dq_ty dq, kit_int dd, _, rfl, ?_⟩
      cases dq with
      | int i => exact iteT ⟨_, rfl, _, _, _, _, false, rfl, .ty _, .base (.int i), kit_ty (by decide +kernel), _, rfl, _, rfl, iteT ⟨_, rfl, _, _, rfl, rfl, q⟩⟩
      | bl b => exact iteT ⟨_, rfl, _, _, _, _, true, rfl, .ty _, .base (.bl b), kit_ty (by decide +kernel), _, rfl, _, rfl, iteF q⟩
      | _ => exact iteF q
    · exact ⟨_, rfl, _, _, _, _, false, rfl, .ty _, ty, kt, _, rfl, iteF q⟩
end
end L04

set_option Elab.async false
set_option linter.all false
set_option maxRecDepth 100000
set_option maxHeartbeats 4000000
set_option pp.deepTerms false
set_option pp.deepTerms.threshold 4
set_option pp.maxSteps 1000
namespace L04
open PySem L2 Tp
section
variable {P : Program} {w : World} {K : PySem.W.Frag} {mg : Str → Option Value} {base : Heap} {a : Ad} {d : Fd}
theorem hd_look {x y : V} : List.lookup ("held" : Str) [("held", x), ("numbers", y)] = some x := by simp [List.lookup]
theorem nm_look {x y : V} : List.lookup ("numbers" : Str) [("held", x), ("numbers", y)] = some y := by
  have : (("numbers" : Str) == ("held" : Str)) = false := by decide
  simp [List.lookup, this]
theorem no_look {x y : V} {m : Str} (h1 : m ≠ "held") (h2 : m ≠ "numbers") : List.lookup m [("held", x), ("numbers", y)] = none := by
  have e1 : (m == ("held" : Str)) = false := beq_eq_false_iff_ne.mpr h1
  have e2 : (m == ("numbers" : Str)) = false := beq_eq_false_iff_ne.mpr h2
  simp [List.lookup, e1, e2]
def spHasNumber (P : Program) (w : World) (K : PySem.W.Frag) (C : Addr) : Sp := fun vs H Q _ => ∃ (x l m : Addr) (rows : List BRow) (as : List Addr) (v : V) (b : Bool), vs = [.ref x, v] ∧ BookAt P w K C H x l m rows as ∧ IntIs K H v 0 ((rows.length : Nat) - 1) b ∧ Q (.bl b) H
theorem ok_hasNumber (T : Txt K mg a d) : FnOk P w K mg base CX0 2 a.hasNumber d.hasNumber ["self", "number"] (spHasNumber P w K a.CBook) := by
  have G_isInt := ok_isInt (P := P) (w := w) (base := base) T
  refine okN T.F_hasNumber scHasNumber (fun vs H Q E h => ?_) (fun cdv A outer s H vs Q E hr h => ?_)
  · obtain ⟨x, l, m, rows, as, v, b, rfl, _⟩ := h
    rfl
  · obtain ⟨x, l, m, rows, as, v, b, rfl, bk, iv, q⟩ := h
    refine ⟨_, (pss_one (ps_ret (pe_call G_isInt (hr.mono (by decide)) (by rfl) T.mg_isInt T.F_isInt.kp T.b_isInt .nil pass0 (pa_cons (pv 1) (pa_cons pe_int (pa_cons (pe_op op_sub (pe_callB call_len_seq (by rfl) T.len_ Tp.bt_len (pa_cons (pe_fld (pv 0) (by rfl)) pa_nil)) pe_int) pa_nil)))))), ?_⟩
    obtain ⟨dx, ho⟩ := bk.obj
    refine ⟨_, rfl, _, rfl, x, _, _, _, _, rfl, ho, T.cl_Book, T.n_Book_held, hd_look, l, _, rfl, .inl (SqL.of bk.lst), _, _, rfl, rfl, v, 0, _, b, rfl, ?_, q⟩
    rw [List.length_map, ← bk.len]
    exact iv
theorem int_is {H : Hp} {n L : Nat} (h : n < L) : IntIs K H (.int (n : Nat)) 0 ((L : Nat) - 1) true := by
  refine .inl ⟨.int (n : Nat), .int _, ?_⟩
  show true = (decide ((0 : Int) ≤ ((n : Nat) : Int)) && decide (((n : Nat) : Int) ≤ ((L : Nat) : Int) - 1))
  rw [decide_eq_true (show (0 : Int) ≤ (n : Nat) by omega), decide_eq_true (show ((n : Nat) : Int) ≤ (L : Nat) - 1 by omega)]
  rfl
def Rz (E : XK) (X : Addr) (f : Str) (v : V) (H : Hp) : Prop := ∀ dx H', Same H H' → H' dx = some (.xd [(f, v)]) → E (.ref X) (some dx) H'
theorem Rz.same {E : XK} {X : Addr} {f : Str} {v : V} {H H' : Hp} (h : Rz E X f v H) (S : Same H H') : Rz E X f v H' := fun dx H2 S2 g => h dx H2 (S.trans S2) g
theorem IntIs.same {H H' : Hp} {v : V} {lo hi : Int} {b : Bool} (h : IntIs K H v lo hi b) (S : Same H H') : IntIs K H' v lo hi b := by
  rcases h with ⟨d, dq, e⟩ | ⟨⟨t, ty, k⟩, e⟩
  · exact .inl ⟨d, (dq_same S).1 dq, e⟩
  · exact .inr ⟨⟨t, ty_same S ty, k⟩, e⟩
def NumIs (K : PySem.W.Frag) (H : Hp) (rows : List BRow) (v : V) (b : Bool) : Prop := IntIs K H v 0 ((rows.length : Nat) - 1) b
def spNeedNumberX (P : Program) (w : World) (K : PySem.W.Frag) (C X : Addr) : Sp := fun vs H Q E => ∃ (x l m : Addr) (rows : List BRow) (as : List Addr) (v : V) (b : Bool), vs = [.ref x, v] ∧ BookAt P w K C H x l m rows as ∧ NumIs K H rows v b ∧ (b = true → Q .non H) ∧ (b = false → Rz E X "number" v H)
theorem ok_needNumberX (T : Txt K mg a d) : FnOk P w K mg base (L2.CX P w) 3 a.needNumber d.needNumber ["self", "number"] (spNeedNumberX P w K a.CBook a.CUnknownTerm) := by
  have G_hasNumber := ok_hasNumber (P := P) (w := w) (base := base) T
  refine okX T.F_needNumber scNeedNumber (fun vs H Q E h => ?_) (fun cdv A outer s H vs Q E hr h tk po => ?_)
  · obtain ⟨x, l, m, rows, as, v, b, rfl, _⟩ := h
    rfl
  · obtain ⟨x, l, m, rows, as, v, b, rfl, bk, hn, q1, q2⟩ := h
    refine ⟨_, (pss_one (ps_if (pt_not (pt_val (pe_meth (pv 0) T.cl_Book T.me_hasNumber G_hasNumber (hr.mono (by decide)) T.b_hasNumber .nil pass0 (pa_cons (pv 1) pa_nil)))) (pss_one (Tp.ps_raiseB (k := 0) rfl (x_UnknownTerm T) (hr.mono (by decide)) tk (by rfl) T.mg_UnknownTerm (pa_cons (pv 1) pa_nil))) pss_nil)), ?_⟩
    obtain ⟨dx, ho⟩ := bk.obj
    refine ⟨_, rfl, x, _, _, rfl, ho, no_look (by decide) (by decide), _, rfl, x, l, m, rows, as, v, b, rfl, bk, hn, _, rfl, ?_⟩
    cases b with
    | true => exact iteF (q1 rfl)
    | false => exact iteT ⟨_, rfl, (show 1 ≤ 1000 from by decide), fun z hz => ⟨z, _, rfl, upd_same, fun dz k n => ⟨rfl, dz, _, upd_same, by rw [upd_ne n]; exact upd_same, by rw [upd_ne n] at k; exact k, q2 rfl dz _ (same_fly hz k) upd_same⟩⟩⟩
def spNumberOf (P : Program) (w : World) (K : PySem.W.Frag) (C : Addr) : Sp := fun vs H Q _ => ∃ (x l m : Addr) (rows : List BRow) (as : List Addr) (p : Addr) (r : BRow), vs = [.ref x, .ref p] ∧ BookAt P w K C H x l m rows as ∧ RowAt K H r p ∧ rows.length < 100000 ∧
  (∀ i : Nat, idxR rows r = some i → Q (.int (i : Nat)) H) ∧ (r ∉ rows → ∀ H', Kp2 l m H H' → BookAt P w K C H' x l m (rows ++ [r]) (as ++ [p]) → Q (.int (rows.length : Nat)) H')
theorem mem_idx : ∀ {rows : List BRow} {r : BRow}, idxR rows r = none → r ∉ rows
  | [], _, _ => by simp
  | y :: l, r, h => by
    unfold idxR at h
    by_cases e : y = r
    · rw [if_pos e] at h; cases h
    · rw [if_neg e] at h
      intro m
      rcases List.mem_cons.mp m with z | m
      · exact e z.symm
      · exact mem_idx (Option.map_eq_none_iff.mp h) m
theorem ok_numberOf (T : Txt K mg a d) : FnOk P w K mg base CX0 1 a.numberOf d.numberOf ["self", "row"] (spNumberOf P w K a.CBook) := by
  refine okN T.F_numberOf scNumberOf (fun vs H Q E h => ?_) (fun cdv A outer s H vs Q E hr h => ?_)
  · obtain ⟨x, l, m, rows, as, p, r, rfl, _⟩ := h
    rfl
  · obtain ⟨x, l, m, rows, as, p, r, rfl, bk, rw_, few, q1, q2⟩ := h
    refine ⟨_, (pss_cons (ps_if (pt_cmpR (Tp.op_notInN hr.units) (pv 1) (pe_fld (pv 0) (by rfl)) (by rfl)) (pss_cons (Tp.ps_nput hr.units (pe_fld (pv 0) (by rfl)) (pv 1) (pe_callB call_len_seq (by rfl) T.len_ Tp.bt_len (pa_cons (pe_fld (pv 0) (by rfl)) pa_nil)) rfl)
      (pss_one (ps_expr (pe_bm PySem.F.plainAttrs_list PySem.F.slot_list_append PySem.F.type_list_append mt_append (pe_fld (pv 0) (by rfl)) (pa_cons (pv 1) pa_nil))))) pss_nil)
      (pss_one (ps_ret (Tp.pe_nget hr.units (pe_fld (pv 0) (by rfl)) (pv 1) (fun _ _ => rfl))))), ?_⟩
    obtain ⟨dx, ho⟩ := bk.obj
    have lk := ents_look 0 rows as r bk.len
    refine ⟨_, rfl, _, rfl, x, _, _, _, _, rfl, ho, T.cl_Book, T.n_Book_numbers, nm_look, m, p, _, r.key, rfl, rfl, bk.num, bk.nok, rw_.nk, key_depth r, _, rfl, ?_⟩
    cases hi : idxR rows r with
    | some i =>
      rw [hi] at lk
      rw [lk]
      refine iteF ?_
      refine ⟨_, rfl, x, _, _, _, _, rfl, ho, T.cl_Book, T.n_Book_numbers, nm_look, _, rfl, m, p, _, r.key, _, rfl, rfl, bk.num, bk.nok, rw_.nk, key_depth r, lk, ?_⟩
      have := q1 i hi
      show Q (V.int ((0 + i : Nat) : Int)) H
      rw [Nat.zero_add]
      exact this
    | none =>
      rw [hi] at lk
      have lk : lookN (ents 0 rows as) r.key = none := lk
      rw [lk]
      refine iteT ?_
      have hlen : (ents 0 rows as).length < sizeLine := by
        rw [ents_len 0 rows as bk.len]
        exact Nat.lt_of_lt_of_le few (by decide)
      refine ⟨_, rfl, x, _, _, _, _, rfl, ho, T.cl_Book, T.n_Book_held, hd_look, l, _, rfl, .inl (SqL.of bk.lst), _, rfl, x, _, _, _, _, rfl, ho, T.cl_Book, T.n_Book_numbers, nm_look, _, rfl, m, p, _, r.key, rfl, rfl, bk.num, bk.nok, rw_.nk, key_depth r, lk, hlen, ?_⟩
      rw [List.length_map, ← bk.len]
      have e1 : ents 0 rows as ++ [(r.key, p, V.int (rows.length : Nat))] = ents 0 (rows ++ [r]) (as ++ [p]) := by
        rw [ents_snoc 0 rows as r p bk.len, Nat.zero_add]
      rw [e1]
      have nlm := bk.nlm
      have ho1 : (upd H m (dN P w m (ents 0 (rows ++ [r]) (as ++ [p])))) x = some (.ins a.CBook dx [("held", .ref l), ("numbers", .ref m)]) := by rw [upd_ne bk.nxm]; exact ho
      have hl1 : (upd H m (dN P w m (ents 0 (rows ++ [r]) (as ++ [p])))) l = some (.lst (as.map V.ref)) := by rw [upd_ne nlm]; exact bk.lst
      have hla : (as.map V.ref).length < sizeLine := by
        rw [List.length_map, ← bk.len]
        exact Nat.lt_of_lt_of_le few (by decide)
      refine ⟨_, rfl, x, _, _, _, _, rfl, ho1, T.cl_Book, T.n_Book_held, hd_look, .inl ⟨rfl, _, SqL.of hl1⟩, _, rfl, l, _, _, rfl, rfl, hl1, hla, ?_⟩
      have k2 : Kp2 l m H (upd (upd H m (dN P w m (ents 0 (rows ++ [r]) (as ++ [p])))) l (.lst (as.map V.ref ++ [.ref p]))) := fun b o n1 n2 h => by rw [upd_ne n1, upd_ne n2]; exact h
      have S := bk.sameT k2
      have bk2 : BookAt P w K a.CBook (upd (upd H m (dN P w m (ents 0 (rows ++ [r]) (as ++ [p])))) l (.lst (as.map V.ref ++ [.ref p]))) x l m (rows ++ [r]) (as ++ [p]) := by
        refine ⟨⟨dx, k2 _ _ bk.nxl bk.nxm ho⟩, ?_, ?_, paired_snoc (paired_imp (fun _ _ h => h.sameT S) bk.row) (rw_.sameT S), ?_, ?_⟩
        · rw [upd_same, List.map_append]
          rfl
        · rw [upd_ne (Ne.symm nlm)]
          exact upd_same
        · rw [List.nodup_append]
          refine ⟨bk.nd, by simp, fun y hy z hz => ?_⟩
          rw [List.mem_singleton.mp hz]
          exact fun e => mem_idx hi (by rw [← e]; exact hy)
        · rw [List.length_append]
          exact few
      obtain ⟨dx', ho'⟩ := bk2.obj
      have rw2 := rw_.sameT S
      have lk2 : lookN (ents 0 (rows ++ [r]) (as ++ [p])) r.key = some (.int (rows.length : Nat)) := by
        rw [← e1]
        exact lookN_new lk
      exact ⟨_, rfl, x, _, _, _, _, rfl, ho', T.cl_Book, T.n_Book_numbers, nm_look, _, rfl, m, p, _, r.key, _, rfl, rfl, bk2.num, bk2.nok, rw2.nk, key_depth r, lk2, q2 (mem_idx hi) _ k2 bk2⟩
/-- a good row to be added: a symbol with arguments, or a sample -/
def GoodL (r : BRow) (n : Nat) : Prop := nmB r.nm = true ∧ r.nm.length ≤ 10000 ∧ ((∃ l, r.sec = .inl l ∧ l.length ≤ 3 ∧ ∀ j ∈ l, j < n) ∨ ∃ t, r.sec = .inr t)
/-! ### adding a row -/
theorem numsV_len (l : List Nat) : (numsV l).length = l.length := by
  unfold numsV
  rw [List.length_map]
def addR (rows : List BRow) (r : BRow) : List BRow × Nat := match idxR rows r with
  | some i => (rows, i)
  | none => (rows ++ [r], rows.length)
theorem add_old {rows : List BRow} {r : BRow} {i : Nat} (h : idxR rows r = some i) : addR rows r = (rows, i) := by
  unfold addR
  rw [h]
theorem add_new {rows : List BRow} {r : BRow} (h : r ∉ rows) : addR rows r = (rows ++ [r], rows.length) := by
  unfold addR
  rw [idx_none h]
theorem number_ask {C x l m p : Addr} {rows : List BRow} {as : List Addr} {r : BRow} {H : Hp} {Q : VK} {E : XK} (bk : BookAt P w K C H x l m rows as) (rp : RowAt K H r p) (few : rows.length < 100000)
    (q : ∀ H' as', Kp2 l m H H' → BookAt P w K C H' x l m (addR rows r).1 as' → Q (.int (((addR rows r).2 : Nat) : Int)) H') : spNumberOf P w K C [.ref x, .ref p] H Q E := by
  refine ⟨x, l, m, rows, as, p, r, rfl, bk, rp, few, fun i hi => ?_, fun nw H' k b => ?_⟩
  · have := q H as (Kp2.refl _ _ _)
    rw [add_old hi] at this
    exact this bk
  · have := q H' (as ++ [p]) k
    rw [add_new nw] at this
    exact this b
theorem NameIs.same {H H' : Hp} {v : V} {b : Bool} (h : NameIs K H v b) (S : Same H H') : NameIs K H' v b := by
  rcases h with h | ⟨⟨t, ty, k⟩, e⟩
  · exact .inl h
  · exact .inr ⟨⟨t, ty.same S, k⟩, e⟩
theorem name_str {H : Hp} {v : V} (h : NameIs K H v true) : ∃ z : Str, v = .str z ∧ nmB z = true ∧ z.length ≤ 10000 := by
  rcases h with ⟨z, e, l, n⟩ | ⟨_, e⟩
  · exact ⟨z, e, n.symm, l⟩
  · cases e
def TurnIs (K : PySem.W.Frag) (H : Hp) (v : V) (b : Bool) : Prop := (∃ e, Dq K H v e ∧ b = turnD e) ∨ ((∃ t, TyX K H v t ∧ PySem.W.kitOne K t (.type "int") = some false) ∧ b = false)
theorem TurnIs.same {H H' : Hp} {v : V} {b : Bool} (h : TurnIs K H v b) (S : Same H H') : TurnIs K H' v b := by
  rcases h with ⟨e, h, z⟩ | ⟨⟨t, ty, k⟩, z⟩
  · exact .inl ⟨e, (dq_same S).1 h, z⟩
  · exact .inr ⟨⟨t, ty_same S ty, k⟩, z⟩
theorem turn_int {H : Hp} {v : V} (h : TurnIs K H v true) : ∃ t : Nat, v = .int (t : Nat) := by
  rcases h with ⟨e, h, z⟩ | ⟨_, z⟩
  · cases h with
    | int i =>
      obtain ⟨t, rfl⟩ := Int.eq_ofNat_of_zero_le (of_decide_eq_true z.symm)
      exact ⟨t, rfl⟩
    | _ => cases z
  · cases z
theorem int_turn {H : Hp} (t : Nat) : TurnIs K H (.int (t : Nat)) true := .inl ⟨.int (t : Nat), .int _, (decide_eq_true (show (0 : Int) ≤ (t : Nat) by omega)).symm⟩
def spConst (P : Program) (w : World) (K : PySem.W.Frag) (C XN : Addr) : Sp := fun vs H Q E => ∃ (x l m : Addr) (rows : List BRow) (as : List Addr) (v : V) (b : Bool), vs = [.ref x, v] ∧ BookAt P w K C H x l m rows as ∧ rows.length < 100000 ∧ NameIs K H v b ∧ (b = false → Rz E XN "value" v H) ∧
  ∀ z, v = .str z → b = true → ∀ H' as', Kp2 l m H H' → BookAt P w K C H' x l m (addR rows ⟨z, .inl []⟩).1 as' → Q (.int (((addR rows ⟨z, .inl []⟩).2 : Nat) : Int)) H'
theorem ok_constant (T : Txt K mg a d) : FnOk P w K mg base (L2.CX P w) 3 a.constant d.constant ["self", "symbol"] (spConst P w K a.CBook a.CInvalidName) := by
  have G_isName := ok_isName (P := P) (w := w) (base := base) T
  have G_numberOf := ok_numberOf (P := P) (w := w) (base := base) T
  refine okX T.F_constant scConstant (fun vs H Q E h => ?_) (fun cdv A outer s H vs Q E hr h tk po => ?_)
  · obtain ⟨x, l, m, rows, as, v, b, rfl, _⟩ := h
    rfl
  · obtain ⟨x, l, m, rows, as, v, b, rfl, bk, few, nm, q1, q2⟩ := h
    refine ⟨_, (pss_cons (ps_if (pt_not (pt_val (pe_call G_isName (hr.mono (by decide)) (by rfl) T.mg_isName T.F_isName.kp T.b_isName .nil pass0 (pa_cons (pv 1) pa_nil)))) (pss_one (Tp.ps_raiseB (k := 0) rfl (x_InvalidName T) (hr.mono (by decide)) tk (by rfl) T.mg_InvalidName (pa_cons (pv 1) pa_nil))) pss_nil)
      (pss_one (ps_ret (pe_meth (pv 0) T.cl_Book T.me_numberOf G_numberOf (hr.mono (by decide)) T.b_numberOf .nil pass0 (pa_cons (pe_tup (pa_cons (pv 1) (pa_cons (pe_tup pa_nil) pa_nil))) pa_nil))))), ?_⟩
    obtain ⟨dx, ho⟩ := bk.obj
    refine ⟨_, rfl, v, b, rfl, nm, _, rfl, ?_⟩
    cases b with
    | false => exact iteT ⟨_, rfl, (show 1 ≤ 1000 from by decide), fun z hz => ⟨z, _, rfl, upd_same, fun dz k n => ⟨rfl, dz, _, upd_same, by rw [upd_ne n]; exact upd_same, by rw [upd_ne n] at k; exact k, q1 rfl dz _ (same_fly hz k) upd_same⟩⟩⟩
    | true =>
      obtain ⟨z, rfl, _⟩ := name_str nm
      refine iteF ⟨_, rfl, x, _, _, rfl, ho, no_look (by decide) (by decide), _, rfl, Nat.zero_le _, fun t ht => ?_⟩
      have S1 := same_new (o := .tup []) ht
      have g1 : (upd H t (.tup [])) t = some (.tup []) := upd_same
      generalize upd H t (.tup []) = H1 at S1 g1 ⊢
      refine ⟨(show 2 ≤ sizeLine from by decide), fun t2 ht2 => ?_⟩
      have S2 := same_new (o := .tup [.str z, .ref t]) ht2
      have g2 : (upd H1 t2 (.tup [.str z, .ref t])) t2 = some (.tup [.str z, .ref t]) := upd_same
      generalize upd H1 t2 (.tup [.str z, .ref t]) = H2 at S2 g2 ⊢
      exact number_ask (E := fun _ _ _ => False) (r := ⟨z, .inl []⟩) (bk.same (S1.trans S2)) (.mkL (SqT.of g2) (SqT.of (S2 _ _ g1))) few fun H' as' k b => q2 z rfl rfl H' as' ((Kp2.of (S1.trans S2)).trans k) b
def spSample (P : Program) (w : World) (K : PySem.W.Frag) (C XN XT : Addr) : Sp := fun vs H Q E => ∃ (x l m : Addr) (rows : List BRow) (as : List Addr) (v u : V) (b c : Bool), vs = [.ref x, v, u] ∧ BookAt P w K C H x l m rows as ∧ rows.length < 100000 ∧ NameIs K H v b ∧ (b = false → Rz E XN "value" v H) ∧ (b = true → TurnIs K H u c ∧ (c = false → Rz E XT "value" u H) ∧
  ∀ (z : Str) (t : Nat), v = .str z → u = .int (t : Nat) → c = true → ∀ H' as', Kp2 l m H H' → BookAt P w K C H' x l m (addR rows ⟨z, .inr t⟩).1 as' → Q (.int (((addR rows ⟨z, .inr t⟩).2 : Nat) : Int)) H')
theorem ok_sample (T : Txt K mg a d) : FnOk P w K mg base (L2.CX P w) 3 a.sample d.sample ["self", "name", "turn"] (spSample P w K a.CBook a.CInvalidName a.CInvalidTurn) := by
  have G_isName := ok_isName (P := P) (w := w) (base := base) T
  have G_isTurn := ok_isTurn (P := P) (w := w) (base := base) T
  have G_numberOf := ok_numberOf (P := P) (w := w) (base := base) T
  refine okX T.F_sample scSample (fun vs H Q E h => ?_) (fun cdv A outer s H vs Q E hr h tk po => ?_)
  · obtain ⟨x, l, m, rows, as, v, u, b, c, rfl, _⟩ := h
    rfl
  · obtain ⟨x, l, m, rows, as, v, u, b, c, rfl, bk, few, nm, q1, q2⟩ := h
    refine ⟨_, (pss_cons (ps_if (pt_not (pt_val (pe_call G_isName (hr.mono (by decide)) (by rfl) T.mg_isName T.F_isName.kp T.b_isName .nil pass0 (pa_cons (pv 1) pa_nil)))) (pss_one (Tp.ps_raiseB (k := 0) rfl (x_InvalidName T) (hr.mono (by decide)) tk (by rfl) T.mg_InvalidName (pa_cons (pv 1) pa_nil))) pss_nil)
      (pss_cons (ps_if (pt_not (pt_val (pe_call G_isTurn (hr.mono (by decide)) (by rfl) T.mg_isTurn T.F_isTurn.kp T.b_isTurn .nil pass0 (pa_cons (pv 2) pa_nil)))) (pss_one (Tp.ps_raiseB (k := 0) rfl (x_InvalidTurn T) (hr.mono (by decide)) tk (by rfl) T.mg_InvalidTurn (pa_cons (pv 2) pa_nil))) pss_nil)
      (pss_one (ps_ret (pe_meth (pv 0) T.cl_Book T.me_numberOf G_numberOf (hr.mono (by decide)) T.b_numberOf .nil pass0 (pa_cons (pe_tup (pa_cons (pv 1) (pa_cons (pv 2) pa_nil))) pa_nil)))))), ?_⟩
    obtain ⟨dx, ho⟩ := bk.obj
    refine ⟨_, rfl, v, b, rfl, nm, _, rfl, ?_⟩
    cases b with
    | false => exact iteT ⟨_, rfl, (show 1 ≤ 1000 from by decide), fun z hz => ⟨z, _, rfl, upd_same, fun dz k n => ⟨rfl, dz, _, upd_same, by rw [upd_ne n]; exact upd_same, by rw [upd_ne n] at k; exact k, q1 rfl dz _ (same_fly hz k) upd_same⟩⟩⟩
    | true =>
      obtain ⟨z, rfl, _⟩ := name_str nm
      obtain ⟨tu, q2, q3⟩ := q2 rfl
      refine iteF ⟨_, rfl, u, c, rfl, tu, _, rfl, ?_⟩
      cases c with
      | false => exact iteT ⟨_, rfl, (show 1 ≤ 1000 from by decide), fun z hz => ⟨z, _, rfl, upd_same, fun dz k n => ⟨rfl, dz, _, upd_same, by rw [upd_ne n]; exact upd_same, by rw [upd_ne n] at k; exact k, q2 rfl dz _ (same_fly hz k) upd_same⟩⟩⟩
      | true =>
        obtain ⟨t, rfl⟩ := turn_int tu
        refine iteF ⟨_, rfl, x, _, _, rfl, ho, no_look (by decide) (by decide), _, rfl, _, rfl, (show 2 ≤ sizeLine from by decide), fun t2 ht2 => ?_⟩
        have S2 := same_new (o := .tup [.str z, .int (t : Nat)]) ht2
        have g2 : (upd H t2 (.tup [.str z, .int (t : Nat)])) t2 = some (.tup [.str z, .int (t : Nat)]) := upd_same
        generalize upd H t2 (.tup [.str z, .int (t : Nat)]) = H2 at S2 g2 ⊢
        exact number_ask (E := fun _ _ _ => False) (r := ⟨z, .inr t⟩) (bk.same S2) (.mkT (SqT.of g2)) few fun H' as' k b => q3 z t rfl rfl rfl H' as' ((Kp2.of S2).trans k) b
/-! ### apply -/
inductive ApO where
  | part : ApO
  | term (v : V) : ApO
  | ok (l : List Nat) : ApO
inductive AppIs (K : PySem.W.Frag) (H : Hp) (n : Nat) : V → ApO → Prop
  | part {u : V} {e : PyData} : Dq K H u e → (isLT e = true → ¬ (0 < (itemsD e).length ∧ (itemsD e).length < 4)) → AppIs K H n u .part
  | term {p : Addr} {b : Bool} {xs : List V} {i : Nat} {v : V} : SqB b K H p xs → 0 < xs.length → xs.length < 4 → xs[i]? = some v → (∀ (j : Nat) (y : V), j < i → xs[j]? = some y → IntIs K H y 0 ((n : Nat) - 1) true) → IntIs K H v 0 ((n : Nat) - 1) false → AppIs K H n (.ref p) (.term v)
  | ok {p : Addr} {b : Bool} {l : List Nat} : SqB b K H p (numsV l) → 0 < l.length → l.length < 4 → (∀ k ∈ l, k < n) → AppIs K H n (.ref p) (.ok l)
theorem AppIs.same {H H' : Hp} {n : Nat} {u : V} {o : ApO} (h : AppIs K H n u o) (S : Same H H') : AppIs K H' n u o := by
  cases h with
  | part h1 h2 => exact .part ((dq_same S).1 h1) h2
  | term h1 h2 h3 h4 h5 h6 => exact .term (h1.same S) h2 h3 h4 (fun j y a b => (h5 j y a b).same S) (h6.same S)
  | ok h1 h2 h3 h4 => exact .ok (h1.same S) h2 h3 h4
theorem tyB {b : Bool} {H : Hp} {p : Addr} {xs : List V} (h : SqB b K H p xs) : ∃ t, TyX K H (.ref p) t ∧ PySem.W.kitAny K t [.type "list", .type "tuple"] = some true := by
  cases b with
  | true => exact ⟨_, ty_sqT h, kit_lt (.tuple [])⟩
  | false => exact ⟨_, ty_sqL h, kit_lt (.list [])⟩
def spApply (P : Program) (w : World) (K : PySem.W.Frag) (C XN XP XU : Addr) : Sp := fun vs H Q E => ∃ (x l m : Addr) (rows : List BRow) (as : List Addr) (v u : V) (b : Bool) (o : ApO), vs = [.ref x, v, u] ∧ BookAt P w K C H x l m rows as ∧ rows.length < 100000 ∧ NameIs K H v b ∧ (b = false → Rz E XN "value" v H) ∧ (b = true → AppIs K H rows.length u o ∧ (o = .part → Rz E XP "value" u H) ∧ (∀ y, o = .term y → Rz E XU "number" y H) ∧
  ∀ (z : Str) (ns : List Nat), v = .str z → o = .ok ns → ∀ H' as', Kp2 l m H H' → BookAt P w K C H' x l m (addR rows ⟨z, .inl ns⟩).1 as' → Q (.int (((addR rows ⟨z, .inl ns⟩).2 : Nat) : Int)) H')
theorem ok_apply (T : Txt K mg a d) : FnOk P w K mg base (L2.CX P w) 4 a.apply d.apply ["self", "symbol", "numbers"] (spApply P w K a.CBook a.CInvalidName a.CInvalidPart a.CUnknownTerm) := by
  have G_isName := ok_isName (P := P) (w := w) (base := base) T
  have G_isList := ok_isList (P := P) (w := w) (base := base) T
  have G_needNumber := ok_needNumberX (P := P) (w := w) (base := base) T
  have G_numberOf := ok_numberOf (P := P) (w := w) (base := base) T
  refine okX T.F_apply scApply (fun vs H Q E h => ?_) (fun cdv A outer s H vs Q E hr h tk po => ?_)
  · obtain ⟨x, l, m, rows, as, v, u, b, o, rfl, _⟩ := h
    rfl
  · obtain ⟨x, l, m, rows, as, v, u, b, o, rfl, bk, few, nm, q1, q2⟩ := h
    refine ⟨_, (pss_cons (ps_if (pt_not (pt_val (pe_call G_isName (hr.mono (by decide)) (by rfl) T.mg_isName T.F_isName.kp T.b_isName .nil pass0 (pa_cons (pv 1) pa_nil)))) (pss_one (Tp.ps_raiseB (k := 0) rfl (x_InvalidName T) (hr.mono (by decide)) tk (by rfl) T.mg_InvalidName (pa_cons (pv 1) pa_nil))) pss_nil)
      (pss_cons (ps_if (PW.pt (pw_or (pt_not (pt_val (pe_call G_isList (hr.mono (by decide)) (by rfl) T.mg_isList T.F_isList.kp T.b_isList .nil pass0 (pa_cons (pv 2) pa_nil)))) (pw_or1 (pt_not (pt_chain op_lt op_le pe_int (pe_callB call_len_seq (by rfl) T.len_ Tp.bt_len (pa_cons (pv 2) pa_nil)) (Tp.pe_glI (by rfl) T.mg_MOST_ARGUMENTS)))))) (pss_one (Tp.ps_raiseB (k := 0) rfl (x_InvalidPart T) (hr.mono (by decide)) tk (by rfl) T.mg_InvalidPart (pa_cons (pv 2) pa_nil))) pss_nil)
      (pss_cons (ps_for po rfl (Tp.pi_B (K := K) rfl (pv 2)) (pg_name (i := 3) scApply.nd rfl (Or.inl rfl)) (pss_one (ps_expr (Tp.pe_methE (pv 0) T.cl_Book T.me_needNumber G_needNumber (hr.mono (by decide)) T.b_needNumber .nil (fun σ => passAt tk σ) (pa_cons (pv 3) pa_nil)))))
      (pss_one (ps_ret (pe_meth (pv 0) T.cl_Book T.me_numberOf G_numberOf (hr.mono (by decide)) T.b_numberOf .nil pass0 (pa_cons (pe_tup (pa_cons (pv 1) (pa_cons (pe_callTy call_tuple_of (by rfl) T.tuple_ Tp.bt_tuple (pa_cons (pv 2) pa_nil)) pa_nil))) pa_nil))))))), ?_⟩
    refine ⟨_, rfl, v, b, rfl, nm, _, rfl, ?_⟩
    cases b with
    | false => exact iteT ⟨_, rfl, (show 1 ≤ 1000 from by decide), fun z hz => ⟨z, _, rfl, upd_same, fun dz k n => ⟨rfl, dz, _, upd_same, by rw [upd_ne n]; exact upd_same, by rw [upd_ne n] at k; exact k, q1 rfl dz _ (same_fly hz k) upd_same⟩⟩⟩
    | true =>
      obtain ⟨z, rfl, _⟩ := name_str nm
      obtain ⟨ap, q2, q3, q4⟩ := q2 rfl
      refine iteF ?_
      cases ap with
      | @part _ e dq no =>
        refine ⟨_, rfl, u, _, _, rfl, dq_ty dq, kit_lt e, fun H1 S1 => ⟨_, rfl, ?_⟩⟩
        have q2 := (q2 rfl).same S1
        cases lt : isLT e with
        | false => exact iteT (iteT ⟨_, rfl, (show 1 ≤ 1000 from by decide), fun z hz => ⟨z, _, rfl, upd_same, fun dz k n => ⟨rfl, dz, _, upd_same, by rw [upd_ne n]; exact upd_same, by rw [upd_ne n] at k; exact k, q2 dz _ (same_fly hz k) upd_same⟩⟩⟩)
        | true =>
          obtain ⟨p, xs, rfl, sq, da⟩ := dq_seq dq lt
          have no := no lt
          rw [← dqAll_len da] at no
          refine iteF ⟨_, rfl, p, xs, rfl, sqB_len (sq.same S1), _, _, rfl, rfl, _, rfl, if2 (fun c => ?_) (fun c => ⟨_, rfl, iteT ⟨_, rfl, (show 1 ≤ 1000 from by decide), fun z hz => ⟨z, _, rfl, upd_same, fun dz k n => ⟨rfl, dz, _, upd_same, by rw [upd_ne n]; exact upd_same, by rw [upd_ne n] at k; exact k, q2 dz _ (same_fly hz k) upd_same⟩⟩⟩⟩)⟩
          refine ⟨_, _, rfl, rfl, _, rfl, ifnN (fun c2 => ?_) ⟨_, rfl, (show 1 ≤ 1000 from by decide), fun z hz => ⟨z, _, rfl, upd_same, fun dz k n => ⟨rfl, dz, _, upd_same, by rw [upd_ne n]; exact upd_same, by rw [upd_ne n] at k; exact k, q2 dz _ (same_fly hz k) upd_same⟩⟩⟩⟩
          omega
      | @term p b' xs i y sq l0 l1 hi bef bad =>
        obtain ⟨t, ty, kt⟩ := tyB sq
        refine ⟨_, rfl, _, t, true, rfl, ty, kt, fun H1 S1 => ⟨_, rfl, iteF ?_⟩⟩
        have sq1 := sq.same S1
        have bk1 := bk.same S1
        obtain ⟨dx, ho⟩ := bk1.obj
        refine ⟨_, rfl, p, xs, rfl, sqB_len sq1, _, _, rfl, rfl, _, rfl, ifY (show (0 : Int) < (xs.length : Nat) by omega) ⟨_, _, rfl, rfl, _, rfl, ifnY (show ((xs.length : Nat) : Int) ≤ 3 by omega) ?_⟩⟩
        have il : i < xs.length := (List.getElem?_eq_some_iff.mp hi).1
        refine ⟨_, rfl, b', p, _, rfl, sq1, for_it (walk_B (xs := xs)) (fun j σ H' => j ≤ i ∧ H' = H1 ∧ ∃ v3, σ = [some (.ref x), some (.str z), some (.ref p), v3]) ⟨Nat.zero_le _, rfl, _, rfl⟩ ?_ ?_ ?_⟩
        · rintro j σ H' _ ⟨_, rfl, _⟩
          exact sq1
        · rintro j u σ _ H' hj ⟨le, rfl, v3, rfl⟩ ⟨rfl, hv⟩
          by_cases e : j = i
          · subst e
            rw [hi] at hv
            cases hv
            exact ⟨_, rfl, x, _, _, rfl, ho, no_look (by decide) (by decide), _, rfl, x, l, m, rows, as, y, false, rfl, bk1, bad.same S1, (fun z => by cases z), fun _ => (q3 y rfl).same S1⟩
          · exact ⟨_, rfl, x, _, _, rfl, ho, no_look (by decide) (by decide), _, rfl, x, l, m, rows, as, u, true, rfl, bk1, (bef j u (by omega) hv).same S1, (fun _ => ⟨by omega, rfl, _, rfl⟩), fun z => by cases z⟩
        · rintro σ H' ⟨le, _⟩
          omega
      | @ok p b' ns sq l0 l1 lt =>
        obtain ⟨t, ty, kt⟩ := tyB sq
        refine ⟨_, rfl, _, t, true, rfl, ty, kt, fun H1 S1 => ⟨_, rfl, iteF ?_⟩⟩
        have sq1 := sq.same S1
        have bk1 := bk.same S1
        obtain ⟨dx, ho⟩ := bk1.obj
        have nl := numsV_len ns
        refine ⟨_, rfl, p, _, rfl, sqB_len sq1, _, _, rfl, rfl, _, rfl, ifY (show (0 : Int) < ((numsV ns).length : Nat) by omega) ⟨_, _, rfl, rfl, _, rfl, ifnY (show (((numsV ns).length : Nat) : Int) ≤ 3 by omega) ?_⟩⟩
        refine ⟨_, rfl, b', p, _, rfl, sq1, for_it (walk_B (xs := numsV ns)) (fun j σ H' => H' = H1 ∧ ∃ v3, σ = [some (.ref x), some (.str z), some (.ref p), v3]) ⟨rfl, _, rfl⟩ ?_ ?_ ?_⟩
        · rintro j σ H' _ ⟨rfl, _⟩
          exact sq1
        · rintro j u σ _ H' hj ⟨rfl, v3, rfl⟩ ⟨rfl, hv⟩
          unfold numsV at hv
          rw [List.getElem?_map] at hv
          obtain ⟨k, hk, rfl⟩ := Option.map_eq_some_iff.mp hv
          exact ⟨_, rfl, x, _, _, rfl, ho, no_look (by decide) (by decide), _, rfl, x, l, m, rows, as, _, true, rfl, bk1, int_is (lt k (List.mem_of_getElem? hk)), (fun _ => ⟨rfl, _, rfl⟩), fun z => by cases z⟩
        · rintro σ H' ⟨rfl, v3, rfl⟩
          refine ⟨_, rfl, x, _, _, rfl, ho, no_look (by decide) (by decide), _, rfl, _, rfl, p, numsV ns, rfl, ?_⟩
          cases b' with
          | true =>
            refine .inr ⟨sq1, (show 2 ≤ sizeLine from by decide), fun t2 ht2 => ?_⟩
            have S2 := same_new (o := .tup [.str z, .ref p]) ht2
            have g2 : (upd H' t2 (.tup [.str z, .ref p])) t2 = some (.tup [.str z, .ref p]) := upd_same
            generalize upd H' t2 (.tup [.str z, .ref p]) = H2 at S2 g2 ⊢
            exact number_ask (E := fun _ _ _ => False) (r := ⟨z, .inl ns⟩) (bk1.same S2) (.mkL (SqT.of g2) (sqT_same S2 sq1)) few fun H3 as' k b => q4 z ns rfl rfl H3 as' ((Kp2.of (S1.trans S2)).trans k) b
          | false =>
            refine .inl ⟨sq1, fun t1 ht1 => ⟨(show 2 ≤ sizeLine from by decide), fun t2 ht2 => ?_⟩⟩
            have S2 := same_new (o := .tup (numsV ns)) ht1
            have g2 : (upd H' t1 (.tup (numsV ns))) t1 = some (.tup (numsV ns)) := upd_same
            generalize upd H' t1 (.tup (numsV ns)) = H2 at S2 g2 ht2 ⊢
            have S3 := same_new (o := .tup [.str z, .ref t1]) ht2
            have g3 : (upd H2 t2 (.tup [.str z, .ref t1])) t2 = some (.tup [.str z, .ref t1]) := upd_same
            generalize upd H2 t2 (.tup [.str z, .ref t1]) = H3 at S3 g3 ⊢
            exact number_ask (E := fun _ _ _ => False) (r := ⟨z, .inl ns⟩) (bk1.same (S2.trans S3)) (.mkL (SqT.of g3) (SqT.of (S3 _ _ g2))) few fun H4 as' k b => q4 z ns rfl rfl H4 as' ((Kp2.of (S1.trans (S2.trans S3))).trans k) b
end
end L04

set_option Elab.async false
set_option linter.all false
set_option maxRecDepth 100000
set_option maxHeartbeats 4000000
set_option pp.deepTerms false
set_option pp.deepTerms.threshold 4
set_option pp.maxSteps 1000
namespace L04
open PySem L2 Tp
section
variable {P : Program} {w : World} {K : PySem.W.Frag} {mg : Str → Option Value} {base : Heap} {a : Ad} {d : Fd}
/-! ### rows as data -/
theorem nm_ok {z : Str} (h : nmB z = true) : PyData.strOk z = true := by
  unfold PyData.strOk
  rw [← Array.all_toList]
  unfold nmB at h
  cases e : z.cps.toList with
  | nil => rfl
  | cons c cs =>
    rw [e] at h
    obtain ⟨_, h⟩ := Bool.and_eq_true_iff.mp h
    obtain ⟨_, h⟩ := Bool.and_eq_true_iff.mp h
    refine List.all_eq_true.mpr fun x hx => ?_
    have := List.all_eq_true.mp h x hx
    refine decide_eq_true ?_
    rcases Bool.or_eq_true_iff.mp this with k | k
    · obtain ⟨_, k2⟩ := Bool.and_eq_true_iff.mp k
      have := of_decide_eq_true k2
      omega
    · obtain ⟨_, k2⟩ := Bool.and_eq_true_iff.mp k
      have := of_decide_eq_true k2
      omega
theorem nums_lay : ∀ l : List Nat, PyData.canLayAll0 (numsD l) = true ∧ PyData.depthAll (numsD l) = 0
  | [] => ⟨rfl, rfl⟩
  | n :: l => by
    obtain ⟨h1, h2⟩ := nums_lay l
    unfold numsD at h1 h2 ⊢
    rw [List.map_cons]
    simp only [PyData.canLayAll0, PyData.depthAll, PyData.canLay0, PyData.depth, h1, h2, Bool.and_self, Nat.max_self, and_self]
theorem row_lay {r : BRow} (g : nmB r.nm = true) : r.data.canLay0 = true ∧ r.data.depth ≤ 2 := by
  obtain ⟨n, s⟩ := r
  have g := nm_ok g
  cases s with
  | inl l =>
    obtain ⟨h1, h2⟩ := nums_lay l
    simp only [BRow.data, PyData.canLay0, PyData.canLayAll0, PyData.depth, PyData.depthAll, h1, h2, g]
    decide
  | inr t =>
    simp only [BRow.data, PyData.canLay0, PyData.canLayAll0, PyData.depth, PyData.depthAll, g]
    decide
def rowsD (rows : List BRow) : PyData := .list (rows.map BRow.data)
theorem rows_lay : ∀ {rows : List BRow}, (∀ r ∈ rows, nmB r.nm = true) → PyData.canLayAll0 (rows.map BRow.data) = true ∧ PyData.depthAll (rows.map BRow.data) ≤ 2
  | [], _ => ⟨rfl, Nat.zero_le _⟩
  | r :: rows, g => by
    obtain ⟨h1, h2⟩ := rows_lay (rows := rows) fun x hx => g x (List.mem_cons_of_mem _ hx)
    obtain ⟨k1, k2⟩ := row_lay (g r List.mem_cons_self)
    rw [List.map_cons]
    simp only [PyData.canLayAll0, PyData.depthAll, k1, h1, Bool.and_self, true_and]
    omega
theorem rows_shaped {rows : List BRow} (g : ∀ r ∈ rows, nmB r.nm = true) : SeqAt.shaped (rowsD rows) = true := by
  obtain ⟨h1, h2⟩ := rows_lay g
  unfold SeqAt.shaped rowsD
  simp only [PyData.canLay0, PyData.depth, h1, Bool.true_and]
  exact decide_eq_true (by omega)
theorem rows_eqv {rows : List BRow} (g : ∀ r ∈ rows, nmB r.nm = true) : PyData.eqv (rowsD rows) (rowsD rows) = true := SeqAt.eqv_refl _ (by
  unfold rowsD
  simp only [PyData.canLay0]
  exact (rows_lay g).1)
theorem rows_dp {H : Hp} {rows : List BRow} {as : List Addr} (h : Paired (RowAt K H) rows as) : DpAll K H (as.map V.ref) (rows.map BRow.data) := by
  induction h with
  | nil => exact .nil
  | cons h _ ih => exact .cons h ih
/-! ### Book(rows) -/
theorem sqB_off {b : Bool} {H H' : Hp} {p x C dx : Addr} {fs : List (Str × V)} {xs : List V} (h : SqB b K H p xs) (hx : H x = some (.ins C dx fs)) (k : ∀ b o, b ≠ x → H b = some o → H' b = some o) : SqB b K H' p xs := by
  cases b with
  | true =>
    rcases h with (h | ⟨o, h⟩) | h
    · exact .inl (.inl (k _ _ (fun z => by rw [z, hx] at h; cases h) h))
    · exact .inl (.inr ⟨o, k _ _ (fun z => by rw [z, hx] at h; cases h) h⟩)
    · exact .inr h
  | false =>
    rcases h with (h | ⟨o, h⟩) | h
    · exact .inl (.inl (k _ _ (fun z => by rw [z, hx] at h; cases h) h))
    · exact .inl (.inr ⟨o, k _ _ (fun z => by rw [z, hx] at h; cases h) h⟩)
    · exact .inr h
theorem sameT_off {H H' : Hp} {x C dx : Addr} {fs : List (Str × V)} (hx : H x = some (.ins C dx fs)) (k : ∀ b o, b ≠ x → H b = some o → H' b = some o) : SameT H H' :=
  ⟨fun a xs h => k _ _ (fun z => by rw [z, hx] at h; cases h) h, fun a o xs h => k _ _ (fun z => by rw [z, hx] at h; cases h) h⟩
theorem take_succ {α : Type} {l : List α} {i : Nat} {r : α} (h : l[i]? = some r) : l.take (i + 1) = l.take i ++ [r] := by
  rw [List.take_add_one, h]
  rfl
theorem emp_T {e : Addr} {H : Hp} (h : ∃ o n, K.lookup e = some o ∧ o.cls = .type "tuple" ∧ o.data = .seq #[] n) : SqT K H e [] := by
  obtain ⟨o, n, h1, h2, h3⟩ := h
  exact .inr ⟨o, #[], n, h1, h2, h3, Nat.zero_le _, .nil⟩
/-! ### rows(), len, [..], ==, copied -/
def spRowsB (P : Program) (w : World) (K : PySem.W.Frag) (C : Addr) : Sp := fun vs H Q _ => ∃ (x l m : Addr) (rows : List BRow) (as : List Addr), vs = [.ref x] ∧ BookAt P w K C H x l m rows as ∧ ∀ q, H q = none → Q (.ref q) (upd H q (.lst (as.map V.ref)))
theorem ok_rows (T : Txt K mg a d) : FnOk P w K mg base CX0 1 a.rows d.rows ["self"] (spRowsB P w K a.CBook) := by
  refine okN T.F_rows scRows (fun vs H Q E h => ?_) (fun cdv A outer s H vs Q E hr h => ?_)
  · obtain ⟨x, l, m, rows, as, rfl, _⟩ := h
    rfl
  · obtain ⟨x, l, m, rows, as, rfl, bk, q⟩ := h
    refine ⟨_, (pss_one (ps_ret (pe_callTy call_list_of (by rfl) T.list_ Tp.bt_list (pa_cons (pe_fld (pv 0) (by rfl)) pa_nil)))), ?_⟩
    obtain ⟨dx, ho⟩ := bk.obj
    exact ⟨_, rfl, x, _, _, _, _, rfl, ho, T.cl_Book, T.n_Book_held, hd_look, l, _, rfl, .inl (SqL.of bk.lst), fun q0 h0 => q q0 h0⟩
def spLenB (P : Program) (w : World) (K : PySem.W.Frag) (C : Addr) : Sp := fun vs H Q _ => ∃ (x l m : Addr) (rows : List BRow) (as : List Addr), vs = [.ref x] ∧ BookAt P w K C H x l m rows as ∧ Q (.int (rows.length : Nat)) H
theorem ok_len (T : Txt K mg a d) : FnOk P w K mg base CX0 1 a.len d.len ["self"] (spLenB P w K a.CBook) := by
  refine okN T.F_len scLen (fun vs H Q E h => ?_) (fun cdv A outer s H vs Q E hr h => ?_)
  · obtain ⟨x, l, m, rows, as, rfl, _⟩ := h
    rfl
  · obtain ⟨x, l, m, rows, as, rfl, bk, q⟩ := h
    refine ⟨_, (pss_one (ps_ret (pe_callB call_len_seq (by rfl) T.len_ Tp.bt_len (pa_cons (pe_fld (pv 0) (by rfl)) pa_nil)))), ?_⟩
    obtain ⟨dx, ho⟩ := bk.obj
    rw [bk.len, ← List.length_map (f := V.ref)] at q
    exact ⟨_, rfl, x, _, _, _, _, rfl, ho, T.cl_Book, T.n_Book_held, hd_look, l, _, rfl, .inl (SqL.of bk.lst), q⟩
theorem book_ty (T : Txt K mg a d) {H : Hp} {x l m : Addr} {rows : List BRow} {as : List Addr} (bk : BookAt P w K a.CBook H x l m rows as) : TyX K H (.ref x) (.ref a.CBook) := by
  obtain ⟨dx, ho⟩ := bk.obj
  exact .base (.ins ho T.cl_Book T.ca_Book T.cn_ T.ct_ T.cm_Book)
/-! ### defs with defaults that raise -/
theorem okXD {k : Nat} {f : Addr} {fd : FuncData} {ps : List Str} {sp : Sp} {x qual : Str} {st : Stmt} {dvs : List V} {kws : List (Str × V)} {N : List Str} (F : FunD K x qual (defArgs st) (defBody st) (defScope st) dvs kws f fd) (S : FnScope N ps (defScope st))
    (ar : ∀ vs H Q E, sp vs H Q E → vs.length = ps.length)
    (bd : ∀ (cdv : Value) (A : Around) (outer : List Env) (s : Shared) (H : Hp) (vs : List V) (Q : VK) (E : XK), Room k (A.deeper (PyProof.Rows.envOfC qual (defScope st) s.heap.objs.size f cdv)) → sp vs H Q E →
      Takes (cxOf (L2.CX P w) P w K mg base N qual (defScope st) f cdv A outer s H E) (fun cls d _ H => E cls d H) →
      PassesOwn (model P w) (cxOf (L2.CX P w) P w K mg base N qual (defScope st) f cdv A outer s H E).A (cxOf (L2.CX P w) P w K mg base N qual (defScope st) f cdv A outer s H E).env (cxOf (L2.CX P w) P w K mg base N qual (defScope st) f cdv A outer s H E).xe →
      ∃ t, PSs (cxOf (L2.CX P w) P w K mg base N qual (defScope st) f cdv A outer s H E) (defBody st) t ∧ t { nx := fun _ H' => Q .non H', rt := Q } (start N vs) H) :
    FnOk P w K mg base (L2.CX P w) (k + 1) f fd ps sp := F.ok S ar fun cdv A outer s H vs Q E hr h => bd cdv A outer s H vs Q E hr h (takes_of rfl rfl rfl rfl) (passes_of rfl)
/-! ### book[..] -/
def spGetX (P : Program) (w : World) (K : PySem.W.Frag) (C XU : Addr) : Sp := fun vs H Q E => ∃ (x l m : Addr) (rows : List BRow) (as : List Addr) (v : V) (b : Bool), vs = [.ref x, v] ∧ BookAt P w K C H x l m rows as ∧ NumIs K H rows v b ∧ (b = false → Rz E XU "number" v H) ∧
  (b = true → ∃ (n : Nat) (r : BRow), v = .int (n : Nat) ∧ rows[n]? = some r ∧ ∀ p, as[n]? = some p → RowAt K H r p → Q (.ref p) H)
theorem ok_get (T : Txt K mg a d) : FnOk P w K mg base (L2.CX P w) 3 a.get d.get ["self", "number"] (spGetX P w K a.CBook a.CUnknownTerm) := by
  have G_isInt := ok_isInt (P := P) (w := w) (base := base) T
  refine okX T.F_get scGet (fun vs H Q E h => ?_) (fun cdv A outer s H vs Q E hr h tk po => ?_)
  · obtain ⟨x, l, m, rows, as, v, b, rfl, _⟩ := h
    rfl
  · obtain ⟨x, l, m, rows, as, v, b, rfl, bk, hn, q1, q2⟩ := h
    refine ⟨_, (pss_cons (ps_if (pt_not (pt_val (pe_call G_isInt (hr.mono (by decide)) (by rfl) T.mg_isInt T.F_isInt.kp T.b_isInt .nil pass0 (pa_cons (pv 1) (pa_cons pe_int (pa_cons (pe_op op_sub (pe_callB call_len_seq (by rfl) T.len_ Tp.bt_len (pa_cons (pe_fld (pv 0) (by rfl)) pa_nil)) pe_int) pa_nil)))))) (pss_one (Tp.ps_raiseB (k := 0) rfl (x_UnknownTerm T) (hr.mono (by decide)) tk (by rfl) T.mg_UnknownTerm (pa_cons (pv 1) pa_nil))) pss_nil)
      (pss_one (ps_ret (pe_ix ix_list (pe_fld (pv 0) (by rfl)) (pv 1) (fun _ _ => rfl))))), ?_⟩
    obtain ⟨dx, ho⟩ := bk.obj
    refine ⟨_, rfl, _, rfl, x, _, _, _, _, rfl, ho, T.cl_Book, T.n_Book_held, hd_look, l, _, rfl, .inl (SqL.of bk.lst), _, _, rfl, rfl, v, 0, _, b, rfl, ?_, _, rfl, ?_⟩
    · rw [List.length_map, ← bk.len]
      exact hn
    · cases b with
      | false => exact iteT ⟨_, rfl, (show 1 ≤ 1000 from by decide), fun z hz => ⟨z, _, rfl, upd_same, fun dz k n => ⟨rfl, dz, _, upd_same, by rw [upd_ne n]; exact upd_same, by rw [upd_ne n] at k; exact k, q1 rfl dz _ (same_fly hz k) upd_same⟩⟩⟩
      | true =>
        obtain ⟨n, r, rfl, hr', q⟩ := q2 rfl
        obtain ⟨p, hp, rp⟩ := Tp.paired_get bk.row hr'
        exact iteF ⟨_, rfl, x, _, _, _, _, rfl, ho, T.cl_Book, T.n_Book_held, hd_look, _, rfl, l, _, _, _, rfl, rfl, SqL.of bk.lst, atI_nat (by rw [List.getElem?_map, hp]; rfl), q p hp rp⟩
/-! ### == -/
def spEqX (P : Program) (w : World) (K : PySem.W.Frag) (C : Addr) : Sp := fun vs H Q _ => ∃ (x l m : Addr) (rows : List BRow) (as : List Addr) (y : V), vs = [.ref x, y] ∧ BookAt P w K C H x l m rows as ∧
  ((∃ (x' l' m' : Addr) (rows' : List BRow) (as' : List Addr), y = .ref x' ∧ BookAt P w K C H x' l' m' rows' as' ∧ (∀ r ∈ rows, nmB r.nm = true) ∧ (∀ r ∈ rows', nmB r.nm = true) ∧ Q (.bl (PyData.eqv (rowsD rows) (rowsD rows'))) H) ∨ ((∃ t, Tp.TyB K H y t ∧ PySem.W.kitOne K t (.ref C) = some false) ∧ Q (.bl false) H))
theorem ok_eq (T : Txt K mg a d) : FnOk P w K mg base CX0 2 a.eq d.eq ["self", "other"] (spEqX P w K a.CBook) := by
  refine okN T.F_eq scEq (fun vs H Q E h => ?_) (fun cdv A outer s H vs Q E hr h => ?_)
  · obtain ⟨x, l, m, rows, as, y, rfl, _⟩ := h
    rfl
  · obtain ⟨x, l, m, rows, as, y, rfl, bk, h⟩ := h
    refine ⟨_, (pss_one (ps_ret (pe_and (pe_callB (Tp.call_isB (K := K) rfl) (by rfl) T.isinstance_ Tp.bt_isinstance (pa_cons (pv 1) (pa_cons (pe_glob (v := .ref a.CBook) (by rfl) T.mg_Book rfl) pa_nil))) (pe_one (pe_cmpR (op_eqD hr.units) (pe_fld (pv 0) (by rfl)) (pe_fld (pv 1) (by rfl)) (nomark _)))))), ?_⟩
    obtain ⟨dx, ho⟩ := bk.obj
    rcases h with ⟨x', l', m', rows', as', rfl, bk', g, g', q⟩ | ⟨⟨t, ty, kt⟩, q⟩
    · obtain ⟨dx', ho'⟩ := bk'.obj
      refine ⟨_, rfl, _, _, _, _, true, rfl, .own _, .a (.x (book_ty T bk')), kit_self, _, rfl, iteT ?_⟩
      exact ⟨_, rfl, x, _, _, _, _, rfl, ho, T.cl_Book, T.n_Book_held, hd_look, _, rfl, x', _, _, _, _, rfl, ho', T.cl_Book, T.n_Book_held, hd_look, rowsD rows, rowsD rows', .lst (SqL.of bk.lst) (rows_dp bk.row), .lst (SqL.of bk'.lst) (rows_dp bk'.row), rows_shaped g, rows_shaped g', q⟩
    · exact ⟨_, rfl, _, _, _, _, false, rfl, .own _, ty, kt, _, rfl, iteF q⟩
/-! ### in -/
theorem ix_B {b : Bool} {H : Hp} {p : Addr} {xs : List V} {i : Int} {v : V} {Q : VK} (h : SqB b K H p xs) (e : atI xs i = some v) (q : Q v H) : L2.rIx K (.ref p) (.int i) H Q := by
  cases b with
  | false => exact .inl ⟨p, xs, i, v, rfl, rfl, h, e, q⟩
  | true => exact .inr (.inl ⟨p, xs, i, v, rfl, rfl, h, e, q⟩)
theorem look_mem {rows : List BRow} {as : List Addr} (h : rows.length = as.length) (r : BRow) : (lookN (ents 0 rows as) r.key).isSome = decide (r ∈ rows) := by
  rw [ents_look 0 rows as r h, Option.isSome_map]
  by_cases m : r ∈ rows
  · rw [decide_eq_true m]
    cases e : idxR rows r with
    | some i => rfl
    | none => exact absurd m (mem_idx e)
  · rw [decide_eq_false m, idx_none m]
    rfl
inductive HasIs (K : PySem.W.Frag) (H : Hp) (rows : List BRow) : V → Bool → Prop
  | noPair {v : V} : PairIs K H v false → HasIs K H rows v false
  | noStr {p : Addr} {c : Bool} {u s : V} {e : PyData} : SqB c K H p [u, s] → PairIs K H (.ref p) true → Dq K H u e → isS e = false → HasIs K H rows (.ref p) false
  | bad {p q : Addr} {c c' : Bool} {z : Str} {xs : List V} {bs : List Bool} : SqB c K H p [.str z, .ref q] → PairIs K H (.ref p) true → SqB c' K H q xs → Paired (TurnIs K H) xs bs → bs.all id = false → xs.length ≤ 1000 → HasIs K H rows (.ref p) false
  | lst {p q : Addr} {c c' : Bool} {z : Str} {ns : List Nat} : SqB c K H p [.str z, .ref q] → PairIs K H (.ref p) true → SqB c' K H q (numsV ns) → ns.length ≤ 1000 → HasIs K H rows (.ref p) (decide (⟨z, .inl ns⟩ ∈ rows))
  | noTurn {p : Addr} {c : Bool} {z : Str} {u : V} : SqB c K H p [.str z, u] → PairIs K H (.ref p) true → NoLT K H u → TurnIs K H u false → HasIs K H rows (.ref p) false
  | turn {p : Addr} {c : Bool} {z : Str} {t : Nat} : SqB c K H p [.str z, .int (t : Nat)] → PairIs K H (.ref p) true → HasIs K H rows (.ref p) (decide (⟨z, .inr t⟩ ∈ rows))
def spHas (P : Program) (w : World) (K : PySem.W.Frag) (C : Addr) : Sp := fun vs H Q _ => ∃ (x l m : Addr) (rows : List BRow) (as : List Addr) (v : V) (b : Bool), vs = [.ref x, v] ∧ BookAt P w K C H x l m rows as ∧ HasIs K H rows v b ∧ ∀ H', Same H H' → Q (.bl b) H'
theorem bools_it {H H' : Hp} {D : Addr} {bs : List Bool} {i : Nat} {b : Bool} (hb : bs[i]? = some b) (hD : H' D = some (.lst ((bs.take i).map V.bl))) : (upd H' D (.lst ((bs.take i).map V.bl ++ [V.bl b]))) D = some (.lst ((bs.take (i + 1)).map V.bl)) := by
  rw [upd_same, take_succ hb, List.map_append]
  rfl
theorem TurnsIs.same {H H' : Hp} {xs : List V} {bs : List Bool} (h : Paired (TurnIs K H) xs bs) (S : Same H H') : Paired (TurnIs K H') xs bs := paired_imp (fun _ _ h => TurnIs.same h S) h
theorem nums_turn {H : Hp} : ∀ ns : List Nat, Paired (TurnIs K H) (numsV ns) (List.replicate ns.length true)
  | [] => .nil
  | n :: ns => .cons (int_turn n) (nums_turn ns)
theorem ok_has (T : Txt K mg a d) : FnOk P w K mg base CX0 3 a.has d.has ["self", "value"] (spHas P w K a.CBook) := by
  have G_isPair := ok_isPair (P := P) (w := w) (base := base) T
  have G_isList := ok_isList (P := P) (w := w) (base := base) T
  have G_isTurn := ok_isTurn (P := P) (w := w) (base := base) T
  refine okN T.F_has scHas (fun vs H Q E h => ?_) (fun cdv A outer s H vs Q E hr h => ?_)
  · obtain ⟨x, l, m, rows, as, v, b, rfl, _⟩ := h
    rfl
  · obtain ⟨x, l, m, rows, as, v, b, rfl, bk, hs, q⟩ := h
    refine ⟨_, (pss_cons (ps_if (PW.pt (pw_or (pt_not (pt_val (pe_call G_isPair (hr.mono (by decide)) (by rfl) T.mg_isPair T.F_isPair.kp T.b_isPair .nil pass0 (pa_cons (pv 1) pa_nil)))) (pw_or1 (pt_not (pt_val (pe_callB call_isi (by rfl) T.isinstance_ Tp.bt_isinstance (pa_cons (pe_ix ix_seq (pv 1) pe_int (fun _ _ => rfl)) (pa_cons (pe_bltn (v := .ty "str") (by rfl) T.str_ Tp.bt_str rfl) pa_nil)))))))) (pss_one (ps_ret pe_bl)) pss_nil)
      (pss_cons (ps_if (pt_val (pe_call G_isList (hr.mono (by decide)) (by rfl) T.mg_isList T.F_isList.kp T.b_isList .nil pass0 (pa_cons (pe_ix ix_seq (pv 1) pe_int (fun _ _ => rfl)) pa_nil))) (pss_one (ps_ret (pe_and (pe_callB (cr_all rfl) (by rfl) T.all_ Tp.bt_all (pa_cons (pe_lc (own := [("item", 2)]) (by rfl) scHas.nd (Tp.pi_B (K := K) rfl (pe_ix ix_seq (pv 1) pe_int (fun _ _ => rfl))) (blkOk_by (own := [("item", 2)]) (N := scHas_N) (sc := defScope scHas_st) (by decide +kernel)) (fun _ _ _ _ _ => (pg_name (i := 2) scHas.nd rfl (Or.inl rfl))) (fun _ _ _ _ _ => pts_nil) (fun _ _ _ _ _ => (pe_call G_isTurn (hr.mono (by decide)) (by rfl) T.mg_isTurn T.F_isTurn.kp T.b_isTurn .nil pass0 (pa_cons (pv 2) pa_nil)))) pa_nil)) (pe_one (pe_cmpR (Tp.op_inN hr.units) (pe_tup (pa_cons (pe_ix ix_seq (pv 1) pe_int (fun _ _ => rfl)) (pa_cons (pe_callTy call_tuple_of (by rfl) T.tuple_ Tp.bt_tuple (pa_cons (pe_ix ix_seq (pv 1) pe_int (fun _ _ => rfl)) pa_nil)) pa_nil))) (pe_fld (pv 0) (by rfl)) (by rfl)))))) pss_nil)
      (pss_one (ps_ret (pe_and (pe_call G_isTurn (hr.mono (by decide)) (by rfl) T.mg_isTurn T.F_isTurn.kp T.b_isTurn .nil pass0 (pa_cons (pe_ix ix_seq (pv 1) pe_int (fun _ _ => rfl)) pa_nil)) (pe_one (pe_cmpR (Tp.op_inN hr.units) (pe_tup (pa_cons (pe_ix ix_seq (pv 1) pe_int (fun _ _ => rfl)) (pa_cons (pe_ix ix_seq (pv 1) pe_int (fun _ _ => rfl)) pa_nil))) (pe_fld (pv 0) (by rfl)) (by rfl)))))))), ?_⟩
    cases hs with
    | noPair hp => exact ⟨_, rfl, v, false, rfl, hp, fun H1 S1 => ⟨_, rfl, iteT (iteT (q H1 S1))⟩⟩
    | @noStr p c u s e sq hp dq no =>
      refine ⟨_, rfl, _, true, rfl, hp, fun H1 S1 => ⟨_, rfl, iteF ⟨_, rfl, ix_B (sq.same S1) rfl ?_⟩⟩⟩
      refine ⟨_, _, _, _, isS e, rfl, .ty _, dq_ty ((dq_same S1).1 dq), kit_str e, _, rfl, ?_⟩
      rw [no]
      exact iteT (q H1 S1)
    | @bad p q' c c' z xs bs sq hp sq2 tb al few =>
      refine ⟨_, rfl, _, true, rfl, hp, fun H1 S1 => ⟨_, rfl, iteF ⟨_, rfl, ix_B (sq.same S1) rfl ?_⟩⟩⟩
      refine ⟨_, _, _, _, true, rfl, .ty _, .base (.str z), kit_ty (by decide +kernel), _, rfl, iteF ?_⟩
      obtain ⟨t, ty, kt⟩ := tyB (sq2.same S1)
      refine ⟨_, rfl, ix_B (sq.same S1) rfl ⟨_, t, true, rfl, ty, kt, fun H2 S2 => ⟨_, rfl, iteT ?_⟩⟩⟩
      have S12 := S1.trans S2
      refine ⟨_, rfl, ix_B (sq.same S12) rfl ⟨c', q', xs, rfl, sq2.same S12, fun D hD => lc_it (walk_B (xs := xs)) (fun i H' => Same H2 H' ∧ H' D = some (.lst ((bs.take i).map V.bl))) ⟨same_new hD, upd_same⟩ ?_ ?_ ?_⟩⟩
      · rintro i H' _ ⟨S, _⟩
        exact sq2.same (S12.trans S)
      · rintro i v _ H' hi ⟨S, hD'⟩ ⟨rfl, hv⟩
        obtain ⟨b, hb, tu⟩ := Tp.paired_get tb hv
        refine ⟨rfl, _, rfl, v, b, rfl, TurnIs.same tu (S12.trans S), _, hD', ?_, Tp.Same.mut S hD, bools_it (H := H') hb hD'⟩
        rw [List.length_map, List.length_take]
        exact Nat.lt_of_le_of_lt (show _ ≤ 1000 by omega) (by decide)
      · rintro H3 ⟨S3, hD'⟩
        have lb : xs.length = bs.length := Paired.length tb
        rw [lb, List.take_length] at hD'
        refine ⟨D, _, rfl, SqL.of hD', _, rfl, ?_⟩
        rw [al]
        exact iteF (q H3 (S12.trans S3))
    | @lst p q' c c' z ns sq hp sq2 few =>
      have tb := nums_turn (K := K) (H := H) ns
      have nl := numsV_len ns
      refine ⟨_, rfl, _, true, rfl, hp, fun H1 S1 => ⟨_, rfl, iteF ⟨_, rfl, ix_B (sq.same S1) rfl ?_⟩⟩⟩
      refine ⟨_, _, _, _, true, rfl, .ty _, .base (.str z), kit_ty (by decide +kernel), _, rfl, iteF ?_⟩
      obtain ⟨t, ty, kt⟩ := tyB (sq2.same S1)
      refine ⟨_, rfl, ix_B (sq.same S1) rfl ⟨_, t, true, rfl, ty, kt, fun H2 S2 => ⟨_, rfl, iteT ?_⟩⟩⟩
      have S12 := S1.trans S2
      refine ⟨_, rfl, ix_B (sq.same S12) rfl ⟨c', q', numsV ns, rfl, sq2.same S12, fun D hD => lc_it (walk_B (xs := numsV ns)) (fun i H' => Same H2 H' ∧ H' D = some (.lst (((List.replicate ns.length true).take i).map V.bl))) ⟨same_new hD, upd_same⟩ ?_ ?_ ?_⟩⟩
      · rintro i H' _ ⟨S, _⟩
        exact sq2.same (S12.trans S)
      · rintro i v _ H' hi ⟨S, hD'⟩ ⟨rfl, hv⟩
        obtain ⟨b, hb, tu⟩ := Tp.paired_get tb hv
        refine ⟨rfl, _, rfl, v, b, rfl, TurnIs.same tu (S12.trans S), _, hD', ?_, Tp.Same.mut S hD, bools_it (H := H') hb hD'⟩
        rw [List.length_map, List.length_take]
        exact Nat.lt_of_le_of_lt (show _ ≤ 1000 by omega) (by decide)
      · rintro H3 ⟨S3, hD'⟩
        have e1 : (List.replicate ns.length true).take (numsV ns).length = List.replicate ns.length true := by
          rw [nl]
          exact List.take_of_length_le (by simp)
        rw [e1] at hD'
        refine ⟨D, _, rfl, SqL.of hD', _, rfl, ?_⟩
        have ea : (List.replicate ns.length true).all id = true := List.all_eq_true.mpr fun y hy => by rw [List.eq_of_mem_replicate hy]; rfl
        rw [ea]
        have S13 := S12.trans S3
        refine iteT ⟨_, rfl, ix_B (sq.same S13) rfl ⟨_, rfl, ix_B (sq.same S13) rfl ⟨q', numsV ns, rfl, ?_⟩⟩⟩
        have sq3 := sq2.same S13
        cases c' with
        | true =>
          refine .inr ⟨sq3, (show 2 ≤ sizeLine from by decide), fun t2 ht2 => ?_⟩
          have S4 := same_new (o := .tup [.str z, .ref q']) ht2
          have g4 : (upd H3 t2 (.tup [.str z, .ref q'])) t2 = some (.tup [.str z, .ref q']) := upd_same
          generalize upd H3 t2 (.tup [.str z, .ref q']) = H4 at S4 g4 ⊢
          have bk4 := bk.same (S13.trans S4)
          obtain ⟨dx, ho⟩ := bk4.obj
          have rw4 : RowAt K H4 ⟨z, .inl ns⟩ t2 := .mkL (SqT.of g4) (sqT_same S4 sq3)
          refine ⟨_, rfl, x, _, _, _, _, rfl, ho, T.cl_Book, T.n_Book_numbers, nm_look, m, t2, _, _, rfl, rfl, bk4.num, bk4.nok, rw4.nk, key_depth _, ?_⟩
          show Q (V.bl (lookN (ents 0 rows as) (BRow.key ⟨z, .inl ns⟩)).isSome) H4
          rw [look_mem bk4.len]
          exact q H4 (S13.trans S4)
        | false =>
          refine .inl ⟨sq3, fun t1 ht1 => ⟨(show 2 ≤ sizeLine from by decide), fun t2 ht2 => ?_⟩⟩
          have S3' := same_new (o := .tup (numsV ns)) ht1
          have g3' : (upd H3 t1 (.tup (numsV ns))) t1 = some (.tup (numsV ns)) := upd_same
          generalize upd H3 t1 (.tup (numsV ns)) = H3' at S3' g3' ht2 ⊢
          have S4 := same_new (o := .tup [.str z, .ref t1]) ht2
          have g4 : (upd H3' t2 (.tup [.str z, .ref t1])) t2 = some (.tup [.str z, .ref t1]) := upd_same
          generalize upd H3' t2 (.tup [.str z, .ref t1]) = H4 at S4 g4 ⊢
          have bk4 := bk.same (S13.trans (S3'.trans S4))
          obtain ⟨dx, ho⟩ := bk4.obj
          have rw4 : RowAt K H4 ⟨z, .inl ns⟩ t2 := .mkL (SqT.of g4) (SqT.of (S4 _ _ g3'))
          refine ⟨_, rfl, x, _, _, _, _, rfl, ho, T.cl_Book, T.n_Book_numbers, nm_look, m, t2, _, _, rfl, rfl, bk4.num, bk4.nok, rw4.nk, key_depth _, ?_⟩
          show Q (V.bl (lookN (ents 0 rows as) (BRow.key ⟨z, .inl ns⟩)).isSome) H4
          rw [look_mem bk4.len]
          exact q H4 (S13.trans (S3'.trans S4))
    | @noTurn p c z u sq hp nl tu =>
      refine ⟨_, rfl, _, true, rfl, hp, fun H1 S1 => ⟨_, rfl, iteF ⟨_, rfl, ix_B (sq.same S1) rfl ?_⟩⟩⟩
      refine ⟨_, _, _, _, true, rfl, .ty _, .base (.str z), kit_ty (by decide +kernel), _, rfl, iteF ?_⟩
      obtain ⟨t, ty, kt⟩ := nl
      refine ⟨_, rfl, ix_B (sq.same S1) rfl ⟨_, t, false, rfl, ty_same S1 ty, kt, fun H2 S2 => ⟨_, rfl, iteF ?_⟩⟩⟩
      have S12 := S1.trans S2
      exact ⟨_, rfl, ix_B (sq.same S12) rfl ⟨u, false, rfl, TurnIs.same tu S12, _, rfl, iteF (q H2 S12)⟩⟩
    | @turn p c z t sq hp =>
      refine ⟨_, rfl, _, true, rfl, hp, fun H1 S1 => ⟨_, rfl, iteF ⟨_, rfl, ix_B (sq.same S1) rfl ?_⟩⟩⟩
      refine ⟨_, _, _, _, true, rfl, .ty _, .base (.str z), kit_ty (by decide +kernel), _, rfl, iteF ?_⟩
      refine ⟨_, rfl, ix_B (sq.same S1) rfl ⟨_, _, false, rfl, .base (.int _), kit_lt (.int 0), fun H2 S2 => ⟨_, rfl, iteF ?_⟩⟩⟩
      have S12 := S1.trans S2
      refine ⟨_, rfl, ix_B (sq.same S12) rfl ⟨_, true, rfl, int_turn t, _, rfl, iteT ?_⟩⟩
      refine ⟨_, rfl, ix_B (sq.same S12) rfl ⟨_, rfl, ix_B (sq.same S12) rfl ⟨(show 2 ≤ sizeLine from by decide), fun t2 ht2 => ?_⟩⟩⟩
      have S4 := same_new (o := .tup [.str z, .int (t : Nat)]) ht2
      have g4 : (upd H2 t2 (.tup [.str z, .int (t : Nat)])) t2 = some (.tup [.str z, .int (t : Nat)]) := upd_same
      generalize upd H2 t2 (.tup [.str z, .int (t : Nat)]) = H4 at S4 g4 ⊢
      have bk4 := bk.same (S12.trans S4)
      obtain ⟨dx, ho⟩ := bk4.obj
      have rw4 : RowAt K H4 ⟨z, .inr t⟩ t2 := .mkT (SqT.of g4)
      refine ⟨_, rfl, x, _, _, _, _, rfl, ho, T.cl_Book, T.n_Book_numbers, nm_look, m, t2, _, _, rfl, rfl, bk4.num, bk4.nok, rw4.nk, key_depth _, ?_⟩
      show Q (V.bl (lookN (ents 0 rows as) (BRow.key ⟨z, .inr t⟩)).isSome) H4
      rw [look_mem bk4.len]
      exact q H4 (S12.trans S4)
end
end L04

set_option Elab.async false
set_option linter.all false
set_option maxRecDepth 100000
set_option maxHeartbeats 4000000
set_option pp.deepTerms false
set_option pp.deepTerms.threshold 4
set_option pp.maxSteps 1000
namespace L04
open PySem L2 Tp
section
variable {P : Program} {w : World} {K : PySem.W.Frag} {mg : Str → Option Value} {base : Heap} {a : Ad} {d : Fd}
/-! ### add_item -/
theorem turn_no {b : Bool} {H : Hp} {q : Addr} {xs : List V} (h : SqB b K H q xs) : TurnIs K H (.ref q) false := by
  cases b with
  | true => exact .inr ⟨⟨_, ty_sqT h, kit_int (.tuple [])⟩, rfl⟩
  | false => exact .inr ⟨⟨_, ty_sqL h, kit_int (.list [])⟩, rfl⟩
inductive SecIs (K : PySem.W.Frag) (H : Hp) : V → Bool → Prop
  | turn (t : Nat) : SecIs K H (.int (t : Nat)) true
  | lst {q : Addr} {c b : Bool} {xs : List V} : SqB c K H q xs → b = decide (xs.length ≤ 3) → SecIs K H (.ref q) b
  | no {s : V} : NoLT K H s → TurnIs K H s false → SecIs K H s false
inductive ItO where
  | row : ItO
  | name (u : V) : ItO
  | ok (r : BRow) : ItO
def outR (rows : List BRow) (r : BRow) : ItO := if r ∈ rows then .row else .ok r
def NumsIs (K : PySem.W.Frag) (H : Hp) (n : Nat) (xs : List V) (bs : List Bool) : Prop := Paired (fun v b => IntIs K H v 0 ((n : Nat) - 1) b) xs bs
theorem NumsIs.same {H H' : Hp} {n : Nat} {xs : List V} {bs : List Bool} (h : NumsIs K H n xs bs) (S : Same H H') : NumsIs K H' n xs bs := paired_imp (fun _ _ h => h.same S) h
inductive ArgOk (K : PySem.W.Frag) (H : Hp) (n : Nat) : V → Sum (List Nat) Nat → Prop
  | turn (t : Nat) : ArgOk K H n (.int (t : Nat)) (.inr t)
  | lst {q : Addr} {c : Bool} {ns : List Nat} : SqB c K H q (numsV ns) → (∀ k ∈ ns, k < n) → ns.length ≤ 1000 → ArgOk K H n (.ref q) (.inl ns)
theorem ArgOk.same {H H' : Hp} {n : Nat} {s : V} {sec : Sum (List Nat) Nat} (h : ArgOk K H n s sec) (S : Same H H') : ArgOk K H' n s sec := by
  cases h with
  | turn t => exact .turn t
  | lst h1 h2 h3 => exact .lst (h1.same S) h2 h3
inductive ArgsIs (K : PySem.W.Frag) (H : Hp) (rows : List BRow) (z : Str) : V → ItO → Prop
  | bad {q : Addr} {c : Bool} {xs : List V} {bs : List Bool} : SqB c K H q xs → NumsIs K H rows.length xs bs → bs.all id = false → xs.length ≤ 1000 → ArgsIs K H rows z (.ref q) .row
  | ok {s : V} {sec : Sum (List Nat) Nat} : ArgOk K H rows.length s sec → ArgsIs K H rows z s (outR rows ⟨z, sec⟩)
inductive ItemIs (K : PySem.W.Frag) (H : Hp) (rows : List BRow) : V → ItO → Prop
  | noPair {v : V} : PairIs K H v false → ItemIs K H rows v .row
  | sec {p : Addr} {c : Bool} {u s : V} : SqB c K H p [u, s] → PairIs K H (.ref p) true → SecIs K H s false → ItemIs K H rows (.ref p) .row
  | name {p : Addr} {c : Bool} {u s : V} : SqB c K H p [u, s] → PairIs K H (.ref p) true → SecIs K H s true → NameIs K H u false → ItemIs K H rows (.ref p) (.name u)
  | args {p : Addr} {c : Bool} {z : Str} {s : V} {o : ItO} : SqB c K H p [.str z, s] → PairIs K H (.ref p) true → SecIs K H s true → NameIs K H (.str z) true → ArgsIs K H rows z s o → ItemIs K H rows (.ref p) o
theorem PairIs.same {H H' : Hp} {v : V} {b : Bool} (h : PairIs K H v b) (S : Same H H') : PairIs K H' v b := by
  rcases h with ⟨e, h, z⟩ | ⟨⟨t, ty, k⟩, z⟩
  · exact .inl ⟨e, (dq_same S).1 h, z⟩
  · exact .inr ⟨⟨t, ty_same S ty, k⟩, z⟩
theorem SecIs.same {H H' : Hp} {v : V} {b : Bool} (h : SecIs K H v b) (S : Same H H') : SecIs K H' v b := by
  cases h with
  | turn t => exact .turn t
  | lst h e => exact .lst (h.same S) e
  | no h1 h2 =>
    obtain ⟨t, ty, k⟩ := h1
    exact .no ⟨t, ty_same S ty, k⟩ (TurnIs.same h2 S)
theorem ArgsIs.same {H H' : Hp} {rows : List BRow} {z : Str} {v : V} {o : ItO} (h : ArgsIs K H rows z v o) (S : Same H H') : ArgsIs K H' rows z v o := by
  cases h with
  | bad h1 h2 h3 h4 => exact .bad (h1.same S) (h2.same S) h3 h4
  | ok h => exact .ok (h.same S)
theorem ItemIs.same {H H' : Hp} {rows : List BRow} {v : V} {o : ItO} (h : ItemIs K H rows v o) (S : Same H H') : ItemIs K H' rows v o := by
  cases h with
  | noPair h => exact .noPair (h.same S)
  | sec h1 h2 h3 => exact .sec (h1.same S) (h2.same S) (h3.same S)
  | name h1 h2 h3 h4 => exact .name (h1.same S) (h2.same S) (h3.same S) (NameIs.same h4 S)
  | args h1 h2 h3 h4 h5 => exact .args (h1.same S) (h2.same S) (h3.same S) (NameIs.same h4 S) (h5.same S)
def SecV (K : PySem.W.Frag) (H : Hp) (sec : Sum (List Nat) Nat) (s : V) : Prop := match sec with
  | .inl ns => ∃ q, s = .ref q ∧ SqT K H q (numsV ns)
  | .inr t => s = .int (t : Nat)
theorem SecV.row {H : Hp} {z : Str} {sec : Sum (List Nat) Nat} {s : V} {t : Addr} (h : SecV K H sec s) (g : SqT K H t [.str z, s]) : RowAt K H ⟨z, sec⟩ t := by
  cases sec with
  | inl ns =>
    obtain ⟨q, rfl, h⟩ := h
    exact .mkL g h
  | inr t =>
    cases (show s = .int (t : Nat) from h)
    exact .mkT g
theorem SecV.same {H H' : Hp} {sec : Sum (List Nat) Nat} {s : V} (h : SecV K H sec s) (S : Same H H') : SecV K H' sec s := by
  cases sec with
  | inl ns =>
    obtain ⟨q, e, h⟩ := h
    exact ⟨q, e, sqT_same S h⟩
  | inr t => exact h
def spAddX (P : Program) (w : World) (K : PySem.W.Frag) (C XR XN : Addr) : Sp := fun vs H Q E => ∃ (x l m : Addr) (rows : List BRow) (as : List Addr) (v : V) (o : ItO), vs = [.ref x, v] ∧ BookAt P w K C H x l m rows as ∧ rows.length < 100000 ∧ ItemIs K H rows v o ∧ (o = .row → Rz E XR "value" v H) ∧ (∀ u, o = .name u → Rz E XN "value" u H) ∧
  ∀ r, o = .ok r → ∀ H' as', Kp2 l m H H' → BookAt P w K C H' x l m (rows ++ [r]) as' → Q .non H'
theorem ok_addItem (T : Txt K mg a d) : FnOk P w K mg base (L2.CX P w) 3 a.addItem d.addItem ["self", "item"] (spAddX P w K a.CBook a.CInvalidRow a.CInvalidName) := by
  have G_isPair := ok_isPair (P := P) (w := w) (base := base) T
  have G_isTurn := ok_isTurn (P := P) (w := w) (base := base) T
  have G_isList := ok_isList (P := P) (w := w) (base := base) T
  have G_isName := ok_isName (P := P) (w := w) (base := base) T
  have G_hasNumber := ok_hasNumber (P := P) (w := w) (base := base) T
  have G_numberOf := ok_numberOf (P := P) (w := w) (base := base) T
  refine okX T.F_addItem scAddItem (fun vs H Q E h => ?_) (fun cdv A outer s H vs Q E hr h tk po => ?_)
  · obtain ⟨x, l, m, rows, as, v, o, rfl, _⟩ := h
    rfl
  · obtain ⟨x, l, m, rows, as, v, o, rfl, bk, few, it, q1, q2, q3⟩ := h
    refine ⟨_, (pss_cons (ps_if (pt_not (pt_val (pe_call G_isPair (hr.mono (by decide)) (by rfl) T.mg_isPair T.F_isPair.kp T.b_isPair .nil pass0 (pa_cons (pv 1) pa_nil)))) (pss_one (Tp.ps_raiseB (k := 0) rfl (x_InvalidRow T) (hr.mono (by decide)) tk (by rfl) T.mg_InvalidRow (pa_cons (pv 1) pa_nil))) pss_nil)
      (pss_cons (ps_asg (pv 1) (Tp.pg_B (n := 2) (K := K) rfl rfl (pgs_cons (pg_name (i := 2) scAddItem.nd rfl (Or.inl rfl)) (pgs_cons (pg_name (i := 3) scAddItem.nd rfl (Or.inl rfl)) pgs_nil))))
      (Evl.pss_cut (ps_if (PW.pt (pw_and (pt_not (pt_val (pe_call G_isTurn (hr.mono (by decide)) (by rfl) T.mg_isTurn T.F_isTurn.kp T.b_isTurn .nil pass0 (pa_cons (pv 3) pa_nil)))) (pw_and1 (pt_not (PW.pt (pw_and (pt_val (pe_call G_isList (hr.mono (by decide)) (by rfl) T.mg_isList T.F_isList.kp T.b_isList .nil pass0 (pa_cons (pv 3) pa_nil))) (pw_and1 (pt_cmpR op_le (pe_callB call_len_seq (by rfl) T.len_ Tp.bt_len (pa_cons (pv 3) pa_nil)) (Tp.pe_glI (by rfl) T.mg_MOST_ARGUMENTS) (nomark _))))))))) (pss_one (Tp.ps_raiseB (k := 0) rfl (x_InvalidRow T) (hr.mono (by decide)) tk (by rfl) T.mg_InvalidRow (pa_cons (pv 1) pa_nil))) pss_nil)
      (pss_cons (ps_if (pt_not (pt_val (pe_call G_isName (hr.mono (by decide)) (by rfl) T.mg_isName T.F_isName.kp T.b_isName .nil pass0 (pa_cons (pv 2) pa_nil)))) (pss_one (Tp.ps_raiseB (k := 0) rfl (x_InvalidName T) (hr.mono (by decide)) tk (by rfl) T.mg_InvalidName (pa_cons (pv 2) pa_nil))) pss_nil)
      (Evl.pss_cut (ps_if (pt_val (pe_call G_isList (hr.mono (by decide)) (by rfl) T.mg_isList T.F_isList.kp T.b_isList .nil pass0 (pa_cons (pv 3) pa_nil))) (pss_cons (ps_if (pt_not (pt_val (pe_callB (cr_all rfl) (by rfl) T.all_ Tp.bt_all (pa_cons (pe_lc (own := [("number", 4)]) (by rfl) scAddItem.nd (Tp.pi_B (K := K) rfl (pv 3)) (blkOk_by (own := [("number", 4)]) (N := scAddItem_N) (sc := defScope scAddItem_st) (by decide +kernel)) (fun _ _ _ _ _ => (pg_name (i := 4) scAddItem.nd rfl (Or.inl rfl))) (fun _ _ _ _ _ => pts_nil) (fun _ _ _ _ _ => (pe_meth (pv 0) T.cl_Book T.me_hasNumber G_hasNumber (hr.mono (by decide)) T.b_hasNumber .nil pass0 (pa_cons (pv 4) pa_nil)))) pa_nil)))) (pss_one (Tp.ps_raiseB (k := 0) rfl (x_InvalidRow T) (hr.mono (by decide)) tk (by rfl) T.mg_InvalidRow (pa_cons (pv 1) pa_nil))) pss_nil)
      (pss_one (ps_set (i := 3) scAddItem.nd rfl (Or.inl rfl) (pe_callTy call_tuple_of (by rfl) T.tuple_ Tp.bt_tuple (pa_cons (pv 3) pa_nil))))) pss_nil)
      (pss_cons (ps_if (pt_cmpR (Tp.op_inN hr.units) (pe_tup (pa_cons (pv 2) (pa_cons (pv 3) pa_nil))) (pe_fld (pv 0) (by rfl)) (by rfl)) (pss_one (Tp.ps_raiseB (k := 0) rfl (x_InvalidRow T) (hr.mono (by decide)) tk (by rfl) T.mg_InvalidRow (pa_cons (pv 1) pa_nil))) pss_nil)
      (pss_one (ps_expr (pe_meth (pv 0) T.cl_Book T.me_numberOf G_numberOf (hr.mono (by decide)) T.b_numberOf .nil pass0 (pa_cons (pe_tup (pa_cons (pv 2) (pa_cons (pv 3) pa_nil))) pa_nil)))))))))), ?_⟩
    cases it with
    | noPair hp => exact ⟨_, rfl, v, false, rfl, hp, fun H1 S1 => ⟨_, rfl, iteT ⟨_, rfl, (show 1 ≤ 1000 from by decide), fun z hz => ⟨z, _, rfl, upd_same, fun dz k n => ⟨rfl, dz, _, upd_same, by rw [upd_ne n]; exact upd_same, by rw [upd_ne n] at k; exact k, ((q1 rfl).same S1) dz _ (same_fly hz k) upd_same⟩⟩⟩⟩⟩
    | @sec p c u s sq hp hs =>
      refine ⟨_, rfl, _, true, rfl, hp, fun H1 S1 => ⟨_, rfl, iteF ?_⟩⟩
      refine ⟨_, rfl, c, p, _, rfl, sq.same S1, rfl, _, _, rfl, _, _, rfl, rfl, ?_⟩
      refine ⟨fun _ _ => False, ?_, (fun _ _ z => z.elim)⟩
      have q1 := q1 rfl
      cases hs with
      | @lst q c' _ xs sq2 eb =>
        have sq3 := sq2.same S1
        obtain ⟨t, ty, kt⟩ := tyB sq3
        have l3 : ¬ (((xs.length : Nat) : Int) ≤ 3) := fun z => by
          rw [decide_eq_true (show xs.length ≤ 3 by omega)] at eb
          cases eb
        refine ⟨_, rfl, _, false, rfl, turn_no sq3, _, rfl, iteT ⟨_, rfl, _, t, true, rfl, ty, kt, fun H2 S2 => ⟨_, rfl, iteT ?_⟩⟩⟩
        exact ⟨_, rfl, q, xs, rfl, sqB_len (sq3.same S2), _, _, rfl, rfl, _, rfl, ifnN l3 ⟨_, rfl, (show 1 ≤ 1000 from by decide), fun z hz => ⟨z, _, rfl, upd_same, fun dz k n => ⟨rfl, dz, _, upd_same, by rw [upd_ne n]; exact upd_same, by rw [upd_ne n] at k; exact k, (q1.same (S1.trans S2)) dz _ (same_fly hz k) upd_same⟩⟩⟩⟩
      | no nl tu =>
        obtain ⟨t, ty, kt⟩ := nl
        exact ⟨_, rfl, _, false, rfl, TurnIs.same tu S1, _, rfl, iteT ⟨_, rfl, _, t, false, rfl, ty_same S1 ty, kt, fun H2 S2 => ⟨_, rfl, iteF (iteT ⟨_, rfl, (show 1 ≤ 1000 from by decide), fun z hz => ⟨z, _, rfl, upd_same, fun dz k n => ⟨rfl, dz, _, upd_same, by rw [upd_ne n]; exact upd_same, by rw [upd_ne n] at k; exact k, (q1.same (S1.trans S2)) dz _ (same_fly hz k) upd_same⟩⟩⟩)⟩⟩⟩
    | @name p c u s sq hp hs nm =>
      refine ⟨_, rfl, _, true, rfl, hp, fun H1 S1 => ⟨_, rfl, iteF ?_⟩⟩
      refine ⟨_, rfl, c, p, _, rfl, sq.same S1, rfl, _, _, rfl, _, _, rfl, rfl, ?_⟩
      refine ⟨fun σ H' => Same H1 H' ∧ σ = [some (.ref x), some (.ref p), some u, some s, none], ?_, ?_⟩
      · cases hs with
        | turn t => exact ⟨_, rfl, _, true, rfl, int_turn t, _, rfl, iteF (iteF ⟨Same.refl _, rfl⟩)⟩
        | @lst q c' _ xs sq2 eb =>
          have sq3 := sq2.same S1
          obtain ⟨t, ty, kt⟩ := tyB sq3
          have l3 : ((xs.length : Nat) : Int) ≤ 3 := by
            have := of_decide_eq_true eb.symm
            omega
          refine ⟨_, rfl, _, false, rfl, turn_no sq3, _, rfl, iteT ⟨_, rfl, _, t, true, rfl, ty, kt, fun H2 S2 => ⟨_, rfl, iteT ?_⟩⟩⟩
          exact ⟨_, rfl, q, xs, rfl, sqB_len (sq3.same S2), _, _, rfl, rfl, _, rfl, ifnY l3 ⟨S2, rfl⟩⟩
      · rintro σ H2 ⟨S2, rfl⟩
        have S12 := S1.trans S2
        exact ⟨_, rfl, u, false, rfl, NameIs.same nm S12, _, rfl, iteT ⟨_, rfl, (show 1 ≤ 1000 from by decide), fun z hz => ⟨z, _, rfl, upd_same, fun dz k n => ⟨rfl, dz, _, upd_same, by rw [upd_ne n]; exact upd_same, by rw [upd_ne n] at k; exact k, ((q2 u rfl).same S12) dz _ (same_fly hz k) upd_same⟩⟩⟩⟩
    | @args p c z s o sq hp hs nm ha =>
      refine ⟨_, rfl, _, true, rfl, hp, fun H1 S1 => ⟨_, rfl, iteF ?_⟩⟩
      refine ⟨_, rfl, c, p, _, rfl, sq.same S1, rfl, _, _, rfl, _, _, rfl, rfl, ?_⟩
      refine ⟨fun σ H' => Same H1 H' ∧ σ = [some (.ref x), some (.ref p), some (.str z), some s, none], ?_, ?_⟩
      · cases hs with
        | turn t => exact ⟨_, rfl, _, true, rfl, int_turn t, _, rfl, iteF (iteF ⟨Same.refl _, rfl⟩)⟩
        | @lst q c' _ xs sq2 eb =>
          have sq3 := sq2.same S1
          obtain ⟨t, ty, kt⟩ := tyB sq3
          have l3 : ((xs.length : Nat) : Int) ≤ 3 := by
            have := of_decide_eq_true eb.symm
            omega
          refine ⟨_, rfl, _, false, rfl, turn_no sq3, _, rfl, iteT ⟨_, rfl, _, t, true, rfl, ty, kt, fun H2 S2 => ⟨_, rfl, iteT ?_⟩⟩⟩
          exact ⟨_, rfl, q, xs, rfl, sqB_len (sq3.same S2), _, _, rfl, rfl, _, rfl, ifnY l3 ⟨S2, rfl⟩⟩
      · rintro σ H2 ⟨S2, rfl⟩
        have S12 := S1.trans S2
        refine ⟨_, rfl, _, true, rfl, NameIs.same nm S12, _, rfl, iteF ?_⟩
        have bk2 := bk.same S12
        cases ha with
        | @bad q c' xs bs sq2 nb al l10 =>
          refine ⟨fun _ _ => False, ?_, (fun _ _ z => z.elim)⟩
          obtain ⟨t, ty, kt⟩ := tyB (sq2.same S12)
          refine ⟨_, rfl, _, t, true, rfl, ty, kt, fun H3 S3 => ⟨_, rfl, iteT ?_⟩⟩
          have S13 := S12.trans S3
          refine ⟨_, rfl, c', q, xs, rfl, sq2.same S13, fun D hD => lc_it (walk_B (xs := xs)) (fun i H' => Same H3 H' ∧ H' D = some (.lst ((bs.take i).map V.bl))) ⟨same_new hD, upd_same⟩ ?_ ?_ ?_⟩
          · rintro i H' _ ⟨S, _⟩
            exact sq2.same (S13.trans S)
          · rintro i v _ H' hi ⟨S, hD'⟩ ⟨rfl, hv⟩
            obtain ⟨b, hb, iv⟩ := Tp.paired_get nb hv
            have bk' := bk.same (S13.trans S)
            obtain ⟨dx, ho⟩ := bk'.obj
            refine ⟨rfl, _, rfl, x, _, _, rfl, ho, no_look (by decide) (by decide), _, rfl, x, l, m, rows, as, v, b, rfl, bk', IntIs.same iv (S13.trans S), _, hD', ?_, Tp.Same.mut S hD, bools_it (H := H') hb hD'⟩
            rw [List.length_map, List.length_take]
            exact Nat.lt_of_le_of_lt (show _ ≤ 1000 by omega) (by decide)
          · rintro H4 ⟨S4, hD'⟩
            have lb : xs.length = bs.length := Paired.length nb
            rw [lb, List.take_length] at hD'
            refine ⟨D, _, rfl, SqL.of hD', _, rfl, ?_⟩
            rw [al]
            exact iteT ⟨_, rfl, (show 1 ≤ 1000 from by decide), fun z hz => ⟨z, _, rfl, upd_same, fun dz k n => ⟨rfl, dz, _, upd_same, by rw [upd_ne n]; exact upd_same, by rw [upd_ne n] at k; exact k, ((q1 rfl).same (S13.trans S4)) dz _ (same_fly hz k) upd_same⟩⟩⟩
        | @ok s sec hok =>
          refine ⟨fun σ H' => Same H2 H' ∧ ∃ s', SecV K H' sec s' ∧ σ = [some (.ref x), some (.ref p), some (.str z), some s', none], ?_, ?_⟩
          · cases hok with
            | turn t => exact ⟨_, rfl, _, _, false, rfl, .base (.int _), kit_lt (.int 0), fun H3 S3 => ⟨_, rfl, iteF ⟨S3, _, rfl, rfl⟩⟩⟩
            | @lst q c' ns sq2 lt l10 =>
              have nl := numsV_len ns
              obtain ⟨t, ty, kt⟩ := tyB (sq2.same S12)
              refine ⟨_, rfl, _, t, true, rfl, ty, kt, fun H3 S3 => ⟨_, rfl, iteT ?_⟩⟩
              have S13 := S12.trans S3
              refine ⟨_, rfl, c', q, numsV ns, rfl, sq2.same S13, fun D hD => lc_it (walk_B (xs := numsV ns)) (fun i H' => Same H3 H' ∧ H' D = some (.lst ((List.replicate i true).map V.bl))) ⟨same_new hD, upd_same⟩ ?_ ?_ ?_⟩
              · rintro i H' _ ⟨S, _⟩
                exact sq2.same (S13.trans S)
              · rintro i v _ H' hi ⟨S, hD'⟩ ⟨rfl, hv⟩
                unfold numsV at hv
                rw [List.getElem?_map] at hv
                obtain ⟨k, hk, rfl⟩ := Option.map_eq_some_iff.mp hv
                have bk' := bk.same (S13.trans S)
                obtain ⟨dx, ho⟩ := bk'.obj
                refine ⟨rfl, _, rfl, x, _, _, rfl, ho, no_look (by decide) (by decide), _, rfl, x, l, m, rows, as, _, true, rfl, bk', int_is (lt k (List.mem_of_getElem? hk)), _, hD', ?_, Tp.Same.mut S hD, ?_⟩
                · rw [List.length_map, List.length_replicate]
                  exact Nat.lt_of_lt_of_le (show i < 1001 by omega) (by decide)
                · rw [upd_same, List.replicate_succ', List.map_append]
                  rfl
              · rintro H4 ⟨S4, hD'⟩
                refine ⟨D, _, rfl, SqL.of hD', _, rfl, ?_⟩
                have ea : (List.replicate (numsV ns).length true).all id = true := List.all_eq_true.mpr fun y hy => by rw [List.eq_of_mem_replicate hy]; rfl
                rw [ea]
                have sq4 := sq2.same (S13.trans S4)
                refine iteF ⟨_, rfl, q, numsV ns, rfl, ?_⟩
                cases c' with
                | true => exact .inr ⟨sq4, S3.trans S4, _, ⟨q, rfl, sq4⟩, rfl⟩
                | false => exact .inl ⟨sq4, fun t1 ht1 => ⟨S3.trans (S4.trans (same_new ht1)), _, ⟨t1, rfl, SqT.of upd_same⟩, rfl⟩⟩
          · rintro σ H3 ⟨S3, s', hv, rfl⟩
            have S13 := S12.trans S3
            refine ⟨_, rfl, _, rfl, (show 2 ≤ sizeLine from by decide), fun t ht => ?_⟩
            have S4 := same_new (o := .tup [.str z, s']) ht
            have g4 : (upd H3 t (.tup [.str z, s'])) t = some (.tup [.str z, s']) := upd_same
            generalize upd H3 t (.tup [.str z, s']) = H4 at S4 g4 ⊢
            have bk4 := bk.same (S13.trans S4)
            obtain ⟨dx, ho⟩ := bk4.obj
            have rw4 : RowAt K H4 ⟨z, sec⟩ t := (hv.same S4).row (SqT.of g4)
            refine ⟨_, rfl, x, _, _, _, _, rfl, ho, T.cl_Book, T.n_Book_numbers, nm_look, m, t, _, _, rfl, rfl, bk4.num, bk4.nok, rw4.nk, key_depth _, _, rfl, ?_⟩
            show if (lookN (ents 0 rows as) (BRow.key ⟨z, sec⟩)).isSome = true then _ else _
            rw [look_mem bk4.len]
            have S14 := S13.trans S4
            by_cases mem : (⟨z, sec⟩ : BRow) ∈ rows
            · have e : outR rows ⟨z, sec⟩ = .row := if_pos mem
              exact ifY mem ⟨_, rfl, (show 1 ≤ 1000 from by decide), fun z hz => ⟨z, _, rfl, upd_same, fun dz k n => ⟨rfl, dz, _, upd_same, by rw [upd_ne n]; exact upd_same, by rw [upd_ne n] at k; exact k, ((q1 e).same S14) dz _ (same_fly hz k) upd_same⟩⟩⟩
            · have e : outR rows ⟨z, sec⟩ = .ok ⟨z, sec⟩ := if_neg mem
              refine ifN mem ⟨_, rfl, x, _, _, rfl, ho, no_look (by decide) (by decide), _, rfl, _, rfl, (show 2 ≤ sizeLine from by decide), fun t2 ht2 => ?_⟩
              have S5 := same_new (o := .tup [.str z, s']) ht2
              have g5 : (upd H4 t2 (.tup [.str z, s'])) t2 = some (.tup [.str z, s']) := upd_same
              generalize upd H4 t2 (.tup [.str z, s']) = H5 at S5 g5 ⊢
              have S15 := S14.trans S5
              refine number_ask (Q := fun _ H' => Q .non H') (E := fun _ _ _ => False) (r := ⟨z, sec⟩) (bk4.same S5) ((hv.same (S4.trans S5)).row (SqT.of g5)) few fun H' as' k b => ?_
              rw [add_new mem] at b
              exact q3 _ e H' as' ((Kp2.of S15).trans k) b
end
end L04

set_option Elab.async false
set_option linter.all false
set_option maxRecDepth 100000
set_option maxHeartbeats 4000000
set_option pp.deepTerms false
set_option pp.deepTerms.threshold 4
set_option pp.maxSteps 1000
namespace L04
open PySem L2 Tp
section
variable {P : Program} {w : World} {K : PySem.W.Frag} {mg : Str → Option Value} {base : Heap} {a : Ad} {d : Fd}
/-! ### Book(..) -/
/-- what comes of the items of a list, one behind another -/
inductive MkO where
  | row (v : V) : MkO
  | name (u : V) : MkO
  | ok (rows : List BRow) : MkO
inductive MkIs (K : PySem.W.Frag) (H : Hp) : List BRow → List V → MkO → Prop
  | nil {rows : List BRow} : MkIs K H rows [] (.ok rows)
  | row {rows : List BRow} {v : V} {vs : List V} : ItemIs K H rows v .row → MkIs K H rows (v :: vs) (.row v)
  | name {rows : List BRow} {v u : V} {vs : List V} : ItemIs K H rows v (.name u) → MkIs K H rows (v :: vs) (.name u)
  | cons {rows : List BRow} {v : V} {vs : List V} {r : BRow} {o : MkO} : ItemIs K H rows v (.ok r) → MkIs K H (rows ++ [r]) vs o → MkIs K H rows (v :: vs) o
theorem MkIs.same {H H' : Hp} {rows : List BRow} {vs : List V} {o : MkO} (h : MkIs K H rows vs o) (S : Same H H') : MkIs K H' rows vs o := by
  induction h with
  | nil => exact .nil
  | row h => exact .row (h.same S)
  | name h => exact .name (h.same S)
  | cons h _ ih => exact .cons (h.same S) ih
/-- what was read outside of the book stays -/
def OffT (K : PySem.W.Frag) (H H' : Hp) : Prop := ∀ rows v o, ItemIs K H rows v o → ItemIs K H' rows v o
theorem dq_off {H H' : Hp} {x : Addr} {C dx : Addr} {fs : List (Str × V)} (hx : H x = some (.ins C dx fs)) (k : ∀ b o, b ≠ x → H b = some o → H' b = some o) : (∀ {v : V} {e : PyData}, Dq K H v e → Dq K H' v e) ∧ (∀ {vs : List V} {es : List PyData}, DqAll K H vs es → DqAll K H' vs es) := by
  have far : ∀ {a : Addr} {o : HO}, H a = some o → (∀ C dx fs, o ≠ .ins C dx fs) → H' a = some o := fun h n => k _ _ (fun z => by rw [z, hx] at h; exact n _ _ _ (Option.some.inj h).symm) h
  constructor
  · intro v e h
    exact Dq.rec (motive_1 := fun v e _ => Dq K H' v e) (motive_2 := fun vs es _ => DqAll K H' vs es) .non .bl .int .str (fun s _ ih => .lst (sqB_off (b := false) s hx k) ih) (fun s _ ih => .tup (sqB_off (b := true) s hx k) ih)
      (fun r _ _ i1 i2 => .dic (by
        rcases r with r | ⟨o, r⟩
        · exact .inl (far r (fun _ _ _ z => by cases z))
        · exact .inr ⟨o, far r (fun _ _ _ z => by cases z)⟩) i1 i2) .nil (fun _ _ i1 i2 => .cons i1 i2) h
  · intro vs es h
    exact DqAll.rec (motive_1 := fun v e _ => Dq K H' v e) (motive_2 := fun vs es _ => DqAll K H' vs es) .non .bl .int .str (fun s _ ih => .lst (sqB_off (b := false) s hx k) ih) (fun s _ ih => .tup (sqB_off (b := true) s hx k) ih)
      (fun r _ _ i1 i2 => .dic (by
        rcases r with r | ⟨o, r⟩
        · exact .inl (far r (fun _ _ _ z => by cases z))
        · exact .inr ⟨o, far r (fun _ _ _ z => by cases z)⟩) i1 i2) .nil (fun _ _ i1 i2 => .cons i1 i2) h
/-! ### items as data -/
def numD (n : Nat) : PyData → Option Nat
  | .int i => if 0 ≤ i ∧ i < (n : Nat) then some i.toNat else none
  | _ => none
def numsO (n : Nat) : List PyData → Option (List Nat)
  | [] => some []
  | e :: es => match numD n e, numsO n es with
    | some k, some ks => some (k :: ks)
    | _, _ => none
def secOk (f : PyData) : Bool := turnD f || (isLT f && decide ((itemsD f).length ≤ 3))
def secD (n : Nat) (f : PyData) : Option (Sum (List Nat) Nat) := match f with
  | .int i => some (.inr i.toNat)
  | f => (numsO n (itemsD f)).map .inl
inductive ItD where
  | row : ItD
  | name (e : PyData) : ItD
  | ok (r : BRow) : ItD
def rowD (rows : List BRow) (z : Str) (o : Option (Sum (List Nat) Nat)) : ItD := match o with
  | none => .row
  | some sec => if ⟨z, sec⟩ ∈ rows then .row else .ok ⟨z, sec⟩
def txtD (rows : List BRow) (s : PyData) : PyData → ItD
  | .str z => rowD rows z (secD rows.length s)
  | _ => .row
def twoD (rows : List BRow) (u s : PyData) : ItD := if secOk s = false then .row else if nmD u = false then .name u else txtD rows s u
def itemD (rows : List BRow) (e : PyData) : ItD := match itemsD e with
  | [u, s] => twoD rows u s
  | _ => .row
theorem item_two {rows : List BRow} {e u s : PyData} (h : itemsD e = [u, s]) : itemD rows e = twoD rows u s := by
  unfold itemD
  rw [h]
/-- the names of an item are short -/
def ShI (e : PyData) : Prop := ∀ u s z, itemsD e = [u, s] → u = .str z → z.length ≤ 10000
def ItMatch (K : PySem.W.Frag) (H : Hp) : ItO → ItD → Prop
  | .row, .row => True
  | .name u, .name e => Dq K H u e
  | .ok r, .ok r' => r = r'
  | _, _ => False
theorem numD_some {n k : Nat} {e : PyData} (h : numD n e = some k) : e = .int (k : Nat) ∧ k < n := by
  cases e with
  | int i =>
    have h : (if 0 ≤ i ∧ i < (n : Nat) then some i.toNat else none) = some k := h
    by_cases c : 0 ≤ i ∧ i < (n : Nat)
    · rw [if_pos c] at h
      have := Option.some.inj h
      have e : i = (k : Nat) := by omega
      exact ⟨by rw [e], by omega⟩
    · rw [if_neg c] at h
      cases h
  | _ => cases h
theorem numD_none {n : Nat} {e : PyData} (h : numD n e = none) : intD e 0 ((n : Nat) - 1) = false := by
  cases e with
  | int i =>
    have h : (if 0 ≤ i ∧ i < (n : Nat) then some i.toNat else none) = none := h
    by_cases c : 0 ≤ i ∧ i < (n : Nat)
    · rw [if_pos c] at h
      cases h
    · show (decide ((0 : Int) ≤ i) && decide (i ≤ ((n : Nat) : Int) - 1)) = false
      by_cases c1 : (0 : Int) ≤ i
      · rw [decide_eq_false (show ¬ i ≤ ((n : Nat) : Int) - 1 by omega), Bool.and_false]
      · rw [decide_eq_false c1, Bool.false_and]
  | _ => rfl
theorem numsO_some {H : Hp} {n : Nat} : ∀ {es : List PyData} {ns : List Nat} {xs : List V}, DqAll K H xs es → numsO n es = some ns → xs = numsV ns ∧ ∀ k ∈ ns, k < n
  | [], ns, xs, h, e => by
    cases h
    cases e
    exact ⟨rfl, fun k hk => by cases hk⟩
  | f :: es, ns, xs, h, e => by
    cases h with
    | cons h1 h2 =>
      unfold numsO at e
      cases a : numD n f with
      | none => rw [a] at e; cases e
      | some k =>
        cases b : numsO n es with
        | none => rw [a, b] at e; cases e
        | some ks =>
          rw [a, b] at e
          cases e
          obtain ⟨e1, l1⟩ := numD_some a
          subst e1
          cases h1
          obtain ⟨e2, l2⟩ := numsO_some h2 b
          subst e2
          refine ⟨rfl, fun j hj => ?_⟩
          rcases List.mem_cons.mp hj with z | z
          · rw [z]; exact l1
          · exact l2 j z
theorem numsO_none {n : Nat} : ∀ {es : List PyData}, numsO n es = none → (es.map fun e => intD e 0 ((n : Nat) - 1)).all id = false
  | [], e => by cases e
  | f :: es, e => by
    unfold numsO at e
    rw [List.map_cons, List.all_cons]
    cases a : numD n f with
    | none =>
      rw [numD_none a]
      rfl
    | some k =>
      cases b : numsO n es with
      | none => rw [numsO_none b, Bool.and_false]
      | some ks => rw [a, b] at e; cases e
theorem nums_is {H : Hp} {n : Nat} : ∀ {xs : List V} {es : List PyData}, DqAll K H xs es → NumsIs K H n xs (es.map fun e => intD e 0 ((n : Nat) - 1))
  | _, _, .nil => .nil
  | _, _, .cons h t => .cons (.inl ⟨_, h, rfl⟩) (nums_is t)
theorem noLT_dq {H : Hp} {v : V} {e : PyData} (h : Dq K H v e) (l : isLT e = false) : NoLT K H v := ⟨_, dq_ty h, by rw [kit_lt e, l]⟩
theorem sec_is {H : Hp} {s : V} {f : PyData} (h : Dq K H s f) : SecIs K H s (secOk f) := by
  cases h with
  | int i =>
    by_cases c : 0 ≤ i
    · obtain ⟨t, rfl⟩ := Int.eq_ofNat_of_zero_le c
      have e : secOk (.int (t : Nat)) = true := by
        show (decide ((0 : Int) ≤ (t : Nat)) || _) = true
        rw [decide_eq_true (by omega)]
        rfl
      rw [e]
      exact .turn t
    · have e : secOk (.int i) = false := by
        show (decide ((0 : Int) ≤ i) || (false && _)) = false
        rw [decide_eq_false c]
        rfl
      rw [e]
      exact .no (noLT_dq (.int i) rfl) (.inl ⟨_, .int i, (decide_eq_false c).symm⟩)
  | non => exact .no (noLT_dq .non rfl) (.inl ⟨_, .non, rfl⟩)
  | bl b => exact .no (noLT_dq (.bl b) rfl) (.inl ⟨_, .bl b, rfl⟩)
  | str z => exact .no (noLT_dq (.str z) rfl) (.inl ⟨_, .str z, rfl⟩)
  | dic r h1 h2 => exact .no (noLT_dq (.dic r h1 h2) rfl) (.inl ⟨_, .dic r h1 h2, rfl⟩)
  | @lst a xs ds sq da =>
    refine .lst (c := false) (xs := xs) sq ?_
    show (false || (true && decide (ds.length ≤ 3))) = _
    rw [Bool.false_or, Bool.true_and, dqAll_len da]
  | @tup a xs ds sq da =>
    refine .lst (c := true) (xs := xs) sq ?_
    show (false || (true && decide (ds.length ≤ 3))) = _
    rw [Bool.false_or, Bool.true_and, dqAll_len da]
theorem args_is {H : Hp} {rows : List BRow} {z : Str} {s : V} {f : PyData} (h : Dq K H s f) (ok : secOk f = true) : ∃ o, ArgsIs K H rows z s o ∧ ItMatch K H o (rowD rows z (secD rows.length f)) := by
  have fin : ∀ {s : V} {sec : Sum (List Nat) Nat}, ArgOk K H rows.length s sec → ∃ o, ArgsIs K H rows z s o ∧ ItMatch K H o (rowD rows z (some sec)) := fun {s sec} h => by
    refine ⟨_, .ok h, ?_⟩
    show ItMatch K H (outR rows ⟨z, sec⟩) (if ⟨z, sec⟩ ∈ rows then .row else .ok ⟨z, sec⟩)
    unfold outR
    by_cases m : (⟨z, sec⟩ : BRow) ∈ rows
    · rw [if_pos m, if_pos m]
      trivial
    · rw [if_neg m, if_neg m]
      rfl
  have seq : ∀ {c : Bool} {a : Addr} {xs : List V} {ds : List PyData}, SqB c K H a xs → DqAll K H xs ds → ds.length ≤ 3 → ∃ o, ArgsIs K H rows z (.ref a) o ∧ ItMatch K H o (rowD rows z ((numsO rows.length ds).map .inl)) := fun {c a xs ds} sq da l3 => by
    have lx := dqAll_len da
    cases e : numsO rows.length ds with
    | none => exact ⟨.row, .bad sq (nums_is da) (numsO_none e) (by omega), trivial⟩
    | some ns =>
      obtain ⟨rfl, lt⟩ := numsO_some da e
      rw [numsV_len] at lx
      exact fin (.lst sq lt (by omega))
  cases h with
  | int i =>
    have c : 0 ≤ i := by
      by_cases c : 0 ≤ i
      · exact c
      · have : (decide ((0 : Int) ≤ i) || (false && decide ((itemsD (.int i)).length ≤ 3))) = true := ok
        rw [decide_eq_false c] at this
        cases this
    obtain ⟨t, rfl⟩ := Int.eq_ofNat_of_zero_le c
    exact fin (.turn t)
  | @lst a xs ds sq da =>
    have : (false || (true && decide (ds.length ≤ 3))) = true := ok
    rw [Bool.false_or, Bool.true_and] at this
    exact seq (c := false) sq da (of_decide_eq_true this)
  | @tup a xs ds sq da =>
    have : (false || (true && decide (ds.length ≤ 3))) = true := ok
    rw [Bool.false_or, Bool.true_and] at this
    exact seq (c := true) sq da (of_decide_eq_true this)
  | _ => cases ok
theorem item_is {H : Hp} {rows : List BRow} {v : V} {e : PyData} (h : Dq K H v e) (sh : ShI e) : ∃ o, ItemIs K H rows v o ∧ ItMatch K H o (itemD rows e) := by
  cases pe : pairD e with
  | false =>
    refine ⟨.row, .noPair (.inl ⟨e, h, pe.symm⟩), ?_⟩
    have : itemD rows e = .row := by
      unfold itemD
      cases hi : itemsD e with
      | nil => rfl
      | cons u l =>
        cases l with
        | nil => rfl
        | cons s l =>
          cases l with
          | nil =>
            unfold pairD at pe
            rw [hi] at pe
            have : isLT e = true := by cases e <;> first | rfl | (cases hi)
            rw [this] at pe
            cases pe
          | cons _ _ => rfl
    rw [this]
    trivial
  | true =>
    have hp : PairIs K H v true := .inl ⟨e, h, pe.symm⟩
    obtain ⟨l1, l2⟩ := Bool.and_eq_true_iff.mp pe
    have l2 := of_decide_eq_true l2
    obtain ⟨p, xs, rfl, sq, da⟩ := dq_seq h l1
    cases hi : itemsD e with
    | nil => rw [hi] at l2; cases l2
    | cons u l =>
      cases l with
      | nil => rw [hi] at l2; cases l2
      | cons s l =>
        cases l with
        | cons _ _ => rw [hi] at l2; simp at l2
        | nil =>
          rw [hi] at da
          cases da with
          | cons d1 t =>
            cases t with
            | cons d2 t =>
              cases t
              rw [item_two hi]
              unfold twoD
              have hs := sec_is d2
              cases so : secOk s with
              | false =>
                rw [so] at hs
                exact ⟨.row, .sec sq hp hs, by rw [if_pos rfl]; trivial⟩
              | true =>
                rw [so] at hs
                rw [if_neg (by simp)]
                have hn := name_dq d1 (fun z ez => sh u s z hi ez)
                cases no : nmD u with
                | false =>
                  rw [no] at hn
                  exact ⟨_, .name sq hp hs hn, by rw [if_pos rfl]; exact d1⟩
                | true =>
                  rw [no] at hn
                  rw [if_neg (by simp)]
                  obtain ⟨z, ez, _⟩ := name_str hn
                  subst ez
                  cases d1
                  obtain ⟨o, ha, hm⟩ := args_is (rows := rows) (z := z) d2 so
                  exact ⟨o, .args sq hp hs hn ha, hm⟩
end
end L04

set_option Elab.async false
set_option linter.all false
set_option maxRecDepth 100000
set_option maxHeartbeats 4000000
set_option pp.deepTerms false
set_option pp.deepTerms.threshold 4
set_option pp.maxSteps 1000
namespace L04
open PySem L2 Tp
section
variable {P : Program} {w : World} {K : PySem.W.Frag} {mg : Str → Option Value} {base : Heap} {a : Ad} {d : Fd}
/-! ### Book(..) over data -/
inductive MkD where
  | row (e : PyData) : MkD
  | name (e : PyData) : MkD
  | ok (rows : List BRow) : MkD
def mkD : List BRow → List PyData → MkD
  | rows, [] => .ok rows
  | rows, e :: es => match itemD rows e with
    | .row => .row e
    | .name u => .name u
    | .ok r => mkD (rows ++ [r]) es
def Off (x : Addr) (H H' : Hp) : Prop := ∀ b o, b ≠ x → H b = some o → H' b = some o
def spBookX (P : Program) (w : World) (K : PySem.W.Frag) (C XP XR XN : Addr) : Sp := fun vs H Q E => ∃ (x dx : Addr) (v : V), vs = [.ref x, v] ∧ H x = some (.ins C dx []) ∧
  ((NoLT K H v ∧ Rz E XP "value" v H) ∨ ∃ (b : Bool) (p : Addr) (xs : List V) (ds : List PyData), v = .ref p ∧ SqB b K H p xs ∧ DqAll K H xs ds ∧ ds.length ≤ 1000 ∧ (∀ e ∈ ds, ShI e) ∧
    (∀ u H' e, mkD [] ds = .row e → Off x H H' → Dq K H' u e → Rz E XR "value" u H') ∧ (∀ u H' e, mkD [] ds = .name e → Off x H H' → Dq K H' u e → Rz E XN "value" u H') ∧
    ∀ rows, mkD [] ds = .ok rows → ∀ H' l m as, H l = none → H m = none → Off x H H' → BookAt P w K C H' x l m rows as → Q .non H')
theorem ok_bookInit (T : Txt K mg a d) : FnOk P w K mg base (L2.CX P w) 4 a.bookInit d.bookInit ["self", "rows"] (spBookX P w K a.CBook a.CInvalidPart a.CInvalidRow a.CInvalidName) := by
  have G_isList := ok_isList (P := P) (w := w) (base := base) T
  have G_addItem := ok_addItem (P := P) (w := w) (base := base) T
  refine okXD T.F_bookInit scBookInit (fun vs H Q E h => ?_) (fun cdv A outer s H vs Q E hr h tk po => ?_)
  · obtain ⟨x, dx, v, rfl, _⟩ := h
    rfl
  · obtain ⟨x, dx, v, rfl, hx, h⟩ := h
    refine ⟨_, (pss_cons (ps_if (pt_not (pt_val (pe_call G_isList (hr.mono (by decide)) (by rfl) T.mg_isList T.F_isList.kp T.b_isList .nil pass0 (pa_cons (pv 1) pa_nil)))) (pss_one (Tp.ps_raiseB (k := 0) rfl (x_InvalidPart T) (hr.mono (by decide)) tk (by rfl) T.mg_InvalidPart (pa_cons (pv 1) pa_nil))) pss_nil)
      (pss_cons (ps_fld (pv 0) (pe_lst pa_nil) rfl)
      (pss_cons (ps_fld (pv 0) Tp.pe_dnewN rfl)
      (pss_one (ps_for po rfl (Tp.pi_B (K := K) rfl (pv 1)) (pg_name (i := 2) scBookInit.nd rfl (Or.inl rfl)) (pss_one (ps_expr (Tp.pe_methE (pv 0) T.cl_Book T.me_addItem G_addItem (hr.mono (by decide)) T.b_addItem .nil (fun σ => passAt tk σ) (pa_cons (pv 2) pa_nil))))))))), ?_⟩
    rcases h with ⟨⟨t, ty, kt⟩, q⟩ | ⟨b, p, xs, ds, rfl, sq, da, l10, sh, q1, q2, q3⟩
    · exact ⟨_, rfl, v, t, false, rfl, ty, kt, fun H1 S1 => ⟨_, rfl, iteT ⟨_, rfl, (show 1 ≤ 1000 from by decide), fun z hz => ⟨z, _, rfl, upd_same, fun dz k n => ⟨rfl, dz, _, upd_same, by rw [upd_ne n]; exact upd_same, by rw [upd_ne n] at k; exact k, (q.same S1) dz _ (same_fly hz k) upd_same⟩⟩⟩⟩⟩
    obtain ⟨t, ty, kt⟩ := tyB sq
    refine ⟨_, rfl, .ref p, t, true, rfl, ty, kt, fun H1 S1 => ⟨_, rfl, iteF ?_⟩⟩
    have hx1 := S1 _ _ hx
    refine ⟨Nat.zero_le _, fun l hl => ?_⟩
    have nxl : x ≠ l := ne_of_none hx1 hl
    refine ⟨_, rfl, x, a.CBook, dx, [], rfl, (by rw [upd_ne nxl]; exact hx1), T.cl_Book, T.n_Book_held, (by show 0 < 1000; decide), fun m hm => ?_⟩
    have nxm : x ≠ m := fun z => by
      rw [z, upd_same] at hm
      cases hm
    have nlm : l ≠ m := fun z => by
      rw [← z, upd_ne (Ne.symm nxl), upd_same] at hm
      cases hm
    have hm1 : H1 m = none := by rw [upd_ne (Ne.symm nxm), upd_ne (Ne.symm nlm)] at hm; exact hm
    refine ⟨_, rfl, x, a.CBook, dx, _, rfl, (by rw [upd_ne nxm]; exact upd_same), T.cl_Book, T.n_Book_numbers, (by show 1 < 1000; decide), ?_⟩
    have bk0 : BookAt P w K a.CBook (upd (upd (upd (upd H1 l (.lst [])) x (.ins a.CBook dx (putF "held" (.ref l) []))) m (dN P w m [])) x (.ins a.CBook dx (putF "numbers" (.ref m) (putF "held" (.ref l) [])))) x l m [] [] := by
      refine ⟨⟨dx, upd_same⟩, ?_, ?_, .nil, List.nodup_nil, Nat.zero_le _⟩
      · rw [upd_ne (Ne.symm nxl), upd_ne nlm, upd_ne (Ne.symm nxl)]
        exact upd_same
      · rw [upd_ne (Ne.symm nxm)]
        exact upd_same
    have k0 : Off x H (upd (upd (upd (upd H1 l (.lst [])) x (.ins a.CBook dx (putF "held" (.ref l) []))) m (dN P w m [])) x (.ins a.CBook dx (putF "numbers" (.ref m) (putF "held" (.ref l) [])))) := fun b o nb h => by
      have h1 := S1 _ _ h
      rw [upd_ne nb, upd_ne (ne_of_none h1 hm1), upd_ne nb, upd_ne (ne_of_none h1 hl)]
      exact h1
    have hlH : H l = none := none_same S1 hl
    have hmH : H m = none := none_same S1 hm1
    have lx := dqAll_len da
    refine ⟨_, rfl, b, p, _, rfl, sqB_off sq hx k0, for_it (walk_B (xs := xs)) (fun i σ H' => (∃ rows as, BookAt P w K a.CBook H' x l m rows as ∧ rows.length ≤ i ∧ mkD [] ds = mkD rows (ds.drop i)) ∧ Off x H H' ∧ ∃ v, σ = [some (.ref x), some (.ref p), v]) ⟨⟨[], [], bk0, Nat.le_refl _, rfl⟩, k0, _, rfl⟩ ?_ ?_ ?_⟩
    · rintro i σ H' _ ⟨_, k, _⟩
      exact sqB_off sq hx k
    · rintro i v σ _ H' hi ⟨⟨rows, as, bk, le, em⟩, k, v0, rfl⟩ ⟨rfl, hv⟩
      obtain ⟨e, he, dq⟩ := dqAll_get da hv
      have dq' : Dq K H' v e := (dq_off hx k).1 dq
      have hd : ds.drop i = e :: ds.drop (i + 1) := by
        have hlt : i < ds.length := (List.getElem?_eq_some_iff.mp he).1
        have : ds[i] = e := (List.getElem?_eq_some_iff.mp he).2
        rw [List.drop_eq_getElem_cons hlt, this]
      rw [hd] at em
      obtain ⟨o, it, im⟩ := item_is (rows := rows) dq' (sh e (List.mem_of_getElem? he))
      obtain ⟨dx', ho⟩ := bk.obj
      refine ⟨_, rfl, x, _, _, rfl, ho, no_look (by decide) (by decide), _, rfl, x, l, m, rows, as, v, o, rfl, bk, by omega, it, fun eo => ?_, fun u eo => ?_, fun r eo H2 as2 k2 bk2 => ?_⟩
      · subst eo
        cases ei : itemD rows e with
        | row =>
          refine q1 v H' e ?_ k dq'
          rw [em]
          show (match itemD rows e with
            | .row => MkD.row e
            | .name u => .name u
            | .ok r => mkD (rows ++ [r]) (ds.drop (i + 1))) = _
          rw [ei]
        | name e' => rw [ei] at im; exact im.elim
        | ok r => rw [ei] at im; exact im.elim
      · subst eo
        cases ei : itemD rows e with
        | row => rw [ei] at im; exact im.elim
        | name e' =>
          rw [ei] at im
          refine q2 u H' e' ?_ k im
          rw [em]
          show (match itemD rows e with
            | .row => MkD.row e
            | .name u => .name u
            | .ok r => mkD (rows ++ [r]) (ds.drop (i + 1))) = _
          rw [ei]
        | ok r => rw [ei] at im; exact im.elim
      · subst eo
        cases ei : itemD rows e with
        | row => rw [ei] at im; exact im.elim
        | name e' => rw [ei] at im; exact im.elim
        | ok r' =>
          rw [ei] at im
          obtain rfl : r = r' := im
          refine ⟨⟨rows ++ [r], as2, bk2, by rw [List.length_append]; show rows.length + 1 ≤ i + 1; omega, ?_⟩, fun b o nb h => k2 _ _ (ne_of_none h hlH) (ne_of_none h hmH) (k b o nb h), _, rfl⟩
          rw [em]
          show (match itemD rows e with
            | .row => MkD.row e
            | .name u => .name u
            | .ok r => mkD (rows ++ [r]) (ds.drop (i + 1))) = _
          rw [ei]
    · rintro σ H' ⟨⟨rows, as, bk, _, em⟩, k, _⟩
      have : ds.drop xs.length = [] := List.drop_eq_nil_of_le (by omega)
      rw [this] at em
      exact q3 rows em H' l m as hlH hmH k bk
theorem bk0 (T : Txt K mg a d) : ∃ ds, Vals [V.ref a.bkE] ds ∧ Binds K d.bookInit ["self", "rows"] ds :=
  T.F_bookInit.binds1 1 0 (by simp) rfl fun TT kV doc pm an cdv ct us its hu hi => match us, hu, its, hi with
    | [_], _, [_], _ => ⟨_, rfl, rfl⟩
theorem bk1 (T : Txt K mg a d) : Binds K d.bookInit ["self", "rows"] [] := by
  obtain ⟨ds, v, h⟩ := T.F_bookInit.binds1 (ps := ["self", "rows"]) 2 1 (by simp) rfl fun TT kV doc pm an cdv ct us its hu hi => match us, hu, its, hi with
    | [_, _], _, [_], _ => ⟨_, rfl, rfl⟩
  cases v
  exact h
/-! ### good rows make their book -/
theorem numsO_nums {n : Nat} : ∀ {l : List Nat}, (∀ k ∈ l, k < n) → numsO n (numsD l) = some l
  | [], _ => rfl
  | k :: l, h => by
    have ih := numsO_nums (n := n) (l := l) fun j hj => h j (List.mem_cons_of_mem _ hj)
    have hk := h k List.mem_cons_self
    show (match numD n (.int (k : Nat)), numsO n (numsD l) with
      | some k, some ks => some (k :: ks)
      | _, _ => none) = _
    have e : numD n (.int (k : Nat)) = some k := by
      show (if (0 : Int) ≤ (k : Nat) ∧ ((k : Nat) : Int) < (n : Nat) then some ((k : Nat) : Int).toNat else none) = _
      rw [if_pos ⟨by omega, by omega⟩]
      rfl
    rw [e, ih]
theorem numsD_len (l : List Nat) : (numsD l).length = l.length := by
  unfold numsD
  rw [List.length_map]
theorem item_row {rows : List BRow} {r : BRow} (g : GoodL r rows.length) (nw : r ∉ rows) : itemD rows r.data = .ok r := by
  obtain ⟨nm, sec⟩ := r
  obtain ⟨g1, g2, g3⟩ := g
  have g1 : nmB nm = true := g1
  rcases g3 with ⟨l, e, l3, lt⟩ | ⟨t, e⟩
  · cases e
    have : itemD rows (BRow.data ⟨nm, .inl l⟩) = twoD rows (.str nm) (.tuple (numsD l)) := rfl
    rw [this]
    unfold twoD
    have s : secOk (.tuple (numsD l)) = true := by
      show (false || (true && decide ((numsD l).length ≤ 3))) = true
      rw [numsD_len, decide_eq_true l3]
      rfl
    have n : nmD (.str nm) = true := g1
    rw [s, if_neg (by simp), n, if_neg (by simp)]
    show rowD rows nm ((numsO rows.length (numsD l)).map .inl) = _
    rw [numsO_nums lt]
    exact if_neg nw
  · cases e
    have : itemD rows (BRow.data ⟨nm, .inr t⟩) = twoD rows (.str nm) (.int (t : Nat)) := rfl
    rw [this]
    unfold twoD
    have s : secOk (.int (t : Nat)) = true := by
      show (decide ((0 : Int) ≤ (t : Nat)) || _) = true
      rw [decide_eq_true (by omega)]
      rfl
    have n : nmD (.str nm) = true := g1
    rw [s, if_neg (by simp), n, if_neg (by simp)]
    exact if_neg nw
theorem mk_rows : ∀ {rest done : List BRow}, (done ++ rest).Nodup → (∀ (i : Nat) (r : BRow), (done ++ rest)[i]? = some r → GoodL r i) → mkD done (rest.map BRow.data) = .ok (done ++ rest)
  | [], done, _, _ => by rw [List.append_nil]; rfl
  | r :: rest, done, nd, g => by
    have e : done ++ r :: rest = (done ++ [r]) ++ rest := by simp
    have gr : GoodL r done.length := g done.length r (by rw [List.getElem?_append_right (Nat.le_refl _), Nat.sub_self]; rfl)
    have nw : r ∉ done := fun m => by
      have := (List.nodup_append.mp nd).2.2 r m r List.mem_cons_self
      exact this rfl
    rw [List.map_cons]
    show (match itemD done r.data with
      | .row => MkD.row r.data
      | .name u => .name u
      | .ok r => mkD (done ++ [r]) (rest.map BRow.data)) = _
    rw [item_row gr nw, e]
    exact mk_rows (by rw [← e]; exact nd) (by rw [← e]; exact g)
theorem sh_row {r : BRow} {n : Nat} (g : GoodL r n) : ShI r.data := fun u s z h e => by
  obtain ⟨nm, sec⟩ := r
  have h : ([PyData.str nm, _] : List PyData) = [u, s] := h
  cases h
  cases e
  exact g.2.1
def GoodB (rows : List BRow) : Prop := rows.Nodup ∧ ∀ (i : Nat) (r : BRow), rows[i]? = some r → GoodL r i
theorem GoodB.nm {rows : List BRow} (h : GoodB rows) : ∀ r ∈ rows, nmB r.nm = true := fun r hr => by
  obtain ⟨i, hi⟩ := List.mem_iff_getElem?.mp hr
  exact (h.2 i r hi).1
theorem GoodB.mk {rows : List BRow} (h : GoodB rows) : mkD [] (rows.map BRow.data) = .ok rows := mk_rows (rest := rows) (done := []) h.1 h.2
theorem GoodB.sh {rows : List BRow} (h : GoodB rows) : ∀ e ∈ rows.map BRow.data, ShI e := fun e he => by
  obtain ⟨r, hr, rfl⟩ := List.mem_map.mp he
  obtain ⟨i, hi⟩ := List.mem_iff_getElem?.mp hr
  exact sh_row (h.2 i r hi)
/-- Book(rows) of good rows -/
theorem book_ask {C XP XR XN x dx p : Addr} {b : Bool} {rows : List BRow} {ps : List Addr} {H : Hp} {Q : VK} {E : XK} (hx : H x = some (.ins C dx [])) (sq : SqB b K H p (ps.map V.ref)) (pr : Paired (RowAt K H) rows ps) (g : GoodB rows) (few : rows.length ≤ 1000)
    (q : ∀ H' l m as, H l = none → H m = none → Off x H H' → BookAt P w K C H' x l m rows as → Q .non H') : spBookX P w K C XP XR XN [.ref x, .ref p] H Q E := by
  refine ⟨x, dx, .ref p, rfl, hx, .inr ⟨b, p, _, _, rfl, sq, dp_dq.2 (rows_dp pr), by rw [List.length_map]; exact few, g.sh, fun u H' e z => ?_, fun u H' e z => ?_, fun rows' z H' l m as h1 h2 k bk => ?_⟩⟩
  · rw [g.mk] at z; cases z
  · rw [g.mk] at z; cases z
  · rw [g.mk] at z
    cases z
    exact q H' l m as h1 h2 k bk
def spCopied (P : Program) (w : World) (K : PySem.W.Frag) (C : Addr) : Sp := fun vs H Q _ => ∃ (x l m : Addr) (rows : List BRow) (as : List Addr), vs = [.ref x] ∧ BookAt P w K C H x l m rows as ∧ GoodB rows ∧ rows.length ≤ 1000 ∧
  ∀ x' l' m' as' H', Same H H' → H x' = none → H l' = none → H m' = none → BookAt P w K C H' x' l' m' rows as' → Q (.ref x') H'
theorem ok_copied (T : Txt K mg a d) : FnOk P w K mg base CX0 6 a.copied d.copied ["self"] (spCopied P w K a.CBook) := by
  have G_bookInit := ok_bookInit (P := P) (w := w) (base := base) T
  have bBook1 := bk1 T
  refine okN T.F_copied scCopied (fun vs H Q E h => ?_) (fun cdv A outer s H vs Q E hr h => ?_)
  · obtain ⟨x, l, m, rows, as, rfl, _⟩ := h
    rfl
  · obtain ⟨x, l, m, rows, as, rfl, bk, good, few, q⟩ := h
    refine ⟨_, (pss_one (ps_ret (Tp.pe_makeE T.mk_Book G_bookInit (hr.mono (by decide)) (by rfl) T.mg_Book bBook1 .nil (fun σ => Tp.passA0 σ) (pa_cons (pe_fld (pv 0) (by rfl)) pa_nil)))), ?_⟩
    obtain ⟨dx, ho⟩ := bk.obj
    refine ⟨_, rfl, x, _, _, _, _, rfl, ho, T.cl_Book, T.n_Book_held, hd_look, fun x' dx' h1 h2 h3 => ?_⟩
    have S : Same H (upd (upd H dx' (.own x')) x' (.ins a.CBook dx' [])) := same_two h1 h2
    refine book_ask (b := false) upd_same (SqL.of (S _ _ bk.lst)) (paired_imp (fun _ _ h => h.same S) bk.row) good few fun H' l' m' as' n1 n2 k bk' => ⟨rfl, ?_⟩
    exact q x' l' m' as' H' (fun b o h => k b o (ne_of_none h h1) (S _ _ h)) h1 (none_same S n1) (none_same S n2) bk'
end
end L04

set_option Elab.async false
set_option linter.all false
set_option maxRecDepth 100000
set_option maxHeartbeats 4000000
set_option pp.deepTerms false
set_option pp.deepTerms.threshold 4
set_option pp.maxSteps 1000
namespace L04
open PySem L2 Tp
section
variable {P : Program} {w : World} {K : PySem.W.Frag} {mg : Str → Option Value} {base : Heap} {a : Ad} {d : Fd}
/-! ### _law_is_whole, _law_is_named -/
theorem ok_isWhole (T : Txt K mg a d) : FnOk P w K mg base CX0 1 a.isWhole d.isWhole ["_law_thing"] (spIsTurn K) := by
  refine okN T.F_isWhole scIsWhole (fun vs H Q E h => ?_) (fun cdv A outer s H vs Q E hr h => ?_)
  · obtain ⟨v, b, rfl, _⟩ := h
    rfl
  · obtain ⟨v, b, rfl, h, q⟩ := h
    refine ⟨_, (pss_one (ps_ret (pe_and (pe_callB call_isi (by rfl) T.isinstance_ Tp.bt_isinstance (pa_cons (pv 0) (pa_cons (pe_bltn (v := .ty "int") (by rfl) T.int_ Tp.bt_int rfl) pa_nil))) (pe_and (pe_not (pe_callB call_isi (by rfl) T.isinstance_ Tp.bt_isinstance (pa_cons (pv 0) (pa_cons (pe_bltn (v := .ty "bool") (by rfl) T.bool_ Tp.bt_bool rfl) pa_nil)))) (pe_one (pe_cmpR op_ge (pv 0) pe_int (nomark _))))))), ?_⟩
    rcases h with ⟨dd, dq, rfl⟩ | ⟨⟨t, ty, kt⟩, rfl⟩
    · refine ⟨_, rfl, _, _, _, _, isI dd, rfl, .ty _, dq_ty dq, kit_int dd, _, rfl, ?_⟩
      cases dq with
      | int i => exact iteT ⟨_, rfl, _, _, _, _, false, rfl, .ty _, .base (.int i), kit_ty (by decide +kernel), _, rfl, _, rfl, iteT ⟨_, rfl, _, _, rfl, rfl, q⟩⟩
      | bl b => exact iteT ⟨_, rfl, _, _, _, _, true, rfl, .ty _, .base (.bl b), kit_ty (by decide +kernel), _, rfl, _, rfl, iteF q⟩
      | _ => exact iteF q
    · exact ⟨_, rfl, _, _, _, _, false, rfl, .ty _, ty, kt, _, rfl, iteF q⟩
def badC (c : Nat) : Bool := !(lowC c || digC c)
theorem sign_dec (c : Nat) : (!decide (c ∈ (Str.ofString "abcdefghijklmnopqrstuvwxyz" ++ Str.ofString "0123456789").cps.toList)) = badC c := by
  unfold badC
  by_cases h : c ∈ (("abcdefghijklmnopqrstuvwxyz" : Str) ++ ("0123456789" : Str)).cps.toList
  · exact congrArg Bool.not ((decide_eq_true h).trans ((mem_sign c).mp h).symm)
  · exact congrArg Bool.not ((decide_eq_false h).trans (Bool.eq_false_iff.mpr fun k => h ((mem_sign c).mpr k)).symm)
theorem low_dec (c : Nat) : decide (c ∈ (Str.ofString "abcdefghijklmnopqrstuvwxyz").cps.toList) = lowC c := by
  by_cases h : c ∈ ("abcdefghijklmnopqrstuvwxyz" : Str).cps.toList
  · exact (decide_eq_true h).trans ((mem_low c).mp h).symm
  · exact (decide_eq_false h).trans (Bool.eq_false_iff.mpr fun k => h ((mem_low c).mpr k)).symm
def oneV (c : Nat) : V := .str ⟨#[c]⟩
def oneD (c : Nat) : PyData := .str ⟨#[c]⟩
theorem ones_dp {H : Hp} : ∀ cs : List Nat, DpAll K H (cs.map oneV) (cs.map oneD)
  | [] => .nil
  | c :: cs => .cons (.str _) (ones_dp cs)
theorem ones_lay : ∀ {cs : List Nat}, (∀ c ∈ cs, PyData.strOk ⟨#[c]⟩ = true) → PyData.canLayAll0 (cs.map oneD) = true ∧ PyData.depthAll (cs.map oneD) = 0
  | [], _ => ⟨rfl, rfl⟩
  | c :: cs, h => by
    obtain ⟨h1, h2⟩ := ones_lay (cs := cs) fun x hx => h x (List.mem_cons_of_mem _ hx)
    have := h c List.mem_cons_self
    rw [List.map_cons]
    simp only [oneD, PyData.canLayAll0, PyData.depthAll, PyData.canLay0, PyData.depth, this, Bool.true_and]
    rw [h1, h2]
    exact ⟨rfl, rfl⟩
theorem one_ok {z : Str} (h : PyData.strOk z = true) {c : Nat} (m : c ∈ z.cps.toList) : PyData.strOk ⟨#[c]⟩ = true := by
  unfold PyData.strOk at h ⊢
  rw [← Array.all_toList] at h ⊢
  have := List.all_eq_true.mp h c m
  exact List.all_eq_true.mpr fun x hx => by
    have e : x = c := by simpa using hx
    rw [e]
    exact this
def spNamed (K : PySem.W.Frag) : Sp := fun vs H Q _ => ∃ (v : V) (b : Bool), vs = [v] ∧ NameIs K H v b ∧ (∀ z, v = .str z → PyData.strOk z = true) ∧ ∀ H', Same H H' → Q (.bl b) H'
theorem ok_isNamed (T : Txt K mg a d) : FnOk P w K mg base CX0 1 a.isNamed d.isNamed ["_law_word"] (spNamed K) := by
  refine okN T.F_isNamed scIsNamed (fun vs H Q E h => ?_) (fun cdv A outer s H vs Q E hr h => ?_)
  · obtain ⟨v, b, rfl, _⟩ := h
    rfl
  · obtain ⟨v, b, rfl, h, sok, q⟩ := h
    refine ⟨_, (pss_cons (ps_set (i := 1) scIsNamed.nd rfl (Or.inr rfl) pe_str)
      (pss_cons (ps_if (PW.pt (pw_or (pt_not (pt_val (pe_callB (Tp.call_isA (K := K) rfl) (by rfl) T.isinstance_ Tp.bt_isinstance (pa_cons (pv 0) (pa_cons (pe_bltn (v := .ty "str") (by rfl) T.str_ Tp.bt_str rfl) pa_nil))))) (pw_or (pt_cmpR op_eq (pv 0) pe_str (nomark _)) (pw_or (pt_cmpR op_gt (pe_callB call_len_str (by rfl) T.len_ Tp.bt_len (pa_cons (pv 0) pa_nil)) pe_int (nomark _)) (pw_or1 (pt_cmpR op_notIn_sign (pe_ix ix_str (pv 0) pe_int (fun _ _ => rfl)) (pv 1) (by rfl))))))) (pss_one (ps_ret pe_bl)) pss_nil)
      (pss_one (ps_ret (pe_cmpR (op_eqD hr.units) (pe_lc (own := [("_law_sign", 2)]) (by rfl) scIsNamed.nd (pi_str (pv 0)) (blkOk_by (own := [("_law_sign", 2)]) (N := scIsNamed_N) (sc := defScope scIsNamed_st) (by decide +kernel)) (fun _ _ _ _ _ => (pg_name (i := 2) scIsNamed.nd rfl (Or.inl rfl))) (fun _ _ _ _ _ => (pts_one (pt_cmpR op_notIn_sign (pv 2) (pe_op op_add_str (pv 1) pe_str) (by rfl)))) (fun _ _ _ _ _ => (pv 2))) (pe_lst pa_nil) (nomark _)))))), ?_⟩
    rcases h with ⟨z, rfl, hz, rfl⟩ | ⟨⟨t, ty, kt⟩, rfl⟩
    rotate_left
    · exact ⟨_, rfl, _, _, _, _, false, rfl, .ty _, ty, kt, _, rfl, iteT (iteT (q H (Same.refl _)))⟩
    have hz' : z.length ≤ sizeLine := Nat.le_trans hz (by decide)
    have sok := sok z rfl
    refine ⟨_, rfl, _, _, _, _, true, rfl, .ty _, .x (.base (.str z)), kit_ty (by decide +kernel), _, rfl, iteF ?_⟩
    refine ⟨_, rfl, rfl, _, rfl, if2 (fun c => ?_) (fun c => ?_)⟩
    · have e : z = "" := V.str.inj c
      subst e
      exact iteT (q H (Same.refl _))
    have l0 : (0 : Int) < z.length := by
      by_cases h : (0 : Int) < z.length
      · exact h
      · refine absurd ?_ c
        have : z.cps.toList = [] := by
          have l := len_list z
          cases e : z.cps.toList with
          | nil => rfl
          | cons c cs => rw [e] at l; simp at l; omega
        have e2 : z.cps = #[] := by rw [← Array.toList_inj]; exact this
        exact congrArg V.str (show z = (⟨#[]⟩ : Str) by rw [← e2])
    refine ⟨_, rfl, z, rfl, hz', _, _, rfl, rfl, _, rfl, if2 (fun c => ?_) (fun l1 => ?_)⟩
    · have q := q H (Same.refl _)
      rw [nm_long (z := z) (by omega)] at q
      exact iteT q
    have l1 : (z.length : Int) ≤ 8 := by omega
    obtain ⟨c, cs, e⟩ : ∃ c cs, z.cps.toList = c :: cs := by
      cases e : z.cps.toList with
      | nil => have l := len_list z; rw [e] at l; simp at l; omega
      | cons c cs => exact ⟨c, cs, rfl⟩
    have at0 : atI z.cps.toList 0 = some c := by rw [e]; exact atI_nat (j := 0) rfl
    refine ⟨_, rfl, z, _, c, rfl, rfl, hz', at0, _, rfl, c, _, rfl, rfl, _, rfl, ?_⟩
    rw [low_dec]
    rw [nm_cons e l1] at q
    cases hl : lowC c with
    | false =>
      have q := q H (Same.refl _)
      rw [hl, Bool.false_and] at q
      exact iteT q
    | true =>
      rw [hl, Bool.true_and, ← e] at q
      refine iteF ⟨_, rfl, z, rfl, fun D hD => lc_it (walk_str (z := z)) (fun i H' => Same H H' ∧ H' D = some (.lst (((z.cps.toList.take i).filter badC).map oneV))) ⟨same_new hD, upd_same⟩ (fun _ _ _ _ => trivial) ?_ ?_⟩
      · rintro i v _ H' hi ⟨S, hD'⟩ ⟨rfl, c', hc, rfl⟩
        have hc' : z.cps.toList[i]? = some c' := by rw [Array.getElem?_toList]; exact hc
        have i8 : i < 8 := by
          have : z.cps.size = z.length := rfl
          omega
        refine ⟨rfl, _, rfl, _, rfl, _, _, rfl, rfl, (by decide), c', _, rfl, rfl, _, rfl, ?_⟩
        rw [sign_dec]
        cases hb : badC c' with
        | true =>
          refine iteT ⟨_, rfl, _, hD', ?_, Tp.Same.mut S hD, ?_⟩
          · rw [List.length_map]
            exact Nat.lt_of_le_of_lt (Nat.le_trans (List.length_filter_le _ _) (by rw [List.length_take]; exact (show _ ≤ 8 by omega))) (by decide)
          · rw [upd_same, take_succ hc', List.filter_append, List.map_append]
            rw [show List.filter badC [c'] = [c'] from by simp [hb]]
            rfl
        | false =>
          refine iteF ⟨S, ?_⟩
          rw [take_succ hc', List.filter_append, show List.filter badC [c'] = [] from by simp [hb], List.append_nil]
          exact hD'
      · rintro H1 ⟨S1, hD'⟩
        have et : z.cps.toList.take z.cps.size = z.cps.toList := by
          rw [← Array.length_toList]
          exact List.take_length
        rw [et] at hD'
        refine ⟨Nat.zero_le _, fun l0 hl0 => ?_⟩
        have S2 := same_new (o := .lst []) hl0
        have oks : ∀ c ∈ z.cps.toList.filter badC, PyData.strOk ⟨#[c]⟩ = true := fun c hc => one_ok sok (List.mem_filter.mp hc).1
        obtain ⟨k1, k2⟩ := ones_lay oks
        refine ⟨.list ((z.cps.toList.filter badC).map oneD), .list [], .lst (SqL.of (S2 _ _ hD')) (ones_dp _), .lst (SqL.of upd_same) .nil, ?_, by decide +kernel, ?_⟩
        · unfold SeqAt.shaped
          simp only [PyData.canLay0, PyData.depth, k1, k2, Bool.true_and]
          exact decide_eq_true (by omega)
        · have ev : PyData.eqv (.list ((z.cps.toList.filter badC).map oneD)) (.list []) = (z.cps.toList.all fun x => lowC x || digC x) := by
            cases ef : z.cps.toList.filter badC with
            | nil =>
              have : (z.cps.toList.all fun x => lowC x || digC x) = true := List.all_eq_true.mpr fun x hx => by
                have := List.filter_eq_nil_iff.mp ef x hx
                unfold badC at this
                cases hh : (lowC x || digC x) with
                | true => rfl
                | false => rw [hh] at this; exact absurd rfl this
              rw [this]
              simp [PyData.eqv, PyData.eqvAll]
            | cons x l =>
              have hx : x ∈ z.cps.toList.filter badC := by rw [ef]; exact List.mem_cons_self
              obtain ⟨h1, h2⟩ := List.mem_filter.mp hx
              have : (z.cps.toList.all fun x => lowC x || digC x) = false := Bool.eq_false_iff.mpr fun k => by
                have := List.all_eq_true.mp k x h1
                unfold badC at h2
                rw [this] at h2
                cases h2
              rw [this]
              simp [PyData.eqv, PyData.eqvAll]
          rw [ev]
          exact q _ (S1.trans S2)
end
end L04

set_option Elab.async false
set_option linter.all false
set_option maxRecDepth 100000
set_option maxHeartbeats 4000000
set_option pp.deepTerms false
set_option pp.deepTerms.threshold 4
set_option pp.maxSteps 1000
namespace L04
open PySem L2 Tp
section
variable {P : Program} {w : World} {K : PySem.W.Frag} {mg : Str → Option Value} {base : Heap} {a : Ad} {d : Fd}
/-! ### calls and what is due -/
inductive DueO where
  | bad (w : Str) (v : V) : DueO
  | row (r : BRow) : DueO
inductive CallIs (K : PySem.W.Frag) (H : Hp) (n : Nat) : List V → DueO → Prop
  | nameC {v : V} : NameIs K H v false → CallIs K H n [.str "constant", v] (.bad "name" v)
  | nameS {v u : V} : NameIs K H v false → CallIs K H n [.str "sample", v, u] (.bad "name" v)
  | nameA {v u : V} : NameIs K H v false → CallIs K H n [.str "apply", v, u] (.bad "name" v)
  | con {z : Str} : NameIs K H (.str z) true → CallIs K H n [.str "constant", .str z] (.row ⟨z, .inl []⟩)
  | turn {z : Str} {u : V} : NameIs K H (.str z) true → TurnIs K H u false → CallIs K H n [.str "sample", .str z, u] (.bad "turn" u)
  | smp {z : Str} {t : Nat} : NameIs K H (.str z) true → CallIs K H n [.str "sample", .str z, .int (t : Nat)] (.row ⟨z, .inr t⟩)
  | part {z : Str} {u : V} : NameIs K H (.str z) true → AppIs K H n u .part → CallIs K H n [.str "apply", .str z, u] (.bad "part" u)
  | term {z : Str} {u y : V} : NameIs K H (.str z) true → AppIs K H n u (.term y) → CallIs K H n [.str "apply", .str z, u] (.bad "term" y)
  | app {z : Str} {u : V} {ns : List Nat} : NameIs K H (.str z) true → AppIs K H n u (.ok ns) → CallIs K H n [.str "apply", .str z, u] (.row ⟨z, .inl ns⟩)
theorem CallIs.same {H H' : Hp} {n : Nat} {xs : List V} {o : DueO} (h : CallIs K H n xs o) (S : Same H H') : CallIs K H' n xs o := by
  cases h with
  | nameC h => exact .nameC (NameIs.same h S)
  | nameS h => exact .nameS (NameIs.same h S)
  | nameA h => exact .nameA (NameIs.same h S)
  | con h => exact .con (NameIs.same h S)
  | turn h t => exact .turn (NameIs.same h S) (TurnIs.same t S)
  | smp h => exact .smp (NameIs.same h S)
  | part h t => exact .part (NameIs.same h S) (t.same S)
  | term h t => exact .term (NameIs.same h S) (t.same S)
  | app h t => exact .app (NameIs.same h S) (t.same S)
theorem int_cases {H : Hp} {v : V} {n : Nat} {b : Bool} (h : IntIs K H v 0 ((n : Nat) - 1) b) : (TurnIs K H v false ∧ b = false) ∨ ∃ t : Nat, v = .int (t : Nat) ∧ b = decide (t < n) := by
  rcases h with ⟨e, h, z⟩ | ⟨k, z⟩
  · cases h with
    | int i =>
      by_cases c : 0 ≤ i
      · obtain ⟨t, rfl⟩ := Int.eq_ofNat_of_zero_le c
        refine .inr ⟨t, rfl, ?_⟩
        rw [z]
        show (decide ((0 : Int) ≤ (t : Nat)) && decide (((t : Nat) : Int) ≤ ((n : Nat) : Int) - 1)) = _
        rw [decide_eq_true (by omega), Bool.true_and]
        by_cases l : t < n
        · rw [decide_eq_true l, decide_eq_true (by omega)]
        · rw [decide_eq_false l, decide_eq_false (by omega)]
      · refine .inl ⟨.inl ⟨_, .int i, (decide_eq_false c).symm⟩, ?_⟩
        rw [z]
        show (decide ((0 : Int) ≤ i) && _) = _
        rw [decide_eq_false c, Bool.false_and]
    | non => exact .inl ⟨.inl ⟨_, .non, rfl⟩, z⟩
    | bl b => exact .inl ⟨.inl ⟨_, .bl b, rfl⟩, z⟩
    | str x => exact .inl ⟨.inl ⟨_, .str x, rfl⟩, z⟩
    | lst a b => exact .inl ⟨.inl ⟨_, .lst a b, rfl⟩, z⟩
    | tup a b => exact .inl ⟨.inl ⟨_, .tup a b, rfl⟩, z⟩
    | dic a b c => exact .inl ⟨.inl ⟨_, .dic a b c, rfl⟩, z⟩
  · exact .inl ⟨.inr ⟨k, rfl⟩, z⟩
def spDue (K : PySem.W.Frag) : Sp := fun vs H Q _ => ∃ (q p : Addr) (ls items : List V) (o : DueO), vs = [.ref q, .ref p] ∧ SqL K H q ls ∧ SqT K H p items ∧ CallIs K H ls.length items o ∧ (∀ z, items[1]? = some (.str z) → PyData.strOk z = true) ∧
  (∀ w v, o = .bad w v → ∀ t H', Same H H' → H' t = some (.lst [.str w, v]) → Q (.ref t) H') ∧ (∀ r, o = .row r → ∀ t pr H', Same H H' → H' t = some (.lst [.str "row", .ref pr]) → RowAt K H' r pr → Q (.ref t) H')
theorem ok_due (T : Txt K mg a d) : FnOk P w K mg base CX0 2 a.due d.due ["_law_rows", "_law_call_here"] (spDue K) := by
  have G_isNamed := ok_isNamed (P := P) (w := w) (base := base) T
  have G_isWhole := ok_isWhole (P := P) (w := w) (base := base) T
  refine okN T.F_due scDue (fun vs H Q E h => ?_) (fun cdv A outer s H vs Q E hr h => ?_)
  · obtain ⟨q, p, ls, items, o, rfl, _⟩ := h
    rfl
  · obtain ⟨q, p, ls, items, o, rfl, hq, hp, ci, sok, q1, q2⟩ := h
    refine ⟨_, (pss_cons (ps_if (pt_not (pt_val (pe_call G_isNamed (hr.mono (by decide)) (by rfl) T.mg_isNamed T.F_isNamed.kp T.b_isNamed .nil pass0 (pa_cons (pe_ix ix_tup (pv 1) pe_int (fun _ _ => rfl)) pa_nil)))) (pss_one (ps_ret (pe_lst (pa_cons pe_str (pa_cons (pe_ix ix_tup (pv 1) pe_int (fun _ _ => rfl)) pa_nil))))) pss_nil)
      (pss_cons (ps_if (pt_cmpR op_eq (pe_ix ix_tup (pv 1) pe_int (fun _ _ => rfl)) pe_str (nomark _)) (pss_one (ps_ret (pe_lst (pa_cons pe_str (pa_cons (pe_tup (pa_cons (pe_ix ix_tup (pv 1) pe_int (fun _ _ => rfl)) (pa_cons (pe_tup pa_nil) pa_nil))) pa_nil))))) pss_nil)
      (pss_cons (ps_if (pt_cmpR op_eq (pe_ix ix_tup (pv 1) pe_int (fun _ _ => rfl)) pe_str (nomark _)) (pss_one (ps_ret (pe_ifExp (pt_val (pe_call G_isWhole (hr.mono (by decide)) (by rfl) T.mg_isWhole T.F_isWhole.kp T.b_isWhole .nil pass0 (pa_cons (pe_ix ix_tup (pv 1) pe_int (fun _ _ => rfl)) pa_nil))) (pe_lst (pa_cons pe_str (pa_cons (pe_tup (pa_cons (pe_ix ix_tup (pv 1) pe_int (fun _ _ => rfl)) (pa_cons (pe_ix ix_tup (pv 1) pe_int (fun _ _ => rfl)) pa_nil))) pa_nil))) (pe_lst (pa_cons pe_str (pa_cons (pe_ix ix_tup (pv 1) pe_int (fun _ _ => rfl)) pa_nil)))))) pss_nil)
      (pss_cons (ps_if (PW.pt (pw_or (pt_not (pt_val (pe_callB call_isiT (by rfl) T.isinstance_ Tp.bt_isinstance (pa_cons (pe_ix ix_tup (pv 1) pe_int (fun _ _ => rfl)) (pa_cons (pe_tup (pa_cons (pe_bltn (v := .ty "list") (by rfl) T.list_ Tp.bt_list rfl) (pa_cons (pe_bltn (v := .ty "tuple") (by rfl) T.tuple_ Tp.bt_tuple rfl) pa_nil))) pa_nil))))) (pw_or1 (pt_not (pt_chain op_lt op_lt pe_int (pe_callB call_len_seq (by rfl) T.len_ Tp.bt_len (pa_cons (pe_ix ix_tup (pv 1) pe_int (fun _ _ => rfl)) pa_nil)) pe_int))))) (pss_one (ps_ret (pe_lst (pa_cons pe_str (pa_cons (pe_ix ix_tup (pv 1) pe_int (fun _ _ => rfl)) pa_nil))))) pss_nil)
      (pss_cons (ps_for PassesOwn.never rfl (Tp.pi_B (K := K) rfl (pe_ix ix_tup (pv 1) pe_int (fun _ _ => rfl))) (pg_name (i := 2) scDue.nd rfl (Or.inl rfl)) (pss_one (ps_if (PW.pt (pw_or (pt_not (pt_val (pe_call G_isWhole (hr.mono (by decide)) (by rfl) T.mg_isWhole T.F_isWhole.kp T.b_isWhole .nil pass0 (pa_cons (pv 2) pa_nil)))) (pw_or1 (pt_cmpR op_ge (pv 2) (pe_callB call_len_seq (by rfl) T.len_ Tp.bt_len (pa_cons (pv 0) pa_nil)) (nomark _))))) (pss_one (ps_ret (pe_lst (pa_cons pe_str (pa_cons (pv 2) pa_nil))))) pss_nil)))
      (pss_one (ps_ret (pe_lst (pa_cons pe_str (pa_cons (pe_tup (pa_cons (pe_ix ix_tup (pv 1) pe_int (fun _ _ => rfl)) (pa_cons (pe_callTy call_tuple_of (by rfl) T.tuple_ Tp.bt_tuple (pa_cons (pe_ix ix_tup (pv 1) pe_int (fun _ _ => rfl)) pa_nil)) pa_nil))) pa_nil)))))))))), ?_⟩
    cases ci with
    | @nameC v nm =>
      refine ⟨_, rfl, p, _, 1, _, rfl, rfl, hp, rfl, _, false, rfl, nm, (fun z e => sok z (by rw [e]; rfl)), fun H1 S1 => ⟨_, rfl, iteT ?_⟩⟩
      exact ⟨_, rfl, p, _, 1, _, rfl, rfl, sqT_same S1 hp, rfl, (show 2 ≤ sizeLine from by decide), fun t ht => q1 _ _ rfl t _ (S1.trans (same_new ht)) upd_same⟩
    | @nameS v u nm =>
      refine ⟨_, rfl, p, _, 1, _, rfl, rfl, hp, rfl, _, false, rfl, nm, (fun z e => sok z (by rw [e]; rfl)), fun H1 S1 => ⟨_, rfl, iteT ?_⟩⟩
      exact ⟨_, rfl, p, _, 1, _, rfl, rfl, sqT_same S1 hp, rfl, (show 2 ≤ sizeLine from by decide), fun t ht => q1 _ _ rfl t _ (S1.trans (same_new ht)) upd_same⟩
    | @nameA v u nm =>
      refine ⟨_, rfl, p, _, 1, _, rfl, rfl, hp, rfl, _, false, rfl, nm, (fun z e => sok z (by rw [e]; rfl)), fun H1 S1 => ⟨_, rfl, iteT ?_⟩⟩
      exact ⟨_, rfl, p, _, 1, _, rfl, rfl, sqT_same S1 hp, rfl, (show 2 ≤ sizeLine from by decide), fun t ht => q1 _ _ rfl t _ (S1.trans (same_new ht)) upd_same⟩
    | @con z nm =>
      refine ⟨_, rfl, p, _, 1, _, rfl, rfl, hp, rfl, _, true, rfl, nm, (fun z e => sok z (by rw [e]; rfl)), fun H1 S1 => ⟨_, rfl, iteF ?_⟩⟩
      have hp1 := sqT_same S1 hp
      refine ⟨_, rfl, p, _, 0, _, rfl, rfl, hp1, rfl, rfl, _, rfl, ifY rfl ?_⟩
      refine ⟨_, rfl, p, _, 1, _, rfl, rfl, hp1, rfl, Nat.zero_le _, fun t0 ht0 => ?_⟩
      have S2 := same_new (o := .tup []) ht0
      have g2 : (upd H1 t0 (.tup [])) t0 = some (.tup []) := upd_same
      generalize upd H1 t0 (.tup []) = H2 at S2 g2 ⊢
      refine ⟨(show 2 ≤ sizeLine from by decide), fun t1 ht1 => ?_⟩
      have S3 := same_new (o := .tup [.str z, .ref t0]) ht1
      have g3 : (upd H2 t1 (.tup [.str z, .ref t0])) t1 = some (.tup [.str z, .ref t0]) := upd_same
      generalize upd H2 t1 (.tup [.str z, .ref t0]) = H3 at S3 g3 ⊢
      refine ⟨(show 2 ≤ sizeLine from by decide), fun t2 ht2 => ?_⟩
      exact q2 _ rfl t2 t1 _ (S1.trans (S2.trans (S3.trans (same_new ht2)))) upd_same (.mkL (SqT.of (same_new ht2 _ _ g3)) (SqT.of (same_new ht2 _ _ (S3 _ _ g2))))
    | @turn z u nm tu =>
      refine ⟨_, rfl, p, _, 1, _, rfl, rfl, hp, rfl, _, true, rfl, nm, (fun z e => sok z (by rw [e]; rfl)), fun H1 S1 => ⟨_, rfl, iteF ?_⟩⟩
      have hp1 := sqT_same S1 hp
      refine ⟨_, rfl, p, _, 0, _, rfl, rfl, hp1, rfl, rfl, _, rfl, ifN (by decide +kernel) ?_⟩
      refine ⟨_, rfl, p, _, 0, _, rfl, rfl, hp1, rfl, rfl, _, rfl, ifY rfl ?_⟩
      refine ⟨_, rfl, p, _, 2, _, rfl, rfl, hp1, rfl, u, false, rfl, TurnIs.same tu S1, _, rfl, iteF ?_⟩
      exact ⟨_, rfl, p, _, 2, _, rfl, rfl, hp1, rfl, (show 2 ≤ sizeLine from by decide), fun t ht => q1 _ _ rfl t _ (S1.trans (same_new ht)) upd_same⟩
    | @smp z t nm =>
      refine ⟨_, rfl, p, _, 1, _, rfl, rfl, hp, rfl, _, true, rfl, nm, (fun z e => sok z (by rw [e]; rfl)), fun H1 S1 => ⟨_, rfl, iteF ?_⟩⟩
      have hp1 := sqT_same S1 hp
      refine ⟨_, rfl, p, _, 0, _, rfl, rfl, hp1, rfl, rfl, _, rfl, ifN (by decide +kernel) ?_⟩
      refine ⟨_, rfl, p, _, 0, _, rfl, rfl, hp1, rfl, rfl, _, rfl, ifY rfl ?_⟩
      refine ⟨_, rfl, p, _, 2, _, rfl, rfl, hp1, rfl, _, true, rfl, int_turn t, _, rfl, iteT ?_⟩
      refine ⟨_, rfl, p, _, 1, _, rfl, rfl, hp1, rfl, _, rfl, p, _, 2, _, rfl, rfl, hp1, rfl, (show 2 ≤ sizeLine from by decide), fun t1 ht1 => ?_⟩
      have S3 := same_new (o := .tup [.str z, .int (t : Nat)]) ht1
      have g3 : (upd H1 t1 (.tup [.str z, .int (t : Nat)])) t1 = some (.tup [.str z, .int (t : Nat)]) := upd_same
      generalize upd H1 t1 (.tup [.str z, .int (t : Nat)]) = H3 at S3 g3 ⊢
      refine ⟨(show 2 ≤ sizeLine from by decide), fun t2 ht2 => ?_⟩
      exact q2 _ rfl t2 t1 _ (S1.trans (S3.trans (same_new ht2))) upd_same (.mkT (SqT.of (same_new ht2 _ _ g3)))
    | @part z u nm ap =>
      refine ⟨_, rfl, p, _, 1, _, rfl, rfl, hp, rfl, _, true, rfl, nm, (fun z e => sok z (by rw [e]; rfl)), fun H1 S1 => ⟨_, rfl, iteF ?_⟩⟩
      have hp1 := sqT_same S1 hp
      refine ⟨_, rfl, p, _, 0, _, rfl, rfl, hp1, rfl, rfl, _, rfl, ifN (by decide +kernel) ?_⟩
      refine ⟨_, rfl, p, _, 0, _, rfl, rfl, hp1, rfl, rfl, _, rfl, ifN (by decide +kernel) ?_⟩
      cases ap with
      | @part _ e dq no =>
        refine ⟨_, rfl, p, _, 2, _, rfl, rfl, hp1, rfl, (show 2 ≤ sizeLine from by decide), fun tp ntp => ?_⟩
        have Sx := same_new (o := .tup [V.ty "list", V.ty "tuple"]) ntp
        have gx : (upd H1 tp (.tup [V.ty "list", V.ty "tuple"])) tp = some (.tup [V.ty "list", V.ty "tuple"]) := upd_same
        generalize upd H1 tp (.tup [V.ty "list", V.ty "tuple"]) = H2 at Sx gx ⊢
        have S12 := S1.trans Sx
        have hp2 := sqT_same Sx hp1
        have dq2 := (dq_same S12).1 dq
        refine ⟨_, tp, _, _, _, _, rfl, gx, cls_lt, dq_ty dq2, kit_lt e, _, rfl, ?_⟩
        cases lt : isLT e with
        | false => exact iteT (iteT (by exact ⟨_, rfl, p, _, 2, _, rfl, rfl, hp2, rfl, (show 2 ≤ sizeLine from by decide), fun t ht => q1 _ _ rfl t _ (S12.trans (same_new ht)) upd_same⟩))
        | true =>
          obtain ⟨p', xs, rfl, sq, da⟩ := dq_seq dq2 lt
          have no := no lt
          rw [← dqAll_len da] at no
          refine iteF ⟨_, rfl, p, _, 2, _, rfl, rfl, hp2, rfl, p', xs, rfl, sqB_len sq, _, _, rfl, rfl, _, rfl, if2 (fun c => ?_) (fun c => ⟨_, rfl, iteT (by exact ⟨_, rfl, p, _, 2, _, rfl, rfl, hp2, rfl, (show 2 ≤ sizeLine from by decide), fun t ht => q1 _ _ rfl t _ (S12.trans (same_new ht)) upd_same⟩)⟩)⟩
          refine ⟨_, _, rfl, rfl, _, rfl, ifnN (fun c2 => ?_) (by exact ⟨_, rfl, p, _, 2, _, rfl, rfl, hp2, rfl, (show 2 ≤ sizeLine from by decide), fun t ht => q1 _ _ rfl t _ (S12.trans (same_new ht)) upd_same⟩)⟩
          omega
    | @term z u y nm ap =>
      refine ⟨_, rfl, p, _, 1, _, rfl, rfl, hp, rfl, _, true, rfl, nm, (fun z e => sok z (by rw [e]; rfl)), fun H1 S1 => ⟨_, rfl, iteF ?_⟩⟩
      have hp1 := sqT_same S1 hp
      refine ⟨_, rfl, p, _, 0, _, rfl, rfl, hp1, rfl, rfl, _, rfl, ifN (by decide +kernel) ?_⟩
      refine ⟨_, rfl, p, _, 0, _, rfl, rfl, hp1, rfl, rfl, _, rfl, ifN (by decide +kernel) ?_⟩
      cases ap with
      | @term p' b' xs i _ sq l0 l1 hi bef bad =>
        obtain ⟨t, ty, kt⟩ := tyB (sq.same S1)
        refine ⟨_, rfl, p, _, 2, _, rfl, rfl, hp1, rfl, (show 2 ≤ sizeLine from by decide), fun tp ntp => ?_⟩
        have Sx := same_new (o := .tup [V.ty "list", V.ty "tuple"]) ntp
        have gx : (upd H1 tp (.tup [V.ty "list", V.ty "tuple"])) tp = some (.tup [V.ty "list", V.ty "tuple"]) := upd_same
        generalize upd H1 tp (.tup [V.ty "list", V.ty "tuple"]) = H2 at Sx gx ⊢
        have S12 := S1.trans Sx
        have hp2 := sqT_same Sx hp1
        have sq2 := sq.same S12
        have hq2 := S12.seq hq
        refine ⟨_, tp, _, t, _, true, rfl, gx, cls_lt, ty_same Sx ty, kt, _, rfl, iteF ?_⟩
        refine ⟨_, rfl, p, _, 2, _, rfl, rfl, hp2, rfl, p', xs, rfl, sqB_len sq2, _, _, rfl, rfl, _, rfl, ifY (show (0 : Int) < (xs.length : Nat) by omega) ⟨_, _, rfl, rfl, _, rfl, ifnY (show ((xs.length : Nat) : Int) < 4 by omega) ?_⟩⟩
        have il : i < xs.length := (List.getElem?_eq_some_iff.mp hi).1
        refine ⟨_, rfl, p, _, 2, _, rfl, rfl, hp2, rfl, b', p', _, rfl, sq2, for_it (walk_B (xs := xs)) (fun j σ H' => j ≤ i ∧ H' = H2 ∧ ∃ v3, σ = [some (.ref q), some (.ref p), v3]) ⟨Nat.zero_le _, rfl, _, rfl⟩ ?_ ?_ ?_⟩
        · rintro j σ H' _ ⟨_, rfl, _⟩
          exact sq2
        · rintro j u σ _ H' hj ⟨le, rfl, v3, rfl⟩ ⟨rfl, hv⟩
          by_cases e : j = i
          · subst e
            rw [hi] at hv
            cases hv
            rcases int_cases (bad.same S12) with ⟨tf, _⟩ | ⟨t, rfl, eb⟩
            · exact ⟨_, rfl, y, false, rfl, tf, _, rfl, iteT (iteT ⟨_, rfl, (show 2 ≤ sizeLine from by decide), fun t ht => q1 _ _ rfl t _ (S12.trans (same_new ht)) upd_same⟩)⟩
            · have ge : ¬ t < ls.length := fun z => by rw [decide_eq_true z] at eb; cases eb
              exact ⟨_, rfl, _, true, rfl, int_turn t, _, rfl, iteF ⟨_, rfl, _, rfl, q, ls, rfl, .inl hq2, _, _, rfl, rfl, _, rfl, ifY (show ((t : Nat) : Int) ≥ (ls.length : Nat) by omega) ⟨_, rfl, (show 2 ≤ sizeLine from by decide), fun t ht => q1 _ _ rfl t _ (S12.trans (same_new ht)) upd_same⟩⟩⟩
          · rcases int_cases ((bef j u (by omega) hv).same S12) with ⟨_, eb⟩ | ⟨t, rfl, eb⟩
            · cases eb
            · have lt := of_decide_eq_true eb.symm
              exact ⟨_, rfl, _, true, rfl, int_turn t, _, rfl, iteF ⟨_, rfl, _, rfl, q, ls, rfl, .inl hq2, _, _, rfl, rfl, _, rfl, ifN (show ¬ ((t : Nat) : Int) ≥ (ls.length : Nat) by omega) ⟨by omega, rfl, _, rfl⟩⟩⟩
        · rintro σ H' ⟨le, _⟩
          omega
    | @app z u ns nm ap =>
      refine ⟨_, rfl, p, _, 1, _, rfl, rfl, hp, rfl, _, true, rfl, nm, (fun z e => sok z (by rw [e]; rfl)), fun H1 S1 => ⟨_, rfl, iteF ?_⟩⟩
      have hp1 := sqT_same S1 hp
      refine ⟨_, rfl, p, _, 0, _, rfl, rfl, hp1, rfl, rfl, _, rfl, ifN (by decide +kernel) ?_⟩
      refine ⟨_, rfl, p, _, 0, _, rfl, rfl, hp1, rfl, rfl, _, rfl, ifN (by decide +kernel) ?_⟩
      cases ap with
      | @ok p' b' _ sq l0 l1 lt =>
        have nl := numsV_len ns
        obtain ⟨t, ty, kt⟩ := tyB (sq.same S1)
        refine ⟨_, rfl, p, _, 2, _, rfl, rfl, hp1, rfl, (show 2 ≤ sizeLine from by decide), fun tp ntp => ?_⟩
        have Sx := same_new (o := .tup [V.ty "list", V.ty "tuple"]) ntp
        have gx : (upd H1 tp (.tup [V.ty "list", V.ty "tuple"])) tp = some (.tup [V.ty "list", V.ty "tuple"]) := upd_same
        generalize upd H1 tp (.tup [V.ty "list", V.ty "tuple"]) = H2 at Sx gx ⊢
        have S12 := S1.trans Sx
        have hp2 := sqT_same Sx hp1
        have sq2 := sq.same S12
        have hq2 := S12.seq hq
        refine ⟨_, tp, _, t, _, true, rfl, gx, cls_lt, ty_same Sx ty, kt, _, rfl, iteF ?_⟩
        refine ⟨_, rfl, p, _, 2, _, rfl, rfl, hp2, rfl, p', numsV ns, rfl, sqB_len sq2, _, _, rfl, rfl, _, rfl, ifY (show (0 : Int) < ((numsV ns).length : Nat) by omega) ⟨_, _, rfl, rfl, _, rfl, ifnY (show (((numsV ns).length : Nat) : Int) < 4 by omega) ?_⟩⟩
        refine ⟨_, rfl, p, _, 2, _, rfl, rfl, hp2, rfl, b', p', _, rfl, sq2, for_it (walk_B (xs := numsV ns)) (fun j σ H' => H' = H2 ∧ ∃ v3, σ = [some (.ref q), some (.ref p), v3]) ⟨rfl, _, rfl⟩ ?_ ?_ ?_⟩
        · rintro j σ H' _ ⟨rfl, _⟩
          exact sq2
        · rintro j u σ _ H' hj ⟨rfl, v3, rfl⟩ ⟨rfl, hv⟩
          unfold numsV at hv
          rw [List.getElem?_map] at hv
          obtain ⟨k, hk, rfl⟩ := Option.map_eq_some_iff.mp hv
          have lk := lt k (List.mem_of_getElem? hk)
          exact ⟨_, rfl, _, true, rfl, int_turn k, _, rfl, iteF ⟨_, rfl, _, rfl, q, ls, rfl, .inl hq2, _, _, rfl, rfl, _, rfl, ifN (show ¬ ((k : Nat) : Int) ≥ (ls.length : Nat) by omega) ⟨rfl, _, rfl⟩⟩⟩
        · rintro σ H' ⟨rfl, v3, rfl⟩
          refine ⟨_, rfl, p, _, 1, _, rfl, rfl, hp2, rfl, _, rfl, p, _, 2, _, rfl, rfl, hp2, rfl, p', numsV ns, rfl, ?_⟩
          cases b' with
          | true =>
            refine .inr ⟨sq2, (show 2 ≤ sizeLine from by decide), fun t1 ht1 => ?_⟩
            have S3 := same_new (o := .tup [.str z, .ref p']) ht1
            have g3 : (upd H' t1 (.tup [.str z, .ref p'])) t1 = some (.tup [.str z, .ref p']) := upd_same
            generalize upd H' t1 (.tup [.str z, .ref p']) = H3 at S3 g3 ⊢
            refine ⟨(show 2 ≤ sizeLine from by decide), fun t2 ht2 => ?_⟩
            exact q2 _ rfl t2 t1 _ (S12.trans (S3.trans (same_new ht2))) upd_same (.mkL (SqT.of (same_new ht2 _ _ g3)) (sqT_same (S3.trans (same_new ht2)) sq2))
          | false =>
            refine .inl ⟨sq2, fun t0 ht0 => ⟨(show 2 ≤ sizeLine from by decide), fun t1 ht1 => ?_⟩⟩
            have S2 := same_new (o := .tup (numsV ns)) ht0
            have g2 : (upd H' t0 (.tup (numsV ns))) t0 = some (.tup (numsV ns)) := upd_same
            generalize upd H' t0 (.tup (numsV ns)) = H3 at S2 g2 ht1 ⊢
            have S4 := same_new (o := .tup [.str z, .ref t0]) ht1
            have g4 : (upd H3 t1 (.tup [.str z, .ref t0])) t1 = some (.tup [.str z, .ref t0]) := upd_same
            generalize upd H3 t1 (.tup [.str z, .ref t0]) = H4 at S4 g4 ⊢
            refine ⟨(show 2 ≤ sizeLine from by decide), fun t2 ht2 => ?_⟩
            exact q2 _ rfl t2 t1 _ (S12.trans (S2.trans (S4.trans (same_new ht2)))) upd_same (.mkL (SqT.of (same_new ht2 _ _ g4)) (SqT.of (same_new ht2 _ _ (S4 _ _ g2))))
end
end L04

set_option Elab.async false
set_option linter.all false
set_option maxRecDepth 100000
set_option maxHeartbeats 4000000
set_option pp.deepTerms false
set_option pp.deepTerms.threshold 4
set_option pp.maxSteps 1000
namespace L04
open PySem L2 Tp
section
variable {P : Program} {w : World} {K : PySem.W.Frag} {mg : Str → Option Value} {base : Heap} {a : Ad} {d : Fd}
/-! ### _law_told, _law_made -/
theorem xne (T : Txt K mg a d) {i j : Nat} {x y : Addr} (hi : [a.CInvalidPart, a.CInvalidName, a.CInvalidRow, a.CInvalidTurn, a.CUnknownTerm, a.CNetError, a.CMissingError, a.CStateError][i]? = some x) (hj : [a.CInvalidPart, a.CInvalidName, a.CInvalidRow, a.CInvalidTurn, a.CUnknownTerm, a.CNetError, a.CMissingError, a.CStateError][j]? = some y) (n : i ≠ j) : x ≠ y := fun e => by
  subst e
  have hl := (List.getElem?_eq_some_iff.mp hi).1
  exact n ((List.getElem?_inj hl T.xnd).mp (hi.trans hj.symm))
theorem exT {b : XB} {C : Addr} {up : List Addr} (c : ClsX b K C up) : PySem.W.exmOne K (.ref C) (.ref C) = some true := by
  rw [exm_X c c, List.contains_cons, beq_self_eq_true]
  rfl
theorem exF {b b2 : XB} {C B D : Addr} {up : List Addr} (c : ClsX b K C [B]) (c2 : ClsX b2 K D up) (n1 : C ≠ D) (n2 : B ≠ D) : PySem.W.exmOne K (.ref C) (.ref D) = some false := by
  rw [exm_X c c2]
  refine congrArg some (Bool.eq_false_iff.mpr fun z => ?_)
  have m := List.contains_iff_mem.mp z
  rcases List.mem_cons.mp m with m | m
  · exact n1 m.symm
  · exact n2 (List.mem_singleton.mp m).symm
theorem exNN (T : Txt K mg a d) : PySem.W.exmOne K (.ref a.CInvalidName) (.ref a.CInvalidName) = some true := exT T.cx_InvalidName
theorem exTN (T : Txt K mg a d) : PySem.W.exmOne K (.ref a.CInvalidTurn) (.ref a.CInvalidName) = some false := exF T.cx_InvalidTurn T.cx_InvalidName (xne T (i := 3) (j := 1) rfl rfl (by decide)) (xne T (i := 5) (j := 1) rfl rfl (by decide))
theorem exTT (T : Txt K mg a d) : PySem.W.exmOne K (.ref a.CInvalidTurn) (.ref a.CInvalidTurn) = some true := exT T.cx_InvalidTurn
theorem exPN (T : Txt K mg a d) : PySem.W.exmOne K (.ref a.CInvalidPart) (.ref a.CInvalidName) = some false := exF T.cx_InvalidPart T.cx_InvalidName (xne T (i := 0) (j := 1) rfl rfl (by decide)) (xne T (i := 5) (j := 1) rfl rfl (by decide))
theorem exPT (T : Txt K mg a d) : PySem.W.exmOne K (.ref a.CInvalidPart) (.ref a.CInvalidTurn) = some false := exF T.cx_InvalidPart T.cx_InvalidTurn (xne T (i := 0) (j := 3) rfl rfl (by decide)) (xne T (i := 5) (j := 3) rfl rfl (by decide))
theorem exPP (T : Txt K mg a d) : PySem.W.exmOne K (.ref a.CInvalidPart) (.ref a.CInvalidPart) = some true := exT T.cx_InvalidPart
theorem exUN (T : Txt K mg a d) : PySem.W.exmOne K (.ref a.CUnknownTerm) (.ref a.CInvalidName) = some false := exF T.cx_UnknownTerm T.cx_InvalidName (xne T (i := 4) (j := 1) rfl rfl (by decide)) (xne T (i := 6) (j := 1) rfl rfl (by decide))
theorem exUT (T : Txt K mg a d) : PySem.W.exmOne K (.ref a.CUnknownTerm) (.ref a.CInvalidTurn) = some false := exF T.cx_UnknownTerm T.cx_InvalidTurn (xne T (i := 4) (j := 3) rfl rfl (by decide)) (xne T (i := 6) (j := 3) rfl rfl (by decide))
theorem exUP (T : Txt K mg a d) : PySem.W.exmOne K (.ref a.CUnknownTerm) (.ref a.CInvalidPart) = some false := exF T.cx_UnknownTerm T.cx_InvalidPart (xne T (i := 4) (j := 0) rfl rfl (by decide)) (xne T (i := 6) (j := 0) rfl rfl (by decide))
theorem exUU (T : Txt K mg a d) : PySem.W.exmOne K (.ref a.CUnknownTerm) (.ref a.CUnknownTerm) = some true := exT T.cx_UnknownTerm
theorem exNP (T : Txt K mg a d) : PySem.W.exmOne K (.ref a.CInvalidName) (.ref a.CInvalidPart) = some false := exF T.cx_InvalidName T.cx_InvalidPart (xne T (i := 1) (j := 0) rfl rfl (by decide)) (xne T (i := 5) (j := 0) rfl rfl (by decide))
theorem exRP (T : Txt K mg a d) : PySem.W.exmOne K (.ref a.CInvalidRow) (.ref a.CInvalidPart) = some false := exF T.cx_InvalidRow T.cx_InvalidPart (xne T (i := 2) (j := 0) rfl rfl (by decide)) (xne T (i := 5) (j := 0) rfl rfl (by decide))
theorem exRN (T : Txt K mg a d) : PySem.W.exmOne K (.ref a.CInvalidRow) (.ref a.CInvalidName) = some false := exF T.cx_InvalidRow T.cx_InvalidName (xne T (i := 2) (j := 1) rfl rfl (by decide)) (xne T (i := 5) (j := 1) rfl rfl (by decide))
theorem exRR (T : Txt K mg a d) : PySem.W.exmOne K (.ref a.CInvalidRow) (.ref a.CInvalidRow) = some true := exT T.cx_InvalidRow
def spTold (P : Program) (w : World) (K : PySem.W.Frag) (C : Addr) : Sp := fun vs H Q _ => ∃ (x l m : Addr) (rows : List BRow) (as : List Addr) (p : Addr) (items : List V) (o : DueO), vs = [.ref x, .ref p] ∧ BookAt P w K C H x l m rows as ∧ rows.length < 100000 ∧ SqT K H p items ∧ CallIs K H rows.length items o ∧
  (∀ w v, o = .bad w v → ∀ t H', Same H H' → H' t = some (.lst [.str w, v]) → Q (.ref t) H') ∧
  (∀ r, o = .row r → ∀ t H' as', Kp2 l m H H' → BookAt P w K C H' x l m (addR rows r).1 as' → H' t = some (.lst [.str "row", .int (((addR rows r).2 : Nat) : Int)]) → Q (.ref t) H')
theorem ok_told (T : Txt K mg a d) : FnOk P w K mg base CX0 6 a.told d.told ["_law_book", "_law_call_here"] (spTold P w K a.CBook) := by
  have G_constant := ok_constant (P := P) (w := w) (base := base) T
  have G_sample := ok_sample (P := P) (w := w) (base := base) T
  have G_apply := ok_apply (P := P) (w := w) (base := base) T
  refine okN T.F_told scTold (fun vs H Q E h => ?_) (fun cdv A outer s H vs Q E hr h => ?_)
  · obtain ⟨x, l, m, rows, as, p, items, o, rfl, _⟩ := h
    rfl
  · obtain ⟨x, l, m, rows, as, p, items, o, rfl, bk, few, hp, ci, q1, q2⟩ := h
    refine ⟨_, (pss_one (Tp.ps_tryA rfl rfl Tp.takes0 (fun W pn xe tk po => (pss_cons (ps_if (pt_cmpR op_eq (pe_ix (Tp.ix_tupK (K := K) rfl) (pv 1) pe_int (fun _ _ => rfl)) pe_str (nomark _)) (pss_one (ps_ret (pe_lst (pa_cons pe_str (pa_cons (Tp.pe_methE (pv 0) T.cl_Book T.me_constant G_constant (hr.mono (by decide)) T.b_constant .nil (fun σ => passAt tk σ) (pa_cons (pe_ix (Tp.ix_tupK (K := K) rfl) (pv 1) pe_int (fun _ _ => rfl)) pa_nil)) pa_nil))))) pss_nil)
      (pss_cons (ps_if (pt_cmpR op_eq (pe_ix (Tp.ix_tupK (K := K) rfl) (pv 1) pe_int (fun _ _ => rfl)) pe_str (nomark _)) (pss_one (ps_ret (pe_lst (pa_cons pe_str (pa_cons (Tp.pe_methE (pv 0) T.cl_Book T.me_sample G_sample (hr.mono (by decide)) T.b_sample .nil (fun σ => passAt tk σ) (pa_cons (pe_ix (Tp.ix_tupK (K := K) rfl) (pv 1) pe_int (fun _ _ => rfl)) (pa_cons (pe_ix (Tp.ix_tupK (K := K) rfl) (pv 1) pe_int (fun _ _ => rfl)) pa_nil))) pa_nil))))) pss_nil)
      (pss_one (ps_ret (pe_lst (pa_cons pe_str (pa_cons (Tp.pe_methE (pv 0) T.cl_Book T.me_apply G_apply (hr.mono (by decide)) T.b_apply .nil (fun σ => passAt tk σ) (pa_cons (pe_ix (Tp.ix_tupK (K := K) rfl) (pv 1) pe_int (fun _ _ => rfl)) (pa_cons (pe_ix (Tp.ix_tupK (K := K) rfl) (pv 1) pe_int (fun _ _ => rfl)) pa_nil))) pa_nil)))))))) (.as_ (i := 2) scTold.nd rfl rfl ⟨rfl, by decide, Or.inl T.mg_InvalidName⟩ (fun ea oe cls ed pn hz hf => (pss_one (ps_ret (pe_lst (pa_cons pe_str (pa_cons (pe_xf T.cx_InvalidName.xf (T.xi_InvalidName.no "value" (by decide)) hz hf (pv 2)) pa_nil)))))) (.as_ (i := 2) scTold.nd rfl rfl ⟨rfl, by decide, Or.inl T.mg_InvalidTurn⟩ (fun ea oe cls ed pn hz hf => (pss_one (ps_ret (pe_lst (pa_cons pe_str (pa_cons (pe_xf T.cx_InvalidTurn.xf (T.xi_InvalidTurn.no "value" (by decide)) hz hf (pv 2)) pa_nil)))))) (.as_ (i := 2) scTold.nd rfl rfl ⟨rfl, by decide, Or.inl T.mg_InvalidPart⟩ (fun ea oe cls ed pn hz hf => (pss_one (ps_ret (pe_lst (pa_cons pe_str (pa_cons (pe_xf T.cx_InvalidPart.xf (T.xi_InvalidPart.no "value" (by decide)) hz hf (pv 2)) pa_nil)))))) (.as_ (i := 2) scTold.nd rfl rfl ⟨rfl, by decide, Or.inl T.mg_UnknownTerm⟩ (fun ea oe cls ed pn hz hf => (pss_one (ps_ret (pe_lst (pa_cons pe_str (pa_cons (pe_xf T.cx_UnknownTerm.xf (T.xi_UnknownTerm.no "number" (by decide)) hz hf (pv 2)) pa_nil)))))) .nil)))))), ?_⟩
    obtain ⟨dx, ho⟩ := bk.obj
    have fin : ∀ {r : BRow} {H' : Hp} {as' : List Addr}, o = .row r → Kp2 l m H H' → BookAt P w K a.CBook H' x l m (addR rows r).1 as' → 2 ≤ sizeLine ∧ ∀ t, H' t = none → Q (.ref t) (upd H' t (.lst [.str "row", .int (((addR rows r).2 : Nat) : Int)])) := fun e k b => ⟨by decide, fun t ht => q2 _ e t _ _ (k.trans (Kp2.of (same_new ht))) (b.same (same_new ht)) upd_same⟩
    cases ci with
    | @nameC v nm =>
      refine ⟨_, rfl, p, _, 0, _, rfl, rfl, hp, rfl, rfl, _, rfl, ifY rfl ?_⟩
      exact ⟨_, rfl, x, _, _, rfl, ho, no_look (by decide) (by decide), _, rfl, p, _, 1, _, rfl, rfl, hp, rfl, x, l, m, rows, as, v, false, rfl, bk, few, nm, (fun _ dz H1 S1 g => ⟨_, exNN T, (fun _ ea hea => ⟨_, rfl, rfl, rfl, dz, _, _, rfl, g, rfl, (show 2 ≤ sizeLine from by decide), fun q hq' => q1 _ _ rfl q _ (S1.trans (same_new hq')) upd_same⟩), (fun z => by cases z)⟩), (fun z _ e => by cases e)⟩
    | @con z nm =>
      refine ⟨_, rfl, p, _, 0, _, rfl, rfl, hp, rfl, rfl, _, rfl, ifY rfl ?_⟩
      refine ⟨_, rfl, x, _, _, rfl, ho, no_look (by decide) (by decide), _, rfl, p, _, 1, _, rfl, rfl, hp, rfl, x, l, m, rows, as, _, true, rfl, bk, few, nm, (fun e => by cases e), fun z' ez _ H' as' k b => ?_⟩
      cases ez
      exact fin rfl k b
    | @nameS v u nm =>
      refine ⟨_, rfl, p, _, 0, _, rfl, rfl, hp, rfl, rfl, _, rfl, ifN (by decide +kernel) ?_⟩
      refine ⟨_, rfl, p, _, 0, _, rfl, rfl, hp, rfl, rfl, _, rfl, ifY rfl ?_⟩
      exact ⟨_, rfl, x, _, _, rfl, ho, no_look (by decide) (by decide), _, rfl, p, _, 1, _, rfl, rfl, hp, rfl, _, rfl, p, _, 2, _, rfl, rfl, hp, rfl, x, l, m, rows, as, v, u, false, true, rfl, bk, few, nm, (fun _ dz H1 S1 g => ⟨_, exNN T, (fun _ ea hea => ⟨_, rfl, rfl, rfl, dz, _, _, rfl, g, rfl, (show 2 ≤ sizeLine from by decide), fun q hq' => q1 _ _ rfl q _ (S1.trans (same_new hq')) upd_same⟩), (fun z => by cases z)⟩), (fun e => by cases e)⟩
    | @turn z u nm tu =>
      refine ⟨_, rfl, p, _, 0, _, rfl, rfl, hp, rfl, rfl, _, rfl, ifN (by decide +kernel) ?_⟩
      refine ⟨_, rfl, p, _, 0, _, rfl, rfl, hp, rfl, rfl, _, rfl, ifY rfl ?_⟩
      refine ⟨_, rfl, x, _, _, rfl, ho, no_look (by decide) (by decide), _, rfl, p, _, 1, _, rfl, rfl, hp, rfl, _, rfl, p, _, 2, _, rfl, rfl, hp, rfl, x, l, m, rows, as, _, u, true, false, rfl, bk, few, nm, (fun e => by cases e), fun _ => ⟨tu, (fun _ dz H1 S1 g => ?_), (fun z t _ _ e => by cases e)⟩⟩
      exact ⟨_, exTN T, (fun z => by cases z), fun _ => ⟨_, exTT T, (fun _ ea hea => ⟨_, rfl, rfl, rfl, dz, _, _, rfl, g, rfl, (show 2 ≤ sizeLine from by decide), fun q hq' => q1 _ _ rfl q _ (S1.trans (same_new hq')) upd_same⟩), (fun z => by cases z)⟩⟩
    | @smp z t nm =>
      refine ⟨_, rfl, p, _, 0, _, rfl, rfl, hp, rfl, rfl, _, rfl, ifN (by decide +kernel) ?_⟩
      refine ⟨_, rfl, p, _, 0, _, rfl, rfl, hp, rfl, rfl, _, rfl, ifY rfl ?_⟩
      refine ⟨_, rfl, x, _, _, rfl, ho, no_look (by decide) (by decide), _, rfl, p, _, 1, _, rfl, rfl, hp, rfl, _, rfl, p, _, 2, _, rfl, rfl, hp, rfl, x, l, m, rows, as, _, _, true, true, rfl, bk, few, nm, (fun e => by cases e), fun _ => ⟨int_turn t, (fun e => by cases e), fun z' t' ez et _ H' as' k b => ?_⟩⟩
      cases ez
      have et' : t' = t := by
        have := V.int.inj et
        omega
      subst et'
      exact fin rfl k b
    | @nameA v u nm =>
      refine ⟨_, rfl, p, _, 0, _, rfl, rfl, hp, rfl, rfl, _, rfl, ifN (by decide +kernel) ?_⟩
      refine ⟨_, rfl, p, _, 0, _, rfl, rfl, hp, rfl, rfl, _, rfl, ifN (by decide +kernel) ?_⟩
      exact ⟨_, rfl, x, _, _, rfl, ho, no_look (by decide) (by decide), _, rfl, p, _, 1, _, rfl, rfl, hp, rfl, _, rfl, p, _, 2, _, rfl, rfl, hp, rfl, x, l, m, rows, as, v, u, false, .part, rfl, bk, few, nm, (fun _ dz H1 S1 g => ⟨_, exNN T, (fun _ ea hea => ⟨_, rfl, rfl, rfl, dz, _, _, rfl, g, rfl, (show 2 ≤ sizeLine from by decide), fun q hq' => q1 _ _ rfl q _ (S1.trans (same_new hq')) upd_same⟩), (fun z => by cases z)⟩), (fun e => by cases e)⟩
    | @part z u nm ap =>
      refine ⟨_, rfl, p, _, 0, _, rfl, rfl, hp, rfl, rfl, _, rfl, ifN (by decide +kernel) ?_⟩
      refine ⟨_, rfl, p, _, 0, _, rfl, rfl, hp, rfl, rfl, _, rfl, ifN (by decide +kernel) ?_⟩
      refine ⟨_, rfl, x, _, _, rfl, ho, no_look (by decide) (by decide), _, rfl, p, _, 1, _, rfl, rfl, hp, rfl, _, rfl, p, _, 2, _, rfl, rfl, hp, rfl, x, l, m, rows, as, _, u, true, .part, rfl, bk, few, nm, (fun e => by cases e), fun _ => ⟨ap, (fun _ dz H1 S1 g => ?_), (fun y e => by cases e), (fun z ns _ e => by cases e)⟩⟩
      exact ⟨_, exPN T, (fun z => by cases z), fun _ => ⟨_, exPT T, (fun z => by cases z), fun _ => ⟨_, exPP T, (fun _ ea hea => ⟨_, rfl, rfl, rfl, dz, _, _, rfl, g, rfl, (show 2 ≤ sizeLine from by decide), fun q hq' => q1 _ _ rfl q _ (S1.trans (same_new hq')) upd_same⟩), (fun z => by cases z)⟩⟩⟩
    | @term z u y nm ap =>
      refine ⟨_, rfl, p, _, 0, _, rfl, rfl, hp, rfl, rfl, _, rfl, ifN (by decide +kernel) ?_⟩
      refine ⟨_, rfl, p, _, 0, _, rfl, rfl, hp, rfl, rfl, _, rfl, ifN (by decide +kernel) ?_⟩
      refine ⟨_, rfl, x, _, _, rfl, ho, no_look (by decide) (by decide), _, rfl, p, _, 1, _, rfl, rfl, hp, rfl, _, rfl, p, _, 2, _, rfl, rfl, hp, rfl, x, l, m, rows, as, _, u, true, .term y, rfl, bk, few, nm, (fun e => by cases e), fun _ => ⟨ap, (fun e => by cases e), (fun y' e dz H1 S1 g => ?_), (fun z ns _ e => by cases e)⟩⟩
      cases e
      exact ⟨_, exUN T, (fun z => by cases z), fun _ => ⟨_, exUT T, (fun z => by cases z), fun _ => ⟨_, exUP T, (fun z => by cases z), fun _ => ⟨_, exUU T, (fun _ ea hea => ⟨_, rfl, rfl, rfl, dz, _, _, rfl, g, rfl, (show 2 ≤ sizeLine from by decide), fun q hq' => q1 _ _ rfl q _ (S1.trans (same_new hq')) upd_same⟩), (fun z => by cases z)⟩⟩⟩⟩
    | @app z u ns nm ap =>
      refine ⟨_, rfl, p, _, 0, _, rfl, rfl, hp, rfl, rfl, _, rfl, ifN (by decide +kernel) ?_⟩
      refine ⟨_, rfl, p, _, 0, _, rfl, rfl, hp, rfl, rfl, _, rfl, ifN (by decide +kernel) ?_⟩
      refine ⟨_, rfl, x, _, _, rfl, ho, no_look (by decide) (by decide), _, rfl, p, _, 1, _, rfl, rfl, hp, rfl, _, rfl, p, _, 2, _, rfl, rfl, hp, rfl, x, l, m, rows, as, _, u, true, .ok ns, rfl, bk, few, nm, (fun e => by cases e), fun _ => ⟨ap, (fun e => by cases e), (fun y e => by cases e), fun z' ns' ez en H' as' k b => ?_⟩⟩
      cases ez
      cases en
      exact fin rfl k b
def spMade (P : Program) (w : World) (K : PySem.W.Frag) (C : Addr) : Sp := fun vs H Q _ => ∃ v, vs = [v] ∧ ((NoLT K H v ∧ ∀ t H', Same H H' → H' t = some (.lst [.str "part", v]) → Q (.ref t) H') ∨
  ∃ (b : Bool) (p : Addr) (xs : List V) (ds : List PyData), v = .ref p ∧ SqB b K H p xs ∧ DqAll K H xs ds ∧ ds.length ≤ 1000 ∧ (∀ e ∈ ds, ShI e) ∧
    (∀ e u t H', mkD [] ds = .row e → Same H H' → Dq K H' u e → H' t = some (.lst [.str "row", u]) → Q (.ref t) H') ∧ (∀ e u t H', mkD [] ds = .name e → Same H H' → Dq K H' u e → H' t = some (.lst [.str "name", u]) → Q (.ref t) H') ∧
    ∀ rows, mkD [] ds = .ok rows → ∀ x l m as t H', Same H H' → H x = none → H l = none → H m = none → BookAt P w K C H' x l m rows as → H' t = some (.lst [.str "book", .ref x]) → Q (.ref t) H')
theorem NoLT.same {H H' : Hp} {v : V} (h : NoLT K H v) (S : Same H H') : NoLT K H' v := by
  obtain ⟨t, ty, k⟩ := h
  exact ⟨t, ty_same S ty, k⟩
theorem SqB.sameB {b : Bool} {H H' : Hp} {p : Addr} {xs : List V} (h : SqB b K H p xs) (S : Same H H') : SqB b K H' p xs := h.same S
theorem ok_made (T : Txt K mg a d) : FnOk P w K mg base CX0 6 a.made d.made ["_law_rows"] (spMade P w K a.CBook) := by
  have G_bookInit := ok_bookInit (P := P) (w := w) (base := base) T
  have bBook1 := bk1 T
  refine okN T.F_made scMade (fun vs H Q E h => ?_) (fun cdv A outer s H vs Q E hr h => ?_)
  · obtain ⟨v, rfl, _⟩ := h
    rfl
  · obtain ⟨v, rfl, h⟩ := h
    refine ⟨_, (pss_one (Tp.ps_tryA rfl rfl Tp.takes0 (fun W pn xe tk po => (pss_one (ps_ret (pe_lst (pa_cons pe_str (pa_cons (Tp.pe_makeE T.mk_Book G_bookInit (hr.mono (by decide)) (by rfl) T.mg_Book bBook1 .nil (fun σ => passAt tk σ) (pa_cons (pv 0) pa_nil)) pa_nil)))))) (.as_ (i := 1) scMade.nd rfl rfl ⟨rfl, by decide, Or.inl T.mg_InvalidPart⟩ (fun ea oe cls ed pn hz hf => (pss_one (ps_ret (pe_lst (pa_cons pe_str (pa_cons (pe_xf T.cx_InvalidPart.xf (T.xi_InvalidPart.no "value" (by decide)) hz hf (pv 1)) pa_nil)))))) (.as_ (i := 1) scMade.nd rfl rfl ⟨rfl, by decide, Or.inl T.mg_InvalidName⟩ (fun ea oe cls ed pn hz hf => (pss_one (ps_ret (pe_lst (pa_cons pe_str (pa_cons (pe_xf T.cx_InvalidName.xf (T.xi_InvalidName.no "value" (by decide)) hz hf (pv 1)) pa_nil)))))) (.as_ (i := 1) scMade.nd rfl rfl ⟨rfl, by decide, Or.inl T.mg_InvalidRow⟩ (fun ea oe cls ed pn hz hf => (pss_one (ps_ret (pe_lst (pa_cons pe_str (pa_cons (pe_xf T.cx_InvalidRow.xf (T.xi_InvalidRow.no "value" (by decide)) hz hf (pv 1)) pa_nil)))))) .nil))))), ?_⟩
    refine ⟨_, rfl, fun x dx h1 h2 h3 => ?_⟩
    have S : Same H (upd (upd H dx (.own x)) x (.ins a.CBook dx [])) := same_two h1 h2
    rcases h with ⟨nl, q⟩ | ⟨b, p, xs, ds, rfl, sq, da, l10, sh, q1, q2, q3⟩
    · refine ⟨x, dx, v, rfl, upd_same, .inl ⟨NoLT.same nl S, fun dz H1 S1 g => ?_⟩⟩
      exact ⟨_, exPP T, (fun _ ea hea => ⟨_, rfl, rfl, rfl, dz, _, _, rfl, g, rfl, (show 2 ≤ sizeLine from by decide), fun q0 hq' => q q0 _ (S.trans (S1.trans (same_new hq'))) upd_same⟩), (fun z => by cases z)⟩
    · refine ⟨x, dx, .ref p, rfl, upd_same, .inr ⟨b, p, xs, ds, rfl, sq.same S, (dq_same S).2 da, l10, sh, fun u H' e em k dq dz H1 S1 g => ?_, fun u H' e em k dq dz H1 S1 g => ?_, fun rows em H' l m as n1 n2 k bk => ?_⟩⟩
      · have SH : Same H H' := fun b o h => k b o (ne_of_none h h1) (S _ _ h)
        exact ⟨_, exRP T, (fun z => by cases z), fun _ => ⟨_, exRN T, (fun z => by cases z), fun _ => ⟨_, exRR T, (fun _ ea hea => ⟨_, rfl, rfl, rfl, dz, _, _, rfl, g, rfl, (show 2 ≤ sizeLine from by decide), fun q0 hq' => q1 e u q0 _ em (SH.trans (S1.trans (same_new hq'))) ((dq_same (S1.trans (same_new hq'))).1 dq) upd_same⟩), (fun z => by cases z)⟩⟩⟩
      · have SH : Same H H' := fun b o h => k b o (ne_of_none h h1) (S _ _ h)
        exact ⟨_, exNP T, (fun z => by cases z), fun _ => ⟨_, exNN T, (fun _ ea hea => ⟨_, rfl, rfl, rfl, dz, _, _, rfl, g, rfl, (show 2 ≤ sizeLine from by decide), fun q0 hq' => q2 e u q0 _ em (SH.trans (S1.trans (same_new hq'))) ((dq_same (S1.trans (same_new hq'))).1 dq) upd_same⟩), (fun z => by cases z)⟩⟩
      · have SH : Same H H' := fun b o h => k b o (ne_of_none h h1) (S _ _ h)
        refine ⟨rfl, (show 2 ≤ sizeLine from by decide), fun q0 hq' => ?_⟩
        exact q3 rows em x l m as q0 _ (SH.trans (same_new hq')) h1 (none_same S n1) (none_same S n2) (bk.same (same_new hq')) upd_same
end
end L04

set_option Elab.async false
set_option linter.all false
set_option maxRecDepth 100000
set_option maxHeartbeats 4000000
set_option pp.deepTerms false
set_option pp.deepTerms.threshold 4
set_option pp.maxSteps 1000
namespace L04
open PySem L2 Tp
section
variable {P : Program} {w : World} {K : PySem.W.Frag} {mg : Str → Option Value} {base : Heap} {a : Ad} {d : Fd}
theorem un65 {k : Nat} {A : Around} (hr : Room k A) : A.units + 65 < cLine := by have := hr.un; omega
/-! ### _law_made_due -/
theorem nums_eqv : ∀ l m : List Nat, PyData.eqvAll (numsD l) (numsD m) = decide (l = m)
  | [], [] => rfl
  | [], y :: m => by
    rw [decide_eq_false (by simp)]
    rfl
  | x :: l, [] => by
    rw [decide_eq_false (by simp)]
    rfl
  | x :: l, y :: m => by
    have ih := nums_eqv l m
    unfold numsD at ih ⊢
    rw [List.map_cons, List.map_cons]
    show ((((x : Nat) : Int) == ((y : Nat) : Int)) && PyData.eqvAll _ _) = _
    rw [ih]
    by_cases e : x = y
    · subst e
      simp
    · rw [decide_eq_false (show ¬ (x :: l = y :: m) from fun z => e (List.cons.inj z).1)]
      have : (((x : Nat) : Int) == ((y : Nat) : Int)) = false := beq_eq_false_iff_ne.mpr (by omega)
      rw [this, Bool.false_and]
theorem row_eqv (r s : BRow) : PyData.eqv r.data s.data = decide (r = s) := by
  obtain ⟨n, x⟩ := r
  obtain ⟨m, y⟩ := s
  have key : ∀ b : Bool, ((n == m) && (b && true)) = ((n == m) && b) := fun b => by rw [Bool.and_true]
  cases x with
  | inl l =>
    cases y with
    | inl k =>
      show ((n == m) && (PyData.eqvAll (numsD l) (numsD k) && true)) = _
      rw [nums_eqv, key]
      by_cases e : n = m
      · subst e
        rw [beq_self_eq_true, Bool.true_and]
        by_cases f : l = k
        · subst f
          simp
        · rw [decide_eq_false f, decide_eq_false]
          intro z
          injection z with _ z
          injection z with z
          exact f z
      · rw [beq_eq_false_iff_ne.mpr e, Bool.false_and, decide_eq_false]
        intro z
        injection z with z _
        exact e z
    | inr t =>
      show ((n == m) && (false && true)) = _
      rw [decide_eq_false (by intro z; injection z with _ z; cases z)]
      simp
  | inr t =>
    cases y with
    | inl k =>
      show ((n == m) && (false && true)) = _
      rw [decide_eq_false (by intro z; injection z with _ z; cases z)]
      simp
    | inr u =>
      show ((n == m) && ((((t : Nat) : Int) == ((u : Nat) : Int)) && true)) = _
      rw [key]
      by_cases e : n = m
      · subst e
        rw [beq_self_eq_true, Bool.true_and]
        by_cases f : t = u
        · subst f
          simp
        · rw [decide_eq_false (by intro z; injection z with _ z; injection z with z; exact f z)]
          exact beq_eq_false_iff_ne.mpr (by omega)
      · rw [beq_eq_false_iff_ne.mpr e, Bool.false_and, decide_eq_false]
        intro z
        injection z with z _
        exact e z
theorem rows_any (r : BRow) : ∀ rows : List BRow, ((rows.map BRow.data).any fun z => PyData.eqv z r.data) = decide (r ∈ rows)
  | [] => by simp
  | s :: rows => by
    rw [List.map_cons, List.any_cons, rows_any r rows, row_eqv]
    by_cases e : s = r
    · subst e
      simp
    · rw [decide_eq_false e, Bool.false_or]
      by_cases m : r ∈ rows
      · rw [decide_eq_true m, decide_eq_true (List.mem_cons_of_mem _ m)]
      · rw [decide_eq_false m, decide_eq_false]
        intro z
        rcases List.mem_cons.mp z with z | z
        · exact e z.symm
        · exact m z
theorem dp_seq {H : Hp} {v : V} {e : PyData} (h : Dp K H v e) (l : isLT e = true) : ∃ p xs, v = .ref p ∧ SqB (isTup e) K H p xs ∧ DpAll K H xs (itemsD e) := by
  cases h with
  | lst s r => exact ⟨_, _, rfl, s, r⟩
  | tup s r => exact ⟨_, _, rfl, s, r⟩
  | _ => cases l
theorem dpAll_len {H : Hp} : ∀ {vs : List V} {ds : List PyData}, DpAll K H vs ds → vs.length = ds.length
  | _, _, .nil => rfl
  | _, _, .cons _ t => congrArg Nat.succ (dpAll_len t)
theorem dpAll_get {H : Hp} : ∀ {vs : List V} {ds : List PyData}, DpAll K H vs ds → ∀ {i : Nat} {v : V}, vs[i]? = some v → ∃ e, ds[i]? = some e ∧ Dp K H v e
  | _, _, .cons a t, 0, v, h => ⟨_, rfl, by cases h; exact a⟩
  | _, _, .cons a t, i + 1, v, h => dpAll_get t h
theorem dpAll_app {H : Hp} : ∀ {vs ws : List V} {ds es : List PyData}, DpAll K H vs ds → DpAll K H ws es → DpAll K H (vs ++ ws) (ds ++ es)
  | _, _, _, _, .nil, h => h
  | _, _, _, _, .cons x t, h => .cons x (dpAll_app t h)
theorem lay_mem : ∀ {ds : List PyData} {n : Nat}, PyData.canLayAll0 ds = true → PyData.depthAll ds ≤ n → ∀ e ∈ ds, e.canLay0 = true ∧ e.depth ≤ n
  | [], _, _, _, e, h => by cases h
  | x :: ds, n, h1, h2, e, h => by
    rw [PyData.canLayAll0] at h1
    rw [PyData.depthAll] at h2
    obtain ⟨a1, a2⟩ := Bool.and_eq_true_iff.mp h1
    rcases List.mem_cons.mp h with h | h
    · subst h
      exact ⟨a1, by omega⟩
    · exact lay_mem a2 (by omega) e h
theorem lay_all : ∀ {ds : List PyData} {n : Nat}, (∀ e ∈ ds, e.canLay0 = true ∧ e.depth ≤ n) → PyData.canLayAll0 ds = true ∧ PyData.depthAll ds ≤ n
  | [], n, _ => ⟨rfl, Nat.zero_le _⟩
  | x :: ds, n, h => by
    obtain ⟨h1, h2⟩ := lay_all (ds := ds) (n := n) fun e he => h e (List.mem_cons_of_mem _ he)
    obtain ⟨k1, k2⟩ := h x List.mem_cons_self
    rw [PyData.canLayAll0, PyData.depthAll, k1, h1]
    exact ⟨rfl, by omega⟩
theorem shaped_list {ds : List PyData} {n : Nat} (h : ∀ e ∈ ds, e.canLay0 = true ∧ e.depth ≤ n) (l : n ≤ 60) : SeqAt.shaped (.list ds) = true := by
  obtain ⟨h1, h2⟩ := lay_all h
  unfold SeqAt.shaped
  simp only [PyData.canLay0, PyData.depth, h1, Bool.true_and]
  exact decide_eq_true (by omega)
theorem lay_items {e : PyData} {n : Nat} (h1 : e.canLay0 = true) (h2 : e.depth ≤ n + 1) : ∀ x ∈ itemsD e, x.canLay0 = true ∧ x.depth ≤ n := by
  cases e with
  | list xs => exact lay_mem (ds := xs) (by simpa only [PyData.canLay0] using h1) (by simp only [PyData.depth] at h2; omega)
  | tuple xs => exact lay_mem (ds := xs) (by simpa only [PyData.canLay0] using h1) (by simp only [PyData.depth] at h2; omega)
  | _ => intro x hx; cases hx
/-- an item of a list of rows, good or not -/
structure ItOk (e : PyData) : Prop where
  lay : e.canLay0 = true
  dep : e.depth ≤ 3
  sh : ShI e
def badN (n : Nat) (e : PyData) : Bool := (numD n e).isNone
theorem numsO_cons (n : Nat) (e : PyData) (es : List PyData) : numsO n (e :: es) = match numD n e, numsO n es with
    | some k, some ks => some (k :: ks)
    | _, _ => none := rfl
theorem badN_none {n : Nat} : ∀ {es : List PyData}, (numsO n es = none ↔ es.filter (badN n) ≠ [])
  | [] => by
    constructor
    · intro h
      cases h
    · intro h
      exact absurd rfl h
  | e :: es => by
    have ih := badN_none (n := n) (es := es)
    rw [numsO_cons, List.filter_cons]
    cases h : numD n e with
    | none => simp [badN, h]
    | some k =>
      have hb : badN n e = false := by unfold badN; rw [h]; rfl
      rw [hb, if_neg (by simp)]
      cases g : numsO n es with
      | none =>
        rw [g] at ih
        simpa using ih
      | some ks =>
        rw [g] at ih
        simpa using ih
theorem ne_nil_list {ds : List PyData} : (!PyData.eqv (.list ds) (.list [])) = decide (ds ≠ []) := by
  cases ds with
  | nil => rfl
  | cons x l => rfl
def spMadeDue (K : PySem.W.Frag) : Sp := fun vs H Q _ => ∃ (p : Addr) (xs : List V) (ds : List PyData), vs = [.ref p] ∧ SqL K H p xs ∧ DpAll K H xs ds ∧ ds.length ≤ 1000 ∧ (∀ e ∈ ds, ItOk e) ∧
    (∀ e u t H', mkD [] ds = .row e → Same H H' → Dp K H' u e → H' t = some (.lst [.str "row", u]) → Q (.ref t) H') ∧ (∀ e u t H', mkD [] ds = .name e → Same H H' → Dp K H' u e → H' t = some (.lst [.str "name", u]) → Q (.ref t) H') ∧
    ∀ rows, mkD [] ds = .ok rows → ∀ kq ps t H', Same H H' → H' kq = some (.lst (ps.map V.ref)) → H kq = none → Paired (RowAt K H') rows ps → H' t = some (.lst [.str "book", .ref kq]) → Q (.ref t) H'
theorem mkD_step {rows : List BRow} {e : PyData} {es : List PyData} : mkD rows (e :: es) = match itemD rows e with
    | .row => .row e
    | .name u => .name u
    | .ok r => mkD (rows ++ [r]) es := rfl
theorem dropC {α : Type} {l : List α} {i : Nat} {e : α} (he : l[i]? = some e) : l.drop i = e :: l.drop (i + 1) := by
  have hlt : i < l.length := (List.getElem?_eq_some_iff.mp he).1
  have : l[i] = e := (List.getElem?_eq_some_iff.mp he).2
  rw [List.drop_eq_getElem_cons hlt, this]
theorem num_turn {H : Hp} {v : V} {e : PyData} (h : Dp K H v e) : TurnIs K H v (turnD e) := .inl ⟨e, dp_dq.1 h, rfl⟩
/-- what an item's part is, for the test of the numbers -/
theorem bad_cases {H : Hp} {n : Nat} {v : V} {e : PyData} (h : Dp K H v e) : (turnD e = false ∧ badN n e = true) ∨ ∃ t : Nat, v = .int (t : Nat) ∧ e = .int (t : Nat) ∧ turnD e = true ∧ badN n e = decide (n ≤ t) := by
  cases h with
  | int i =>
    by_cases c : 0 ≤ i
    · obtain ⟨t, rfl⟩ := Int.eq_ofNat_of_zero_le c
      refine .inr ⟨t, rfl, rfl, decide_eq_true c, ?_⟩
      show (if (0 : Int) ≤ (t : Nat) ∧ ((t : Nat) : Int) < (n : Nat) then some ((t : Nat) : Int).toNat else none).isNone = _
      by_cases l : t < n
      · rw [if_pos ⟨by omega, by omega⟩, decide_eq_false (by omega)]
        rfl
      · rw [if_neg (by omega), decide_eq_true (by omega)]
        rfl
    · refine .inl ⟨decide_eq_false c, ?_⟩
      show (if (0 : Int) ≤ i ∧ i < (n : Nat) then some i.toNat else none).isNone = _
      rw [if_neg (by omega)]
      rfl
  | _ => exact .inl ⟨rfl, rfl⟩
theorem sameT_lst {H : Hp} {q : Addr} {xs : List V} {o : HO} (h : H q = some (.lst xs)) : SameT H (upd H q o) :=
  ⟨fun b ys g => by rw [upd_ne (fun z => by rw [z, h] at g; cases g)]; exact g, fun b o' ys g => by rw [upd_ne (fun z => by rw [z, h] at g; cases g)]; exact g⟩
theorem ok_madeDue (T : Txt K mg a d) : FnOk P w K mg base CX0 2 a.madeDue d.madeDue ["_law_rows"] (spMadeDue K) := by
  have G_isNamed := ok_isNamed (P := P) (w := w) (base := base) T
  have G_isWhole := ok_isWhole (P := P) (w := w) (base := base) T
  refine okN T.F_madeDue scMadeDue (fun vs H Q E h => ?_) (fun cdv A outer s H vs Q E hr h => ?_)
  · obtain ⟨p, xs, ds, rfl, _⟩ := h
    rfl
  · obtain ⟨p, xs, ds, rfl, sq, da, l10, iok, q1, q2, q3⟩ := h
    refine ⟨_, (pss_cons (ps_if (pt_not (pt_val (pe_callB call_isiT (by rfl) T.isinstance_ Tp.bt_isinstance (pa_cons (pv 0) (pa_cons (pe_tup (pa_cons (pe_bltn (v := .ty "list") (by rfl) T.list_ Tp.bt_list rfl) (pa_cons (pe_bltn (v := .ty "tuple") (by rfl) T.tuple_ Tp.bt_tuple rfl) pa_nil))) pa_nil))))) (pss_one (ps_ret (pe_lst (pa_cons pe_str (pa_cons (pv 0) pa_nil))))) pss_nil)
      (pss_cons (ps_set (i := 1) scMadeDue.nd rfl (Or.inr rfl) (pe_lst pa_nil))
      (pss_cons (ps_for PassesOwn.never rfl (Tp.pi_B (K := K) rfl (pv 0)) (pg_name (i := 2) scMadeDue.nd rfl (Or.inl rfl)) (pss_cons (ps_if (PW.pt (pw_or (pt_not (pt_val (pe_callB call_isiT (by rfl) T.isinstance_ Tp.bt_isinstance (pa_cons (pv 2) (pa_cons (pe_tup (pa_cons (pe_bltn (v := .ty "list") (by rfl) T.list_ Tp.bt_list rfl) (pa_cons (pe_bltn (v := .ty "tuple") (by rfl) T.tuple_ Tp.bt_tuple rfl) pa_nil))) pa_nil))))) (pw_or1 (pt_cmpR op_ne (pe_callB call_len_seq (by rfl) T.len_ Tp.bt_len (pa_cons (pv 2) pa_nil)) pe_int (nomark _))))) (pss_one (ps_ret (pe_lst (pa_cons pe_str (pa_cons (pv 2) pa_nil))))) pss_nil)
      (pss_cons (ps_asg (pv 2) (Tp.pg_B (n := 2) (K := K) rfl rfl (pgs_cons (pg_name (i := 3) scMadeDue.nd rfl (Or.inl rfl)) (pgs_cons (pg_name (i := 4) scMadeDue.nd rfl (Or.inl rfl)) pgs_nil))))
      (Evl.pss_cut (ps_if (PW.pt (pw_and (pt_not (pt_val (pe_call G_isWhole (hr.mono (by decide)) (by rfl) T.mg_isWhole T.F_isWhole.kp T.b_isWhole .nil pass0 (pa_cons (pv 4) pa_nil)))) (pw_and1 (pt_not (PW.pt (pw_and (pt_val (pe_callB call_isiT (by rfl) T.isinstance_ Tp.bt_isinstance (pa_cons (pv 4) (pa_cons (pe_tup (pa_cons (pe_bltn (v := .ty "list") (by rfl) T.list_ Tp.bt_list rfl) (pa_cons (pe_bltn (v := .ty "tuple") (by rfl) T.tuple_ Tp.bt_tuple rfl) pa_nil))) pa_nil)))) (pw_and1 (pt_cmpR op_lt (pe_callB call_len_seq (by rfl) T.len_ Tp.bt_len (pa_cons (pv 4) pa_nil)) pe_int (nomark _))))))))) (pss_one (ps_ret (pe_lst (pa_cons pe_str (pa_cons (pv 2) pa_nil))))) pss_nil)
      (pss_cons (ps_if (pt_not (pt_val (pe_call G_isNamed (hr.mono (by decide)) (by rfl) T.mg_isNamed T.F_isNamed.kp T.b_isNamed .nil pass0 (pa_cons (pv 3) pa_nil)))) (pss_one (ps_ret (pe_lst (pa_cons pe_str (pa_cons (pv 3) pa_nil))))) pss_nil)
      (Evl.pss_cut (ps_if (pt_val (pe_callB call_isiT (by rfl) T.isinstance_ Tp.bt_isinstance (pa_cons (pv 4) (pa_cons (pe_tup (pa_cons (pe_bltn (v := .ty "list") (by rfl) T.list_ Tp.bt_list rfl) (pa_cons (pe_bltn (v := .ty "tuple") (by rfl) T.tuple_ Tp.bt_tuple rfl) pa_nil))) pa_nil)))) (pss_cons (ps_if (pt_cmpR (op_neD hr.units) (pe_lc (own := [("_law_one", 5)]) (by rfl) scMadeDue.nd (Tp.pi_B (K := K) rfl (pv 4)) (blkOk_by (own := [("_law_one", 5)]) (N := scMadeDue_N) (sc := defScope scMadeDue_st) (by decide +kernel)) (fun _ _ _ _ _ => (pg_name (i := 5) scMadeDue.nd rfl (Or.inl rfl))) (fun _ _ _ _ _ => (pts_one (PW.pt (pw_or (pt_not (pt_val (pe_call G_isWhole (hr.mono (by decide)) (by rfl) T.mg_isWhole T.F_isWhole.kp T.b_isWhole .nil pass0 (pa_cons (pv 5) pa_nil)))) (pw_or1 (pt_cmpR op_ge (pv 5) (pe_callB (Tp.call_lenK (K := K) rfl) (by rfl) T.len_ Tp.bt_len (pa_cons (pv 1) pa_nil)) (nomark _))))))) (fun _ _ _ _ _ => (pv 5))) (pe_lst pa_nil) (nomark _)) (pss_one (ps_ret (pe_lst (pa_cons pe_str (pa_cons (pv 2) pa_nil))))) pss_nil)
      (pss_one (ps_set (i := 4) scMadeDue.nd rfl (Or.inl rfl) (pe_callTy call_tuple_of (by rfl) T.tuple_ Tp.bt_tuple (pa_cons (pv 4) pa_nil))))) pss_nil)
      (pss_cons (ps_if (pt_cmpR (op_inD (un65 hr)) (pe_tup (pa_cons (pv 3) (pa_cons (pv 4) pa_nil))) (pv 1) (by rfl)) (pss_one (ps_ret (pe_lst (pa_cons pe_str (pa_cons (pv 2) pa_nil))))) pss_nil)
      (pss_one (ps_expr (pe_bm PySem.F.plainAttrs_list PySem.F.slot_list_append PySem.F.type_list_append mt_append (pv 1) (pa_cons (pe_tup (pa_cons (pv 3) (pa_cons (pv 4) pa_nil))) pa_nil)))))))))))
      (pss_one (ps_ret (pe_lst (pa_cons pe_str (pa_cons (pv 1) pa_nil)))))))), ?_⟩
    have lx := dpAll_len da
    refine ⟨_, rfl, (show 2 ≤ sizeLine from by decide), fun tp ntp => ?_⟩
    have S1 := same_new (o := .tup [V.ty "list", V.ty "tuple"]) ntp
    have gx : (upd H tp (.tup [V.ty "list", V.ty "tuple"])) tp = some (.tup [V.ty "list", V.ty "tuple"]) := upd_same
    generalize upd H tp (.tup [V.ty "list", V.ty "tuple"]) = H1 at S1 gx ⊢
    have sq1 : SqL K H1 p xs := S1.seq sq
    refine ⟨_, tp, _, _, _, true, rfl, gx, cls_lt, ty_sqL sq1, kit_lt (.list []), _, rfl, iteF ?_⟩
    refine ⟨Nat.zero_le _, fun kq hkq => ?_⟩
    have hkH : H kq = none := none_same S1 hkq
    have S2 : Same H (upd H1 kq (.lst [])) := S1.trans (same_new hkq)
    refine ⟨_, rfl, false, p, _, rfl, S2.seq sq, for_it (walk_B (b := false) (xs := xs)) (fun i σ H' => (∃ rows ps, H' kq = some (.lst (ps.map V.ref)) ∧ Paired (RowAt K H') rows ps ∧ (∀ r ∈ rows, nmB r.nm = true) ∧ rows.length ≤ i ∧ mkD [] ds = mkD rows (ds.drop i)) ∧ Same H H' ∧ ∃ v2 v3 v4, σ = [some (.ref p), some (.ref kq), v2, v3, v4, none]) ⟨⟨[], [], upd_same, .nil, (fun r hr => by cases hr), Nat.le_refl _, rfl⟩, S2, _, _, _, rfl⟩ ?_ ?_ ?_⟩
    · rintro i σ H' _ ⟨_, S, _⟩
      exact S.seq sq
    · rintro i v σ _ H3 hi ⟨⟨rows, ps, hk, pr, gn, le, em⟩, S3, v2, v3, v4, rfl⟩ ⟨rfl, hv⟩
      obtain ⟨e, he, dp⟩ := dpAll_get da hv
      have io := iok e (List.mem_of_getElem? he)
      rw [dropC he, mkD_step] at em
      have dpS : ∀ {H'}, Same H3 H' → Dp K H' v e := fun S => (dp_same (S3.trans S)).1 dp
      have rowR : itemD rows e = .row → ∀ t H', Same H3 H' → H' t = some (.lst [.str "row", v]) → Q (.ref t) H' := fun ei t H' S g => q1 e v t H' (by rw [em, ei]) (S3.trans S) (dpS S) g
      refine ⟨_, rfl, (show 2 ≤ sizeLine from by decide), fun tp2 ntp2 => ?_⟩
      have S4 := same_new (o := .tup [V.ty "list", V.ty "tuple"]) ntp2
      have gx2 : (upd H3 tp2 (.tup [V.ty "list", V.ty "tuple"])) tp2 = some (.tup [V.ty "list", V.ty "tuple"]) := upd_same
      generalize upd H3 tp2 (.tup [V.ty "list", V.ty "tuple"]) = H4 at S4 gx2 ⊢
      refine ⟨_, tp2, _, _, _, _, rfl, gx2, cls_lt, dq_ty (dp_dq.1 (dpS S4)), kit_lt e, _, rfl, ?_⟩
      cases lt : isLT e with
      | false =>
        have ei : itemD rows e = .row := by
          unfold itemD
          cases e <;> first | rfl | cases lt
        exact iteT (iteT ⟨_, rfl, (show 2 ≤ sizeLine from by decide), fun t ht => rowR ei t _ (S4.trans (same_new ht)) upd_same⟩)
      | true =>
        obtain ⟨p', ys, rfl, sq', da'⟩ := dp_seq (dpS S4) lt
        have ly := dpAll_len da'
        refine iteF ⟨_, rfl, p', ys, rfl, sqB_len sq', rfl, _, rfl, ifn2 (fun c => ?_) (fun c => ?_)⟩
        rotate_left
        · have n2 : (itemsD e).length ≠ 2 := fun z => c (by rw [ly, z]; rfl)
          have ei : itemD rows e = .row := by
            unfold itemD
            cases hi : itemsD e with
            | nil => rfl
            | cons u l =>
              cases l with
              | nil => rfl
              | cons s l =>
                cases l with
                | nil => rw [hi] at n2; exact absurd rfl n2
                | cons _ _ => rfl
          exact ⟨_, rfl, (show 2 ≤ sizeLine from by decide), fun t ht => rowR ei t _ (S4.trans (same_new ht)) upd_same⟩
        have y2 : (itemsD e).length = 2 := by
          have c := V.int.inj c
          omega
        obtain ⟨u, s, hi⟩ : ∃ u s, itemsD e = [u, s] := by
          cases hi : itemsD e with
          | nil => rw [hi] at y2; cases y2
          | cons u l =>
            cases l with
            | nil => rw [hi] at y2; cases y2
            | cons s l =>
              cases l with
              | nil => exact ⟨u, s, rfl⟩
              | cons _ _ => rw [hi] at y2; simp at y2
        have lay2 := lay_items io.lay io.dep
        rw [hi] at da' lay2
        have ei := item_two (rows := rows) hi
        cases da' with
        | @cons uv _ _ _ du t0 =>
          cases t0 with
          | @cons sv _ _ _ ds0 t1 =>
            cases t1
            refine ⟨_, rfl, _, p', _, rfl, sq', rfl, _, _, rfl, _, _, rfl, rfl, ?_⟩
            have dsS : ∀ {H'}, Same H4 H' → Dp K H' sv s := fun S => (dp_same S).1 ds0
            have duS : ∀ {H'}, Same H4 H' → Dp K H' uv u := fun S => (dp_same S).1 du
            obtain ⟨lu1, _⟩ := lay2 u List.mem_cons_self
            obtain ⟨ls1, ls2⟩ := lay2 s (List.mem_cons_of_mem _ List.mem_cons_self)
            have lay3 := lay_items (n := 1) ls1 ls2
            refine ⟨fun σ H' => secOk s = true ∧ Same H4 H' ∧ σ = [some (.ref p), some (.ref kq), some (.ref p'), some uv, some sv, none], ?_, ?_⟩
            · refine ⟨_, rfl, sv, _, rfl, num_turn ds0, _, rfl, ?_⟩
              cases tu : turnD s with
              | true =>
                have so : secOk s = true := by unfold secOk; rw [tu]; rfl
                exact iteF (iteF ⟨so, Same.refl _, rfl⟩)
              | false =>
                refine iteT ⟨_, rfl, (show 2 ≤ sizeLine from by decide), fun tp3 ntp3 => ?_⟩
                have S5 := same_new (o := .tup [V.ty "list", V.ty "tuple"]) ntp3
                have gx3 : (upd H4 tp3 (.tup [V.ty "list", V.ty "tuple"])) tp3 = some (.tup [V.ty "list", V.ty "tuple"]) := upd_same
                generalize upd H4 tp3 (.tup [V.ty "list", V.ty "tuple"]) = H5 at S5 gx3 ⊢
                refine ⟨_, tp3, _, _, _, _, rfl, gx3, cls_lt, dq_ty (dp_dq.1 (dsS S5)), kit_lt s, _, rfl, ?_⟩
                have rowS : secOk s = false → ∀ t H', Same H5 H' → H' t = some (.lst [.str "row", .ref p']) → Q (.ref t) H' := fun so t H' S g => rowR (by rw [ei]; unfold twoD; rw [if_pos so]) t H' (S4.trans (S5.trans S)) g
                cases lt2 : isLT s with
                | false =>
                  have so : secOk s = false := by unfold secOk; rw [tu, lt2]; rfl
                  exact iteF (iteT ⟨_, rfl, (show 2 ≤ sizeLine from by decide), fun t ht => rowS so t _ (same_new ht) upd_same⟩)
                | true =>
                  obtain ⟨p2, zs, rfl, sq2, da2⟩ := dp_seq (dsS S5) lt2
                  have lz := dpAll_len da2
                  refine iteT ⟨_, rfl, p2, zs, rfl, sqB_len sq2, _, _, rfl, rfl, _, rfl, ?_⟩
                  by_cases c4 : ((zs.length : Nat) : Int) < 4
                  · have so : secOk s = true := by
                      unfold secOk
                      rw [lt2, decide_eq_true (show (itemsD s).length ≤ 3 by omega)]
                      simp
                    exact ifnY c4 ⟨so, S5, rfl⟩
                  · have so : secOk s = false := by
                      unfold secOk
                      rw [tu, decide_eq_false (show ¬ (itemsD s).length ≤ 3 by omega)]
                      simp
                    exact ifnN c4 ⟨_, rfl, (show 2 ≤ sizeLine from by decide), fun t ht => rowS so t _ (same_new ht) upd_same⟩
            · rintro σ H6 ⟨so, S6, rfl⟩
              have sho : ∀ z, u = .str z → z.length ≤ 10000 := fun z ez => io.sh u s z hi ez
              have hn := name_dq (dp_dq.1 (duS S6)) sho
              refine ⟨_, rfl, uv, _, rfl, hn, (fun z ez => ?_), fun H7 S7 => ⟨_, rfl, ?_⟩⟩
              · subst ez
                cases du
                simpa only [PyData.canLay0] using lu1
              have S67 := S6.trans S7
              cases no : nmD u with
              | false =>
                have : mkD [] ds = .name u := by
                  rw [em, ei]
                  unfold twoD
                  rw [if_neg (by rw [so]; simp), if_pos no]
                exact iteT ⟨_, rfl, (show 2 ≤ sizeLine from by decide), fun t ht => q2 u uv t _ this (S3.trans (S4.trans (S67.trans (same_new ht)))) (duS (S67.trans (same_new ht))) upd_same⟩
              | true =>
                rw [no] at hn
                obtain ⟨z, ez, nz, lz⟩ := name_str hn
                subst ez
                cases du
                have ei2 : itemD rows e = rowD rows z (secD rows.length s) := by
                  rw [ei]
                  unfold twoD
                  rw [if_neg (by rw [so]; simp), if_neg (by rw [no]; simp)]
                  rfl
                refine iteF ?_
                have S37 := S4.trans S67
                have hk7 := S37 _ _ hk
                have lps : rows.length = ps.length := Paired.length pr
                refine ⟨fun σ H' => Same H7 H' ∧ ∃ sec s', secD rows.length s = some sec ∧ SecV K H' sec s' ∧ σ = [some (.ref p), some (.ref kq), some (.ref p'), some (.str z), some s', none], ?_, ?_⟩
                · refine ⟨_, rfl, (show 2 ≤ sizeLine from by decide), fun tp3 ntp3 => ?_⟩
                  have S8 := same_new (o := .tup [V.ty "list", V.ty "tuple"]) ntp3
                  have gx3 : (upd H7 tp3 (.tup [V.ty "list", V.ty "tuple"])) tp3 = some (.tup [V.ty "list", V.ty "tuple"]) := upd_same
                  generalize upd H7 tp3 (.tup [V.ty "list", V.ty "tuple"]) = H8 at S8 gx3 ⊢
                  have ds8 := dsS (S67.trans S8)
                  refine ⟨_, tp3, _, _, _, _, rfl, gx3, cls_lt, dq_ty (dp_dq.1 ds8), kit_lt s, _, rfl, ?_⟩
                  cases lt2 : isLT s with
                  | false =>
                    have tu : turnD s = true := by
                      unfold secOk at so
                      rw [lt2] at so
                      simpa using so
                    obtain ⟨t, et⟩ := turn_int (.inl ⟨s, dp_dq.1 ds8, tu.symm⟩)
                    subst et
                    cases ds0
                    exact iteF ⟨S8, .inr t, _, rfl, rfl, rfl⟩
                  | true =>
                    obtain ⟨p2, zs, rfl, sq2, da2⟩ := dp_seq ds8 lt2
                    have lz := dpAll_len da2
                    have sl3 : (itemsD s).length ≤ 3 := by
                      unfold secOk at so
                      rw [lt2] at so
                      have tf : turnD s = false := by cases s <;> first | rfl | cases lt2
                      rw [tf] at so
                      simpa using so
                    have esec : secD rows.length s = (numsO rows.length (itemsD s)).map .inl := by cases s <;> first | rfl | cases lt2
                    have hk8 := S8 _ _ hk7
                    refine iteT ⟨_, rfl, _, p2, zs, rfl, sq2, fun D hD => lc_it (walk_B (xs := zs)) (fun i H' => Same H8 H' ∧ ∃ ws, H' D = some (.lst ws) ∧ DpAll K H8 ws (((itemsD s).take i).filter (badN rows.length)) ∧ ws.length ≤ i) ⟨same_new hD, [], upd_same, .nil, Nat.le_refl _⟩ ?_ ?_ ?_⟩
                    · rintro i H' _ ⟨S, _⟩
                      exact sq2.same S
                    · rintro i v _ H' hi' ⟨S, ws, hD', dw, lw⟩ ⟨rfl, hv'⟩
                      obtain ⟨f, hf, dpf⟩ := dpAll_get da2 hv'
                      have dpf' : Dp K H' v f := (dp_same S).1 dpf
                      have il : i < zs.length := (List.getElem?_eq_some_iff.mp hv').1
                      have lws : ws.length < sizeLine := Nat.lt_of_le_of_lt (show _ ≤ 100 by omega) (by decide)
                      have add : badN rows.length f = true → DpAll K H8 (ws ++ [v]) (((itemsD s).take (i + 1)).filter (badN rows.length)) ∧ (ws ++ [v]).length ≤ i + 1 := fun hb => by
                        rw [take_succ hf, List.filter_append, show List.filter (badN rows.length) [f] = [f] from by simp [hb]]
                        exact ⟨dpAll_app dw (.cons dpf .nil), by rw [List.length_append]; show ws.length + 1 ≤ i + 1; omega⟩
                      refine ⟨rfl, _, rfl, v, _, rfl, num_turn dpf', _, rfl, ?_⟩
                      rcases bad_cases (n := rows.length) dpf' with ⟨tf, hb⟩ | ⟨t, rfl, rfl, tf, hb⟩
                      · rw [tf]
                        exact iteT (iteT ⟨_, rfl, _, hD', lws, Tp.Same.mut S hD, _, upd_same, add hb⟩)
                      · rw [tf]
                        refine iteF ⟨_, rfl, _, rfl, kq, _, rfl, .inl (SqL.of (S _ _ hk8)), _, _, rfl, rfl, _, rfl, ?_⟩
                        rw [List.length_map, ← lps]
                        by_cases c : rows.length ≤ t
                        · exact ifY (show ((rows.length : Nat) : Int) ≤ (t : Nat) by omega) ⟨_, rfl, _, hD', lws, Tp.Same.mut S hD, _, upd_same, add (by rw [hb]; exact decide_eq_true c)⟩
                        · refine ifN (show ¬ ((rows.length : Nat) : Int) ≤ (t : Nat) by omega) ⟨S, ws, hD', ?_, by omega⟩
                          rw [take_succ hf, List.filter_append, show List.filter (badN rows.length) [PyData.int (t : Nat)] = [] from by simp [hb]; omega, List.append_nil]
                          exact dw
                    · rintro H9 ⟨S9, ws, hD', dw, _⟩
                      have et : (itemsD s).take zs.length = itemsD s := by rw [lz]; exact List.take_length
                      rw [et] at dw
                      refine ⟨Nat.zero_le _, fun l0 hl0 => ?_⟩
                      have SN := same_new (o := .lst []) hl0
                      refine ⟨.list ((itemsD s).filter (badN rows.length)), .list [], .lst (SqL.of (SN _ _ hD')) ((dp_same (S9.trans SN)).2 dw), .lst (SqL.of upd_same) .nil, shaped_list (n := 1) (fun e he => lay3 e (List.mem_filter.mp he).1) (by decide), by decide +kernel, _, rfl, ?_⟩
                      rw [ne_nil_list]
                      have S90 := S9.trans SN
                      have S40 := S67.trans (S8.trans S90)
                      cases en : numsO rows.length (itemsD s) with
                      | none =>
                        refine ifY (badN_none.mp en) ⟨_, rfl, (show 2 ≤ sizeLine from by decide), fun t ht => rowR (by rw [ei2, esec, en]; rfl) t _ (S4.trans (S40.trans (same_new ht))) upd_same⟩
                      | some ns =>
                        have nf : ¬ ((itemsD s).filter (badN rows.length) ≠ []) := fun z => by
                          rw [badN_none.mpr z] at en
                          cases en
                        obtain ⟨rfl, lt'⟩ := numsO_some (dp_dq.2 da2) en
                        have sq9 := sq2.same S90
                        refine ifN nf ⟨_, rfl, p2, numsV ns, rfl, ?_⟩
                        rw [esec, en]
                        cases hc : isTup s with
                        | true =>
                          rw [hc] at sq9
                          exact .inr ⟨sq9, S8.trans S90, .inl ns, _, rfl, ⟨p2, rfl, sq9⟩, rfl⟩
                        | false =>
                          rw [hc] at sq9
                          exact .inl ⟨sq9, fun t1 ht1 => ⟨S8.trans (S90.trans (same_new ht1)), .inl ns, _, rfl, ⟨t1, rfl, SqT.of upd_same⟩, rfl⟩⟩
                · rintro σ H8 ⟨S8, sec, s', es, hv8, rfl⟩
                  rw [es] at ei2
                  refine ⟨_, rfl, _, rfl, (show 2 ≤ sizeLine from by decide), fun t1 ht1 => ?_⟩
                  have S9 := same_new (o := .tup [.str z, s']) ht1
                  have g9 : (upd H8 t1 (.tup [.str z, s'])) t1 = some (.tup [.str z, s']) := upd_same
                  generalize upd H8 t1 (.tup [.str z, s']) = H9 at S9 g9 ⊢
                  have S39 := S37.trans (S8.trans S9)
                  have hk9 := S39 _ _ hk
                  have pr9 : Paired (RowAt K H9) rows ps := paired_imp (fun _ _ h => h.same S39) pr
                  have rw9 : RowAt K H9 ⟨z, sec⟩ t1 := (hv8.same S9).row (SqT.of g9)
                  have shr : SeqAt.shaped (BRow.data ⟨z, sec⟩) = true := by
                    obtain ⟨k1, k2⟩ := row_lay (r := ⟨z, sec⟩) nz
                    unfold SeqAt.shaped
                    rw [k1, Bool.true_and]
                    exact decide_eq_true (by omega)
                  refine ⟨_, rfl, BRow.data ⟨z, sec⟩, rows.map BRow.data, rw9, .lst (SqL.of hk9) (rows_dp pr9), shr, rows_shaped gn, _, rfl, ?_⟩
                  rw [rows_any]
                  by_cases mem : (⟨z, sec⟩ : BRow) ∈ rows
                  · exact ifY mem ⟨_, rfl, (show 2 ≤ sizeLine from by decide), fun t ht => rowR (by rw [ei2]; exact if_pos mem) t _ (S39.trans (same_new ht)) upd_same⟩
                  · have eok : itemD rows e = .ok ⟨z, sec⟩ := by rw [ei2]; exact if_neg mem
                    refine ifN mem ⟨_, rfl, .inl ⟨rfl, _, SqL.of hk9⟩, _, rfl, _, rfl, (show 2 ≤ sizeLine from by decide), fun t2 ht2 => ?_⟩
                    have S10 := same_new (o := .tup [.str z, s']) ht2
                    have g10 : (upd H9 t2 (.tup [.str z, s'])) t2 = some (.tup [.str z, s']) := upd_same
                    generalize upd H9 t2 (.tup [.str z, s']) = H10 at S10 g10 ⊢
                    have hk10 := S10 _ _ hk9
                    have pr10 : Paired (RowAt K H10) rows ps := paired_imp (fun _ _ h => h.same S10) pr9
                    have rw10 : RowAt K H10 ⟨z, sec⟩ t2 := (hv8.same (S9.trans S10)).row (SqT.of g10)
                    have llen : (ps.map V.ref).length < sizeLine := by
                      rw [List.length_map, ← lps]
                      exact Nat.lt_of_le_of_lt (show _ ≤ 1000 by omega) (by decide)
                    refine ⟨kq, _, _, rfl, rfl, hk10, llen, ⟨rows ++ [⟨z, sec⟩], ps ++ [t2], ?_, paired_snoc (paired_imp (fun _ _ h => h.sameT (sameT_lst hk10)) pr10) (rw10.sameT (sameT_lst hk10)), ?_, ?_, ?_⟩, Tp.Same.mut (S3.trans (S39.trans S10)) hkH, _, _, _, rfl⟩
                    · rw [upd_same, List.map_append]
                      rfl
                    · intro r hr
                      rcases List.mem_append.mp hr with hr | hr
                      · exact gn r hr
                      · rw [List.mem_singleton.mp hr]
                        exact nz
                    · rw [List.length_append]
                      show rows.length + 1 ≤ i + 1
                      omega
                    · rw [em, eok]
    · rintro σ H' ⟨⟨rows, ps, hk, pr, gn, _, em⟩, S, v2, v3, v4, rfl⟩
      have : ds.drop xs.length = [] := List.drop_eq_nil_of_le (by omega)
      rw [this] at em
      refine ⟨_, rfl, (show 2 ≤ sizeLine from by decide), fun t ht => ?_⟩
      exact q3 rows em kq ps t _ (S.trans (same_new ht)) (same_new ht _ _ hk) hkH (paired_imp (fun _ _ h => h.same (same_new ht)) pr) upd_same
end
end L04

set_option Elab.async false
set_option linter.all false
set_option maxRecDepth 100000
set_option maxHeartbeats 4000000
set_option pp.deepTerms false
set_option pp.deepTerms.threshold 4
set_option pp.maxSteps 1000
namespace L04
open PySem L2 Tp
section
variable {P : Program} {w : World} {K : PySem.W.Frag} {mg : Str → Option Value} {base : Heap} {a : Ad} {d : Fd}
/-! ### _law_forms_right -/
theorem pair_B {c : Bool} {H : Hp} {p : Addr} {u s : V} {e f : PyData} (h : SqB c K H p [u, s]) (d1 : Dq K H u e) (d2 : Dq K H s f) : PairIs K H (.ref p) true := by
  cases c with
  | true => exact .inl ⟨.tuple [e, f], .tup h (.cons d1 (.cons d2 .nil)), rfl⟩
  | false => exact .inl ⟨.list [e, f], .lst h (.cons d1 (.cons d2 .nil)), rfl⟩
theorem dq_numsB {c : Bool} {H : Hp} {q : Addr} {ns : List Nat} (h : SqB c K H q (numsV ns)) : ∃ f, Dq K H (.ref q) f := by
  cases c with
  | true => exact ⟨_, .tup h (dp_dq.2 (dpN ns))⟩
  | false => exact ⟨_, .lst h (dp_dq.2 (dpN ns))⟩
theorem has_lst {c c' : Bool} {H : Hp} {rows : List BRow} {p q : Addr} {z : Str} {ns : List Nat} (h : SqB c K H p [.str z, .ref q]) (h2 : SqB c' K H q (numsV ns)) (l : ns.length ≤ 1000) (m : (⟨z, .inl ns⟩ : BRow) ∈ rows) : HasIs K H rows (.ref p) true := by
  obtain ⟨f, df⟩ := dq_numsB h2
  have := HasIs.lst (rows := rows) h (pair_B h (.str z) df) h2 l
  rw [decide_eq_true m] at this
  exact this
theorem has_turn {c : Bool} {H : Hp} {rows : List BRow} {p : Addr} {z : Str} {t : Nat} (h : SqB c K H p [.str z, .int (t : Nat)]) (m : (⟨z, .inr t⟩ : BRow) ∈ rows) : HasIs K H rows (.ref p) true := by
  have := HasIs.turn (rows := rows) h (pair_B h (.str z) (.int _))
  rw [decide_eq_true m] at this
  exact this
def IB (v : V) : Prop := (∃ n : Nat, v = .int (n : Nat)) ∨ ∃ b, v = .bl b
theorem ib_turns {H : Hp} : ∀ {xs : List V}, (∀ v ∈ xs, IB v) → ∃ bs es, Paired (TurnIs K H) xs bs ∧ DqAll K H xs es ∧ ((∃ b, V.bl b ∈ xs) → bs.all id = false)
  | [], _ => ⟨[], [], .nil, .nil, fun ⟨b, h⟩ => by cases h⟩
  | v :: xs, h => by
    obtain ⟨bs, es, h1, h2, h3⟩ := ib_turns (H := H) (xs := xs) fun u hu => h u (List.mem_cons_of_mem _ hu)
    rcases h v List.mem_cons_self with ⟨n, rfl⟩ | ⟨b, rfl⟩
    · refine ⟨true :: bs, _ :: es, .cons (int_turn n) h1, .cons (.int _) h2, fun ⟨b, hb⟩ => ?_⟩
      rcases List.mem_cons.mp hb with hb | hb
      · cases hb
      · rw [List.all_cons, h3 ⟨b, hb⟩, Bool.and_false]
    · refine ⟨false :: bs, _ :: es, .cons (.inl ⟨_, .bl b, rfl⟩) h1, .cons (.bl b) h2, fun _ => ?_⟩
      rw [List.all_cons]
      rfl
theorem has_bad {c c' : Bool} {H : Hp} {rows : List BRow} {p q : Addr} {z : Str} {xs : List V} (h : SqB c K H p [.str z, .ref q]) (h2 : SqB c' K H q xs) (l : xs.length ≤ 1000) (ib : ∀ v ∈ xs, IB v) (m : ∃ b, V.bl b ∈ xs) : HasIs K H rows (.ref p) false := by
  obtain ⟨bs, es, h3, h4, h5⟩ := ib_turns (H := H) ib
  have df : ∃ f, Dq K H (.ref q) f := by
    cases c' with
    | true => exact ⟨_, .tup h2 h4⟩
    | false => exact ⟨_, .lst h2 h4⟩
  obtain ⟨f, df⟩ := df
  exact .bad h (pair_B h (.str z) df) h2 h3 (h5 m) l
theorem cut_mem {xs : List V} {lo hi : Option Int} {v : V} (h : v ∈ cutV xs lo hi) : v ∈ xs := List.mem_of_mem_drop (List.mem_of_mem_take h)
theorem numsV_ib {ns : List Nat} {v : V} (h : v ∈ numsV ns) : IB v := by
  unfold numsV at h
  obtain ⟨n, _, rfl⟩ := List.mem_map.mp h
  exact .inl ⟨n, rfl⟩
theorem cut_len (xs : List V) (lo hi : Option Int) : (cutV xs lo hi).length ≤ xs.length := cutV_length xs lo hi
theorem eq_nil : PyData.eqv (.list []) (.list []) = true := rfl
def spFormsR (P : Program) (w : World) (K : PySem.W.Frag) (C : Addr) : Sp := fun vs H Q _ => ∃ (x l m : Addr) (rows : List BRow) (as : List Addr) (r : BRow) (s : V), vs = [.ref x, .str r.nm, s] ∧ BookAt P w K C H x l m rows as ∧ r ∈ rows ∧ r.args.length ≤ 3 ∧ SecV K H r.sec s ∧ ∀ H', Same H H' → Q (.bl true) H'
theorem ok_formsR (T : Txt K mg a d) : FnOk P w K mg base CX0 4 a.formsR d.formsR ["_law_book", "_law_name", "_law_rest"] (spFormsR P w K a.CBook) := by
  have G_has := ok_has (P := P) (w := w) (base := base) T
  refine okN T.F_formsR scFormsR (fun vs H Q E h => ?_) (fun cdv A outer s H vs Q E hr h => ?_)
  · obtain ⟨x, l, m, rows, as, r, s, rfl, _⟩ := h
    rfl
  · obtain ⟨x, l, m, rows, as, ⟨nm, sec⟩, s, rfl, bk, mem, l3, hv, q⟩ := h
    refine ⟨_, (pss_cons (ps_if (pt_val (pe_callB call_isi (by rfl) T.isinstance_ Tp.bt_isinstance (pa_cons (pv 2) (pa_cons (pe_bltn (v := .ty "int") (by rfl) T.int_ Tp.bt_int rfl) pa_nil)))) (pss_one (ps_ret (pe_cmpR (op_eqD hr.units) (pe_lc (own := [("_law_truth", 5)]) (by rfl) scFormsR.nd (pi_list (pe_lst (pa_cons pe_bl (pa_cons pe_bl pa_nil)))) (blkOk_by (own := [("_law_truth", 5)]) (N := scFormsR_N) (sc := defScope scFormsR_st) (by decide +kernel)) (fun _ _ _ _ _ => (pg_name (i := 5) scFormsR.nd rfl (Or.inl rfl))) (fun _ _ _ _ _ => (pts_one (PW.pt (pw_and (pt_cmpR (Tp.op_eqDK (K := K) rfl hr.units) (pv 2) (pv 5) (nomark _)) (pw_and1 (pt_cmpR (Tp.op_inE T.me_has.at_ T.me_has.fn G_has (hr.mono (by decide)) T.b_has pass0) (pe_tup (pa_cons (pv 1) (pa_cons (pv 5) pa_nil))) (pv 0) (by rfl))))))) (fun _ _ _ _ _ => pe_int)) (pe_lst pa_nil) (nomark _)))) pss_nil)
      (pss_cons (ps_if (PW.pt (pw_or (pt_cmpR (Tp.op_notInE T.me_has.at_ T.me_has.fn G_has (hr.mono (by decide)) T.b_has pass0) (pe_tup (pa_cons (pv 1) (pa_cons (pe_callTy call_list_of (by rfl) T.list_ Tp.bt_list (pa_cons (pv 2) pa_nil)) pa_nil))) (pv 0) (by rfl)) (pw_or1 (pt_cmpR (Tp.op_notInE T.me_has.at_ T.me_has.fn G_has (hr.mono (by decide)) T.b_has pass0) (pe_lst (pa_cons (pv 1) (pa_cons (pe_callTy call_list_of (by rfl) T.list_ Tp.bt_list (pa_cons (pv 2) pa_nil)) pa_nil))) (pv 0) (by rfl))))) (pss_one (ps_ret pe_bl)) pss_nil)
      (pss_cons (ps_for PassesOwn.never rfl (Tp.pi_enumB (K := K) rfl (by rfl) T.enumerate_ (pa_cons (pv 2) pa_nil)) (pg_tup (by rfl) (pgs_cons (pg_name (i := 3) scFormsR.nd rfl (Or.inl rfl)) (pgs_cons (pg_name (i := 4) scFormsR.nd rfl (Or.inl rfl)) pgs_nil))) (pss_one (ps_if (PW.pt (pw_and (pt_cmpR op_lt (pv 4) pe_int (nomark _)) (pw_and1 (pt_cmpR (Tp.op_inE T.me_has.at_ T.me_has.fn G_has (hr.mono (by decide)) T.b_has pass0) (pe_tup (pa_cons (pv 1) (pa_cons (pe_op Tp.op_catU (pe_op Tp.op_catU (pe_slice sl_tup (pv 2) po_none (po_some (pv 3))) (pe_tup (pa_cons (pe_cmpR op_eq (pv 4) pe_int (nomark _)) pa_nil))) (pe_slice sl_tup (pv 2) (po_some (pe_op op_add (pv 3) pe_int)) po_none)) pa_nil))) (pv 0) (by rfl))))) (pss_one (ps_ret pe_bl)) pss_nil)))
      (pss_one (ps_ret pe_bl))))), ?_⟩
    cases sec with
    | inr t =>
      obtain rfl : s = .int (t : Nat) := hv
      refine ⟨_, rfl, _, _, _, _, true, rfl, .ty _, .base (.int _), kit_int (.int 0), _, rfl, iteT ?_⟩
      refine ⟨(show 2 ≤ sizeLine from by decide), fun l0 hl0 => ?_⟩
      have S1 := same_new (o := .lst [V.bl false, V.bl true]) hl0
      have g1 : (upd H l0 (.lst [V.bl false, V.bl true])) l0 = some (.lst [V.bl false, V.bl true]) := upd_same
      generalize upd H l0 (.lst [V.bl false, V.bl true]) = H1 at S1 g1 ⊢
      refine ⟨l0, rfl, ⟨_, SqL.of g1⟩, fun D hD => lc_it (walk_list (xs := [V.bl false, V.bl true])) (fun i H' => Same H1 H' ∧ H' D = some (.lst [])) ⟨same_new hD, upd_same⟩ ?_ ?_ ?_⟩
      · rintro i H' _ ⟨S, _⟩
        exact SqL.of (S _ _ g1)
      · rintro i v _ H' hi ⟨S, hD'⟩ ⟨rfl, hv⟩
        obtain ⟨b, rfl⟩ : ∃ b, v = .bl b := by
          have := List.mem_of_getElem? hv
          rcases List.mem_cons.mp this with e | e
          · exact ⟨_, e⟩
          · exact ⟨_, List.mem_singleton.mp e⟩
        have bk' := bk.same (S1.trans S)
        refine ⟨rfl, _, rfl, _, rfl, .int (t : Nat), .bool b, .int _, .bl b, rfl, rfl, _, rfl, ifB (fun _ => ?_) (fun _ => ⟨S, hD'⟩)⟩
        refine ⟨_, rfl, _, rfl, (show 2 ≤ sizeLine from by decide), fun t1 ht1 => ?_⟩
        have S2 := same_new (o := .tup [.str nm, .bl b]) ht1
        have g2 : (upd H' t1 (.tup [.str nm, .bl b])) t1 = some (.tup [.str nm, .bl b]) := upd_same
        generalize upd H' t1 (.tup [.str nm, .bl b]) = H2 at S2 g2 ⊢
        have bk2 := bk'.same S2
        obtain ⟨dx, ho⟩ := bk2.obj
        have sq2 : SqB true K H2 t1 [.str nm, .bl b] := SqT.of g2
        exact ⟨_, rfl, x, _, _, rfl, ho, x, l, m, rows, as, _, false, rfl, bk2, .noTurn sq2 (pair_B sq2 (.str nm) (.bl b)) (noLT_dq (.bl b) rfl) (.inl ⟨_, .bl b, rfl⟩), fun H3 S3 => ⟨_, rfl, _, rfl, iteF ⟨S.trans (S2.trans S3), S3 _ _ (S2 _ _ hD')⟩⟩⟩
      · rintro H2 ⟨S2, hD'⟩
        refine ⟨Nat.zero_le _, fun l1 hl1 => ?_⟩
        exact ⟨.list [], .list [], .lst (SqL.of (same_new hl1 _ _ hD')) .nil, .lst (SqL.of upd_same) .nil, rfl, rfl, q _ (S1.trans (S2.trans (same_new hl1)))⟩
    | inl ns =>
      obtain ⟨q0, rfl, sq⟩ := hv
      have l3 : ns.length ≤ 3 := l3
      have nl := numsV_len ns
      refine ⟨_, rfl, _, _, _, _, false, rfl, .ty _, ty_sqT sq, kit_int (.tuple []), _, rfl, iteF ?_⟩
      refine ⟨_, rfl, _, rfl, q0, numsV ns, rfl, .inr sq, fun l1 hl1 => ⟨(show 2 ≤ sizeLine from by decide), fun t1 ht1 => ?_⟩⟩
      have S1 := same_new (o := .lst (numsV ns)) hl1
      have g1 : (upd H l1 (.lst (numsV ns))) l1 = some (.lst (numsV ns)) := upd_same
      generalize upd H l1 (.lst (numsV ns)) = H1 at S1 g1 ht1 ⊢
      have S2 := same_new (o := .tup [.str nm, .ref l1]) ht1
      have g2 : (upd H1 t1 (.tup [.str nm, .ref l1])) t1 = some (.tup [.str nm, .ref l1]) := upd_same
      generalize upd H1 t1 (.tup [.str nm, .ref l1]) = H2 at S2 g2 ⊢
      have S12 := S1.trans S2
      have bk2 := bk.same S12
      obtain ⟨dx2, ho2⟩ := bk2.obj
      refine ⟨_, rfl, x, _, _, rfl, ho2, x, l, m, rows, as, _, true, rfl, bk2, has_lst (c := true) (c' := false) (SqT.of g2) (SqL.of (S2 _ _ g1)) (by omega) mem, fun H3 S3 => ⟨_, rfl, _, rfl, iteF ?_⟩⟩
      have S13 := S12.trans S3
      refine ⟨_, rfl, _, rfl, q0, numsV ns, rfl, .inr (sqT_same S13 sq), fun l4 hl4 => ⟨(show 2 ≤ sizeLine from by decide), fun t4 ht4 => ?_⟩⟩
      have S4 := same_new (o := .lst (numsV ns)) hl4
      have g4 : (upd H3 l4 (.lst (numsV ns))) l4 = some (.lst (numsV ns)) := upd_same
      generalize upd H3 l4 (.lst (numsV ns)) = H4 at S4 g4 ht4 ⊢
      have S5 := same_new (o := .lst [.str nm, .ref l4]) ht4
      have g5 : (upd H4 t4 (.lst [.str nm, .ref l4])) t4 = some (.lst [.str nm, .ref l4]) := upd_same
      generalize upd H4 t4 (.lst [.str nm, .ref l4]) = H5 at S5 g5 ⊢
      have S15 := S13.trans (S4.trans S5)
      have bk5 := bk.same S15
      obtain ⟨dx5, ho5⟩ := bk5.obj
      refine ⟨_, rfl, x, _, _, rfl, ho5, x, l, m, rows, as, _, true, rfl, bk5, has_lst (c := false) (c' := false) (SqL.of g5) (SqL.of (S5 _ _ g4)) (by omega) mem, fun H6 S6 => ⟨_, rfl, _, rfl, iteF ?_⟩⟩
      have S16 := S15.trans S6
      refine ⟨_, rfl, true, q0, numsV ns, rfl, sqT_same S16 sq, for_it (walk_enumB (b := true) (xs := numsV ns)) (fun i σ H' => Same H6 H' ∧ ∃ v3 v4, σ = [some (.ref x), some (.str nm), some (.ref q0), v3, v4, none]) ⟨Same.refl _, _, _, rfl⟩ ?_ ?_ ?_⟩
      · rintro j σ H' _ ⟨S, _⟩
        exact sqT_same (S16.trans S) sq
      · rintro j u σ H7 _ hj ⟨S7, v3, v4, rfl⟩ ⟨TT, xx, e, rfl, hT, rfl, hx, he⟩
        cases hx
        have jl : j < ns.length := by
          have := (List.getElem?_eq_some_iff.mp he).1
          omega
        obtain ⟨k, rfl⟩ : ∃ k : Nat, e = .int (k : Nat) := by
          have hm := List.mem_of_getElem? he
          unfold numsV at hm
          obtain ⟨k, _, rfl⟩ := List.mem_map.mp hm
          exact ⟨k, rfl⟩
        have ST : Same H6 (upd H7 TT (.tup [.int (j : Nat), .int (k : Nat)])) := S7.trans (same_new hT)
        have gT : (upd H7 TT (.tup [.int (j : Nat), .int (k : Nat)])) TT = some (.tup [.int (j : Nat), .int (k : Nat)]) := upd_same
        generalize upd H7 TT (.tup [.int (j : Nat), .int (k : Nat)]) = H8 at ST gT ⊢
        refine ⟨TT, _, rfl, SqT.of gT, rfl, _, _, rfl, _, _, rfl, rfl, ?_⟩
        refine ⟨_, rfl, _, _, rfl, rfl, _, rfl, if2 (fun c => ?_) (fun c => ⟨ST, _, _, rfl⟩)⟩
        have sq8 := sqT_same (S16.trans ST) sq
        refine ⟨_, rfl, _, rfl, _, rfl, _, rfl, q0, numsV ns, rfl, sq8, ?_, fun p1 hp1 => ?_⟩
        · rintro ⟨_, h2⟩
          have h3 : min j (numsV ns).length = (numsV ns).length := by rw [← HT.sIx_nat]; exact h2
          omega
        have S9 := same_new (o := .tup (cutV (numsV ns) none (some ((j : Nat) : Int)))) hp1
        have g9 : (upd H8 p1 (.tup (cutV (numsV ns) none (some ((j : Nat) : Int))))) p1 = some (.tup (cutV (numsV ns) none (some ((j : Nat) : Int)))) := upd_same
        generalize upd H8 p1 (.tup (cutV (numsV ns) none (some ((j : Nat) : Int)))) = H9 at S9 g9 ⊢
        refine ⟨_, rfl, rfl, (show 1 ≤ sizeLine from by decide), fun p2 hp2 => ?_⟩
        generalize hb : decide (V.int ((k : Nat) : Int) = V.int 1) = b1
        have S10 := same_new (o := .tup [V.bl b1]) hp2
        have g10 : (upd H9 p2 (.tup [V.bl b1])) p2 = some (.tup [V.bl b1]) := upd_same
        generalize upd H9 p2 (.tup [V.bl b1]) = H10 at S10 g10 ⊢
        have c1 := cut_len (numsV ns) none (some ((j : Nat) : Int))
        refine ⟨p1, p2, _, _, rfl, rfl, SqT.of (S10 _ _ g9), SqT.of g10, Nat.le_trans (show _ ≤ 100 by rw [List.length_singleton]; omega) (by decide), fun p3 H11 S11 sq11 => ?_⟩
        have sqx := sqT_same (S9.trans (S10.trans S11)) sq8
        refine ⟨_, rfl, _, rfl, _, _, rfl, rfl, _, rfl, q0, numsV ns, rfl, sqx, ?_, fun p4 hp4 => ?_⟩
        · rintro ⟨h2, _⟩
          have h3 : min (j + 1) (numsV ns).length = 0 := by rw [← HT.sIx_nat _ 0]; exact h2
          omega
        have S12 := same_new (o := .tup (cutV (numsV ns) (some (((j : Nat) : Int) + 1)) none)) hp4
        have g12 : (upd H11 p4 (.tup (cutV (numsV ns) (some (((j : Nat) : Int) + 1)) none))) p4 = some (.tup (cutV (numsV ns) (some (((j : Nat) : Int) + 1)) none)) := upd_same
        generalize upd H11 p4 (.tup (cutV (numsV ns) (some (((j : Nat) : Int) + 1)) none)) = H12 at S12 g12 ⊢
        have c2 := cut_len (numsV ns) (some (((j : Nat) : Int) + 1)) none
        have c3 : (cutV (numsV ns) none (some ((j : Nat) : Int)) ++ [V.bl b1]).length ≤ 4 := by rw [List.length_append, List.length_singleton]; omega
        refine ⟨p3, p4, _, _, rfl, rfl, sqT_same S12 sq11, SqT.of g12, Nat.le_trans (show _ ≤ 100 by omega) (by decide), fun p5 H13 S13' sq13 => ⟨(show 2 ≤ sizeLine from by decide), fun t14 ht14 => ?_⟩⟩
        have S14 := same_new (o := .tup [.str nm, .ref p5]) ht14
        have g14 : (upd H13 t14 (.tup [.str nm, .ref p5])) t14 = some (.tup [.str nm, .ref p5]) := upd_same
        generalize upd H13 t14 (.tup [.str nm, .ref p5]) = H14 at S14 g14 ⊢
        have SA : Same H8 H14 := S9.trans (S10.trans (S11.trans (S12.trans (S13'.trans S14))))
        have bk14 := bk.same (S16.trans (ST.trans SA))
        obtain ⟨dx14, ho14⟩ := bk14.obj
        refine ⟨_, rfl, x, _, _, rfl, ho14, x, l, m, rows, as, _, false, rfl, bk14, has_bad (c := true) (c' := true) (SqT.of g14) (sqT_same S14 sq13) ?_ ?_ ⟨b1, by simp⟩, fun H15 S15' => ⟨_, rfl, _, rfl, iteF ⟨ST.trans (SA.trans S15'), _, _, rfl⟩⟩⟩
        · rw [List.length_append]
          omega
        · intro v hv
          rcases List.mem_append.mp hv with hv | hv
          · rcases List.mem_append.mp hv with hv | hv
            · exact numsV_ib (cut_mem hv)
            · exact .inr ⟨b1, List.mem_singleton.mp hv⟩
          · exact numsV_ib (cut_mem hv)
      · rintro σ H7 ⟨S7, _⟩
        exact q _ (S16.trans S7)
/-! ### _law_numbers_refused -/
def NuAt (K : PySem.W.Frag) (H : Hp) (n : Nat) (v : V) : Prop := ∃ e, Dq K H v e ∧ intD e 0 ((n : Nat) - 1) = false ∧ FitQ 2 200 e
theorem NuAt.same {H H' : Hp} {n : Nat} {v : V} (h : NuAt K H n v) (S : Same H H') : NuAt K H' n v := by
  obtain ⟨e, h1, h2, h3⟩ := h
  exact ⟨e, (dq_same S).1 h1, h2, h3⟩
theorem int_off {n : Nat} {i : Int} (h : i < 0 ∨ (n : Nat) ≤ i) : intD (.int i) 0 ((n : Nat) - 1) = false := by
  show (decide ((0 : Int) ≤ i) && decide (i ≤ ((n : Nat) : Int) - 1)) = false
  rcases h with h | h
  · rw [decide_eq_false (show ¬ (0 : Int) ≤ i by omega), Bool.false_and]
  · rw [decide_eq_false (show ¬ i ≤ ((n : Nat) : Int) - 1 by omega), Bool.and_false]
theorem fq_up {n m w v : Nat} {e : PyData} (h : FitQ n w e) (h1 : n ≤ m := by decide) (h2 : w ≤ v := by decide) : FitQ m v e := h.up h1 h2
theorem fit_one0 : FitQ 2 200 (.list [.int 0]) := by
  refine ⟨by decide +kernel, by decide +kernel, by decide +kernel⟩
theorem fit_one0T : FitQ 2 200 (.tuple [.int 0]) := by
  refine ⟨by decide +kernel, by decide +kernel, by decide +kernel⟩
/-- ["word", v] as data that repr shows -/
theorem fit_pair {n w : Nat} {z : Str} {e : PyData} (hz : Sm 10 z) (h : FitQ n w e) (hw : 102 ≤ w) : FitQ (n + 1) (2 * (w + 2) + 3) (.list [.str z, e]) := by
  refine fitq_list (xs := [.str z, e]) fun x hx => ?_
  rcases List.mem_cons.mp hx with hx | hx
  · rw [hx]
    exact (fitq_str hz).up (Nat.le_refl _) (by omega)
  · rw [List.mem_singleton.mp hx]
    exact h
theorem sm_term : Sm 10 "term" := by unfold Sm; decide +kernel
def spNumsR (P : Program) (w : World) (K : PySem.W.Frag) (C : Addr) : Sp := fun vs H Q _ => ∃ (x l m : Addr) (rows : List BRow) (as : List Addr), vs = [.ref x, .int (rows.length : Nat)] ∧ BookAt P w K C H x l m rows as ∧ rows.length < 100000 ∧ Sys K H ∧ ∀ H', Same H H' → Q (.bl true) H'
theorem ok_numsR (T : Txt K mg a d) : FnG P w K mg base CX0 5 a.numsR d.numsR ["_law_book", "_law_many"] (spNumsR P w K a.CBook) := by
  have G_get := ok_get (P := P) (w := w) (base := base) T
  refine okG T.F_numsR scNumsR (fun vs H Q E h => ?_) (fun cdv A outer s H vs Q E hr hg h => ?_)
  · obtain ⟨x, l, m, rows, as, rfl, _⟩ := h
    rfl
  · obtain ⟨x, l, m, rows, as, rfl, bk, few, sy, q⟩ := h
    refine ⟨_, (pss_cons (ps_for PassesOwn.never rfl (pi_list (pe_lst (pa_cons (pv 1) (pa_cons (pe_op op_sub pe_int pe_int) (pa_cons pe_non (pa_cons pe_bl (pa_cons pe_str (pa_cons (pe_lst (pa_cons pe_int pa_nil)) (pa_cons (pe_tup (pa_cons pe_int pa_nil)) (pa_cons (pe_op op_add (pv 1) (pe_op op_pow pe_int pe_int)) pa_nil)))))))))) (pg_name (i := 2) scNumsR.nd rfl (Or.inl rfl)) (pss_cons (ps_set (i := 3) scNumsR.nd rfl (Or.inl rfl) (pe_lst (pa_cons pe_str pa_nil)))
      (Evl.pss_cut (Tp.ps_tryA rfl rfl Tp.takes0 (fun W pn xe tk po => (pss_one (ps_set (i := 3) scNumsR.nd rfl (Or.inl rfl) (pe_lst (pa_cons pe_str (pa_cons (Tp.pe_subE (pv 0) (pv 2) T.me_get.at_ T.gi_get T.me_get.fn G_get (hr.mono (by decide)) T.b_get (fun σ => passAt tk σ)) pa_nil)))))) (.as_ (i := 4) scNumsR.nd rfl rfl ⟨rfl, by decide, Or.inl T.mg_UnknownTerm⟩ (fun ea oe cls ed pn hz hf => (pss_cons (ps_set (i := 5) scNumsR.nd rfl (Or.inl rfl) (pe_and (pe_callB (Tp.call_isX hz hf) (by rfl) T.isinstance_ Tp.bt_isinstance (pa_cons (pv 4) (pa_cons (pe_glob (v := .ref a.CMissingError) (by rfl) T.mg_MissingError rfl) pa_nil))) (pe_one (pe_not (pe_callB (Tp.call_isXT hz hf) (by rfl) T.isinstance_ Tp.bt_isinstance (pa_cons (pv 4) (pa_cons (pe_tup (pa_cons (pe_glob (v := .ref a.CNetError) (by rfl) T.mg_NetError rfl) (pa_cons (pe_glob (v := .ref a.CStateError) (by rfl) T.mg_StateError rfl) pa_nil))) pa_nil)))))))
      (pss_one (ps_set (i := 3) scNumsR.nd rfl (Or.inl rfl) (pe_ifExp (pt_val (pv 5)) (pe_lst (pa_cons pe_str (pa_cons (pe_xf T.cx_UnknownTerm.xf (T.xi_UnknownTerm.no "number" (by decide)) hz hf (pv 4)) pa_nil))) (pe_lst pa_nil)))))) .nil))
      (pss_one (ps_if (pt_cmpR op_ne (pe_callB (Tp.call_reprQ hr hg) (by rfl) T.repr_ Tp.bt_repr (pa_cons (pv 3) pa_nil)) (pe_callB (Tp.call_reprQ hr hg) (by rfl) T.repr_ Tp.bt_repr (pa_cons (pe_lst (pa_cons pe_str (pa_cons (pv 2) pa_nil))) pa_nil)) (nomark _)) (pss_one (ps_ret pe_bl)) pss_nil)))))
      (pss_one (ps_ret pe_bl))), ?_⟩
    refine ⟨_, rfl, _, _, rfl, rfl, (show 1 ≤ sizeLine from by decide), fun l1 hl1 => ?_⟩
    have S1 := same_new (o := .lst [.int 0]) hl1
    have g1 : (upd H l1 (.lst [.int 0])) l1 = some (.lst [.int 0]) := upd_same
    generalize upd H l1 (.lst [.int 0]) = H1 at S1 g1 ⊢
    refine ⟨(show 1 ≤ sizeLine from by decide), fun t1 ht1 => ?_⟩
    have S2 := same_new (o := .tup [.int 0]) ht1
    have g2 : (upd H1 t1 (.tup [.int 0])) t1 = some (.tup [.int 0]) := upd_same
    generalize upd H1 t1 (.tup [.int 0]) = H2 at S2 g2 ⊢
    refine ⟨_, rfl, _, _, rfl, rfl, ⟨by decide, by decide, by decide⟩, _, _, rfl, rfl, (show 8 ≤ sizeLine from by decide), fun l0 hl0 => ?_⟩
    have key : ∀ v ∈ ([.int (rows.length : Nat), .int (0 - 1), .non, .bl true, .str "0", .ref l1, .ref t1, .int (((rows.length : Nat) : Int) + 10 ^ 28)] : List V), NuAt K H2 rows.length v := by
      intro v hv
      simp only [List.mem_cons, List.not_mem_nil, or_false] at hv
      rcases hv with rfl | rfl | rfl | rfl | rfl | rfl | rfl | rfl
      · exact ⟨_, .int _, int_off (.inr (Int.le_refl _)), fq_up (n := 2) (fitq_int (by omega))⟩
      · exact ⟨_, .int _, int_off (.inl (by decide)), fq_up (n := 2) (fitq_int (by decide))⟩
      · exact ⟨_, .non, rfl, fq_up (n := 2) fitq_none⟩
      · exact ⟨_, .bl true, rfl, fq_up (n := 2) (fitq_bool true)⟩
      · exact ⟨_, .str "0", rfl, fq_up (n := 2) (fitq_str (m := 1) (by unfold Sm; decide +kernel))⟩
      · exact ⟨.list [.int 0], .lst (SqL.of (S2 _ _ g1)) (.cons (.int 0) .nil), rfl, fit_one0⟩
      · exact ⟨.tuple [.int 0], .tup (SqT.of g2) (.cons (.int 0) .nil), rfl, fit_one0T⟩
      · exact ⟨_, .int _, int_off (.inr (by omega)), fq_up (n := 2) (fitq_int (by omega))⟩
    refine ⟨l0, rfl, ⟨_, SqL.of upd_same⟩, for_it (walk_list (xs := [.int (rows.length : Nat), .int (0 - 1), .non, .bl true, .str "0", .ref l1, .ref t1, .int (((rows.length : Nat) : Int) + 10 ^ 28)])) (fun i σ H' => Same H2 H' ∧ H' l0 = some (.lst [.int (rows.length : Nat), .int (0 - 1), .non, .bl true, .str "0", .ref l1, .ref t1, .int (((rows.length : Nat) : Int) + 10 ^ 28)]) ∧ ∃ v2 v3 v5, σ = [some (.ref x), some (.int (rows.length : Nat)), v2, v3, none, v5]) ⟨same_new hl0, upd_same, _, _, _, rfl⟩ ?_ ?_ ?_⟩
    · rintro i σ H' _ ⟨S, g, _⟩
      exact SqL.of g
    · rintro i v σ _ H4 hi ⟨S4, g4, v2, v3, v5, rfl⟩ ⟨rfl, hv⟩
      have S04 := (S1.trans S2).trans S4
      obtain ⟨e, dq, no, fit⟩ := (key v (List.mem_of_getElem? hv)).same S4
      refine ⟨(show 1 ≤ sizeLine from by decide), fun l5 hl5 => ?_⟩
      have S5 := same_new (o := .lst [.str "none"]) hl5
      generalize upd H4 l5 (.lst [.str "none"]) = H5 at S5 ⊢
      have bk5 := bk.same (S04.trans S5)
      obtain ⟨dx, ho⟩ := bk5.obj
      have dq5 := (dq_same S5).1 dq
      refine ⟨fun σ H' => Same H5 H' ∧ ∃ l6 v5, H' l6 = some (.lst [.str "term", v]) ∧ σ = [some (.ref x), some (.int (rows.length : Nat)), some v, some (.ref l6), none, v5], ?_, ?_⟩
      · refine ⟨_, rfl, _, rfl, x, _, _, rfl, ho, x, l, m, rows, as, v, false, rfl, bk5, .inl ⟨e, dq5, no.symm⟩, (fun _ dz H6 S6 g => ?_), (fun z => by cases z)⟩
        refine ⟨_, exUU T, (fun _ ea hea => ?_), (fun z => by cases z)⟩
        have ct : (a.CUnknownTerm :: [a.CMissingError]).contains a.CMissingError = true := by simp
        have k1 := kit_X T.cx_UnknownTerm T.cx_MissingError
        rw [ct] at k1
        have n1 : (a.CUnknownTerm :: [a.CMissingError]).contains a.CNetError = false := Bool.eq_false_iff.mpr fun z => by
          have m := List.contains_iff_mem.mp z
          rcases List.mem_cons.mp m with m | m
          · exact xne T (i := 5) (j := 4) rfl rfl (by decide) m
          · exact xne T (i := 5) (j := 6) rfl rfl (by decide) (List.mem_singleton.mp m)
        have n2 : (a.CUnknownTerm :: [a.CMissingError]).contains a.CStateError = false := Bool.eq_false_iff.mpr fun z => by
          have m := List.contains_iff_mem.mp z
          rcases List.mem_cons.mp m with m | m
          · exact xne T (i := 7) (j := 4) rfl rfl (by decide) m
          · exact xne T (i := 7) (j := 6) rfl rfl (by decide) (List.mem_singleton.mp m)
        have k2 := kit_X T.cx_UnknownTerm T.cx_NetError
        have k3 := kit_X T.cx_UnknownTerm T.cx_StateError
        rw [n1] at k2
        rw [n2] at k3
        refine ⟨_, rfl, a.CUnknownTerm, dz, _, _, _, _, rfl, rfl, T.cx_UnknownTerm.ec, rfl, g, (fun u hu => hu), k1, _, rfl, iteT ?_⟩
        refine ⟨_, rfl, (show 2 ≤ sizeLine from by decide), fun tp htp => ?_⟩
        have S7 := same_new (o := .tup [V.ref a.CNetError, V.ref a.CStateError]) htp
        refine ⟨a.CUnknownTerm, dz, _, tp, _, _, _, rfl, rfl, T.cx_UnknownTerm.ec, rfl, S7 _ _ g, upd_same, .cons (.own _) (.cons (.own _) .nil), kit_any (.cons k2 (.cons k3 .nil)), _, rfl, ?_⟩
        refine ⟨_, rfl, _, rfl, iteT ?_⟩
        exact ⟨_, rfl, rfl, rfl, dz, _, _, rfl, S7 _ _ g, rfl, (show 2 ≤ sizeLine from by decide), fun l6 hl6 => ⟨S6.trans (S7.trans (same_new hl6)), l6, _, upd_same, rfl⟩⟩
      · rintro σ H6 ⟨S6, l6, v5', g6, rfl⟩
        have dq6 := (dq_same S6).1 dq5
        have sy6 := sy.same (S04.trans (S5.trans S6))
        obtain ⟨f1, f2, f3⟩ := (fit_pair (n := 2) (w := 200) sm_term fit (by decide)).ok (by decide) (by decide)
        refine ⟨_, rfl, _, .list [.str "term", e], rfl, sy6, .lst (SqL.of g6) (.cons (.str "term") (.cons dq6 .nil)), f1, f2, f3, ?_⟩
        refine ⟨_, rfl, (show 2 ≤ sizeLine from by decide), fun l7 hl7 => ?_⟩
        have S7 := same_new (o := .lst [.str "term", v]) hl7
        refine ⟨_, .list [.str "term", e], rfl, sy6.same S7, .lst (SqL.of upd_same) (.cons (.str "term") (.cons ((dq_same S7).1 dq6) .nil)), f1, f2, f3, rfl, _, rfl, ifnY rfl ⟨S4.trans (S5.trans (S6.trans S7)), S7 _ _ (S6 _ _ (S5 _ _ g4)), _, _, _, rfl⟩⟩
    · rintro σ H4 ⟨S4, _⟩
      exact q _ ((S1.trans S2).trans S4)
end
end L04

set_option Elab.async false
set_option linter.all false
set_option maxRecDepth 100000
set_option maxHeartbeats 4000000
set_option pp.deepTerms false
set_option pp.deepTerms.threshold 4
set_option pp.maxSteps 1000
namespace L04
open PySem L2 Tp
section
variable {P : Program} {w : World} {K : PySem.W.Frag} {mg : Str → Option Value} {base : Heap} {a : Ad} {d : Fd}
/-! ### rows that repr shows -/
structure Rws (rows : List BRow) : Prop where
  good : GoodB rows
  tb : ∀ r ∈ rows, ∀ t, r.sec = .inr t → t < 10 ^ 30
  few : rows.length ≤ 100
theorem nm_sm {z : Str} (h : nmB z = true) : Sm 8 z := by
  unfold nmB at h
  cases e : z.cps.toList with
  | nil =>
    rw [e] at h
    cases h
  | cons c cs =>
    rw [e] at h
    obtain ⟨h0, h⟩ := Bool.and_eq_true_iff.mp h
    obtain ⟨_, h⟩ := Bool.and_eq_true_iff.mp h
    have h0 := of_decide_eq_true h0
    refine ⟨?_, fun x hx => ?_⟩
    · show z.cps.size ≤ 8
      rw [← Array.length_toList, e, List.length_cons]
      exact h0
    · rw [e] at hx
      have := List.all_eq_true.mp h x hx
      rcases Bool.or_eq_true_iff.mp this with k | k
      · obtain ⟨_, k2⟩ := Bool.and_eq_true_iff.mp k
        have := of_decide_eq_true k2
        omega
      · obtain ⟨_, k2⟩ := Bool.and_eq_true_iff.mp k
        have := of_decide_eq_true k2
        omega
theorem nums_fit {l : List Nat} (h : ∀ k ∈ l, k < 1000000) (l3 : l.length ≤ 3) : FitQ 1 165 (.tuple (numsD l)) := by
  have := fitq_tuple (n := 0) (w := 50) (xs := numsD l) (fun x hx => by
    unfold numsD at hx
    obtain ⟨k, hk, rfl⟩ := List.mem_map.mp hx
    have := h k hk
    exact fitq_int (by omega))
  refine this.up (Nat.le_refl _) ?_
  rw [numsD_len]
  omega
theorem row_fit {r : BRow} {n : Nat} (g : GoodL r n) (n6 : n ≤ 1000000) (tb : ∀ t, r.sec = .inr t → t < 10 ^ 30) : FitQ 2 1000 r.data := by
  obtain ⟨nm, sec⟩ := r
  obtain ⟨g1, g2, g3⟩ := g
  have s1 : FitQ 1 165 (.str nm) := (fitq_str (nm_sm g1)).up (Nat.le_refl _) (by decide)
  have key : ∀ f, FitQ 1 165 f → FitQ 2 1000 (.tuple [.str nm, f]) := fun f hf => (fitq_tuple (n := 1) (w := 165) (xs := [.str nm, f]) (fun x hx => by
    rcases List.mem_cons.mp hx with hx | hx
    · rw [hx]; exact s1
    · rw [List.mem_singleton.mp hx]; exact hf)).up (Nat.le_refl _) (show 2 * (165 + 2) + 3 ≤ 1000 from by decide)
  rcases g3 with ⟨l, e, l3, lt⟩ | ⟨t, e⟩
  · cases e
    exact key _ (nums_fit (fun k hk => by have := lt k hk; omega) l3)
  · cases e
    have := tb t rfl
    exact key _ ((fitq_int (by omega)).up (Nat.le_refl _) (by decide))
theorem Rws.fit {rows : List BRow} (h : Rws rows) {r : BRow} (m : r ∈ rows) : FitQ 2 1000 r.data := by
  obtain ⟨i, hi⟩ := List.mem_iff_getElem?.mp m
  have il := (List.getElem?_eq_some_iff.mp hi).1
  have := h.few
  exact row_fit (h.good.2 i r hi) (by omega) (h.tb r m)
theorem Rws.fits {rows : List BRow} (h : Rws rows) : FitQ 3 200000 (.list (rows.map BRow.data)) := by
  have := fitq_list (n := 2) (w := 1000) (xs := rows.map BRow.data) (fun x hx => by
    obtain ⟨r, hr, rfl⟩ := List.mem_map.mp hx
    exact h.fit hr)
  have l := h.few
  refine this.up (Nat.le_refl _) ?_
  rw [List.length_map]
  omega
theorem row_two {H : Hp} {r : BRow} {p : Addr} (h : RowAt K H r p) : ∃ s, SqT K H p [.str r.nm, s] ∧ SecV K H r.sec s := by
  rcases h.inv with ⟨l, b, e, h1, h2⟩ | ⟨t, e, h1⟩
  · exact ⟨_, h1, by rw [e]; exact ⟨b, rfl, h2⟩⟩
  · exact ⟨_, h1, by rw [e]; rfl⟩
theorem has_row {c : Bool} {H : Hp} {rows : List BRow} {r : BRow} {p : Addr} {s : V} (h : SqB c K H p [.str r.nm, s]) (hs : SecV K H r.sec s) (l : r.args.length ≤ 1000) (m : r ∈ rows) : HasIs K H rows (.ref p) true := by
  obtain ⟨nm, sec⟩ := r
  cases sec with
  | inl ns =>
    obtain ⟨q, rfl, h2⟩ := hs
    exact has_lst (c' := true) h h2 l m
  | inr t =>
    obtain rfl : s = .int (t : Nat) := hs
    exact has_turn h m
theorem GoodL.args3 {r : BRow} {n : Nat} (g : GoodL r n) : r.args.length ≤ 3 := by
  obtain ⟨nm, sec⟩ := r
  rcases g.2.2 with ⟨l, e, l3, _⟩ | ⟨t, e⟩
  · cases e
    exact l3
  · cases e
    exact Nat.zero_le _
theorem Rws.args3 {rows : List BRow} (h : Rws rows) {r : BRow} (m : r ∈ rows) : r.args.length ≤ 3 := by
  obtain ⟨i, hi⟩ := List.mem_iff_getElem?.mp m
  exact (h.good.2 i r hi).args3
/-! ### things that are not in the book, or in the rows too -/
inductive OutAt (K : PySem.W.Frag) (H : Hp) (rows : List BRow) : V → Prop
  | data {v : V} {e : PyData} : Dp K H v e → SeqAt.shaped e = true → HasIs K H rows v false → OutAt K H rows v
  | row {v : V} {r : BRow} : Dp K H v r.data → SeqAt.shaped r.data = true → HasIs K H rows v (decide (r ∈ rows)) → OutAt K H rows v
  | zed {v : V} : (∀ H', Same H H' → ∀ r p, nmB r.nm = true → RowAt K H' r p → EqZ K H' 60 (.ref p) v false) → HasIs K H rows v false → OutAt K H rows v
theorem HasIs.same {H H' : Hp} {rows : List BRow} {v : V} {b : Bool} (h : HasIs K H rows v b) (S : Same H H') : HasIs K H' rows v b := by
  cases h with
  | noPair h => exact .noPair (PairIs.same h S)
  | noStr h1 h2 h3 h4 => exact .noStr (h1.same S) (PairIs.same h2 S) ((dq_same S).1 h3) h4
  | bad h1 h2 h3 h4 h5 h6 => exact .bad (h1.same S) (PairIs.same h2 S) (h3.same S) (TurnsIs.same h4 S) h5 h6
  | lst h1 h2 h3 h4 => exact .lst (h1.same S) (PairIs.same h2 S) (h3.same S) h4
  | noTurn h1 h2 h3 h4 => exact .noTurn (h1.same S) (PairIs.same h2 S) (NoLT.same h3 S) (TurnIs.same h4 S)
  | turn h1 h2 => exact .turn (h1.same S) (PairIs.same h2 S)
theorem OutAt.same {H H' : Hp} {rows : List BRow} {v : V} (h : OutAt K H rows v) (S : Same H H') : OutAt K H' rows v := by
  cases h with
  | data h1 h2 h3 => exact .data ((dp_same S).1 h1) h2 (HasIs.same h3 S)
  | row h1 h2 h3 => exact .row ((dp_same S).1 h1) h2 (HasIs.same h3 S)
  | zed h1 h2 => exact .zed (fun H2 S2 r p hn hp => h1 H2 (S.trans S2) r p hn hp) (HasIs.same h2 S)
theorem out_no {H : Hp} {rows : List BRow} {v : V} {e : PyData} (h : Dp K H v e) (s : SeqAt.shaped e = true) (p : pairD e = false) : OutAt K H rows v := .data h s (.noPair (.inl ⟨e, dp_dq.1 h, p.symm⟩))
theorem EqZ.cast {H : Hp} {n : Nat} {v x : V} {b c : Bool} (h : EqZ K H n v x b) (e : b = c) : EqZ K H n v x c := e ▸ h
theorem out_dict {H : Hp} {rows : List BRow} {b : Addr} (h : H b = some (.dK [])) : OutAt K H rows (.ref b) :=
  .zed (fun H' S r p hn hp => by
    obtain ⟨s, h1, _⟩ := row_two hp
    exact .tup h1 (S _ _ h)) (.noPair (.inl ⟨.dict [], .dic (kvs := []) (.inl h) .nil .nil, rfl⟩))
theorem out_dict2 {H : Hp} {rows : List BRow} {b u d : Addr} (h : H b = some (.tup [.str "f", .ref u])) (h2 : H u = some (.tup [.ref d])) (h3 : H d = some (.dK [])) : OutAt K H rows (.ref b) := by
  have hd : Dq K H (.ref d) (.dict []) := .dic (kvs := []) (.inl h3) .nil .nil
  have sq : SqB true K H b [.str "f", .ref u] := SqT.of h
  have sq2 : SqB true K H u [.ref d] := SqT.of h2
  refine .zed (fun H' S r p hn hp => ?_) (.bad sq (pair_B sq (.str "f") (.tup sq2 (.cons hd .nil))) sq2 (.cons (.inl ⟨_, hd, rfl⟩) .nil) (by decide) (show 1 ≤ 1000 from by decide))
  have hb : SqT K H' b [.str "f", .ref u] := SqT.of (S _ _ h)
  have hu : SqT K H' u [.ref d] := SqT.of (S _ _ h2)
  have hd' := S _ _ h3
  have key : ∀ s : V, SecV K H' r.sec s → EqZ K H' 59 s (.ref u) false ∧ NeV K H' s (.ref u) := fun s hs => by
    cases e : r.sec with
    | inr t =>
      rw [e] at hs
      cases (show s = .int (t : Nat) from hs)
      exact ⟨.intT hu, .int⟩
    | inl ns =>
      rw [e] at hs
      obtain ⟨q, rfl, hq⟩ := hs
      cases ns with
      | nil => exact ⟨EqZ.cast (.tups (p := true) .nil hq hu .nil1) rfl, .tup hq hu .nil⟩
      | cons k ns => exact ⟨EqZ.cast (.tups (.hd .int) hq hu (.cons (.int hd') .nil2)) (by rw [Bool.false_and, Bool.false_and]), .tup hq hu (.hd .int)⟩
  obtain ⟨s, h1, hs⟩ := row_two hp
  obtain ⟨k1, k2⟩ := key s hs
  have g1 : EqZ K H' 59 (.str r.nm) (.str "f") (PyData.eqv (.str r.nm) (.str "f")) := .data (.str _) (.str _) (by simpa only [PyData.canLay0] using nm_ok hn) (by decide +kernel) (by simp only [PyData.depth]; decide)
  exact EqZ.cast (.tups (.tl (.hd k2)) h1 hb (.cons g1 (.cons k1 .nil1))) (by simp)
theorem out_dict3 {H : Hp} {rows : List BRow} {b u d : Addr} (h : H b = some (.tup [.ref d, .ref u])) (h2 : H u = some (.tup [])) (h3 : H d = some (.dK [])) : OutAt K H rows (.ref b) := by
  have hd : Dq K H (.ref d) (.dict []) := .dic (kvs := []) (.inl h3) .nil .nil
  have sq : SqB true K H b [.ref d, .ref u] := SqT.of h
  refine .zed (fun H' S r p hn hp => ?_) (.noStr sq (pair_B sq hd (.tup (SqT.of h2) .nil)) hd rfl)
  have hb : SqT K H' b [.ref d, .ref u] := SqT.of (S _ _ h)
  have hu : SqT K H' u [] := SqT.of (S _ _ h2)
  have hd' := S _ _ h3
  obtain ⟨s, h1, hs⟩ := row_two hp
  obtain ⟨c, k1⟩ : ∃ c, EqZ K H' 59 s (.ref u) c := by
    cases e : r.sec with
    | inr t =>
      rw [e] at hs
      cases (show s = .int (t : Nat) from hs)
      exact ⟨_, .intT hu⟩
    | inl ns =>
      rw [e] at hs
      obtain ⟨q, rfl, hq⟩ := hs
      have := nums_lay ns
      exact ⟨_, .data (.tup hq (dpN ns)) (.tup hu .nil) (by simp only [PyData.canLay0]; exact this.1) (by decide +kernel) (by simp only [PyData.depth, this.2]; decide)⟩
  exact EqZ.cast (.tups (.hd .str) h1 hb (.cons (.str hd') (.cons k1 .nil1))) (by rw [Bool.false_and, Bool.false_and])
theorem sh_turn {z : Str} (t : Nat) (h : PyData.strOk z = true) : SeqAt.shaped (BRow.data ⟨z, .inr t⟩) = true := by
  unfold SeqAt.shaped
  simp only [BRow.data, PyData.canLay0, PyData.canLayAll0, PyData.depth, PyData.depthAll, h]
  decide
def spHolds (P : Program) (w : World) (K : PySem.W.Frag) (C : Addr) : Sp := fun vs H Q _ => ∃ (x l m : Addr) (rows : List BRow) (as : List Addr) (q : Addr) (ps : List Addr), vs = [.ref x, .ref q] ∧ BookAt P w K C H x l m rows as ∧ SqL K H q (ps.map V.ref) ∧ Paired (RowAt K H) rows ps ∧ Rws rows ∧ Sys K H ∧ ∀ H', Same H H' → Q (.bl true) H'
theorem ok_holds (T : Txt K mg a d) : FnG P w K mg base CX0 7 a.holds d.holds ["_law_book", "_law_rows"] (spHolds P w K a.CBook) := by
  have G_rows := ok_rows (P := P) (w := w) (base := base) T
  have G_len := ok_len (P := P) (w := w) (base := base) T
  have G_get := ok_get (P := P) (w := w) (base := base) T
  have G_has := ok_has (P := P) (w := w) (base := base) T
  have G_formsR := ok_formsR (P := P) (w := w) (base := base) T
  have G_numsR := ok_numsR (P := P) (w := w) (base := base) T
  refine okG T.F_holds scHolds (fun vs H Q E h => ?_) (fun cdv A outer s H vs Q E hr hg h => ?_)
  · obtain ⟨x, l, m, rows, as, q0, ps, rfl, _⟩ := h
    rfl
  · obtain ⟨x, l, m, rows, as, q0, ps, rfl, bk, sq, pr, ok, sy, q⟩ := h
    refine ⟨_, (pss_cons (ps_if (PW.pt (pw_or (pt_cmpR op_ne (pe_callB (Tp.call_reprQ hr hg) (by rfl) T.repr_ Tp.bt_repr (pa_cons (pe_meth0 (pv 0) T.cl_Book T.me_rows G_rows (hr.mono (by decide)) T.b_rows .nil pass0) pa_nil)) (pe_callB (Tp.call_reprQ hr hg) (by rfl) T.repr_ Tp.bt_repr (pa_cons (pv 1) pa_nil)) (nomark _)) (pw_or1 (pt_cmpR op_ne (pe_callB (Tp.call_lenE T.me_len.at_ T.me_len.fn G_len (hr.mono (by decide)) T.b_len pass0) (by rfl) T.len_ Tp.bt_len (pa_cons (pv 0) pa_nil)) (pe_callB call_len_seq (by rfl) T.len_ Tp.bt_len (pa_cons (pv 1) pa_nil)) (nomark _))))) (pss_one (ps_ret pe_bl)) pss_nil)
      (pss_cons (ps_for PassesOwn.never rfl (pi_enum (by rfl) T.enumerate_ (pa_cons (pv 1) pa_nil)) (pg_tup (by rfl) (pgs_cons (pg_name (i := 2) scHolds.nd rfl (Or.inl rfl)) (pgs_cons (pg_name (i := 3) scHolds.nd rfl (Or.inl rfl)) pgs_nil))) (pss_cons (ps_if (PW.pt (pw_or (pt_cmpR op_ne (pe_callB (Tp.call_reprQ hr hg) (by rfl) T.repr_ Tp.bt_repr (pa_cons (Tp.pe_subE (pv 0) (pv 2) T.me_get.at_ T.gi_get T.me_get.fn G_get (hr.mono (by decide)) T.b_get (fun σ => Tp.passA0 σ)) pa_nil)) (pe_callB (Tp.call_reprQ hr hg) (by rfl) T.repr_ Tp.bt_repr (pa_cons (pv 3) pa_nil)) (nomark _)) (pw_or (pt_cmpR (Tp.op_notInE T.me_has.at_ T.me_has.fn G_has (hr.mono (by decide)) T.b_has pass0) (pv 3) (pv 0) (by rfl)) (pw_or1 (pt_cmpR (Tp.op_notInE T.me_has.at_ T.me_has.fn G_has (hr.mono (by decide)) T.b_has pass0) (pe_callTy call_list_of (by rfl) T.list_ Tp.bt_list (pa_cons (pv 3) pa_nil)) (pv 0) (by rfl)))))) (pss_one (ps_ret pe_bl)) pss_nil)
      (pss_one (ps_if (pt_not (pt_val (pe_call G_formsR (hr.mono (by decide)) (by rfl) T.mg_formsR T.F_formsR.kp T.b_formsR .nil pass0 (pa_cons (pv 0) (pa_cons (pe_ix ix_tup (pv 3) pe_int (fun _ _ => rfl)) (pa_cons (pe_ix ix_tup (pv 3) pe_int (fun _ _ => rfl)) pa_nil)))))) (pss_one (ps_ret pe_bl)) pss_nil))))
      (pss_cons (ps_set (i := 4) scHolds.nd rfl (Or.inl rfl) (pe_lst (pa_cons pe_non (pa_cons pe_int (pa_cons pe_str (pa_cons (pe_tup (pa_cons pe_str pa_nil)) (pa_cons (pe_tup (pa_cons pe_str (pa_cons (pe_tup pa_nil) pa_nil))) (pa_cons (pe_tup (pa_cons pe_str (pa_cons (pe_callB call_len_seq (by rfl) T.len_ Tp.bt_len (pa_cons (pv 1) pa_nil)) pa_nil))) (pa_cons (pe_lst pa_nil) (pa_cons pe_dnewK (pa_cons (pe_tup (pa_cons pe_int (pa_cons pe_int pa_nil))) (pa_cons (pe_tup (pa_cons pe_str (pa_cons (pe_tup (pa_cons pe_bl pa_nil)) pa_nil))) (pa_cons (pe_tup (pa_cons pe_str (pa_cons pe_bl pa_nil))) pa_nil)))))))))))))
      (pss_cons (ps_set (i := 4) scHolds.nd rfl (Or.inl rfl) (pe_op op_cat (pv 4) (pe_lst (pa_cons (pe_tup (pa_cons pe_str (pa_cons pe_str pa_nil))) (pa_cons (pe_tup (pa_cons pe_str (pa_cons (pe_lst (pa_cons (pe_lst (pa_cons pe_int pa_nil)) pa_nil)) pa_nil))) (pa_cons (pe_tup (pa_cons pe_str (pa_cons (pe_tup (pa_cons pe_dnewK pa_nil)) pa_nil))) (pa_cons (pe_tup (pa_cons pe_dnewK (pa_cons (pe_tup pa_nil) pa_nil))) (pa_cons (pe_tup (pa_cons (pe_lst pa_nil) (pa_cons pe_int pa_nil))) (pa_cons (pe_lst (pa_cons pe_str (pa_cons pe_non pa_nil))) pa_nil)))))))))
      (pss_one (ps_ret (pe_and (pe_cmpR (op_eqD hr.units) (pe_lc (own := [("_law_one", 5)]) (by rfl) scHolds.nd (pi_list (pv 4)) (blkOk_by (own := [("_law_one", 5)]) (N := scHolds_N) (sc := defScope scHolds_st) (by decide +kernel)) (fun _ _ _ _ _ => (pg_name (i := 5) scHolds.nd rfl (Or.inl rfl))) (fun _ _ _ _ _ => (pts_one (PW.pt (pw_and (pt_cmpR (Tp.op_notInZ (K := K) rfl (un65 hr)) (pv 5) (pv 1) (by rfl)) (pw_and1 (pt_cmpR (Tp.op_inE T.me_has.at_ T.me_has.fn G_has (hr.mono (by decide)) T.b_has pass0) (pv 5) (pv 0) (by rfl))))))) (fun _ _ _ _ _ => (pv 5))) (pe_lst pa_nil) (nomark _)) (pe_one (Tp.pe_callG G_numsR (hr.mono (by decide)) hg (by rfl) T.mg_numsR T.F_numsR.kp T.b_numsR .nil pass0 (pa_cons (pv 0) (pa_cons (pe_callB call_len_seq (by rfl) T.len_ Tp.bt_len (pa_cons (pv 1) pa_nil)) pa_nil))))))))))), ?_⟩
    obtain ⟨dx, ho⟩ := bk.obj
    obtain ⟨f1, f2, f3⟩ := ok.fits.ok (by decide) (by decide)
    have l100 := ok.few
    have lps : rows.length = ps.length := Paired.length pr
    refine ⟨_, rfl, x, _, _, rfl, ho, no_look (by decide) (by decide), x, l, m, rows, as, rfl, bk, fun q1 hq1 => ?_⟩
    have S1 := same_new (o := .lst (as.map V.ref)) hq1
    have g1 : (upd H q1 (.lst (as.map V.ref))) q1 = some (.lst (as.map V.ref)) := upd_same
    generalize upd H q1 (.lst (as.map V.ref)) = H1 at S1 g1 ⊢
    refine ⟨_, .list (rows.map BRow.data), rfl, sy.same S1, .lst (SqL.of g1) (dp_dq.2 (rows_dp (paired_imp (fun _ _ h => h.same S1) bk.row))), f1, f2, f3, ?_⟩
    refine ⟨_, rfl, _, .list (rows.map BRow.data), rfl, sy.same S1, .lst (S1.seq sq) (dp_dq.2 (rows_dp (paired_imp (fun _ _ h => h.same S1) pr))), f1, f2, f3, rfl, _, rfl, ifnY rfl ?_⟩
    have bk1 := bk.same S1
    obtain ⟨dx1, ho1⟩ := bk1.obj
    refine ⟨_, rfl, x, _, _, rfl, ho1, x, l, m, rows, as, rfl, bk1, ((rows.length : Nat) : Int), rfl, by omega, by omega, ?_⟩
    refine ⟨_, rfl, q0, _, rfl, .inl (S1.seq sq), rfl, _, rfl, ?_⟩
    rw [List.length_map, ← lps]
    refine ifnY rfl ?_
    refine ⟨_, rfl, q0, _, rfl, S1.seq sq, for_it (walk_enum (xs := ps.map V.ref)) (fun i σ H' => Same H1 H' ∧ ∃ v2 v3, σ = [some (.ref x), some (.ref q0), v2, v3, none, none]) ⟨Same.refl _, _, _, rfl⟩ ?_ ?_ ?_⟩
    · rintro i σ H' _ ⟨S, _⟩
      exact (S1.trans S).seq sq
    · rintro j u σ H2 _ hj ⟨S2, v2, v3, rfl⟩ ⟨TT, xx, e, rfl, hT, rfl, hx, he⟩
      cases hx
      have he : (ps.map V.ref)[j]? = some e := he
      rw [List.getElem?_map] at he
      obtain ⟨p, hp, rfl⟩ := Option.map_eq_some_iff.mp he
      have jl : j < rows.length := by
        have := (List.getElem?_eq_some_iff.mp hp).1
        omega
      have hr' : rows[j]? = some rows[j] := List.getElem?_eq_getElem jl
      obtain ⟨p', hp', rp⟩ := Tp.paired_get pr hr'
      rw [hp] at hp'
      cases hp'
      generalize rows[j] = r at hr' rp
      have mem : r ∈ rows := List.mem_of_getElem? hr'
      have ST : Same H1 (upd H2 TT (.tup [.int (j : Nat), .ref p])) := S2.trans (same_new hT)
      have gT : (upd H2 TT (.tup [.int (j : Nat), .ref p])) TT = some (.tup [.int (j : Nat), .ref p]) := upd_same
      generalize upd H2 TT (.tup [.int (j : Nat), .ref p]) = H3 at ST gT ⊢
      refine ⟨TT, _, rfl, SqT.of gT, rfl, _, _, rfl, _, _, rfl, rfl, ?_⟩
      have S3 := S1.trans ST
      have bk3 := bk.same S3
      have sy3 := sy.same S3
      obtain ⟨dx3, ho3⟩ := bk3.obj
      have rp3 : RowAt K H3 r p := rp.same S3
      obtain ⟨e1, e2, e3⟩ := (ok.fit mem).ok (by decide) (by decide)
      have a3 := ok.args3 mem
      refine ⟨_, rfl, _, rfl, x, _, _, rfl, ho3, x, l, m, rows, as, _, true, rfl, bk3, int_is jl, (fun e => by cases e), fun _ => ⟨j, r, rfl, hr', fun p' hp' rp' => ?_⟩⟩
      refine ⟨_, r.data, rfl, sy3, dp_dq.1 rp', e1, e2, e3, _, rfl, _, r.data, rfl, sy3, dp_dq.1 rp3, e1, e2, e3, rfl, _, rfl, ifnY rfl ?_⟩
      obtain ⟨s, sqp, hs⟩ := row_two rp3
      refine ⟨_, rfl, _, rfl, x, _, _, rfl, ho3, x, l, m, rows, as, _, true, rfl, bk3, has_row (c := true) sqp hs (by omega) mem, fun H4 S4 => ⟨_, rfl, _, rfl, iteF ?_⟩⟩
      refine ⟨_, rfl, p, _, rfl, .inr (sqT_same S4 sqp), fun l5 hl5 => ?_⟩
      have S5 := same_new (o := .lst [.str r.nm, s]) hl5
      have g5 : (upd H4 l5 (.lst [.str r.nm, s])) l5 = some (.lst [.str r.nm, s]) := upd_same
      generalize upd H4 l5 (.lst [.str r.nm, s]) = H5 at S5 g5 ⊢
      have bk5 := bk3.same (S4.trans S5)
      obtain ⟨dx5, ho5⟩ := bk5.obj
      refine ⟨_, rfl, x, _, _, rfl, ho5, x, l, m, rows, as, _, true, rfl, bk5, has_row (c := false) (SqL.of g5) (hs.same (S4.trans S5)) (by omega) mem, fun H6 S6 => ⟨_, rfl, _, rfl, iteF ?_⟩⟩
      have S36 := S4.trans (S5.trans S6)
      have sqp6 := sqT_same S36 sqp
      exact ⟨_, rfl, _, rfl, p, _, 0, _, rfl, rfl, sqp6, rfl, _, rfl, p, _, 1, _, rfl, rfl, sqp6, rfl, x, l, m, rows, as, r, s, rfl, bk3.same S36, mem, a3, hs.same S36, fun H7 S7 => ⟨_, rfl, iteF ⟨ST.trans (S36.trans S7), _, _, rfl⟩⟩⟩
    · rintro σ H2 ⟨S2, v2, v3, rfl⟩
      have S02 := S1.trans S2
      refine ⟨(show 1 ≤ sizeLine from by decide), fun n3 hn3 => ?_⟩
      have S3 := same_new (o := .tup [.str "a"]) hn3
      have g3 : (upd H2 n3 (.tup [.str "a"])) n3 = some (.tup [.str "a"]) := upd_same
      generalize upd H2 n3 (.tup [.str "a"]) = H3 at S3 g3 ⊢
      refine ⟨Nat.zero_le _, fun n4 hn4 => ?_⟩
      have S4 := same_new (o := .tup []) hn4
      have g4 : (upd H3 n4 (.tup [])) n4 = some (.tup []) := upd_same
      generalize upd H3 n4 (.tup []) = H4 at S4 g4 ⊢
      refine ⟨(show 2 ≤ sizeLine from by decide), fun n5 hn5 => ?_⟩
      have S5 := same_new (o := .tup [.str "zz9", .ref n4]) hn5
      have g5 : (upd H4 n5 (.tup [.str "zz9", .ref n4])) n5 = some (.tup [.str "zz9", .ref n4]) := upd_same
      generalize upd H4 n5 (.tup [.str "zz9", .ref n4]) = H5 at S5 g5 ⊢
      refine ⟨_, rfl, q0, _, rfl, .inl ((S02.trans (S3.trans (S4.trans S5))).seq sq), ?_⟩
      rw [List.length_map, ← lps]
      refine ⟨(show 2 ≤ sizeLine from by decide), fun n6 hn6 => ?_⟩
      have S6 := same_new (o := .tup [.str "a", .int (rows.length : Nat)]) hn6
      have g6 : (upd H5 n6 (.tup [.str "a", .int (rows.length : Nat)])) n6 = some (.tup [.str "a", .int (rows.length : Nat)]) := upd_same
      generalize upd H5 n6 (.tup [.str "a", .int (rows.length : Nat)]) = H6 at S6 g6 ⊢
      refine ⟨Nat.zero_le _, fun n7 hn7 => ?_⟩
      have S7 := same_new (o := .lst []) hn7
      have g7 : (upd H6 n7 (.lst [])) n7 = some (.lst []) := upd_same
      generalize upd H6 n7 (.lst []) = H7 at S7 g7 ⊢
      intro n8 hn8
      have S8 := same_new (o := .dK []) hn8
      have g8 : (upd H7 n8 (.dK [])) n8 = some (.dK []) := upd_same
      generalize upd H7 n8 (.dK []) = H8 at S8 g8 ⊢
      refine ⟨(show 2 ≤ sizeLine from by decide), fun n9 hn9 => ?_⟩
      have S9 := same_new (o := .tup [.int 1, .int 2]) hn9
      have g9 : (upd H8 n9 (.tup [.int 1, .int 2])) n9 = some (.tup [.int 1, .int 2]) := upd_same
      generalize upd H8 n9 (.tup [.int 1, .int 2]) = H9 at S9 g9 ⊢
      refine ⟨(show 1 ≤ sizeLine from by decide), fun n10 hn10 => ?_⟩
      have S10 := same_new (o := .tup [.bl true]) hn10
      have g10 : (upd H9 n10 (.tup [.bl true])) n10 = some (.tup [.bl true]) := upd_same
      generalize upd H9 n10 (.tup [.bl true]) = H10 at S10 g10 ⊢
      refine ⟨(show 2 ≤ sizeLine from by decide), fun n11 hn11 => ?_⟩
      have S11 := same_new (o := .tup [.str "f", .ref n10]) hn11
      have g11 : (upd H10 n11 (.tup [.str "f", .ref n10])) n11 = some (.tup [.str "f", .ref n10]) := upd_same
      generalize upd H10 n11 (.tup [.str "f", .ref n10]) = H11 at S11 g11 ⊢
      refine ⟨(show 2 ≤ sizeLine from by decide), fun n12 hn12 => ?_⟩
      have S12 := same_new (o := .tup [.str "x", .bl true]) hn12
      have g12 : (upd H11 n12 (.tup [.str "x", .bl true])) n12 = some (.tup [.str "x", .bl true]) := upd_same
      generalize upd H11 n12 (.tup [.str "x", .bl true]) = H12 at S12 g12 ⊢
      refine ⟨(show 11 ≤ sizeLine from by decide), fun n13 hn13 => ?_⟩
      have S13 := same_new (o := .lst [.non, .int 3, .str "a", .ref n3, .ref n5, .ref n6, .ref n7, .ref n8, .ref n9, .ref n11, .ref n12]) hn13
      have g13 : (upd H12 n13 (.lst [.non, .int 3, .str "a", .ref n3, .ref n5, .ref n6, .ref n7, .ref n8, .ref n9, .ref n11, .ref n12])) n13 = some (.lst [.non, .int 3, .str "a", .ref n3, .ref n5, .ref n6, .ref n7, .ref n8, .ref n9, .ref n11, .ref n12]) := upd_same
      generalize upd H12 n13 (.lst [.non, .int 3, .str "a", .ref n3, .ref n5, .ref n6, .ref n7, .ref n8, .ref n9, .ref n11, .ref n12]) = H13 at S13 g13 ⊢
      refine ⟨_, rfl, ?_⟩
      refine ⟨(show 2 ≤ sizeLine from by decide), fun n14 hn14 => ?_⟩
      have S14 := same_new (o := .tup [.str "x", .str "0"]) hn14
      have g14 : (upd H13 n14 (.tup [.str "x", .str "0"])) n14 = some (.tup [.str "x", .str "0"]) := upd_same
      generalize upd H13 n14 (.tup [.str "x", .str "0"]) = H14 at S14 g14 ⊢
      refine ⟨(show 1 ≤ sizeLine from by decide), fun n15 hn15 => ?_⟩
      have S15 := same_new (o := .lst [.int 0]) hn15
      have g15 : (upd H14 n15 (.lst [.int 0])) n15 = some (.lst [.int 0]) := upd_same
      generalize upd H14 n15 (.lst [.int 0]) = H15 at S15 g15 ⊢
      refine ⟨(show 1 ≤ sizeLine from by decide), fun n16 hn16 => ?_⟩
      have S16 := same_new (o := .lst [.ref n15]) hn16
      have g16 : (upd H15 n16 (.lst [.ref n15])) n16 = some (.lst [.ref n15]) := upd_same
      generalize upd H15 n16 (.lst [.ref n15]) = H16 at S16 g16 ⊢
      refine ⟨(show 2 ≤ sizeLine from by decide), fun n17 hn17 => ?_⟩
      have S17 := same_new (o := .tup [.str "f", .ref n16]) hn17
      have g17 : (upd H16 n17 (.tup [.str "f", .ref n16])) n17 = some (.tup [.str "f", .ref n16]) := upd_same
      generalize upd H16 n17 (.tup [.str "f", .ref n16]) = H17 at S17 g17 ⊢
      intro n18 hn18
      have S18 := same_new (o := .dK []) hn18
      have g18 : (upd H17 n18 (.dK [])) n18 = some (.dK []) := upd_same
      generalize upd H17 n18 (.dK []) = H18 at S18 g18 ⊢
      refine ⟨(show 1 ≤ sizeLine from by decide), fun n19 hn19 => ?_⟩
      have S19 := same_new (o := .tup [.ref n18]) hn19
      have g19 : (upd H18 n19 (.tup [.ref n18])) n19 = some (.tup [.ref n18]) := upd_same
      generalize upd H18 n19 (.tup [.ref n18]) = H19 at S19 g19 ⊢
      refine ⟨(show 2 ≤ sizeLine from by decide), fun n20 hn20 => ?_⟩
      have S20 := same_new (o := .tup [.str "f", .ref n19]) hn20
      have g20 : (upd H19 n20 (.tup [.str "f", .ref n19])) n20 = some (.tup [.str "f", .ref n19]) := upd_same
      generalize upd H19 n20 (.tup [.str "f", .ref n19]) = H20 at S20 g20 ⊢
      intro n21 hn21
      have S21 := same_new (o := .dK []) hn21
      have g21 : (upd H20 n21 (.dK [])) n21 = some (.dK []) := upd_same
      generalize upd H20 n21 (.dK []) = H21 at S21 g21 ⊢
      refine ⟨Nat.zero_le _, fun n22 hn22 => ?_⟩
      have S22 := same_new (o := .tup []) hn22
      have g22 : (upd H21 n22 (.tup [])) n22 = some (.tup []) := upd_same
      generalize upd H21 n22 (.tup []) = H22 at S22 g22 ⊢
      refine ⟨(show 2 ≤ sizeLine from by decide), fun n23 hn23 => ?_⟩
      have S23 := same_new (o := .tup [.ref n21, .ref n22]) hn23
      have g23 : (upd H22 n23 (.tup [.ref n21, .ref n22])) n23 = some (.tup [.ref n21, .ref n22]) := upd_same
      generalize upd H22 n23 (.tup [.ref n21, .ref n22]) = H23 at S23 g23 ⊢
      refine ⟨Nat.zero_le _, fun n24 hn24 => ?_⟩
      have S24 := same_new (o := .lst []) hn24
      have g24 : (upd H23 n24 (.lst [])) n24 = some (.lst []) := upd_same
      generalize upd H23 n24 (.lst []) = H24 at S24 g24 ⊢
      refine ⟨(show 2 ≤ sizeLine from by decide), fun n25 hn25 => ?_⟩
      have S25 := same_new (o := .tup [.ref n24, .int 0]) hn25
      have g25 : (upd H24 n25 (.tup [.ref n24, .int 0])) n25 = some (.tup [.ref n24, .int 0]) := upd_same
      generalize upd H24 n25 (.tup [.ref n24, .int 0]) = H25 at S25 g25 ⊢
      refine ⟨(show 2 ≤ sizeLine from by decide), fun n26 hn26 => ?_⟩
      have S26 := same_new (o := .lst [.str "f", .non]) hn26
      have g26 : (upd H25 n26 (.lst [.str "f", .non])) n26 = some (.lst [.str "f", .non]) := upd_same
      generalize upd H25 n26 (.lst [.str "f", .non]) = H26 at S26 g26 ⊢
      refine ⟨(show 6 ≤ sizeLine from by decide), fun n27 hn27 => ?_⟩
      have S27 := same_new (o := .lst [.ref n14, .ref n17, .ref n20, .ref n23, .ref n25, .ref n26]) hn27
      have g27 : (upd H26 n27 (.lst [.ref n14, .ref n17, .ref n20, .ref n23, .ref n25, .ref n26])) n27 = some (.lst [.ref n14, .ref n17, .ref n20, .ref n23, .ref n25, .ref n26]) := upd_same
      generalize upd H26 n27 (.lst [.ref n14, .ref n17, .ref n20, .ref n23, .ref n25, .ref n26]) = H27 at S27 g27 ⊢
      refine ⟨n13, n27, _, _, rfl, rfl, ((Same.trans S14 (Same.trans S15 (Same.trans S16 (Same.trans S17 (Same.trans S18 (Same.trans S19 (Same.trans S20 (Same.trans S21 (Same.trans S22 (Same.trans S23 (Same.trans S24 (Same.trans S25 (Same.trans S26 S27))))))))))))) _ _ g13), g27, (show 17 ≤ sizeLine from by decide), fun o3 ho3 => ?_⟩
      have key : ∀ v ∈ ([.non, .int 3, .str "a", .ref n3, .ref n5, .ref n6, .ref n7, .ref n8, .ref n9, .ref n11, .ref n12, .ref n14, .ref n17, .ref n20, .ref n23, .ref n25, .ref n26] : List V), OutAt K H27 rows v := by
        intro v hv
        simp only [List.mem_cons, List.not_mem_nil, or_false] at hv
        rcases hv with rfl | rfl | rfl | rfl | rfl | rfl | rfl | rfl | rfl | rfl | rfl | rfl | rfl | rfl | rfl | rfl | rfl
        · exact out_no .non rfl rfl
        · exact out_no (.int 3) rfl rfl
        · exact out_no (.str "a") (by decide +kernel) rfl
        · exact out_no (.tup (SqT.of ((Same.trans S4 (Same.trans S5 (Same.trans S6 (Same.trans S7 (Same.trans S8 (Same.trans S9 (Same.trans S10 (Same.trans S11 (Same.trans S12 (Same.trans S13 (Same.trans S14 (Same.trans S15 (Same.trans S16 (Same.trans S17 (Same.trans S18 (Same.trans S19 (Same.trans S20 (Same.trans S21 (Same.trans S22 (Same.trans S23 (Same.trans S24 (Same.trans S25 (Same.trans S26 S27))))))))))))))))))))))) _ _ g3)) (.cons (.str "a") .nil)) (by decide +kernel) rfl
        · exact .row (r := ⟨"zz9", .inl []⟩) (RowAt.mkL (l := []) (SqT.of ((Same.trans S6 (Same.trans S7 (Same.trans S8 (Same.trans S9 (Same.trans S10 (Same.trans S11 (Same.trans S12 (Same.trans S13 (Same.trans S14 (Same.trans S15 (Same.trans S16 (Same.trans S17 (Same.trans S18 (Same.trans S19 (Same.trans S20 (Same.trans S21 (Same.trans S22 (Same.trans S23 (Same.trans S24 (Same.trans S25 (Same.trans S26 S27))))))))))))))))))))) _ _ g5)) (SqT.of ((Same.trans S5 (Same.trans S6 (Same.trans S7 (Same.trans S8 (Same.trans S9 (Same.trans S10 (Same.trans S11 (Same.trans S12 (Same.trans S13 (Same.trans S14 (Same.trans S15 (Same.trans S16 (Same.trans S17 (Same.trans S18 (Same.trans S19 (Same.trans S20 (Same.trans S21 (Same.trans S22 (Same.trans S23 (Same.trans S24 (Same.trans S25 (Same.trans S26 S27)))))))))))))))))))))) _ _ g4))) (by decide +kernel) (.lst (c := true) (c' := true) (ns := []) (SqT.of ((Same.trans S6 (Same.trans S7 (Same.trans S8 (Same.trans S9 (Same.trans S10 (Same.trans S11 (Same.trans S12 (Same.trans S13 (Same.trans S14 (Same.trans S15 (Same.trans S16 (Same.trans S17 (Same.trans S18 (Same.trans S19 (Same.trans S20 (Same.trans S21 (Same.trans S22 (Same.trans S23 (Same.trans S24 (Same.trans S25 (Same.trans S26 S27))))))))))))))))))))) _ _ g5)) (pair_B (c := true) (SqT.of ((Same.trans S6 (Same.trans S7 (Same.trans S8 (Same.trans S9 (Same.trans S10 (Same.trans S11 (Same.trans S12 (Same.trans S13 (Same.trans S14 (Same.trans S15 (Same.trans S16 (Same.trans S17 (Same.trans S18 (Same.trans S19 (Same.trans S20 (Same.trans S21 (Same.trans S22 (Same.trans S23 (Same.trans S24 (Same.trans S25 (Same.trans S26 S27))))))))))))))))))))) _ _ g5)) (.str _) (.tup (SqT.of ((Same.trans S5 (Same.trans S6 (Same.trans S7 (Same.trans S8 (Same.trans S9 (Same.trans S10 (Same.trans S11 (Same.trans S12 (Same.trans S13 (Same.trans S14 (Same.trans S15 (Same.trans S16 (Same.trans S17 (Same.trans S18 (Same.trans S19 (Same.trans S20 (Same.trans S21 (Same.trans S22 (Same.trans S23 (Same.trans S24 (Same.trans S25 (Same.trans S26 S27)))))))))))))))))))))) _ _ g4)) .nil)) (SqT.of ((Same.trans S5 (Same.trans S6 (Same.trans S7 (Same.trans S8 (Same.trans S9 (Same.trans S10 (Same.trans S11 (Same.trans S12 (Same.trans S13 (Same.trans S14 (Same.trans S15 (Same.trans S16 (Same.trans S17 (Same.trans S18 (Same.trans S19 (Same.trans S20 (Same.trans S21 (Same.trans S22 (Same.trans S23 (Same.trans S24 (Same.trans S25 (Same.trans S26 S27)))))))))))))))))))))) _ _ g4)) (Nat.zero_le _))
        · exact .row (r := ⟨"a", .inr rows.length⟩) (RowAt.mkT (SqT.of ((Same.trans S7 (Same.trans S8 (Same.trans S9 (Same.trans S10 (Same.trans S11 (Same.trans S12 (Same.trans S13 (Same.trans S14 (Same.trans S15 (Same.trans S16 (Same.trans S17 (Same.trans S18 (Same.trans S19 (Same.trans S20 (Same.trans S21 (Same.trans S22 (Same.trans S23 (Same.trans S24 (Same.trans S25 (Same.trans S26 S27)))))))))))))))))))) _ _ g6))) (sh_turn _ (by decide +kernel)) (.turn (c := true) (SqT.of ((Same.trans S7 (Same.trans S8 (Same.trans S9 (Same.trans S10 (Same.trans S11 (Same.trans S12 (Same.trans S13 (Same.trans S14 (Same.trans S15 (Same.trans S16 (Same.trans S17 (Same.trans S18 (Same.trans S19 (Same.trans S20 (Same.trans S21 (Same.trans S22 (Same.trans S23 (Same.trans S24 (Same.trans S25 (Same.trans S26 S27)))))))))))))))))))) _ _ g6)) (pair_B (c := true) (SqT.of ((Same.trans S7 (Same.trans S8 (Same.trans S9 (Same.trans S10 (Same.trans S11 (Same.trans S12 (Same.trans S13 (Same.trans S14 (Same.trans S15 (Same.trans S16 (Same.trans S17 (Same.trans S18 (Same.trans S19 (Same.trans S20 (Same.trans S21 (Same.trans S22 (Same.trans S23 (Same.trans S24 (Same.trans S25 (Same.trans S26 S27)))))))))))))))))))) _ _ g6)) (.str _) (.int _)))
        · exact out_no (.lst (SqL.of ((Same.trans S8 (Same.trans S9 (Same.trans S10 (Same.trans S11 (Same.trans S12 (Same.trans S13 (Same.trans S14 (Same.trans S15 (Same.trans S16 (Same.trans S17 (Same.trans S18 (Same.trans S19 (Same.trans S20 (Same.trans S21 (Same.trans S22 (Same.trans S23 (Same.trans S24 (Same.trans S25 (Same.trans S26 S27))))))))))))))))))) _ _ g7)) .nil) rfl rfl
        · exact out_dict ((Same.trans S9 (Same.trans S10 (Same.trans S11 (Same.trans S12 (Same.trans S13 (Same.trans S14 (Same.trans S15 (Same.trans S16 (Same.trans S17 (Same.trans S18 (Same.trans S19 (Same.trans S20 (Same.trans S21 (Same.trans S22 (Same.trans S23 (Same.trans S24 (Same.trans S25 (Same.trans S26 S27)))))))))))))))))) _ _ g8)
        · exact .data (e := .tuple [.int 1, .int 2]) (.tup (SqT.of ((Same.trans S10 (Same.trans S11 (Same.trans S12 (Same.trans S13 (Same.trans S14 (Same.trans S15 (Same.trans S16 (Same.trans S17 (Same.trans S18 (Same.trans S19 (Same.trans S20 (Same.trans S21 (Same.trans S22 (Same.trans S23 (Same.trans S24 (Same.trans S25 (Same.trans S26 S27))))))))))))))))) _ _ g9)) (.cons (.int 1) (.cons (.int 2) .nil))) (by decide +kernel) (.noStr (c := true) (e := .int 1) (SqT.of ((Same.trans S10 (Same.trans S11 (Same.trans S12 (Same.trans S13 (Same.trans S14 (Same.trans S15 (Same.trans S16 (Same.trans S17 (Same.trans S18 (Same.trans S19 (Same.trans S20 (Same.trans S21 (Same.trans S22 (Same.trans S23 (Same.trans S24 (Same.trans S25 (Same.trans S26 S27))))))))))))))))) _ _ g9)) (pair_B (c := true) (SqT.of ((Same.trans S10 (Same.trans S11 (Same.trans S12 (Same.trans S13 (Same.trans S14 (Same.trans S15 (Same.trans S16 (Same.trans S17 (Same.trans S18 (Same.trans S19 (Same.trans S20 (Same.trans S21 (Same.trans S22 (Same.trans S23 (Same.trans S24 (Same.trans S25 (Same.trans S26 S27))))))))))))))))) _ _ g9)) (.int 1) (.int 2)) (.int 1) rfl)
        · exact .data (e := .tuple [.str "f", .tuple [.bool true]]) (.tup (SqT.of ((Same.trans S12 (Same.trans S13 (Same.trans S14 (Same.trans S15 (Same.trans S16 (Same.trans S17 (Same.trans S18 (Same.trans S19 (Same.trans S20 (Same.trans S21 (Same.trans S22 (Same.trans S23 (Same.trans S24 (Same.trans S25 (Same.trans S26 S27))))))))))))))) _ _ g11)) (.cons (.str "f") (.cons (.tup (SqT.of ((Same.trans S11 (Same.trans S12 (Same.trans S13 (Same.trans S14 (Same.trans S15 (Same.trans S16 (Same.trans S17 (Same.trans S18 (Same.trans S19 (Same.trans S20 (Same.trans S21 (Same.trans S22 (Same.trans S23 (Same.trans S24 (Same.trans S25 (Same.trans S26 S27)))))))))))))))) _ _ g10)) (.cons (.bl true) .nil)) .nil))) (by decide +kernel) (has_bad (c := true) (c' := true) (SqT.of ((Same.trans S12 (Same.trans S13 (Same.trans S14 (Same.trans S15 (Same.trans S16 (Same.trans S17 (Same.trans S18 (Same.trans S19 (Same.trans S20 (Same.trans S21 (Same.trans S22 (Same.trans S23 (Same.trans S24 (Same.trans S25 (Same.trans S26 S27))))))))))))))) _ _ g11)) (SqT.of ((Same.trans S11 (Same.trans S12 (Same.trans S13 (Same.trans S14 (Same.trans S15 (Same.trans S16 (Same.trans S17 (Same.trans S18 (Same.trans S19 (Same.trans S20 (Same.trans S21 (Same.trans S22 (Same.trans S23 (Same.trans S24 (Same.trans S25 (Same.trans S26 S27)))))))))))))))) _ _ g10)) (by decide) (fun v hv => .inr ⟨true, List.mem_singleton.mp hv⟩) ⟨true, List.mem_singleton.mpr rfl⟩)
        · exact .data (e := .tuple [.str "x", .bool true]) (.tup (SqT.of ((Same.trans S13 (Same.trans S14 (Same.trans S15 (Same.trans S16 (Same.trans S17 (Same.trans S18 (Same.trans S19 (Same.trans S20 (Same.trans S21 (Same.trans S22 (Same.trans S23 (Same.trans S24 (Same.trans S25 (Same.trans S26 S27)))))))))))))) _ _ g12)) (.cons (.str "x") (.cons (.bl true) .nil))) (by decide +kernel) (.noTurn (c := true) (SqT.of ((Same.trans S13 (Same.trans S14 (Same.trans S15 (Same.trans S16 (Same.trans S17 (Same.trans S18 (Same.trans S19 (Same.trans S20 (Same.trans S21 (Same.trans S22 (Same.trans S23 (Same.trans S24 (Same.trans S25 (Same.trans S26 S27)))))))))))))) _ _ g12)) (pair_B (c := true) (SqT.of ((Same.trans S13 (Same.trans S14 (Same.trans S15 (Same.trans S16 (Same.trans S17 (Same.trans S18 (Same.trans S19 (Same.trans S20 (Same.trans S21 (Same.trans S22 (Same.trans S23 (Same.trans S24 (Same.trans S25 (Same.trans S26 S27)))))))))))))) _ _ g12)) (.str "x") (.bl true)) (noLT_dq (.bl true) rfl) (.inl ⟨_, .bl true, rfl⟩))
        · exact .data (e := .tuple [.str "x", .str "0"]) (.tup (SqT.of ((Same.trans S15 (Same.trans S16 (Same.trans S17 (Same.trans S18 (Same.trans S19 (Same.trans S20 (Same.trans S21 (Same.trans S22 (Same.trans S23 (Same.trans S24 (Same.trans S25 (Same.trans S26 S27)))))))))))) _ _ g14)) (.cons (.str "x") (.cons (.str "0") .nil))) (by decide +kernel) (.noTurn (c := true) (SqT.of ((Same.trans S15 (Same.trans S16 (Same.trans S17 (Same.trans S18 (Same.trans S19 (Same.trans S20 (Same.trans S21 (Same.trans S22 (Same.trans S23 (Same.trans S24 (Same.trans S25 (Same.trans S26 S27)))))))))))) _ _ g14)) (pair_B (c := true) (SqT.of ((Same.trans S15 (Same.trans S16 (Same.trans S17 (Same.trans S18 (Same.trans S19 (Same.trans S20 (Same.trans S21 (Same.trans S22 (Same.trans S23 (Same.trans S24 (Same.trans S25 (Same.trans S26 S27)))))))))))) _ _ g14)) (.str "x") (.str "0")) (noLT_dq (.str "0") rfl) (.inl ⟨_, .str "0", rfl⟩))
        · exact .data (e := .tuple [.str "f", .list [.list [.int 0]]]) (.tup (SqT.of ((Same.trans S18 (Same.trans S19 (Same.trans S20 (Same.trans S21 (Same.trans S22 (Same.trans S23 (Same.trans S24 (Same.trans S25 (Same.trans S26 S27))))))))) _ _ g17)) (.cons (.str "f") (.cons (Dp.lst (SqL.of ((Same.trans S17 (Same.trans S18 (Same.trans S19 (Same.trans S20 (Same.trans S21 (Same.trans S22 (Same.trans S23 (Same.trans S24 (Same.trans S25 (Same.trans S26 S27)))))))))) _ _ g16)) (.cons (Dp.lst (SqL.of ((Same.trans S16 (Same.trans S17 (Same.trans S18 (Same.trans S19 (Same.trans S20 (Same.trans S21 (Same.trans S22 (Same.trans S23 (Same.trans S24 (Same.trans S25 (Same.trans S26 S27))))))))))) _ _ g15)) (.cons (.int 0) .nil)) .nil)) .nil))) (by decide +kernel) (.bad (c := true) (c' := false) (SqT.of ((Same.trans S18 (Same.trans S19 (Same.trans S20 (Same.trans S21 (Same.trans S22 (Same.trans S23 (Same.trans S24 (Same.trans S25 (Same.trans S26 S27))))))))) _ _ g17)) (pair_B (c := true) (SqT.of ((Same.trans S18 (Same.trans S19 (Same.trans S20 (Same.trans S21 (Same.trans S22 (Same.trans S23 (Same.trans S24 (Same.trans S25 (Same.trans S26 S27))))))))) _ _ g17)) (.str "f") (dp_dq.1 (Dp.lst (SqL.of ((Same.trans S17 (Same.trans S18 (Same.trans S19 (Same.trans S20 (Same.trans S21 (Same.trans S22 (Same.trans S23 (Same.trans S24 (Same.trans S25 (Same.trans S26 S27)))))))))) _ _ g16)) (.cons (Dp.lst (SqL.of ((Same.trans S16 (Same.trans S17 (Same.trans S18 (Same.trans S19 (Same.trans S20 (Same.trans S21 (Same.trans S22 (Same.trans S23 (Same.trans S24 (Same.trans S25 (Same.trans S26 S27))))))))))) _ _ g15)) (.cons (.int 0) .nil)) .nil)))) (SqL.of ((Same.trans S17 (Same.trans S18 (Same.trans S19 (Same.trans S20 (Same.trans S21 (Same.trans S22 (Same.trans S23 (Same.trans S24 (Same.trans S25 (Same.trans S26 S27)))))))))) _ _ g16)) (.cons (.inl ⟨_, dp_dq.1 (Dp.lst (SqL.of ((Same.trans S16 (Same.trans S17 (Same.trans S18 (Same.trans S19 (Same.trans S20 (Same.trans S21 (Same.trans S22 (Same.trans S23 (Same.trans S24 (Same.trans S25 (Same.trans S26 S27))))))))))) _ _ g15)) (.cons (.int 0) .nil)), rfl⟩) .nil) (by decide) (show 1 ≤ 1000 from by decide))
        · exact out_dict2 ((Same.trans S21 (Same.trans S22 (Same.trans S23 (Same.trans S24 (Same.trans S25 (Same.trans S26 S27)))))) _ _ g20) ((Same.trans S20 (Same.trans S21 (Same.trans S22 (Same.trans S23 (Same.trans S24 (Same.trans S25 (Same.trans S26 S27))))))) _ _ g19) ((Same.trans S19 (Same.trans S20 (Same.trans S21 (Same.trans S22 (Same.trans S23 (Same.trans S24 (Same.trans S25 (Same.trans S26 S27)))))))) _ _ g18)
        · exact out_dict3 ((Same.trans S24 (Same.trans S25 (Same.trans S26 S27))) _ _ g23) ((Same.trans S23 (Same.trans S24 (Same.trans S25 (Same.trans S26 S27)))) _ _ g22) ((Same.trans S22 (Same.trans S23 (Same.trans S24 (Same.trans S25 (Same.trans S26 S27))))) _ _ g21)
        · exact .data (e := .tuple [.list [], .int 0]) (.tup (SqT.of ((Same.trans S26 S27) _ _ g25)) (.cons (Dp.lst (SqL.of ((Same.trans S25 (Same.trans S26 S27)) _ _ g24)) .nil) (.cons (.int 0) .nil))) (by decide +kernel) (.noStr (c := true) (e := .list []) (SqT.of ((Same.trans S26 S27) _ _ g25)) (pair_B (c := true) (SqT.of ((Same.trans S26 S27) _ _ g25)) (dp_dq.1 (Dp.lst (SqL.of ((Same.trans S25 (Same.trans S26 S27)) _ _ g24)) .nil)) (.int 0)) (dp_dq.1 (Dp.lst (SqL.of ((Same.trans S25 (Same.trans S26 S27)) _ _ g24)) .nil)) rfl)
        · exact .data (e := .list [.str "f", .none]) (.lst (SqL.of (S27 _ _ g26)) (.cons (.str "f") (.cons .non .nil))) (by decide +kernel) (.noTurn (c := false) (SqL.of (S27 _ _ g26)) (pair_B (c := false) (SqL.of (S27 _ _ g26)) (.str "f") .non) (noLT_dq .non rfl) (.inl ⟨_, .non, rfl⟩))
      have S0N : Same H H27 := S02.trans (Same.trans S3 (Same.trans S4 (Same.trans S5 (Same.trans S6 (Same.trans S7 (Same.trans S8 (Same.trans S9 (Same.trans S10 (Same.trans S11 (Same.trans S12 (Same.trans S13 (Same.trans S14 (Same.trans S15 (Same.trans S16 (Same.trans S17 (Same.trans S18 (Same.trans S19 (Same.trans S20 (Same.trans S21 (Same.trans S22 (Same.trans S23 (Same.trans S24 (Same.trans S25 (Same.trans S26 S27))))))))))))))))))))))))
      have SA := same_new (o := .lst [.non, .int 3, .str "a", .ref n3, .ref n5, .ref n6, .ref n7, .ref n8, .ref n9, .ref n11, .ref n12, .ref n14, .ref n17, .ref n20, .ref n23, .ref n25, .ref n26]) ho3
      have gA : (upd H27 o3 (.lst [.non, .int 3, .str "a", .ref n3, .ref n5, .ref n6, .ref n7, .ref n8, .ref n9, .ref n11, .ref n12, .ref n14, .ref n17, .ref n20, .ref n23, .ref n25, .ref n26])) o3 = some (.lst [.non, .int 3, .str "a", .ref n3, .ref n5, .ref n6, .ref n7, .ref n8, .ref n9, .ref n11, .ref n12, .ref n14, .ref n17, .ref n20, .ref n23, .ref n25, .ref n26]) := upd_same
      refine ⟨_, rfl, o3, rfl, ⟨_, SqL.of upd_same⟩, fun D hD => lc_it (walk_list (xs := [.non, .int 3, .str "a", .ref n3, .ref n5, .ref n6, .ref n7, .ref n8, .ref n9, .ref n11, .ref n12, .ref n14, .ref n17, .ref n20, .ref n23, .ref n25, .ref n26])) (fun i H' => Same H27 H' ∧ H' o3 = some (.lst [.non, .int 3, .str "a", .ref n3, .ref n5, .ref n6, .ref n7, .ref n8, .ref n9, .ref n11, .ref n12, .ref n14, .ref n17, .ref n20, .ref n23, .ref n25, .ref n26]) ∧ H' D = some (.lst [])) ⟨SA.trans (same_new hD), same_new hD _ _ gA, upd_same⟩ ?_ ?_ ?_⟩
      · rintro i H' _ ⟨S, g, _⟩
        exact SqL.of g
      · rintro i v _ H' hi ⟨S, g, hD'⟩ ⟨rfl, hv⟩
        have oa := (key v (List.mem_of_getElem? hv)).same S
        have S' := S0N.trans S
        have sq' : SqL K H' q0 (ps.map V.ref) := S'.seq sq
        have pr' : Paired (RowAt K H') rows ps := paired_imp (fun _ _ h => h.same S') pr
        have bk' := bk.same S'
        obtain ⟨dx', ho'⟩ := bk'.obj
        have sr := rows_shaped ok.good.nm
        cases oa with
        | @data e dp sh hs => exact ⟨rfl, _, rfl, _, rfl, .inl ⟨e, rows.map BRow.data, dp, .lst sq' (rows_dp pr'), sh, sr, _, rfl, ifB (fun _ => ⟨_, rfl, _, rfl, x, _, _, rfl, ho', x, l, m, rows, as, _, false, rfl, bk', hs, fun H8 S8 => ⟨_, rfl, _, rfl, iteF ⟨S.trans S8, S8 _ _ g, S8 _ _ hD'⟩⟩⟩) (fun _ => ⟨S, g, hD'⟩)⟩⟩
        | @row r dp sh hs =>
          refine ⟨rfl, _, rfl, _, rfl, .inl ⟨r.data, rows.map BRow.data, dp, .lst sq' (rows_dp pr'), sh, sr, _, rfl, ?_⟩⟩
          rw [rows_any]
          by_cases mm : r ∈ rows
          · exact ifnY mm ⟨S, g, hD'⟩
          · rw [decide_eq_false mm] at hs
            exact ifnN mm ⟨_, rfl, _, rfl, x, _, _, rfl, ho', x, l, m, rows, as, _, false, rfl, bk', hs, fun H8 S8 => ⟨_, rfl, _, rfl, iteF ⟨S.trans S8, S8 _ _ g, S8 _ _ hD'⟩⟩⟩
        | zed hz hs =>
          refine ⟨rfl, _, rfl, _, rfl, .inr ⟨q0, _, rfl, sq', ?_, _, rfl, iteT ⟨_, rfl, _, rfl, x, _, _, rfl, ho', x, l, m, rows, as, _, false, rfl, bk', hs, fun H8 S8 => ⟨_, rfl, _, rfl, iteF ⟨S.trans S8, S8 _ _ g, S8 _ _ hD'⟩⟩⟩⟩⟩
          intro y hy
          obtain ⟨p, hp, rfl⟩ := List.mem_map.mp hy
          obtain ⟨j, hj⟩ := List.mem_iff_getElem?.mp hp
          have jl : j < rows.length := by
            have := (List.getElem?_eq_some_iff.mp hj).1
            omega
          have hr' : rows[j]? = some rows[j] := List.getElem?_eq_getElem jl
          obtain ⟨p', hp', rp⟩ := Tp.paired_get pr' hr'
          rw [hj] at hp'
          cases hp'
          exact hz H' (Same.refl _) _ p (ok.good.nm _ (List.mem_of_getElem? hr')) rp
      · rintro H9 ⟨S9, _, hD'⟩
        refine ⟨Nat.zero_le _, fun lz hlz => ?_⟩
        have SZ := same_new (o := .lst []) hlz
        have S0Z := S0N.trans (S9.trans SZ)
        refine ⟨.list [], .list [], .lst (SqL.of (SZ _ _ hD')) .nil, .lst (SqL.of upd_same) .nil, rfl, rfl, _, rfl, iteT ?_⟩
        refine ⟨_, rfl, _, rfl, q0, _, rfl, .inl (S0Z.seq sq), x, l, m, rows, as, ?_, bk.same S0Z, by omega, sy.same S0Z, fun H8 S8 => q _ (S0Z.trans S8)⟩
        rw [List.length_map, ← lps]
        rfl

end
end L04

set_option Elab.async false
set_option linter.all false
set_option maxRecDepth 100000
set_option maxHeartbeats 4000000
set_option pp.deepTerms false
set_option pp.deepTerms.threshold 4
set_option pp.maxSteps 1000
namespace L04
open PySem L2 Tp
section
variable {P : Program} {w : World} {K : PySem.W.Frag} {mg : Str → Option Value} {base : Heap} {a : Ad} {d : Fd}
/-! ### _law_label -/
def one (c : Nat) : Str := ⟨#[c]⟩
def sgC (c : Nat) : Bool := lowC c || digC c
theorem joinL_one : ∀ cs : List Nat, TL.joinL [] (cs.map fun c => [c]) = cs
  | [] => rfl
  | [c] => rfl
  | c :: e :: cs => by
    show [c] ++ ([] ++ TL.joinL [] ((e :: cs).map fun c => [c])) = _
    rw [joinL_one (e :: cs)]
    rfl
theorem join_one (cs : List Nat) : (Txt.join "" (cs.map one)).cps.toList = cs := by
  have e : Txt.join "" (cs.map one) = Str.join "" (cs.map one) := StrLaws.glued_eq_join _ _
  rw [e]
  have := TL.tl_join "" (cs.map one)
  rw [List.map_map] at this
  exact this.trans (joinL_one cs)
theorem nm_label {c : Nat} {cs : List Nat} (h : lowC c = true) (hs : ∀ x ∈ cs, sgC x = true) (l : cs.length ≤ 7) : nmB (one c ++ Txt.join "" (cs.map one)) = true ∧ (one c ++ Txt.join "" (cs.map one)).length ≤ 8 := by
  have e : (one c ++ Txt.join "" (cs.map one)).cps.toList = c :: cs := by
    show ((one c).cps ++ (Txt.join "" (cs.map one)).cps).toList = _
    rw [Array.toList_append, join_one]
    rfl
  constructor
  · unfold nmB
    rw [e]
    show (decide (cs.length + 1 ≤ 8) && (lowC c && (c :: cs).all fun x => lowC x || digC x)) = true
    rw [decide_eq_true (by omega), h, Bool.true_and, Bool.true_and]
    refine List.all_eq_true.mpr fun x hx => ?_
    rcases List.mem_cons.mp hx with z | z
    · rw [z, h]
      rfl
    · exact hs x z
  · show (one c ++ Txt.join "" (cs.map one)).cps.size ≤ 8
    rw [← Array.length_toList, e, List.length_cons]
    omega
theorem lab6 : ∀ z ∈ [("f" : Str), "g", "a", "b", "x", "f1"], nmB z = true ∧ z.length ≤ 8 := by decide +kernel
theorem sig26 : ∀ j, j < 26 → ∃ c, ("abcdefghijklmnopqrstuvwxyz0123456789" : Str).cps.toList[j]? = some c ∧ lowC c = true := fun j hj => by
  have e : ("abcdefghijklmnopqrstuvwxyz0123456789" : Str).cps.toList = [97, 98, 99, 100, 101, 102, 103, 104, 105, 106, 107, 108, 109, 110, 111, 112, 113, 114, 115, 116, 117, 118, 119, 120, 121, 122, 48, 49, 50, 51, 52, 53, 54, 55, 56, 57] := by decide +kernel
  have h : ∀ j : Fin 26, ([97, 98, 99, 100, 101, 102, 103, 104, 105, 106, 107, 108, 109, 110, 111, 112, 113, 114, 115, 116, 117, 118, 119, 120, 121, 122, 48, 49, 50, 51, 52, 53, 54, 55, 56, 57] : List Nat)[j.1]? = some (97 + j.1) ∧ lowC (97 + j.1) = true := by decide +kernel
  rw [e]
  exact ⟨97 + j, h ⟨j, hj⟩⟩
def spLabel : Sp := fun vs H Q _ => ∃ (b : Addr) (n : Nat), vs = [.ref b] ∧ BoxAt b n H ∧ n < 900000 ∧ ∀ z H', nmB z = true → z.length ≤ 8 → Kp b H H' → BoxAt b (n + 20) H' → Q (.str z) H'
theorem ok_label (T : Txt K mg a d) : FnG P w K mg base CX0 2 a.label d.label ["_law_box_here"] spLabel := by
  have G_take := ok_take (P := P) (w := w) (base := base) T
  refine okG T.F_label scLabel (fun vs H Q E h => ?_) (fun cdv A outer s H vs Q E hr hg h => ?_)
  · obtain ⟨b, n, rfl, _⟩ := h
    rfl
  · obtain ⟨b, n, rfl, hB, hn, q⟩ := h
    refine ⟨_, (pss_cons (ps_set (i := 1) scLabel.nd rfl (Or.inr rfl) pe_str)
      (pss_cons (ps_if (pt_cmpR op_gt (Tp.pe_callG G_take (hr.mono (by decide)) hg (by rfl) T.mg_take T.F_take.kp T.b_take .nil pass0 (pa_cons (pv 0) (pa_cons pe_int pa_nil))) pe_int (nomark _)) (pss_one (ps_ret (pe_ix ix_list (pe_lst (pa_cons pe_str (pa_cons pe_str (pa_cons pe_str (pa_cons pe_str (pa_cons pe_str (pa_cons pe_str pa_nil))))))) (Tp.pe_callG G_take (hr.mono (by decide)) hg (by rfl) T.mg_take T.F_take.kp T.b_take .nil pass0 (pa_cons (pv 0) (pa_cons pe_int pa_nil))) (fun _ _ => rfl)))) pss_nil)
      (pss_one (ps_ret (pe_op op_add_str (pe_ix ix_str (pv 1) (Tp.pe_callG G_take (hr.mono (by decide)) hg (by rfl) T.mg_take T.F_take.kp T.b_take .nil pass0 (pa_cons (pv 0) (pa_cons pe_int pa_nil))) (fun _ _ => rfl)) (pe_join pe_str (pe_lc (own := [("_law_k", 2)]) (by rfl) scLabel.nd (pi_range1 (by rfl) T.range_ (pa_cons (Tp.pe_callG G_take (hr.mono (by decide)) hg (by rfl) T.mg_take T.F_take.kp T.b_take .nil pass0 (pa_cons (pv 0) (pa_cons pe_int pa_nil))) pa_nil)) (blkOk_by (own := [("_law_k", 2)]) (N := scLabel_N) (sc := defScope scLabel_st) (by decide +kernel)) (fun _ _ _ _ _ => (pg_name (i := 2) scLabel.nd rfl (Or.inl rfl))) (fun _ _ _ _ _ => pts_nil) (fun _ _ _ _ _ => (pe_ix ix_str (pv 1) (Tp.pe_callG G_take (hr.mono (by decide)) hg (by rfl) T.mg_take T.F_take.kp T.b_take .nil pass0 (pa_cons (pv 0) (pa_cons pe_int pa_nil))) (fun _ _ => rfl)))))))))), ?_⟩
    refine ⟨_, rfl, b, 3, n, rfl, hB, by omega, by decide, by decide, fun r1 H1 a1 b1 k1 B1 => ⟨_, _, rfl, rfl, _, rfl, if2 (fun c => ?_) (fun c => ?_)⟩⟩
    · refine ⟨(show 6 ≤ sizeLine from by decide), fun l hl => ?_⟩
      have nl : l ≠ b := B1.ne hl
      have k2 := Kp.new (o := .lst [V.str "f", V.str "g", V.str "a", V.str "b", V.str "x", V.str "f1"]) (b := b) hl
      have gl : (upd H1 l (.lst [V.str "f", V.str "g", V.str "a", V.str "b", V.str "x", V.str "f1"])) l = some (.lst [V.str "f", V.str "g", V.str "a", V.str "b", V.str "x", V.str "f1"]) := upd_same
      have B2 := B1.off (o := .lst [V.str "f", V.str "g", V.str "a", V.str "b", V.str "x", V.str "f1"]) nl
      refine ⟨_, rfl, b, 6, _, rfl, B2, by omega, by decide, by decide, fun r2 H3 a3 b3 k3 B3 => ?_⟩
      obtain ⟨v, hv, z, rfl, p1, p2⟩ := at_some (xs := [("f" : Str), "g", "a", "b", "x", "f1"].map V.str) (r := r2) (P := fun v => ∃ z, v = V.str z ∧ nmB z = true ∧ z.length ≤ 8) (fun x hx => by
        obtain ⟨z, hz, rfl⟩ := List.mem_map.mp hx
        exact ⟨z, rfl, lab6 z hz⟩) a3 b3
      exact ⟨l, _, _, _, rfl, rfl, SqL.of (k3 _ _ nl gl), hv, q z H3 p1 p2 ((k1.trans k2).trans k3) (B3.up (by omega))⟩
    · refine ⟨_, rfl, _, rfl, b, 26, _, rfl, B1, by omega, by decide, by decide, fun r2 H2 a2 b2 k2 B2 => ?_⟩
      obtain ⟨j, rfl⟩ := Int.eq_ofNat_of_zero_le a2
      obtain ⟨c1, hc1, lc1⟩ := sig26 j (by omega)
      refine ⟨_, _, c1, rfl, rfl, by decide, atI_nat hc1, ⟨_, rfl⟩, _, rfl, b, 8, _, rfl, B2, by omega, by decide, by decide, fun r3 H3 a3 b3 k3 B3 => ?_⟩
      refine ⟨r3, rfl, by omega, by omega, fun D hD => lc_range (lo := 0) (n := r3.toNat) (fun i H' => BoxAt b (n + 3 + i) H' ∧ Kp b H3 H' ∧ ∃ cs : List Nat, H' D = some (.lst ((cs.map one).map V.str)) ∧ cs.length = i ∧ ∀ y ∈ cs, sgC y = true)
        ⟨B3.same (same_new hD), Kp.new hD, [], upd_same, rfl, (by simp)⟩ ?_ ?_⟩
      · rintro i H4 hi ⟨B4, k4, cs, hy, ly, l1⟩
        have nDb : D ≠ b := B3.ne hD
        refine ⟨rfl, _, rfl, _, rfl, b, 36, _, rfl, B4, by omega, by decide, by decide, fun r H5 a5 b5 k5 B5 => ?_⟩
        obtain ⟨e, he, se⟩ := at_some (xs := ("abcdefghijklmnopqrstuvwxyz0123456789" : Str).cps.toList) (r := r) (P := fun c => sgC c = true) (by decide +kernel) a5 b5
        refine ⟨_, _, e, rfl, rfl, by decide, he, _, k5 _ _ nDb hy, ?_, B5.off nDb, (k4.trans k5).mut hD, cs ++ [e], ?_, by rw [List.length_append, ly]; rfl, fun y hy => ?_⟩
        · rw [List.length_map, List.length_map]
          exact Nat.lt_of_lt_of_le (show cs.length < 100 by omega) (by decide)
        · rw [upd_same, List.map_append, List.map_append]
          rfl
        · rcases List.mem_append.mp hy with hy | hy
          · exact l1 y hy
          · rw [List.mem_singleton.mp hy]
            exact se
      · rintro H4 ⟨B4, k4, cs, hy, ly, l1⟩
        obtain ⟨n1, n2⟩ := nm_label lc1 l1 (by omega)
        refine ⟨_, D, cs.map one, rfl, rfl, .inl (SqL.of hy), ?_, ?_⟩
        · have sl := sum_len (ys := cs.map one) (m := 1) (fun y hy => by
            obtain ⟨c, _, rfl⟩ := List.mem_map.mp hy
            exact Nat.le_refl 1)
          have e0 : ("" : Str).length = 0 := by decide
          have l0 : (cs.map one).length = cs.length := List.length_map _
          rw [e0]
          omega
        · refine ⟨_, _, rfl, rfl, ?_, q _ H4 n1 n2 (((k1.trans k2).trans k3).trans k4) (B4.up (by omega))⟩
          refine Nat.le_trans ?_ (show 8 ≤ sizeLine from by decide)
          have e : (one c1 ++ Txt.join "" (cs.map one)).length = (one c1).length + (Txt.join "" (cs.map one)).length := Array.size_append
          rw [e] at n2
          exact n2
/-! ### _law_odd -/
def NewIn (H H' H2 : Hp) : Prop := ∀ a o, H a = none → H' a = some o → H2 a = some o
theorem none_kp {b p : Addr} {H H' : Hp} (k : Kp b H H') (h : H' p = none) (n : p ≠ b) : H p = none := by
  cases e : H p with
  | none => rfl
  | some o =>
    rw [k _ _ n e] at h
    cases h
theorem NewIn.refl (H H' : Hp) : NewIn H H' H' := fun _ _ _ h => h
/-- what is new in an inner walk -/
theorem NewIn.inner {b : Addr} {n : Nat} {H H1 H2 H3 H4 : Hp} (k1 : Kp b H H1) (B : BoxAt b n H1) (k3 : Kp b H2 H3) (N : NewIn H H3 H4) : NewIn H1 H2 H4 := fun a o h h2 => by
  have ne : a ≠ b := B.ne h
  exact N a o (none_kp k1 h ne) (k3 _ _ ne h2)
def oddsD : List PyData := [.none, .bool true, .int (-1), .str "A", .str "", .list [], .list [.str "a"], .tuple [], .dict [], .int (10 ^ 29), .str "abcdefghi", .str "1a", .list [.bool true], .list [.int 0, .none], .list [.list [.int 0]], .list [.int 0, .int 0, .int 0, .int 0]]
def spOdd (K : PySem.W.Frag) : Sp := fun vs H Q _ => ∃ (b : Addr) (n : Nat) (v : V), vs = [.ref b, v] ∧ BoxAt b n H ∧ n < 900000 ∧ ∀ H', Kp b H H' → BoxAt b (n + 2) H' → (∀ v' e, e ∈ oddsD → (∀ H2, NewIn H H' H2 → Dq K H2 v' e) → Q v' H') ∧ Q v H'
theorem ok_odd (T : Txt K mg a d) : FnG P w K mg base CX0 2 a.odd d.odd ["_law_box_here", "_law_good"] (spOdd K) := by
  have G_take := ok_take (P := P) (w := w) (base := base) T
  refine okG T.F_odd scOdd (fun vs H Q E h => ?_) (fun cdv A outer s H vs Q E hr hg h => ?_)
  · obtain ⟨b, n, v, rfl, _⟩ := h
    rfl
  · obtain ⟨b, n, v, rfl, B0, hn, q⟩ := h
    refine ⟨_, (pss_cons (ps_set (i := 2) scOdd.nd rfl (Or.inl rfl) (pe_lst (pa_cons pe_non (pa_cons pe_bl (pa_cons (pe_op op_sub pe_int pe_int) (pa_cons pe_str (pa_cons pe_str (pa_cons (pe_lst pa_nil) (pa_cons (pe_lst (pa_cons pe_str pa_nil)) (pa_cons (pe_tup pa_nil) (pa_cons pe_dnewK (pa_cons (pe_op op_pow pe_int pe_int) (pa_cons pe_str (pa_cons pe_str (pa_cons (pe_lst (pa_cons pe_bl pa_nil)) (pa_cons (pe_lst (pa_cons pe_int (pa_cons pe_non pa_nil))) pa_nil))))))))))))))))
      (pss_one (ps_ret (pe_ifExp (pt_cmpR op_eq (Tp.pe_callG G_take (hr.mono (by decide)) hg (by rfl) T.mg_take T.F_take.kp T.b_take .nil pass0 (pa_cons (pv 0) (pa_cons pe_int pa_nil))) pe_int (nomark _)) (pe_ix ix_list (pe_op op_cat (pv 2) (pe_lst (pa_cons (pe_lst (pa_cons (pe_lst (pa_cons pe_int pa_nil)) pa_nil)) (pa_cons (pe_op op_rep (pe_lst (pa_cons pe_int pa_nil)) pe_int) pa_nil)))) (Tp.pe_callG G_take (hr.mono (by decide)) hg (by rfl) T.mg_take T.F_take.kp T.b_take .nil pass0 (pa_cons (pv 0) (pa_cons pe_int pa_nil))) (fun _ _ => rfl)) (pv 1))))), ?_⟩
    have kp0 := Kp.refl b H
    refine ⟨_, _, rfl, rfl, ?_⟩
    refine ⟨Nat.zero_le _, fun n1 hn1 => ?_⟩
    have S1 := same_new (o := .lst []) hn1
    have g1 : (upd H n1 (.lst [])) n1 = some (.lst []) := upd_same
    generalize upd H n1 (.lst []) = H1 at S1 g1 ⊢
    have ne1 : n1 ≠ b := B0.ne hn1
    have z1 : H n1 = none := none_kp kp0 hn1 ne1
    have B1 := B0.same S1
    have s1 : Kp b H H1 := fun a o _ h => S1 a o h
    have kp1 := kp0.trans s1
    refine ⟨(show 1 ≤ sizeLine from by decide), fun n2 hn2 => ?_⟩
    have S2 := same_new (o := .lst [.str "a"]) hn2
    have g2 : (upd H1 n2 (.lst [.str "a"])) n2 = some (.lst [.str "a"]) := upd_same
    generalize upd H1 n2 (.lst [.str "a"]) = H2 at S2 g2 ⊢
    have ne2 : n2 ≠ b := B1.ne hn2
    have z2 : H n2 = none := none_kp kp1 hn2 ne2
    have B2 := B1.same S2
    have s2 : Kp b H1 H2 := fun a o _ h => S2 a o h
    have kp2 := kp1.trans s2
    refine ⟨Nat.zero_le _, fun n3 hn3 => ?_⟩
    have S3 := same_new (o := .tup []) hn3
    have g3 : (upd H2 n3 (.tup [])) n3 = some (.tup []) := upd_same
    generalize upd H2 n3 (.tup []) = H3 at S3 g3 ⊢
    have ne3 : n3 ≠ b := B2.ne hn3
    have z3 : H n3 = none := none_kp kp2 hn3 ne3
    have B3 := B2.same S3
    have s3 : Kp b H2 H3 := fun a o _ h => S3 a o h
    have kp3 := kp2.trans s3
    intro n4 hn4
    have S4 := same_new (o := .dK []) hn4
    have g4 : (upd H3 n4 (.dK [])) n4 = some (.dK []) := upd_same
    generalize upd H3 n4 (.dK []) = H4 at S4 g4 ⊢
    have ne4 : n4 ≠ b := B3.ne hn4
    have z4 : H n4 = none := none_kp kp3 hn4 ne4
    have B4 := B3.same S4
    have s4 : Kp b H3 H4 := fun a o _ h => S4 a o h
    have kp4 := kp3.trans s4
    refine ⟨_, _, rfl, rfl, ⟨by decide, by decide, by decide⟩, ?_⟩
    refine ⟨(show 1 ≤ sizeLine from by decide), fun n5 hn5 => ?_⟩
    have S5 := same_new (o := .lst [.bl true]) hn5
    have g5 : (upd H4 n5 (.lst [.bl true])) n5 = some (.lst [.bl true]) := upd_same
    generalize upd H4 n5 (.lst [.bl true]) = H5 at S5 g5 ⊢
    have ne5 : n5 ≠ b := B4.ne hn5
    have z5 : H n5 = none := none_kp kp4 hn5 ne5
    have B5 := B4.same S5
    have s5 : Kp b H4 H5 := fun a o _ h => S5 a o h
    have kp5 := kp4.trans s5
    refine ⟨(show 2 ≤ sizeLine from by decide), fun n6 hn6 => ?_⟩
    have S6 := same_new (o := .lst [.int 0, .non]) hn6
    have g6 : (upd H5 n6 (.lst [.int 0, .non])) n6 = some (.lst [.int 0, .non]) := upd_same
    generalize upd H5 n6 (.lst [.int 0, .non]) = H6 at S6 g6 ⊢
    have ne6 : n6 ≠ b := B5.ne hn6
    have z6 : H n6 = none := none_kp kp5 hn6 ne6
    have B6 := B5.same S6
    have s6 : Kp b H5 H6 := fun a o _ h => S6 a o h
    have kp6 := kp5.trans s6
    refine ⟨(show 14 ≤ sizeLine from by decide), fun n7 hn7 => ?_⟩
    generalize hG7 : upd H6 n7 _ = H7
    have S7 : Same H6 H7 := by rw [← hG7]; exact same_new hn7
    have g7 : H7 n7 = some (.lst [.non, .bl true, .int (0 - 1), .str "A", .str "", .ref n1, .ref n2, .ref n3, .ref n4, .int (10 ^ 29), .str "abcdefghi", .str "1a", .ref n5, .ref n6]) := by rw [← hG7]; exact upd_same
    have ne7 : n7 ≠ b := B6.ne hn7
    have z7 : H n7 = none := none_kp kp6 hn7 ne7
    have B7 := B6.same S7
    have s7 : Kp b H6 H7 := fun a o _ h => S7 a o h
    have kp7 := kp6.trans s7
    refine ⟨_, rfl, b, 4, _, rfl, B7, by omega, by decide, by decide, fun r8 H8 a8 b8 s8 B8 => ⟨rfl, _, rfl, if2 (fun c => ?_) (fun c => ⟨_, rfl, (q H8 (kp7.trans s8) (B8.up (by omega))).2⟩)⟩⟩
    have kp8 := kp7.trans s8
    refine ⟨_, rfl, ?_⟩
    refine ⟨(show 1 ≤ sizeLine from by decide), fun n9 hn9 => ?_⟩
    have S9 := same_new (o := .lst [.int 0]) hn9
    have g9 : (upd H8 n9 (.lst [.int 0])) n9 = some (.lst [.int 0]) := upd_same
    generalize upd H8 n9 (.lst [.int 0]) = H9 at S9 g9 ⊢
    have ne9 : n9 ≠ b := B8.ne hn9
    have z9 : H n9 = none := none_kp kp8 hn9 ne9
    have B9 := B8.same S9
    have s9 : Kp b H8 H9 := fun a o _ h => S9 a o h
    have kp9 := kp8.trans s9
    refine ⟨(show 1 ≤ sizeLine from by decide), fun n10 hn10 => ?_⟩
    have S10 := same_new (o := .lst [.ref n9]) hn10
    have g10 : (upd H9 n10 (.lst [.ref n9])) n10 = some (.lst [.ref n9]) := upd_same
    generalize upd H9 n10 (.lst [.ref n9]) = H10 at S10 g10 ⊢
    have ne10 : n10 ≠ b := B9.ne hn10
    have z10 : H n10 = none := none_kp kp9 hn10 ne10
    have B10 := B9.same S10
    have s10 : Kp b H9 H10 := fun a o _ h => S10 a o h
    have kp10 := kp9.trans s10
    refine ⟨(show 1 ≤ sizeLine from by decide), fun n11 hn11 => ?_⟩
    have S11 := same_new (o := .lst [.int 0]) hn11
    have g11 : (upd H10 n11 (.lst [.int 0])) n11 = some (.lst [.int 0]) := upd_same
    generalize upd H10 n11 (.lst [.int 0]) = H11 at S11 g11 ⊢
    have ne11 : n11 ≠ b := B10.ne hn11
    have z11 : H n11 = none := none_kp kp10 hn11 ne11
    have B11 := B10.same S11
    have s11 : Kp b H10 H11 := fun a o _ h => S11 a o h
    have kp11 := kp10.trans s11
    refine ⟨n11, 4, _, rfl, rfl, g11, by decide, by decide, by decide, fun n12 hn12 => ?_⟩
    generalize hG12 : upd H11 n12 _ = H12
    have S12 : Same H11 H12 := by rw [← hG12]; exact same_new hn12
    have g12 : H12 n12 = some (.lst [.int 0, .int 0, .int 0, .int 0]) := by rw [← hG12]; exact upd_same
    have ne12 : n12 ≠ b := B11.ne hn12
    have z12 : H n12 = none := none_kp kp11 hn12 ne12
    have B12 := B11.same S12
    have s12 : Kp b H11 H12 := fun a o _ h => S12 a o h
    have kp12 := kp11.trans s12
    refine ⟨(show 2 ≤ sizeLine from by decide), fun n13 hn13 => ?_⟩
    have S13 := same_new (o := .lst [.ref n10, .ref n12]) hn13
    have g13 : (upd H12 n13 (.lst [.ref n10, .ref n12])) n13 = some (.lst [.ref n10, .ref n12]) := upd_same
    generalize upd H12 n13 (.lst [.ref n10, .ref n12]) = H13 at S13 g13 ⊢
    have ne13 : n13 ≠ b := B12.ne hn13
    have z13 : H n13 = none := none_kp kp12 hn13 ne13
    have B13 := B12.same S13
    have s13 : Kp b H12 H13 := fun a o _ h => S13 a o h
    have kp13 := kp12.trans s13
    refine ⟨n7, n13, _, _, rfl, rfl, ((Kp.trans s8 (Kp.trans s9 (Kp.trans s10 (Kp.trans s11 (Kp.trans s12 s13))))) _ _ ne7 g7), g13, (show 16 ≤ sizeLine from by decide), fun n14 hn14 => ?_⟩
    generalize hG14 : upd H13 n14 _ = H14
    have S14 : Same H13 H14 := by rw [← hG14]; exact same_new hn14
    have g14 : H14 n14 = some (.lst [.non, .bl true, .int (0 - 1), .str "A", .str "", .ref n1, .ref n2, .ref n3, .ref n4, .int (10 ^ 29), .str "abcdefghi", .str "1a", .ref n5, .ref n6, .ref n10, .ref n12]) := by rw [← hG14]; exact upd_same
    have ne14 : n14 ≠ b := B13.ne hn14
    have z14 : H n14 = none := none_kp kp13 hn14 ne14
    have B14 := B13.same S14
    have s14 : Kp b H13 H14 := fun a o _ h => S14 a o h
    have kp14 := kp13.trans s14
    refine ⟨_, rfl, b, 16, _, rfl, B14, by omega, by decide, by decide, fun r15 H15 a15 b15 s15 B15 => ?_⟩
    have kp15 := kp14.trans s15
    have all : ∀ v ∈ ([.non, .bl true, .int (0 - 1), .str "A", .str "", .ref n1, .ref n2, .ref n3, .ref n4, .int (10 ^ 29), .str "abcdefghi", .str "1a", .ref n5, .ref n6, .ref n10, .ref n12] : List V), ∃ e ∈ oddsD, ∀ H2, NewIn H H15 H2 → Dq K H2 v e := by
      intro v hv
      simp only [List.mem_cons, List.not_mem_nil, or_false] at hv
      rcases hv with rfl | rfl | rfl | rfl | rfl | rfl | rfl | rfl | rfl | rfl | rfl | rfl | rfl | rfl | rfl | rfl
      · exact ⟨oddsD[0], List.getElem_mem _, fun H2 N => .non⟩
      · exact ⟨oddsD[1], List.getElem_mem _, fun H2 N => .bl true⟩
      · exact ⟨oddsD[2], List.getElem_mem _, fun H2 N => .int _⟩
      · exact ⟨oddsD[3], List.getElem_mem _, fun H2 N => .str _⟩
      · exact ⟨oddsD[4], List.getElem_mem _, fun H2 N => .str _⟩
      · exact ⟨oddsD[5], List.getElem_mem _, fun H2 N => .lst (SqL.of (N _ _ z1 ((Kp.trans s2 (Kp.trans s3 (Kp.trans s4 (Kp.trans s5 (Kp.trans s6 (Kp.trans s7 (Kp.trans s8 (Kp.trans s9 (Kp.trans s10 (Kp.trans s11 (Kp.trans s12 (Kp.trans s13 (Kp.trans s14 s15))))))))))))) _ _ ne1 g1))) .nil⟩
      · exact ⟨oddsD[6], List.getElem_mem _, fun H2 N => .lst (SqL.of (N _ _ z2 ((Kp.trans s3 (Kp.trans s4 (Kp.trans s5 (Kp.trans s6 (Kp.trans s7 (Kp.trans s8 (Kp.trans s9 (Kp.trans s10 (Kp.trans s11 (Kp.trans s12 (Kp.trans s13 (Kp.trans s14 s15)))))))))))) _ _ ne2 g2))) (.cons (.str "a") .nil)⟩
      · exact ⟨oddsD[7], List.getElem_mem _, fun H2 N => .tup (SqT.of (N _ _ z3 ((Kp.trans s4 (Kp.trans s5 (Kp.trans s6 (Kp.trans s7 (Kp.trans s8 (Kp.trans s9 (Kp.trans s10 (Kp.trans s11 (Kp.trans s12 (Kp.trans s13 (Kp.trans s14 s15))))))))))) _ _ ne3 g3))) .nil⟩
      · exact ⟨oddsD[8], List.getElem_mem _, fun H2 N => .dic (kvs := []) (.inl (N _ _ z4 ((Kp.trans s5 (Kp.trans s6 (Kp.trans s7 (Kp.trans s8 (Kp.trans s9 (Kp.trans s10 (Kp.trans s11 (Kp.trans s12 (Kp.trans s13 (Kp.trans s14 s15)))))))))) _ _ ne4 g4))) .nil .nil⟩
      · exact ⟨oddsD[9], List.getElem_mem _, fun H2 N => .int _⟩
      · exact ⟨oddsD[10], List.getElem_mem _, fun H2 N => .str _⟩
      · exact ⟨oddsD[11], List.getElem_mem _, fun H2 N => .str _⟩
      · exact ⟨oddsD[12], List.getElem_mem _, fun H2 N => .lst (SqL.of (N _ _ z5 ((Kp.trans s6 (Kp.trans s7 (Kp.trans s8 (Kp.trans s9 (Kp.trans s10 (Kp.trans s11 (Kp.trans s12 (Kp.trans s13 (Kp.trans s14 s15))))))))) _ _ ne5 g5))) (.cons (.bl true) .nil)⟩
      · exact ⟨oddsD[13], List.getElem_mem _, fun H2 N => .lst (SqL.of (N _ _ z6 ((Kp.trans s7 (Kp.trans s8 (Kp.trans s9 (Kp.trans s10 (Kp.trans s11 (Kp.trans s12 (Kp.trans s13 (Kp.trans s14 s15)))))))) _ _ ne6 g6))) (.cons (.int 0) (.cons .non .nil))⟩
      · exact ⟨oddsD[14], List.getElem_mem _, fun H2 N => .lst (SqL.of (N _ _ z10 ((Kp.trans s11 (Kp.trans s12 (Kp.trans s13 (Kp.trans s14 s15)))) _ _ ne10 g10))) (.cons (.lst (SqL.of (N _ _ z9 ((Kp.trans s10 (Kp.trans s11 (Kp.trans s12 (Kp.trans s13 (Kp.trans s14 s15))))) _ _ ne9 g9))) (.cons (.int 0) .nil)) .nil)⟩
      · exact ⟨oddsD[15], List.getElem_mem _, fun H2 N => .lst (SqL.of (N _ _ z12 ((Kp.trans s13 (Kp.trans s14 s15)) _ _ ne12 g12))) (.cons (.int 0) (.cons (.int 0) (.cons (.int 0) (.cons (.int 0) .nil))))⟩
    obtain ⟨v, hv, e, he, hd⟩ := at_some (xs := ([.non, .bl true, .int (0 - 1), .str "A", .str "", .ref n1, .ref n2, .ref n3, .ref n4, .int (10 ^ 29), .str "abcdefghi", .str "1a", .ref n5, .ref n6, .ref n10, .ref n12] : List V)) (r := r15) (P := fun v => ∃ e ∈ oddsD, ∀ H2, NewIn H H15 H2 → Dq K H2 v e) all a15 b15
    exact ⟨n14, _, _, v, rfl, rfl, SqL.of (s15 _ _ ne14 g14), hv, (q H15 kp15 (B15.up (by omega))).1 v e he hd⟩
end
end L04

set_option Elab.async false
set_option linter.all false
set_option maxRecDepth 100000
set_option maxHeartbeats 4000000
set_option pp.deepTerms false
set_option pp.deepTerms.threshold 4
set_option pp.maxSteps 1000
namespace L04
open PySem L2 Tp
section
variable {P : Program} {w : World} {K : PySem.W.Frag} {mg : Str → Option Value} {base : Heap} {a : Ad} {d : Fd}
/-! ### what is due of a call, by its data -/
inductive DueD where
  | bad (w : Str) (e : PyData) : DueD
  | row (r : BRow) : DueD
def DueM (K : PySem.W.Frag) (H : Hp) : DueO → DueD → Prop
  | .bad w v, .bad w' e => w = w' ∧ Dq K H v e
  | .row r, .row r' => r = r'
  | _, _ => False
def nmOr (e : PyData) (f : Str → DueD) : DueD := if nmD e = false then .bad "name" e else match e with
  | .str z => f z
  | _ => .bad "name" e
def dueC (e : PyData) : DueD := nmOr e fun z => .row ⟨z, .inl []⟩
def dueS (e u : PyData) : DueD := nmOr e fun z => if turnD u = false then .bad "turn" u else match u with
  | .int i => .row ⟨z, .inr i.toNat⟩
  | _ => .bad "turn" u
def firstBad (n : Nat) : List PyData → Option PyData
  | [] => none
  | e :: es => match numD n e with
    | none => some e
    | some _ => firstBad n es
def dueA (n : Nat) (e u : PyData) : DueD := nmOr e fun z => if isLT u = true ∧ 0 < (itemsD u).length ∧ (itemsD u).length < 4 then (match numsO n (itemsD u) with
  | some ns => .row ⟨z, .inl ns⟩
  | none => .bad "term" ((firstBad n (itemsD u)).getD .none)) else .bad "part" u
/-- short names -/
def ShN (e : PyData) : Prop := ∀ z, e = .str z → z.length ≤ 10000
theorem nm_true {H : Hp} {v : V} {e : PyData} (h : Dq K H v e) (sh : ShN e) (n : nmD e = true) : ∃ z, v = .str z ∧ e = .str z ∧ NameIs K H (.str z) true := by
  have hn := name_dq h sh
  rw [n] at hn
  obtain ⟨z, ez, _⟩ := name_str hn
  subst ez
  cases h
  exact ⟨z, rfl, rfl, hn⟩
theorem call_C {H : Hp} {n : Nat} {v : V} {e : PyData} (h : Dq K H v e) (sh : ShN e) : ∃ o, CallIs K H n [.str "constant", v] o ∧ DueM K H o (dueC e) := by
  unfold dueC nmOr
  cases c : nmD e with
  | false =>
    have hn := name_dq h sh
    rw [c] at hn
    exact ⟨_, .nameC hn, rfl, h⟩
  | true =>
    obtain ⟨z, rfl, rfl, hn⟩ := nm_true h sh c
    exact ⟨_, .con hn, rfl⟩
theorem call_S {H : Hp} {n : Nat} {v x : V} {e u : PyData} (h : Dq K H v e) (sh : ShN e) (hu : Dq K H x u) : ∃ o, CallIs K H n [.str "sample", v, x] o ∧ DueM K H o (dueS e u) := by
  unfold dueS nmOr
  cases c : nmD e with
  | false =>
    have hn := name_dq h sh
    rw [c] at hn
    exact ⟨_, .nameS hn, rfl, h⟩
  | true =>
    obtain ⟨z, rfl, rfl, hn⟩ := nm_true h sh c
    cases t : turnD u with
    | false => exact ⟨_, .turn hn (.inl ⟨u, hu, t.symm⟩), rfl, hu⟩
    | true =>
      cases hu with
      | int i =>
        obtain ⟨k, rfl⟩ := Int.eq_ofNat_of_zero_le (of_decide_eq_true t)
        exact ⟨_, .smp hn, rfl⟩
      | _ => cases t
theorem first_bad {H : Hp} {n : Nat} : ∀ {es : List PyData} {xs : List V}, DqAll K H xs es → numsO n es = none → ∃ (i : Nat) (v : V), xs[i]? = some v ∧ (∀ (j : Nat) (y : V), j < i → xs[j]? = some y → IntIs K H y 0 ((n : Nat) - 1) true) ∧ IntIs K H v 0 ((n : Nat) - 1) false ∧ Dq K H v ((firstBad n es).getD .none)
  | [], _, _, e => by cases e
  | f :: es, _, .cons (v := v) (vs := vs) h t, e => by
    cases a : numD n f with
    | none =>
      refine ⟨0, v, rfl, (fun j y hj => by omega), .inl ⟨f, h, (numD_none a).symm⟩, ?_⟩
      have : firstBad n (f :: es) = some f := by unfold firstBad; rw [a]
      rw [this]
      exact h
    | some k =>
      have e2 : numsO n es = none := by
        rw [numsO_cons, a] at e
        cases b : numsO n es with
        | none => rfl
        | some ks => rw [b] at e; cases e
      obtain ⟨i, u, h1, h2, h3, h4⟩ := first_bad t e2
      have : firstBad n (f :: es) = firstBad n es := by
        show (match numD n f with
          | none => some f
          | some _ => firstBad n es) = _
        rw [a]
      refine ⟨i + 1, u, h1, fun j y hj hy => ?_, h3, by rw [this]; exact h4⟩
      cases j with
      | zero =>
        have hy : some v = some y := hy
        cases hy
        obtain ⟨rfl, lk⟩ := numD_some a
        cases h
        exact int_is lk
      | succ j => exact h2 j y (by omega) hy
theorem call_A {H : Hp} {n : Nat} {v x : V} {e u : PyData} (h : Dq K H v e) (sh : ShN e) (hu : Dq K H x u) : ∃ o, CallIs K H n [.str "apply", v, x] o ∧ DueM K H o (dueA n e u) := by
  unfold dueA nmOr
  cases c : nmD e with
  | false =>
    have hn := name_dq h sh
    rw [c] at hn
    exact ⟨_, .nameA hn, rfl, h⟩
  | true =>
    obtain ⟨z, rfl, rfl, hn⟩ := nm_true h sh c
    by_cases t : isLT u = true ∧ 0 < (itemsD u).length ∧ (itemsD u).length < 4
    · obtain ⟨t1, t2, t3⟩ := id t
      obtain ⟨p, xs, rfl, sq, da⟩ := dq_seq hu t1
      have lx := dqAll_len da
      show ∃ o, CallIs K H n [.str "apply", .str z, .ref p] o ∧ DueM K H o (if isLT u = true ∧ 0 < (itemsD u).length ∧ (itemsD u).length < 4 then (match numsO n (itemsD u) with
        | some ns => .row ⟨z, .inl ns⟩
        | none => .bad "term" ((firstBad n (itemsD u)).getD .none)) else .bad "part" u)
      rw [if_pos t]
      cases en : numsO n (itemsD u) with
      | some ns =>
        obtain ⟨rfl, lt⟩ := numsO_some da en
        rw [numsV_len] at lx
        exact ⟨_, .app hn (.ok sq (by omega) (by omega) lt), rfl⟩
      | none =>
        obtain ⟨i, y, h1, h2, h3, h4⟩ := first_bad da en
        exact ⟨_, .term hn (.term sq (by omega) (by omega) h1 h2 h3), rfl, h4⟩
    · show ∃ o, CallIs K H n [.str "apply", .str z, x] o ∧ DueM K H o (if isLT u = true ∧ 0 < (itemsD u).length ∧ (itemsD u).length < 4 then _ else .bad "part" u)
      rw [if_neg t]
      exact ⟨_, .part hn (.part hu fun l => fun k => t ⟨l, k⟩), rfl, hu⟩
theorem call_good {H : Hp} {n : Nat} {items : List V} {r : BRow} (h : CallIs K H n items (.row r)) : GoodL r n := by
  have nm : ∀ {z : Str}, NameIs K H (.str z) true → nmB z = true ∧ z.length ≤ 10000 := fun {z} h => by
    obtain ⟨y, e, h1, h2⟩ := name_str h
    cases e
    exact ⟨h1, h2⟩
  cases h with
  | con h => exact ⟨(nm h).1, (nm h).2, .inl ⟨[], rfl, Nat.zero_le _, fun j hj => by cases hj⟩⟩
  | smp h => exact ⟨(nm h).1, (nm h).2, .inr ⟨_, rfl⟩⟩
  | app h ap =>
    cases ap with
    | ok _ h1 h2 h3 => exact ⟨(nm h).1, (nm h).2, .inl ⟨_, rfl, by omega, h3⟩⟩
/-- small data: what a call holds -/
structure SmI (e : PyData) : Prop where
  fit : FitQ 3 400 e
  tb : ∀ i : Int, e = .int i → i < 10 ^ 30
  str : ∀ z, e = .str z → PyData.strOk z = true ∧ z.length ≤ 10000
  its : ∀ x ∈ itemsD e, FitQ 2 400 x
def DueOk (od : DueD) : Prop := (∀ w e, od = .bad w e → FitQ 3 400 e ∧ Sm 10 w) ∧ ∀ r, od = .row r → ∀ t, r.sec = .inr t → t < 10 ^ 30
theorem sm_w {w : Str} (h : w = "name" ∨ w = "turn" ∨ w = "part" ∨ w = "term") : Sm 10 w := by
  rcases h with rfl | rfl | rfl | rfl <;> (unfold Sm; decide +kernel)
theorem first_fit {n : Nat} {es : List PyData} (h : ∀ x ∈ es, FitQ 2 400 x) : FitQ 3 400 ((firstBad n es).getD .none) := by
  induction es with
  | nil => exact (fitq_none (n := 3)).up (Nat.le_refl _) (by decide)
  | cons f es ih =>
    unfold firstBad
    cases numD n f with
    | none => exact (h f List.mem_cons_self).up (by decide) (Nat.le_refl _)
    | some k => exact ih fun x hx => h x (List.mem_cons_of_mem _ hx)
theorem nmOr_ok {e : PyData} {f : Str → DueD} (h : SmI e) (hf : ∀ z, DueOk (f z)) : DueOk (nmOr e f) := by
  have nb : DueOk (.bad "name" e) := ⟨(fun w e' z => by cases z; exact ⟨h.fit, sm_w (.inl rfl)⟩), (fun r z => by cases z)⟩
  unfold nmOr
  split
  · exact nb
  · split
    · exact hf _
    · exact nb
theorem dueC_ok {e : PyData} (h : SmI e) : DueOk (dueC e) := nmOr_ok h fun z => ⟨(fun w e' y => by cases y), (fun r y t ht => by cases y; cases ht)⟩
theorem dueS_ok {e u : PyData} (h : SmI e) (hu : SmI u) : DueOk (dueS e u) := nmOr_ok h fun z => by
  have tb : DueOk (.bad "turn" u) := ⟨(fun w e' y => by cases y; exact ⟨hu.fit, sm_w (.inr (.inl rfl))⟩), (fun r y => by cases y)⟩
  split
  · exact tb
  · split
    · rename_i i _
      refine ⟨(fun w e' y => by cases y), fun r y t ht => ?_⟩
      cases y
      have := hu.tb i rfl
      cases ht
      omega
    · exact tb
theorem dueA_ok {n : Nat} {e u : PyData} (h : SmI e) (hu : SmI u) : DueOk (dueA n e u) := nmOr_ok h fun z => by
  split
  · split
    · exact ⟨(fun w e' y => by cases y), (fun r y t ht => by cases y; cases ht)⟩
    · exact ⟨(fun w e' y => by cases y; exact ⟨first_fit hu.its, sm_w (.inr (.inr (.inr rfl)))⟩), (fun r y => by cases y)⟩
  · exact ⟨(fun w e' y => by cases y; exact ⟨hu.fit, sm_w (.inr (.inr (.inl rfl)))⟩), (fun r y => by cases y)⟩
theorem odds_tb : ∀ e ∈ oddsD, ∀ i : Int, e = .int i → i < 10 ^ 30 := by
  intro e he
  unfold oddsD at he
  simp only [List.mem_cons, List.not_mem_nil, or_false] at he
  rcases he with rfl | rfl | rfl | rfl | rfl | rfl | rfl | rfl | rfl | rfl | rfl | rfl | rfl | rfl | rfl | rfl
  all_goals (intro i hi; first | (cases hi; done) | (cases hi; decide))
theorem odds_str : ∀ e ∈ oddsD, ∀ z, e = .str z → PyData.strOk z = true ∧ z.length ≤ 10000 := by
  intro e he
  unfold oddsD at he
  simp only [List.mem_cons, List.not_mem_nil, or_false] at he
  rcases he with rfl | rfl | rfl | rfl | rfl | rfl | rfl | rfl | rfl | rfl | rfl | rfl | rfl | rfl | rfl | rfl
  all_goals (intro z hz; first | (cases hz; done) | (cases hz; exact ⟨by decide +kernel, by decide +kernel⟩))
theorem odds_its : ∀ e ∈ oddsD, ∀ x ∈ itemsD e, FitQ 2 400 x := by
  unfold FitQ
  decide +kernel
theorem odds_fit : ∀ e ∈ oddsD, FitQ 3 400 e := by
  unfold FitQ
  decide +kernel
theorem odds_sm : ∀ e ∈ oddsD, SmI e := fun e he => ⟨odds_fit e he, odds_tb e he, odds_str e he, odds_its e he⟩
theorem name_smI {z : Str} (h : nmB z = true) : SmI (.str z) :=
  ⟨(fitq_str (nm_sm h)).up (Nat.le_refl _) (by decide), fun i e => (by cases e), fun y e => (by
    cases e
    exact ⟨nm_ok h, Nat.le_trans (nm_sm h).1 (by decide)⟩), fun x hx => by cases hx⟩
theorem int_smI {i : Int} (h0 : 0 ≤ i) (h : i < 10 ^ 30) : SmI (.int i) :=
  ⟨(fitq_int (by omega)).up (Nat.le_refl _) (by decide), fun j e => (by cases e; exact h), fun y e => (by cases e), fun x hx => by cases hx⟩
theorem SmI.sh {e : PyData} (h : SmI e) : ShN e := fun z ez => (h.str z ez).2
end
end L04

set_option Elab.async false
set_option linter.all false
set_option maxRecDepth 100000
set_option maxHeartbeats 4000000
set_option pp.deepTerms false
set_option pp.deepTerms.threshold 4
set_option pp.maxSteps 1000
namespace L04
open PySem L2 Tp
section
variable {P : Program} {w : World} {K : PySem.W.Frag} {mg : Str → Option Value} {base : Heap} {a : Ad} {d : Fd}
/-! ### _law_call -/
theorem odd_both {Q1 : V → Prop} {D0 D : V → PyData → Prop} {v0 : V} {e0 : PyData} (h : ∀ v e, D v e → SmI e → Q1 v) (c : ∀ v e, D0 v e → D v e) (g : D v0 e0) (s0 : SmI e0) : (∀ v' e, e ∈ oddsD → D0 v' e → Q1 v') ∧ Q1 v0 :=
  ⟨fun v e he hd => h v e (c v e hd) (odds_sm e he), h _ _ g s0⟩
structure CallAt (K : PySem.W.Frag) (H : Hp) (N : Nat) (p : Addr) (items : List V) (od : DueD) (e : PyData) : Prop where
  tup : SqT K H p items
  is : ∃ o, CallIs K H N items o ∧ DueM K H o od
  dat : Dq K H (.ref p) e
  sok : ∀ z, items[1]? = some (.str z) → PyData.strOk z = true
theorem fit_tup {xs : List PyData} (h : ∀ x ∈ xs, FitQ 3 400 x) (l : xs.length ≤ 3) : FitQ 4 3000 (.tuple xs) := by
  have := fitq_tuple h
  refine this.up (Nat.le_refl _) ?_
  have : xs.length * (400 + 2) ≤ 3 * 402 := Nat.mul_le_mul_right _ l
  omega
theorem sm_word {w : Str} (h : w = "constant" ∨ w = "sample" ∨ w = "apply") : FitQ 3 400 (.str w) := by
  have : Sm 10 w := by rcases h with rfl | rfl | rfl <;> (unfold Sm; decide +kernel)
  exact (fitq_str this).up (Nat.le_refl _) (by decide)
theorem call_at {H : Hp} {N : Nat} {p : Addr} {w : Str} {v : V} {vs : List V} {e : PyData} {es : List PyData} {od : DueD} (h : H p = some (.tup (.str w :: v :: vs))) (d : Dq K H v e) (da : DqAll K H vs es) (s : SmI e) (is : ∃ o, CallIs K H N (.str w :: v :: vs) o ∧ DueM K H o od) : CallAt K H N p (.str w :: v :: vs) od (.tuple (.str w :: e :: es)) :=
  ⟨SqT.of h, is, .tup (SqT.of h) (.cons (.str w) (.cons d da)), fun z hz => by
    have hz : some v = some (.str z) := hz
    cases hz
    cases d
    exact (s.str z rfl).1⟩
inductive NumV (H H' : Hp) (b D : Addr) (N : Nat) : V → PyData → Prop
  | int {i : Int} : -1 ≤ i → i ≤ (N : Nat) → NumV H H' b D N (.int i) (.int i)
  | bl : NumV H H' b D N (.bl true) (.bool true)
  | non : NumV H H' b D N .non .none
  | str : NumV H H' b D N (.str "0") (.str "0")
  | l0 {a : Addr} : H a = none → a ≠ D → a ≠ b → H' a = some (.lst [.int 0]) → NumV H H' b D N (.ref a) (.list [.int 0])
theorem NumV.keep {H H' H2 : Hp} {b D : Addr} {N : Nat} {v : V} {e : PyData} (h : NumV H H' b D N v e) (k : ∀ a o, a ≠ D → a ≠ b → H' a = some o → H2 a = some o) : NumV H H2 b D N v e := by
  cases h with
  | int a b => exact .int a b
  | bl => exact .bl
  | non => exact .non
  | str => exact .str
  | l0 h1 h2 h3 h4 => exact .l0 h1 h2 h3 (k _ _ h2 h3 h4)
theorem NumV.dq {H H' H2 : Hp} {b D : Addr} {N : Nat} {v : V} {e : PyData} (h : NumV H H' b D N v e) (n : NewIn H H' H2) : Dq K H2 v e := by
  cases h with
  | int a b => exact .int _
  | bl => exact .bl true
  | non => exact .non
  | str => exact .str "0"
  | l0 h1 h2 h3 h4 => exact .lst (SqL.of (n _ _ h1 h4)) (.cons (.int 0) .nil)
theorem NumV.fit {H H' : Hp} {b D : Addr} {N : Nat} {v : V} {e : PyData} (h : NumV H H' b D N v e) (l : N ≤ 100000) : FitQ 2 60 e := by
  cases h with
  | int a b => exact (fitq_int (by omega)).up (Nat.le_refl _) (by decide)
  | bl => exact (fitq_bool true).up (Nat.le_refl _) (by decide)
  | non => exact fitq_none.up (Nat.le_refl _) (by decide)
  | str => exact (fitq_str (m := 1) (by unfold Sm; decide +kernel)).up (Nat.le_refl _) (by decide)
  | l0 h1 h2 h3 h4 => exact ⟨by decide +kernel, by decide +kernel, by decide +kernel⟩
theorem numV_all {H H' : Hp} {b D : Addr} {N : Nat} : ∀ {vs : List V}, (∀ v ∈ vs, ∃ e, NumV H H' b D N v e) → ∃ es : List PyData, es.length = vs.length ∧ (∀ H2, NewIn H H' H2 → DqAll K H2 vs es) ∧ (N ≤ 100000 → ∀ e ∈ es, FitQ 2 60 e)
  | [], _ => ⟨[], rfl, fun _ _ => .nil, fun _ e he => by cases he⟩
  | v :: vs, h => by
    obtain ⟨es, h1, h2, h3⟩ := numV_all (vs := vs) fun u hu => h u (List.mem_cons_of_mem _ hu)
    obtain ⟨e, he⟩ := h v List.mem_cons_self
    refine ⟨e :: es, by rw [List.length_cons, List.length_cons, h1], fun H2 n => .cons (he.dq n) (h2 H2 n), fun l x hx => ?_⟩
    rcases List.mem_cons.mp hx with hx | hx
    · rw [hx]
      exact he.fit l
    · exact h3 l x hx
theorem seq_smI {es : List PyData} (h : ∀ e ∈ es, FitQ 2 60 e) (l : es.length ≤ 3) : SmI (.list es) ∧ SmI (.tuple es) := by
  have l2 : es.length * (60 + 2) + 3 ≤ 400 := by
    have : es.length * (60 + 2) ≤ 3 * 62 := Nat.mul_le_mul_right _ l
    omega
  have its : ∀ x ∈ es, FitQ 2 400 x := fun x hx => (h x hx).up (Nat.le_refl _) (by decide)
  exact ⟨⟨(fitq_list h).up (Nat.le_refl _) l2, (fun i e => by cases e), (fun z e => by cases e), its⟩, ⟨(fitq_tuple h).up (Nat.le_refl _) l2, (fun i e => by cases e), (fun z e => by cases e), its⟩⟩
def spCall (K : PySem.W.Frag) : Sp := fun vs H Q _ => ∃ (b : Addr) (n : Nat) (q : Addr) (ls : List V), vs = [.ref b, .ref q] ∧ BoxAt b n H ∧ n < 800000 ∧ H q = some (.lst ls) ∧ q ≠ b ∧ ls.length ≤ 100000 ∧
  ∀ p items od e H', Kp b H H' → BoxAt b (n + 100) H' → (∀ H2, NewIn H H' H2 → CallAt K H2 ls.length p items od e) → DueOk od → FitQ 4 3000 e → Q (.ref p) H'
theorem ok_call (T : Txt K mg a d) : FnG P w K mg base CX0 3 a.call d.call ["_law_box_here", "_law_rows"] (spCall K) := by
  have G_take := ok_take (P := P) (w := w) (base := base) T
  have G_label := ok_label (P := P) (w := w) (base := base) T
  have G_odd := ok_odd (P := P) (w := w) (base := base) T
  refine okG T.F_call scCall (fun vs H Q E h => ?_) (fun cdv A outer s H vs Q E hr hg h => ?_)
  · obtain ⟨b, n, q0, ls, rfl, _⟩ := h
    rfl
  · obtain ⟨b, n, q0, ls, rfl, B0, hn, hq, nqb, ll, q⟩ := h
    refine ⟨_, (pss_cons (ps_asg (pe_tup (pa_cons (Tp.pe_callG G_odd (hr.mono (by decide)) hg (by rfl) T.mg_odd T.F_odd.kp T.b_odd .nil pass0 (pa_cons (pv 0) (pa_cons (Tp.pe_callG G_label (hr.mono (by decide)) hg (by rfl) T.mg_label T.F_label.kp T.b_label .nil pass0 (pa_cons (pv 0) pa_nil)) pa_nil))) (pa_cons (pe_callB call_len_seq (by rfl) T.len_ Tp.bt_len (pa_cons (pv 1) pa_nil)) pa_nil))) (pg_tup (by rfl) (pgs_cons (pg_name (i := 2) scCall.nd rfl (Or.inl rfl)) (pgs_cons (pg_name (i := 3) scCall.nd rfl (Or.inr rfl)) pgs_nil))))
      (pss_cons (ps_set (i := 4) scCall.nd rfl (Or.inl rfl) (Tp.pe_callG G_take (hr.mono (by decide)) hg (by rfl) T.mg_take T.F_take.kp T.b_take .nil pass0 (pa_cons (pv 0) (pa_cons pe_int pa_nil))))
      (pss_cons (ps_if (PW.pt (pw_or (pt_cmpR op_eq (pv 4) pe_int (nomark _)) (pw_or1 (pt_cmpR op_eq (pv 3) pe_int (nomark _))))) (pss_one (ps_ret (pe_tup (pa_cons pe_str (pa_cons (pv 2) pa_nil))))) pss_nil)
      (pss_cons (ps_if (pt_cmpR op_eq (pv 4) pe_int (nomark _)) (pss_cons (ps_set (i := 5) scCall.nd rfl (Or.inl rfl) (pe_ix ix_list (pe_lst (pa_cons pe_int (pa_cons (Tp.pe_callG G_take (hr.mono (by decide)) hg (by rfl) T.mg_take T.F_take.kp T.b_take .nil pass0 (pa_cons (pv 0) (pa_cons pe_int pa_nil))) (pa_cons (Tp.pe_callG G_take (hr.mono (by decide)) hg (by rfl) T.mg_take T.F_take.kp T.b_take .nil pass0 (pa_cons (pv 0) (pa_cons (pe_op op_pow pe_int pe_int) pa_nil))) pa_nil)))) (Tp.pe_callG G_take (hr.mono (by decide)) hg (by rfl) T.mg_take T.F_take.kp T.b_take .nil pass0 (pa_cons (pv 0) (pa_cons pe_int pa_nil))) (fun _ _ => rfl)))
      (pss_one (ps_ret (pe_tup (pa_cons pe_str (pa_cons (pv 2) (pa_cons (Tp.pe_callG G_odd (hr.mono (by decide)) hg (by rfl) T.mg_odd T.F_odd.kp T.b_odd .nil pass0 (pa_cons (pv 0) (pa_cons (pv 5) pa_nil))) pa_nil))))))) pss_nil)
      (pss_cons (ps_setLc (i := 6) (own := [("_law_k", 8)]) (by rfl) scCall.nd rfl rfl (sw_true rfl rfl rfl (by decide +kernel)) (pi_range1 (by rfl) T.range_ (pa_cons (pe_op op_add pe_int (Tp.pe_callG G_take (hr.mono (by decide)) hg (by rfl) T.mg_take T.F_take.kp T.b_take .nil pass0 (pa_cons (pv 0) (pa_cons pe_int pa_nil)))) pa_nil)) (blkOk_by (own := [("_law_k", 8)]) (N := scCall_N) (sc := defScope scCall_st) (by decide +kernel)) (fun _ _ _ _ _ => (pg_name (i := 8) scCall.nd rfl (Or.inl rfl))) (fun _ _ _ _ _ => pts_nil) (fun _ _ _ _ _ => (Tp.pe_callG G_take (hr.mono (by decide)) hg (by rfl) T.mg_take T.F_take.kp T.b_take .nil pass0 (pa_cons (pv 0) (pa_cons (pv 3) pa_nil)))))
      (Evl.pss_cut (ps_if (pt_cmpR op_eq (Tp.pe_callG G_take (hr.mono (by decide)) hg (by rfl) T.mg_take T.F_take.kp T.b_take .nil pass0 (pa_cons (pv 0) (pa_cons pe_int pa_nil))) pe_int (nomark _)) (pss_one (ps_for PassesOwn.never rfl (pi_range1 (by rfl) T.range_ (pa_cons (pe_op op_add pe_int (Tp.pe_callG G_take (hr.mono (by decide)) hg (by rfl) T.mg_take T.F_take.kp T.b_take .nil pass0 (pa_cons (pv 0) (pa_cons pe_int pa_nil)))) pa_nil)) (pg_name (i := 7) scCall.nd rfl (Or.inl rfl)) (pss_one (ps_asg (pe_ix ix_list (pe_lst (pa_cons (pv 3) (pa_cons (pe_op op_sub pe_int pe_int) (pa_cons pe_bl (pa_cons pe_non (pa_cons pe_str (pa_cons (pe_lst (pa_cons pe_int pa_nil)) pa_nil))))))) (Tp.pe_callG G_take (hr.mono (by decide)) hg (by rfl) T.mg_take T.F_take.kp T.b_take .nil pass0 (pa_cons (pv 0) (pa_cons pe_int pa_nil))) (fun _ _ => rfl)) (pg_sub (pv 6) (Tp.pe_callG G_take (hr.mono (by decide)) hg (by rfl) T.mg_take T.F_take.kp T.b_take .nil pass0 (pa_cons (pv 0) (pa_cons (pe_callB call_len_seq (by rfl) T.len_ Tp.bt_len (pa_cons (pv 6) pa_nil)) pa_nil))) set_list))))) pss_nil)
      (pss_one (ps_ret (pe_tup (pa_cons pe_str (pa_cons (pv 2) (pa_cons (Tp.pe_callG G_odd (hr.mono (by decide)) hg (by rfl) T.mg_odd T.F_odd.kp T.b_odd .nil pass0 (pa_cons (pv 0) (pa_cons (pe_ix ix_list (pe_lst (pa_cons (pv 6) (pa_cons (pe_callTy call_tuple_of (by rfl) T.tuple_ Tp.bt_tuple (pa_cons (pv 6) pa_nil)) pa_nil))) (Tp.pe_callG G_take (hr.mono (by decide)) hg (by rfl) T.mg_take T.F_take.kp T.b_take .nil pass0 (pa_cons (pv 0) (pa_cons pe_int pa_nil))) (fun _ _ => rfl)) pa_nil))) pa_nil)))))))))))), ?_⟩
    refine ⟨_, rfl, _, rfl, b, n, rfl, B0, by omega, fun z H1 nz lz s1 B1 => ?_⟩
    refine ⟨b, n + 20, .str z, rfl, B1, by omega, fun H2 s2 B2 => ?_⟩
    refine odd_both (D0 := fun v e => ∀ H', NewIn H1 H2 H' → Dq K H' v e) (D := fun v e => ∀ H', NewIn H1 H2 H' → Dq K H' v e) ?_ (fun v e h => h) (e0 := .str z) (fun _ _ => .str z) (name_smI nz)
    intro nv ne hnv snv
    refine ⟨_, rfl, q0, ls, rfl, .inl (SqL.of (s2 _ _ nqb (s1 _ _ nqb hq))), ?_⟩
    refine ⟨(show 2 ≤ sizeLine from by decide), fun n3 hn3 => ?_⟩
    have S3 := same_new (o := .tup [nv, .int (ls.length : Nat)]) hn3
    have g3 : (upd H2 n3 (.tup [nv, .int (ls.length : Nat)])) n3 = some (.tup [nv, .int (ls.length : Nat)]) := upd_same
    generalize upd H2 n3 (.tup [nv, .int (ls.length : Nat)]) = H3 at S3 g3 ⊢
    have ne3 : n3 ≠ b := B2.ne hn3
    have B3 := B2.same S3
    have s3 : Kp b H2 H3 := fun a o _ h => S3 a o h
    refine ⟨n3, _, rfl, SqT.of g3, rfl, _, _, rfl, _, _, rfl, rfl, ?_⟩
    refine ⟨_, rfl, b, 4, _, rfl, B3, by omega, by decide, by decide, fun r4 H4 a4 b4 s4 B4 => ?_⟩
    have kp3 : Kp b H H3 := s1.trans (s2.trans s3)
    have kp4 : Kp b H H4 := kp3.trans s4
    have k24 : Kp b H2 H4 := s3.trans s4
    have nvd : ∀ {H5 H'}, Kp b H4 H5 → NewIn H H5 H' → Dq K H' nv ne := fun k N => hnv _ (NewIn.inner s1 B1 (k24.trans k) N)
    have finC : 2 ≤ sizeLine ∧ ∀ t, H4 t = none → Q (.ref t) (upd H4 t (.tup [.str "constant", nv])) := by
      refine ⟨by decide, fun t ht => ?_⟩
      have st : Kp b H4 (upd H4 t (.tup [.str "constant", nv])) := Kp.new ht
      refine q t [.str "constant", nv] (dueC ne) (.tuple [.str "constant", ne]) _ (kp4.trans st) ((B4.same (same_new ht)).up (by omega)) (fun H' N => ?_) (dueC_ok snv) (fit_tup (fun x hx => ?_) (show 2 ≤ 3 by decide))
      · have dn := nvd st N
        exact call_at (N _ _ (none_kp kp4 ht (B4.ne ht)) upd_same) dn .nil snv (call_C dn snv.sh)
      · rcases List.mem_cons.mp hx with hx | hx
        · rw [hx]; exact sm_word (.inl rfl)
        · rw [List.mem_singleton.mp hx]; exact snv.fit
    refine ⟨_, rfl, rfl, _, rfl, if2 (fun c => iteT ⟨_, rfl, finC⟩) (fun c0 => ?_)⟩
    refine ⟨_, rfl, rfl, _, rfl, if2 (fun c => ⟨_, rfl, finC⟩) (fun cN => ?_)⟩
    have N0 : 0 < ls.length := by
      refine Nat.pos_of_ne_zero fun z => cN ?_
      rw [z]
      rfl
    have fin3 : ∀ {H5 : Hp} {w : Str} {u : V} {ue : PyData} {od : DueD} {m : Nat}, (w = "sample" ∨ w = "apply") → Kp b H H5 → Kp b H4 H5 → BoxAt b m H5 → m ≤ n + 100 → SmI ue → DueOk od → (∀ H', NewIn H H5 H' → Dq K H' u ue) → (∀ H', Dq K H' nv ne → Dq K H' u ue → ∃ o, CallIs K H' ls.length [.str w, nv, u] o ∧ DueM K H' o od) →
        3 ≤ sizeLine ∧ ∀ t, H5 t = none → Q (.ref t) (upd H5 t (.tup [.str w, nv, u])) := fun {H5 w u ue od m} hw k5 k45 B5 lm su dok hu his => by
      refine ⟨by decide, fun t ht => ?_⟩
      have st : Kp b H5 (upd H5 t (.tup [.str w, nv, u])) := Kp.new ht
      refine q t [.str w, nv, u] od (.tuple [.str w, ne, ue]) _ (k5.trans st) ((B5.same (same_new ht)).up lm) (fun H' N => ?_) dok (fit_tup (fun x hx => ?_) (show 3 ≤ 3 by decide))
      · have dn := nvd (k45.trans st) N
        have du := hu H' (NewIn.inner (Kp.refl b H) B0 st N)
        exact call_at (N _ _ (none_kp k5 ht (B5.ne ht)) upd_same) dn (.cons du .nil) snv (his H' dn du)
      · rcases List.mem_cons.mp hx with hx | hx
        · rw [hx]; exact sm_word (.inr hw)
        · rcases List.mem_cons.mp hx with hx | hx
          · rw [hx]; exact snv.fit
          · rw [List.mem_singleton.mp hx]; exact su.fit
    refine ⟨_, rfl, rfl, _, rfl, if2 (fun c1 => ?_) (fun c1 => ?_)⟩
    · -- sample
      refine ⟨_, rfl, b, 5, _, rfl, B4, by omega, by decide, by decide, fun r5 H5 a5 b5 s5 B5 => ?_⟩
      refine ⟨_, rfl, _, _, rfl, rfl, ⟨by decide, by decide, by decide⟩, b, _, _, rfl, B5, by omega, by decide, by decide, fun r6 H6 a6 b6 s6 B6 => ?_⟩
      refine ⟨(show 3 ≤ sizeLine from by decide), fun n7 hn7 => ?_⟩
      have S7 := same_new (o := .lst [.int 0, .int r5, .int r6]) hn7
      have g7 : (upd H6 n7 (.lst [.int 0, .int r5, .int r6])) n7 = some (.lst [.int 0, .int r5, .int r6]) := upd_same
      generalize upd H6 n7 (.lst [.int 0, .int r5, .int r6]) = H7 at S7 g7 ⊢
      have ne7 : n7 ≠ b := B6.ne hn7
      have B7 := B6.same S7
      have s7 : Kp b H6 H7 := fun a o _ h => S7 a o h
      refine ⟨_, rfl, b, 3, _, rfl, B7, by omega, by decide, by decide, fun r8 H8 a8 b8 s8 B8 => ?_⟩
      obtain ⟨v, hv, t, rfl, t0, t1⟩ := at_some (xs := [V.int 0, .int r5, .int r6]) (r := r8) (P := fun v => ∃ t : Int, v = .int t ∧ 0 ≤ t ∧ t < 10 ^ 30) (fun x hx => by
        simp only [List.mem_cons, List.not_mem_nil, or_false] at hx
        rcases hx with rfl | rfl | rfl
        · exact ⟨_, rfl, by decide, by decide⟩
        · exact ⟨_, rfl, a5, by omega⟩
        · exact ⟨_, rfl, a6, Int.lt_trans b6 (by decide)⟩) a8 b8
      refine ⟨n7, _, _, _, rfl, rfl, SqL.of (s8 _ _ ne7 g7), hv, ?_⟩
      have k48 : Kp b H4 H8 := s5.trans (s6.trans (s7.trans s8))
      refine ⟨_, rfl, _, rfl, _, rfl, b, _, _, rfl, B8, by omega, fun H9 s9 B9 => odd_both (D := fun v e => ∀ H', NewIn H H9 H' → Dq K H' v e) ?_ (fun v e h H' N => h H' (NewIn.inner (kp4.trans k48) B8 (Kp.refl b H9) N)) (e0 := .int t) (fun _ _ => .int t) (int_smI t0 t1)⟩
      intro u ue hu su
      exact fin3 (.inl rfl) (kp4.trans (k48.trans s9)) (k48.trans s9) B9 (by omega) su (dueS_ok snv su) hu (fun H' dn du => call_S dn snv.sh du)
    · -- apply
      refine ⟨_, rfl, b, 3, _, rfl, B4, by omega, by decide, by decide, fun r5 H5 a5 b5 s5 B5 => ?_⟩
      refine ⟨_, _, rfl, rfl, 1 + r5, rfl, by omega, by omega, fun D hD => ?_⟩
      have nDb : D ≠ b := B5.ne hD
      have kp5 := kp4.trans s5
      have zD : H D = none := none_kp kp5 hD nDb
      refine lc_range (lo := 0) (n := (1 + r5).toNat) (fun i H' => BoxAt b (n + 26 + i) H' ∧ Kp b H5 H' ∧ ∃ ks : List Nat, H' D = some (.lst (numsV ks)) ∧ ks.length = i ∧ ∀ k ∈ ks, k < ls.length) ⟨(B5.same (same_new hD)).up (by omega), Kp.new hD, [], upd_same, rfl, (fun k hk => by cases hk)⟩ ?_ ?_
      · rintro i H6 hi ⟨B6, k6, ks, hD6, lk, lt⟩
        refine ⟨rfl, _, rfl, _, rfl, b, ((ls.length : Nat) : Int), _, rfl, B6, by omega, by omega, by omega, fun r H7 a7 b7 s7 B7 => ?_⟩
        obtain ⟨k, rfl⟩ := Int.eq_ofNat_of_zero_le a7
        refine ⟨_, s7 _ _ nDb hD6, ?_, (B7.off nDb).up (by omega), (k6.trans s7).mut hD, ks ++ [k], ?_, by rw [List.length_append, lk]; rfl, fun j hj => ?_⟩
        · rw [numsV_len, lk]
          exact Nat.lt_of_lt_of_le (show i < 100 by omega) (by decide)
        · rw [upd_same]
          unfold numsV
          rw [List.map_append]
          rfl
        · rcases List.mem_append.mp hj with hj | hj
          · exact lt j hj
          · rw [List.mem_singleton.mp hj]
            omega
      · rintro H6 ⟨B6, k6, ks, hD6, lk, lt⟩
        have kp6 := kp5.trans k6
        have lk3 : ks.length ≤ 3 := by omega
        have lk1 : 0 < ks.length := by omega
        refine ⟨fun σ H' => (∀ a o, a ≠ D → a ≠ b → H6 a = some o → H' a = some o) ∧ BoxAt b (n + 60) H' ∧ (∃ vs, H' D = some (.lst vs) ∧ vs.length = ks.length ∧ ∀ v ∈ vs, ∃ e, NumV H H' b D ls.length v e) ∧ ∃ v5 v7, σ = [some (.ref b), some (.ref q0), some nv, some (.int (ls.length : Nat)), some (.int r4), v5, some (.ref D), v7, none], ?_, ?_⟩
        · have nk : ∀ {H'}, ∀ v ∈ numsV ks, ∃ e, NumV H H' b D ls.length v e := fun {H'} v hv => by
            unfold numsV at hv
            obtain ⟨k, hk, rfl⟩ := List.mem_map.mp hv
            have := lt k hk
            exact ⟨_, .int (by omega) (by omega)⟩
          refine ⟨_, rfl, b, 8, _, rfl, B6, by omega, by decide, by decide, fun r7 H7 a7 b7 s7 B7 => ?_⟩
          refine ⟨rfl, _, rfl, if2 (fun c => ?_) (fun c => ⟨fun a o _ nb h => s7 a o nb h, B7.up (by omega), ⟨_, s7 _ _ nDb hD6, numsV_len ks, nk⟩, _, _, rfl⟩)⟩
          refine ⟨_, rfl, b, 2, _, rfl, B7, by omega, by decide, by decide, fun r8 H8 a8 b8 s8 B8 => ?_⟩
          refine ⟨_, _, rfl, rfl, 1 + r8, rfl, by omega, by omega, for_range (lo := 0) (n := (1 + r8).toNat) (fun i σ H' => (∀ a o, a ≠ D → a ≠ b → H6 a = some o → H' a = some o) ∧ BoxAt b (n + 40 + 3 * i) H' ∧ (∃ vs, H' D = some (.lst vs) ∧ vs.length = ks.length ∧ ∀ v ∈ vs, ∃ e, NumV H H' b D ls.length v e) ∧ ∃ v5 v7, σ = [some (.ref b), some (.ref q0), some nv, some (.int (ls.length : Nat)), some (.int r4), v5, some (.ref D), v7, none]) ⟨fun a o _ nb h => s8 a o nb (s7 a o nb h), B8.up (by omega), ⟨_, s8 _ _ nDb (s7 _ _ nDb hD6), numsV_len ks, nk⟩, _, _, rfl⟩ ?_ ?_⟩
          · rintro i σ H9 hi ⟨k9, B9, ⟨vs, hD9, lv, nv9⟩, v5, v7, rfl⟩
            refine ⟨_, rfl, _, _, rfl, rfl, ?_⟩
            refine ⟨(show 1 ≤ sizeLine from by decide), fun n10 hn10 => ?_⟩
            have S10 := same_new (o := .lst [.int 0]) hn10
            have g10 : (upd H9 n10 (.lst [.int 0])) n10 = some (.lst [.int 0]) := upd_same
            generalize upd H9 n10 (.lst [.int 0]) = H10 at S10 g10 ⊢
            have ne10 : n10 ≠ b := B9.ne hn10
            have B10 := B9.same S10
            have s10 : Kp b H9 H10 := fun a o _ h => S10 a o h
            refine ⟨(show 6 ≤ sizeLine from by decide), fun n11 hn11 => ?_⟩
            generalize hG11 : upd H10 n11 _ = H11
            have S11 : Same H10 H11 := by rw [← hG11]; exact same_new hn11
            have g11 : H11 n11 = some (.lst [.int (ls.length : Nat), .int (0 - 1), .bl true, .non, .str "0", .ref n10]) := by rw [← hG11]; exact upd_same
            have ne11 : n11 ≠ b := B10.ne hn11
            have B11 := B10.same S11
            have s11 : Kp b H10 H11 := fun a o _ h => S11 a o h
            refine ⟨_, rfl, b, 6, _, rfl, B11, by omega, by decide, by decide, fun r12 H12 a12 b12 s12 B12 => ?_⟩
            have z10 : H n10 = none := by
              cases e : H n10 with
              | none => rfl
              | some o =>
                have h6 := kp6 _ _ ne10 e
                by_cases nD : n10 = D
                · rw [nD, zD] at e
                  cases e
                · rw [k9 _ _ nD ne10 h6] at hn10
                  cases hn10
            have nD10 : n10 ≠ D := fun e => by
              rw [e, hD9] at hn10
              cases hn10
            have g10' : H12 n10 = some (.lst [.int 0]) := s12 _ _ ne10 (s11 _ _ ne10 g10)
            obtain ⟨v, hv, hnv'⟩ := at_some (xs := ([.int (ls.length : Nat), .int (0 - 1), .bl true, .non, .str "0", .ref n10] : List V)) (r := r12) (P := fun v => ∃ e, NumV H H12 b D ls.length v e) (fun x hx => by
              simp only [List.mem_cons, List.not_mem_nil, or_false] at hx
              rcases hx with rfl | rfl | rfl | rfl | rfl | rfl
              · exact ⟨_, .int (by omega) (Int.le_refl _)⟩
              · exact ⟨_, .int (by decide) (by omega)⟩
              · exact ⟨_, .bl⟩
              · exact ⟨_, .non⟩
              · exact ⟨_, .str⟩
              · exact ⟨_, .l0 z10 nD10 ne10 g10'⟩) a12 b12
            refine ⟨n11, _, _, v, rfl, rfl, SqL.of (s12 _ _ ne11 g11), hv, ?_⟩
            have s912 : Kp b H9 H12 := s10.trans (s11.trans s12)
            have hD12 := s912 _ _ nDb hD9
            refine ⟨_, rfl, _, rfl, _, rfl, D, vs, rfl, .inl (SqL.of hD12), b, ((vs.length : Nat) : Int), _, rfl, B12, by omega, by omega, by omega, fun r13 H13 a13 b13 s13 B13 => ?_⟩
            obtain ⟨j, rfl⟩ := Int.eq_ofNat_of_zero_le a13
            have jl : j < vs.length := by omega
            refine ⟨D, vs, _, j, rfl, rfl, s13 _ _ nDb hD12, Evl.ixN_nat jl, fun a o nD nb h => ?_, (B13.off nDb).up (by omega), ⟨vs.set j v, upd_same, by rw [List.length_set]; exact lv, fun y hy => ?_⟩, _, _, rfl⟩
            · rw [upd_ne nD]
              exact s13 _ _ nb (s912 _ _ nb (k9 a o nD nb h))
            · have kk : ∀ a o, a ≠ D → a ≠ b → H12 a = some o → (upd H13 D (.lst (vs.set j v))) a = some o := fun a o nD nb h => by
                rw [upd_ne nD]
                exact s13 _ _ nb h
              rcases List.mem_or_eq_of_mem_set hy with hy | hy
              · obtain ⟨e, he⟩ := nv9 y hy
                exact ⟨e, (he.keep fun a o nD nb h => s912 _ _ nb h).keep kk⟩
              · obtain ⟨e, he⟩ := hnv'
                rw [hy]
                exact ⟨e, he.keep kk⟩
          · rintro σ H9 ⟨k9, B9, hv9, hs⟩
            exact ⟨k9, B9.up (by omega), hv9, hs⟩
        · rintro σ H9 ⟨k9, B9, ⟨vs, hD9, lv, nv9⟩, v5, v7, rfl⟩
          have kp9 : Kp b H H9 := fun a o nb h => by
            have nD : a ≠ D := fun e => by rw [e, zD] at h; cases h
            exact k9 a o nD nb (kp6 a o nb h)
          have k49 : Kp b H4 H9 := fun a o nb h => by
            have nD : a ≠ D := fun e => by
              have := none_kp s5 hD nDb
              rw [← e, h] at this
              cases this
            exact k9 a o nD nb (k6 a o nb (s5 a o nb h))
          refine ⟨_, rfl, _, rfl, _, rfl, _, rfl, D, vs, rfl, .inl ⟨SqL.of hD9, fun n10 hn10 => ?_⟩⟩
          have S10 := same_new (o := .tup vs) hn10
          have g10 : (upd H9 n10 (.tup vs)) n10 = some (.tup vs) := upd_same
          generalize upd H9 n10 (.tup vs) = H10 at S10 g10 ⊢
          have ne10 : n10 ≠ b := B9.ne hn10
          have B10 := B9.same S10
          have s10 : Kp b H9 H10 := fun a o _ h => S10 a o h
          refine ⟨(show 2 ≤ sizeLine from by decide), fun n11 hn11 => ?_⟩
          have S11 := same_new (o := .lst [.ref D, .ref n10]) hn11
          have g11 : (upd H10 n11 (.lst [.ref D, .ref n10])) n11 = some (.lst [.ref D, .ref n10]) := upd_same
          generalize upd H10 n11 (.lst [.ref D, .ref n10]) = H11 at S11 g11 ⊢
          have ne11 : n11 ≠ b := B10.ne hn11
          have B11 := B10.same S11
          have s11 : Kp b H10 H11 := fun a o _ h => S11 a o h
          refine ⟨_, rfl, b, 2, _, rfl, B11, by omega, by decide, by decide, fun r12 H12 a12 b12 s12 B12 => ?_⟩
          have s912 : Kp b H9 H12 := s10.trans (s11.trans s12)
          have kp12 := kp9.trans s912
          have z10 : H n10 = none := none_kp kp9 hn10 ne10
          obtain ⟨es, le, da, fe⟩ := numV_all (K := K) (H := H) (H' := H9) (b := b) (D := D) (N := ls.length) nv9
          obtain ⟨sL, sT⟩ := seq_smI (fe ll) (by omega)
          obtain ⟨g, hg', ge, hge, sge⟩ := at_some (xs := ([.ref D, .ref n10] : List V)) (r := r12) (P := fun v => ∃ e, (∀ H', NewIn H H12 H' → Dq K H' v e) ∧ SmI e) (fun x hx => by
            have inn : ∀ {H'}, NewIn H H12 H' → NewIn H H9 H' := fun N a o h1 h2 => by
              by_cases nb : a = b
              · obtain ⟨x, y, z, hb, _⟩ := B0
                rw [nb, hb] at h1
                cases h1
              · exact N a o h1 (s912 _ _ nb h2)
            simp only [List.mem_cons, List.not_mem_nil, or_false] at hx
            rcases hx with rfl | rfl
            · exact ⟨.list es, fun H' N => .lst (SqL.of (N _ _ zD (s912 _ _ nDb hD9))) (da H' (inn N)), sL⟩
            · exact ⟨.tuple es, fun H' N => .tup (SqT.of (N _ _ z10 (s12 _ _ ne10 (s11 _ _ ne10 g10)))) (da H' (inn N)), sT⟩) a12 b12
          refine ⟨n11, _, _, g, rfl, rfl, SqL.of (s12 _ _ ne11 g11), hg', ?_⟩
          refine ⟨b, _, _, rfl, B12, by omega, fun H13 s13 B13 => odd_both (D := fun v e => ∀ H', NewIn H H13 H' → Dq K H' v e) ?_ (fun v e h H' N => h H' (NewIn.inner kp12 B12 (Kp.refl b H13) N)) (e0 := ge) (fun H' N => hge H' (NewIn.inner (Kp.refl b H) B0 s13 N)) sge⟩
          intro u ue hu su
          exact fin3 (.inr rfl) (kp12.trans s13) (k49.trans (s912.trans s13)) B13 (by omega) su (dueA_ok snv su) hu (fun H' dn du => call_A dn snv.sh du)
end
end L04

set_option Elab.async false
set_option linter.all false
set_option maxRecDepth 100000
set_option maxHeartbeats 4000000
set_option pp.deepTerms false
set_option pp.deepTerms.threshold 4
set_option pp.maxSteps 1000
namespace L04
open PySem L2 Tp
section
variable {P : Program} {w : World} {K : PySem.W.Frag} {mg : Str → Option Value} {base : Heap} {a : Ad} {d : Fd}
/-! ### the box, the book and the rows as they stand -/
def off (ps : List Addr) (H : Hp) : Hp := fun x => if x ∈ ps then none else H x
theorem off_get {ps : List Addr} {H : Hp} {x : Addr} {o : HO} (h : off ps H x = some o) : x ∉ ps ∧ H x = some o := by
  unfold off at h
  by_cases m : x ∈ ps
  · rw [if_pos m] at h; cases h
  · rw [if_neg m] at h; exact ⟨m, h⟩
theorem off_put {ps : List Addr} {H : Hp} {x : Addr} {o : HO} (m : x ∉ ps) (h : H x = some o) : off ps H x = some o := by
  unfold off
  rw [if_neg m]
  exact h
/-- all but some stay -/
def Far (ps : List Addr) (H H' : Hp) : Prop := ∀ a o, a ∉ ps → H a = some o → H' a = some o
theorem Far.trans {ps : List Addr} {H H1 H2 : Hp} (h : Far ps H H1) (k : Far ps H1 H2) : Far ps H H2 := fun a o n g => k a o n (h a o n g)
theorem Far.same {ps : List Addr} {H H1 : Hp} (S : Same H H1) : Far ps H H1 := fun a o _ g => S a o g
theorem Far.off {ps : List Addr} {H H1 : Hp} (h : Far ps H H1) : Same (off ps H) H1 := fun a o g => let ⟨n, g⟩ := off_get g; h a o n g
theorem sys_keep {H H' : Hp} (h : Sys K H) (k : ∀ a o φ, H a = some (.frz o φ) → H' a = some (.frz o φ)) : Sys K H' := h.imp id fun h => ⟨h.1, let ⟨o, φ, e⟩ := h.2; ⟨o, φ, k _ _ _ e⟩⟩
structure Gs (P : Program) (w : World) (K : PySem.W.Frag) (C : Addr) (H : Hp) (b x l m q : Addr) (n : Nat) (rows rowsL : List BRow) (as ps : List Addr) : Prop where
  bx : BoxAt b n H
  bk : BookAt P w K C H x l m rows as
  ls : H q = some (.lst (ps.map V.ref))
  pr : Paired (RowAt K H) rowsL ps
  nql : q ≠ l
  nbl : b ≠ l
  nbq : b ≠ q
  sy : Sys K H
section
variable {C b x l m q : Addr} {H H' : Hp} {n n' : Nat} {rows rows' rowsL : List BRow} {as as' ps : List Addr}
theorem Gs.nqm (g : Gs P w K C H b x l m q n rows rowsL as ps) : q ≠ m := fun e => by
  have h := g.bk.num
  rw [← e, g.ls] at h
  cases h
theorem Gs.nbm (g : Gs P w K C H b x l m q n rows rowsL as ps) : b ≠ m := fun e => by
  have h := g.bk.num
  obtain ⟨y, z, u, hb, _⟩ := g.bx
  rw [← e, hb] at h
  cases h
theorem Gs.nbx (g : Gs P w K C H b x l m q n rows rowsL as ps) : b ≠ x := fun e => by
  obtain ⟨dx, h⟩ := g.bk.obj
  obtain ⟨y, z, u, hb, _⟩ := g.bx
  rw [← e, hb] at h
  cases h
theorem Gs.nqx (g : Gs P w K C H b x l m q n rows rowsL as ps) : q ≠ x := fun e => by
  obtain ⟨dx, h⟩ := g.bk.obj
  rw [← e, g.ls] at h
  cases h
theorem Gs.same (g : Gs P w K C H b x l m q n rows rowsL as ps) (S : Same H H') : Gs P w K C H' b x l m q n rows rowsL as ps :=
  ⟨g.bx.same S, g.bk.same S, S _ _ g.ls, paired_imp (fun _ _ h => h.same S) g.pr, g.nql, g.nbl, g.nbq, g.sy.same S⟩
theorem Gs.up (g : Gs P w K C H b x l m q n rows rowsL as ps) (h : n ≤ n') : Gs P w K C H b x l m q n' rows rowsL as ps :=
  ⟨g.bx.up h, g.bk, g.ls, g.pr, g.nql, g.nbl, g.nbq, g.sy⟩
theorem bk_far (bk : BookAt P w K C H x l m rows as) (k : ∀ a o, (a = x ∨ a = l ∨ a = m) → H a = some o → H' a = some o) (S : SameT H H') : BookAt P w K C H' x l m rows as := by
  obtain ⟨dx, h⟩ := bk.obj
  exact ⟨⟨dx, k _ _ (.inl rfl) h⟩, k _ _ (.inr (.inl rfl)) bk.lst, k _ _ (.inr (.inr rfl)) bk.num, paired_imp (fun _ _ h => h.sameT S) bk.row, bk.nd, bk.few⟩
theorem Gs.kp (g : Gs P w K C H b x l m q n rows rowsL as ps) (k : Kp b H H') (B : BoxAt b n' H') : Gs P w K C H' b x l m q n' rows rowsL as ps := by
  obtain ⟨y, z, u, hb, _⟩ := g.bx
  have S : SameT H H' := ⟨fun a xs h => k _ _ (fun e => by rw [e, hb] at h; cases h) h, fun a o xs h => k _ _ (fun e => by rw [e, hb] at h; cases h) h⟩
  refine ⟨B, bk_far g.bk (fun a o e h => k a o ?_ h) S, k _ _ (Ne.symm g.nbq) g.ls, paired_imp (fun _ _ h => h.sameT S) g.pr, g.nql, g.nbl, g.nbq, sys_keep g.sy fun a o φ h => k _ _ (fun e => by rw [e, hb] at h; cases h) h⟩
  rcases e with e | e | e
  · rw [e]; exact Ne.symm g.nbx
  · rw [e]; exact Ne.symm g.nbl
  · rw [e]; exact Ne.symm g.nbm
theorem Gs.told (g : Gs P w K C H b x l m q n rows rowsL as ps) (k : Kp2 l m H H') (bk : BookAt P w K C H' x l m rows' as') : Gs P w K C H' b x l m q n rows' rowsL as' ps := by
  obtain ⟨y, z, u, hb, hr⟩ := g.bx
  refine ⟨⟨y, z, u, k _ _ g.nbl g.nbm hb, hr⟩, bk, k _ _ g.nql g.nqm g.ls, paired_imp (fun _ _ h => h.sameT (g.bk.sameT k)) g.pr, g.nql, g.nbl, g.nbq, sys_keep g.sy fun a o φ h => k _ _ (fun e => ?_) (fun e => ?_) h⟩
  · rw [e, g.bk.lst] at h; cases h
  · rw [e, g.bk.num] at h; cases h
theorem Gs.app (g : Gs P w K C H b x l m q n rows rowsL as ps) {r : BRow} {p : Addr} (rp : RowAt K H r p) : Gs P w K C (upd H q (.lst (ps.map V.ref ++ [.ref p]))) b x l m q n rows (rowsL ++ [r]) as (ps ++ [p]) := by
  have S : SameT H (upd H q (.lst (ps.map V.ref ++ [.ref p]))) := sameT_lst g.ls
  have k : ∀ a o, a ≠ q → H a = some o → (upd H q (.lst (ps.map V.ref ++ [.ref p]))) a = some o := fun a o n h => by rw [upd_ne n]; exact h
  refine ⟨g.bx.off (Ne.symm g.nbq), bk_far g.bk (fun a o e h => k a o ?_ h) S, ?_, paired_snoc (paired_imp (fun _ _ h => h.sameT S) g.pr) (rp.sameT S), g.nql, g.nbl, g.nbq, sys_keep g.sy fun a o φ h => k _ _ (fun e => by rw [e, g.ls] at h; cases h) h⟩
  · rcases e with e | e | e
    · rw [e]; exact Ne.symm g.nqx
    · rw [e]; exact Ne.symm g.nql
    · rw [e]; exact Ne.symm g.nqm
  · rw [upd_same, List.map_append]
    rfl
end
/-! ### what a call makes of the rows -/
def aft (rows : List BRow) : DueO → List BRow
  | .bad _ _ => rows
  | .row r => (addR rows r).1
def ansW : DueO → Str
  | .bad w _ => w
  | .row _ => "row"
def ansV (rows : List BRow) : DueO → V
  | .bad _ v => v
  | .row r => .int (((addR rows r).2 : Nat) : Int)
theorem call_word {H : Hp} {n : Nat} {items : List V} {w : Str} {v : V} (h : CallIs K H n items (.bad w v)) : w ≠ "row" := by
  cases h <;> decide +kernel
theorem call_up {H : Hp} {n n' : Nat} {items : List V} {r : BRow} (h : CallIs K H n items (.row r)) (le : n ≤ n') : CallIs K H n' items (.row r) := by
  cases h with
  | con h => exact .con h
  | smp h => exact .smp h
  | app h ap =>
    cases ap with
    | ok h1 h2 h3 h4 => exact .app h (.ok h1 h2 h3 fun k hk => Nat.lt_of_lt_of_le (h4 k hk) le)
theorem add_cases (rows : List BRow) (r : BRow) : (∃ i, idxR rows r = some i ∧ addR rows r = (rows, i)) ∨ (r ∉ rows ∧ addR rows r = (rows ++ [r], rows.length)) := by
  cases e : idxR rows r with
  | some i => exact .inl ⟨i, rfl, add_old e⟩
  | none => exact .inr ⟨mem_idx e, add_new (mem_idx e)⟩
theorem good_add {rows : List BRow} {r : BRow} (g : Rws rows) (gr : GoodL r rows.length) (tb : ∀ t, r.sec = .inr t → t < 10 ^ 30) (few : rows.length ≤ 99) : Rws (addR rows r).1 ∧ (addR rows r).1.length ≤ rows.length + 1 := by
  rcases add_cases rows r with ⟨i, _, e⟩ | ⟨nw, e⟩
  · rw [e]
    exact ⟨g, Nat.le_succ _⟩
  · rw [e]
    refine ⟨⟨⟨?_, fun j s hs => ?_⟩, fun s hs t ht => ?_, by rw [List.length_append]; show rows.length + 1 ≤ 100; omega⟩, by rw [List.length_append]; exact Nat.le_refl _⟩
    · rw [List.nodup_append]
      refine ⟨g.good.1, by simp, fun y hy z hz => ?_⟩
      rw [List.mem_singleton.mp hz]
      exact fun e => nw (by rw [← e]; exact hy)
    · by_cases jl : j < rows.length
      · rw [List.getElem?_append_left jl] at hs
        exact g.good.2 j s hs
      · have hs : (rows ++ [r])[j]? = some s := hs
        have hj : (rows ++ [r]).length = rows.length + 1 := by rw [List.length_append]; rfl
        have := (List.getElem?_eq_some_iff.mp hs).1
        have ej : j = rows.length := by omega
        subst ej
        rw [List.getElem?_append_right (Nat.le_refl _), Nat.sub_self] at hs
        cases hs
        exact gr
    · rcases List.mem_append.mp hs with hs | hs
      · exact g.tb s hs t ht
      · rw [List.mem_singleton.mp hs] at ht
        exact tb t ht
theorem add_idx {rows : List BRow} (nd : rows.Nodup) (r : BRow) : (addR rows r).1[(addR rows r).2]? = some r ∧ ∀ (j : Nat) (s : BRow), j < (addR rows r).2 → (addR rows r).1[j]? = some s → s ≠ r := by
  rcases add_cases rows r with ⟨i, h, e⟩ | ⟨nw, e⟩
  · rw [e]
    refine ⟨idx_mem h, fun j s hj hs z => ?_⟩
    subst z
    have := idx_some nd hs
    rw [h] at this
    have := Option.some.inj this
    have hj : j < i := hj
    omega
  · rw [e]
    refine ⟨by rw [List.getElem?_append_right (Nat.le_refl _), Nat.sub_self]; rfl, fun j s hj hs z => ?_⟩
    have hj : j < rows.length := hj
    rw [List.getElem?_append_left hj] at hs
    exact nw (by rw [← z]; exact List.mem_of_getElem? hs)
theorem add_twice {rows : List BRow} (nd : rows.Nodup) (r : BRow) : addR (addR rows r).1 r = addR rows r := by
  rcases add_cases rows r with ⟨i, h, e⟩ | ⟨nw, e⟩
  · rw [e]
    exact e
  · rw [e]
    refine add_old (idx_some ?_ (by rw [List.getElem?_append_right (Nat.le_refl _), Nat.sub_self]; rfl))
    rw [List.nodup_append]
    refine ⟨nd, by simp, fun y hy z hz => ?_⟩
    rw [List.mem_singleton.mp hz]
    exact fun e => nw (by rw [← e]; exact hy)
theorem sh_row2 {r : BRow} (g : nmB r.nm = true) : SeqAt.shaped r.data = true := by
  obtain ⟨k1, k2⟩ := row_lay g
  unfold SeqAt.shaped
  rw [k1, Bool.true_and]
  exact decide_eq_true (by omega)
/-- what is due, and what is told, as one -/
def DueT (K : PySem.W.Frag) (H : Hp) (t : Addr) : DueO → Prop
  | .bad w v => H t = some (.lst [.str w, v])
  | .row r => ∃ pr, H t = some (.lst [.str "row", .ref pr]) ∧ RowAt K H r pr
theorem due_two {H : Hp} {o : DueO} {Q1 : Addr → Hp → Prop} (h : ∀ t H', Same H H' → DueT K H' t o → Q1 t H') : (∀ w v, o = .bad w v → ∀ t H', Same H H' → H' t = some (.lst [.str w, v]) → Q1 t H') ∧ (∀ r, o = .row r → ∀ t pr H', Same H H' → H' t = some (.lst [.str "row", .ref pr]) → RowAt K H' r pr → Q1 t H') :=
  ⟨fun w v e t H' S g => h t H' S (by rw [e]; exact g), fun r e t pr H' S g rp => h t H' S (by rw [e]; exact ⟨pr, g, rp⟩)⟩
theorem told_two {H : Hp} {Q1 : Addr → Hp → Prop} {C x l m : Addr} {rows : List BRow} {as : List Addr} {o : DueO} (bk : BookAt P w K C H x l m rows as)
    (h : ∀ t H' as', Kp2 l m H H' → BookAt P w K C H' x l m (aft rows o) as' → H' t = some (.lst [.str (ansW o), ansV rows o]) → Q1 t H') :
    (∀ w v, o = .bad w v → ∀ t H', Same H H' → H' t = some (.lst [.str w, v]) → Q1 t H') ∧
    (∀ r, o = .row r → ∀ t H' as', Kp2 l m H H' → BookAt P w K C H' x l m (addR rows r).1 as' → H' t = some (.lst [.str "row", .int (((addR rows r).2 : Nat) : Int)]) → Q1 t H') :=
  ⟨fun w v e t H' S g => h t H' as (Kp2.of S) (by rw [e]; exact bk.same S) (by rw [e]; exact g), fun r e t H' as' k b g => h t H' as' k (by rw [e]; exact b) (by rw [e]; exact g)⟩
theorem word_ne {H : Hp} {t l : Addr} {w : Str} {vs : List V} {as : List Addr} (h : H t = some (.lst (.str w :: vs))) (g : H l = some (.lst (as.map V.ref))) : t ≠ l := fun e => by
  rw [e, g] at h
  cases as <;> cases h
theorem aft_aft {rows : List BRow} (nd : rows.Nodup) (o : DueO) : aft (aft rows o) o = aft rows o ∧ ansV (aft rows o) o = ansV rows o := by
  cases o with
  | bad w v => exact ⟨rfl, rfl⟩
  | row r =>
    have := add_twice nd r
    constructor
    · show (addR (addR rows r).1 r).1 = _
      rw [this]
      rfl
    · show V.int (((addR (addR rows r).1 r).2 : Nat) : Int) = _
      rw [this]
      rfl
def spGrown (P : Program) (w : World) (K : PySem.W.Frag) (C : Addr) : Sp := fun vs H Q _ => ∃ (b : Addr) (n : Nat) (x l m q : Addr), vs = [.ref b, .ref x, .ref q] ∧ Gs P w K C H b x l m q n [] [] [] [] ∧ n ≤ 1000 ∧
  ∀ H' n' rows as ps, n' ≤ n + 4000 → Gs P w K C H' b x l m q n' rows rows as ps → Rws rows → rows.length ≤ 30 → Far [b, l, m, q] H H' → Q (.bl true) H'
theorem ok_grown (T : Txt K mg a d) : FnG P w K mg base CX0 8 a.grown d.grown ["_law_box_here", "_law_book", "_law_rows"] (spGrown P w K a.CBook) := by
  have G_take := ok_take (P := P) (w := w) (base := base) T
  have G_call := ok_call (P := P) (w := w) (base := base) T
  have G_due := ok_due (P := P) (w := w) (base := base) T
  have G_told := ok_told (P := P) (w := w) (base := base) T
  have G_len := ok_len (P := P) (w := w) (base := base) T
  have G_holds := ok_holds (P := P) (w := w) (base := base) T
  refine okG T.F_grown scGrown (fun vs H Q E h => ?_) (fun cdv A outer s H vs Q E hr hg h => ?_)
  · obtain ⟨b, n, x, l, m, q0, rfl, _⟩ := h
    rfl
  · obtain ⟨b, n, x, l, m, q0, rfl, G0, hn, q⟩ := h
    refine ⟨_, (pss_cons (ps_for PassesOwn.never rfl (pi_range1 (by rfl) T.range_ (pa_cons (pe_op op_add pe_int (Tp.pe_callG G_take (hr.mono (by decide)) hg (by rfl) T.mg_take T.F_take.kp T.b_take .nil pass0 (pa_cons (pv 0) (pa_cons pe_int pa_nil)))) pa_nil)) (pg_name (i := 3) scGrown.nd rfl (Or.inl rfl)) (pss_cons (ps_set (i := 4) scGrown.nd rfl (Or.inl rfl) (Tp.pe_callG G_call (hr.mono (by decide)) hg (by rfl) T.mg_call T.F_call.kp T.b_call .nil pass0 (pa_cons (pv 0) (pa_cons (pv 2) pa_nil))))
      (pss_cons (ps_par (i := 5) (j := 6) (by rfl) scGrown.nd rfl rfl (by decide) rfl rfl (pa_cons (pe_callB (Tp.call_reprQ hr hg) (by rfl) T.repr_ Tp.bt_repr (pa_cons (pv 4) pa_nil)) (pa_cons (pe_call G_due (hr.mono (by decide)) (by rfl) T.mg_due T.F_due.kp T.b_due .nil pass0 (pa_cons (pv 2) (pa_cons (pv 4) pa_nil))) pa_nil)) (by rfl))
      (Evl.pss_cut (ps_if (pt_cmpR op_eq (pe_ix ix_list (pv 6) pe_int (fun _ _ => rfl)) pe_str (nomark _)) (Evl.pss_cut (ps_if (pt_cmpR (op_notInD (un65 hr)) (pe_ix ix_list (pv 6) pe_int (fun _ _ => rfl)) (pv 2) (by rfl)) (pss_one (ps_expr (pe_bm PySem.F.plainAttrs_list PySem.F.slot_list_append PySem.F.type_list_append mt_append (pv 2) (pa_cons (pe_ix ix_list (pv 6) pe_int (fun _ _ => rfl)) pa_nil)))) pss_nil)
      (pss_one (ps_set (i := 6) scGrown.nd rfl (Or.inl rfl) (pe_lst (pa_cons pe_str (pa_cons (pe_bm PySem.F.plainAttrs_list PySem.F.slot_list_index PySem.F.type_list_index (mt_indexD (un65 hr)) (pv 2) (pa_cons (pe_ix ix_list (pv 6) pe_int (fun _ _ => rfl)) pa_nil)) pa_nil)))))) pss_nil)
      (pss_one (ps_for PassesOwn.never rfl (pi_range1 (by rfl) T.range_ (pa_cons pe_int pa_nil)) (pg_name (i := 7) scGrown.nd rfl (Or.inl rfl)) (pss_one (ps_if (PW.pt (pw_or (pt_cmpR op_ne (pe_callB (Tp.call_reprQ hr hg) (by rfl) T.repr_ Tp.bt_repr (pa_cons (pe_call G_told (hr.mono (by decide)) (by rfl) T.mg_told T.F_told.kp T.b_told .nil pass0 (pa_cons (pv 1) (pa_cons (pv 4) pa_nil))) pa_nil)) (pe_callB (Tp.call_reprQ hr hg) (by rfl) T.repr_ Tp.bt_repr (pa_cons (pv 6) pa_nil)) (nomark _)) (pw_or (pt_cmpR op_ne (pe_callB (Tp.call_reprQ hr hg) (by rfl) T.repr_ Tp.bt_repr (pa_cons (pv 4) pa_nil)) (pv 5) (nomark _)) (pw_or1 (pt_cmpR op_ne (pe_callB (Tp.call_lenE T.me_len.at_ T.me_len.fn G_len (hr.mono (by decide)) T.b_len pass0) (by rfl) T.len_ Tp.bt_len (pa_cons (pv 1) pa_nil)) (pe_callB call_len_seq (by rfl) T.len_ Tp.bt_len (pa_cons (pv 2) pa_nil)) (nomark _)))))) (pss_one (ps_ret pe_bl)) pss_nil))))))))
      (pss_one (ps_ret (Tp.pe_callG G_holds (hr.mono (by decide)) hg (by rfl) T.mg_holds T.F_holds.kp T.b_holds .nil pass0 (pa_cons (pv 1) (pa_cons (pv 2) pa_nil)))))), ?_⟩
    refine ⟨_, rfl, b, 27, n, rfl, G0.bx, by omega, by decide, by decide, fun r1 H1 a1 b1 s1 B1 => ?_⟩
    have rws0 : Rws [] := ⟨⟨List.nodup_nil, fun i r h => by cases h⟩, (fun r h => by cases h), Nat.zero_le _⟩
    have far1 : Far [b, l, m, q0] H H1 := fun a o n h => s1 a o (fun e => n (by rw [e]; exact List.mem_cons_self)) h
    refine ⟨_, _, rfl, rfl, 4 + r1, rfl, by omega, by omega, for_range (lo := 0) (n := (4 + r1).toNat) (fun i σ H' => (∃ n' rows as ps, n' ≤ n + 1 + 100 * i ∧ Gs P w K a.CBook H' b x l m q0 n' rows rows as ps ∧ Rws rows ∧ rows.length ≤ i) ∧ Far [b, l, m, q0] H H' ∧ ∃ v3 v4 v5 v6 v7, σ = [some (.ref b), some (.ref x), some (.ref q0), v3, v4, v5, v6, v7]) ⟨⟨n + 1, [], [], [], by omega, G0.kp s1 B1, rws0, Nat.zero_le _⟩, far1, _, _, _, _, _, rfl⟩ ?_ ?_⟩
    · rintro i σ H2 hi ⟨⟨n2, rows, as, ps, ln2, G2, rws, lr⟩, far2, v3, v4, v5, v6, v7, rfl⟩
      have i31 : i < 31 := by omega
      have lps : rows.length = ps.length := Paired.length G2.pr
      have lpm : (ps.map V.ref).length = rows.length := by rw [List.length_map, lps]
      refine ⟨_, rfl, _, rfl, b, n2, q0, ps.map V.ref, rfl, G2.bx, by omega, G2.ls, Ne.symm G2.nbq, by omega, fun p items od e H3 s3 B3 ca dok fit => ?_⟩
      have G3 := G2.kp s3 B3
      have inR : NewIn H2 H3 (off [b, l, m, q0] H3) := fun a o h1 h2 => by
        refine off_put (fun ma => ?_) h2
        simp only [List.mem_cons, List.not_mem_nil, or_false] at ma
        obtain ⟨y, z, u, hb, _⟩ := G2.bx
        rcases ma with e | e | e | e
        · rw [e, hb] at h1; cases h1
        · rw [e, G2.bk.lst] at h1; cases h1
        · rw [e, G2.bk.num] at h1; cases h1
        · rw [e, G2.ls] at h1; cases h1
      obtain ⟨ctup, ⟨o, ci, dm⟩, cdat, csok⟩ := ca _ inR
      rw [lpm] at ci
      have WF : ∀ {Hc}, Far [b, l, m, q0] H3 Hc → Same (off [b, l, m, q0] H3) Hc := fun h => Far.off h
      generalize off [b, l, m, q0] H3 = Hr at ctup ci dm cdat WF
      have W3 : Same Hr H3 := WF (Far.same (Same.refl H3))
      obtain ⟨f1, f2, f3⟩ := fit.ok (by decide) (by decide)
      obtain ⟨ed, hed, fed, smw⟩ : ∃ ed, (∀ Hc, Same Hr Hc → Dq K Hc (ansV rows o) ed) ∧ FitQ 3 400 ed ∧ Sm 10 (ansW o) := by
        cases o with
        | bad w' v' =>
          cases od with
          | bad w2 e2 =>
            obtain ⟨rfl, dv⟩ : w' = w2 ∧ Dq K Hr v' e2 := dm
            exact ⟨e2, fun Hc S => (dq_same S).1 dv, (dok.1 _ _ rfl).1, (dok.1 _ _ rfl).2⟩
          | row r2 => exact dm.elim
        | row r =>
          have l2 : (addR rows r).2 ≤ rows.length := by
            rcases add_cases rows r with ⟨j, h, e⟩ | ⟨_, e⟩
            · rw [e]
              have := (List.getElem?_eq_some_iff.mp (idx_mem h)).1
              show j ≤ _
              omega
            · rw [e]
              exact Nat.le_refl _
          exact ⟨_, fun Hc S => .int _, (fitq_int (n := 3) (i := (((addR rows r).2 : Nat) : Int)) (by omega)).up (Nat.le_refl _) (by decide), by show Sm 10 "row"; unfold Sm; decide +kernel⟩
      have lgood : Rws (aft rows o) ∧ (aft rows o).length ≤ rows.length + 1 ∧ rows.length ≤ (aft rows o).length := by
        cases o with
        | bad w' v' => exact ⟨rws, Nat.le_succ _, Nat.le_refl _⟩
        | row r =>
          have tb : ∀ t, r.sec = .inr t → t < 10 ^ 30 := by
            cases od with
            | bad w2 e2 => exact dm.elim
            | row r2 =>
              obtain rfl : r = r2 := dm
              exact dok.2 r rfl
          obtain ⟨h1, h2⟩ := good_add rws (call_good ci) tb (by omega)
          refine ⟨h1, h2, ?_⟩
          show rows.length ≤ (addR rows r).1.length
          rcases add_cases rows r with ⟨j, h, e⟩ | ⟨_, e⟩
          · rw [e]
            exact Nat.le_refl _
          · rw [e, List.length_append]
            exact Nat.le_add_right _ _
      obtain ⟨rws2, la1, la2⟩ := lgood
      have far3 : Far [b, l, m, q0] H H3 := fun a o n h => s3 a o (fun e => n (by rw [e]; exact List.mem_cons_self)) (far2 a o n h)
      refine ⟨_, rfl, _, e, rfl, G3.sy, (dq_same W3).1 cdat, f1, f2, f3, ?_⟩
      refine ⟨_, rfl, _, rfl, q0, p, _, items, o, rfl, SqL.of G3.ls, sqT_same W3 ctup, (by rw [lpm]; exact ci.same W3), csok, due_two fun t0 H4 S4 dt => ?_⟩
      have F4 : Far [b, l, m, q0] H3 H4 := Far.same S4
      have G4 := G3.same S4
      have nd := rws.good.1
      refine ⟨_, _, rfl, fun σ H' => Far [b, l, m, q0] H3 H' ∧ ∃ ps' t, Gs P w K a.CBook H' b x l m q0 (n2 + 100) rows (aft rows o) as ps' ∧ H' t = some (.lst [.str (ansW o), ansV rows o]) ∧ ∃ v3 v7, σ = [some (.ref b), some (.ref x), some (.ref q0), v3, some (.ref p), some (.str e.shown), some (.ref t), v7], ?_, ?_⟩
      · cases o with
        | bad w' v' =>
          have dt : H4 t0 = some (.lst [.str w', v']) := dt
          exact ⟨_, rfl, t0, _, 0, _, rfl, rfl, SqL.of dt, rfl, rfl, _, rfl, ifN (fun z => call_word ci (V.str.inj z)) ⟨F4, ps, t0, G4, dt, _, _, rfl⟩⟩
        | row r =>
          obtain ⟨pr0, g4, rp⟩ := dt
          have gr := call_good ci
          refine ⟨_, rfl, t0, _, 0, _, rfl, rfl, SqL.of g4, rfl, rfl, _, rfl, ifY rfl ?_⟩
          refine ⟨fun σ H' => Far [b, l, m, q0] H3 H' ∧ ∃ ps', Gs P w K a.CBook H' b x l m q0 (n2 + 100) rows (addR rows r).1 as ps' ∧ H' t0 = some (.lst [.str "row", .ref pr0]) ∧ RowAt K H' r pr0 ∧ ∃ v3 v7, σ = [some (.ref b), some (.ref x), some (.ref q0), v3, some (.ref p), some (.str e.shown), some (.ref t0), v7], ?_, ?_⟩
          · refine ⟨_, rfl, t0, _, 1, _, rfl, rfl, SqL.of g4, rfl, _, rfl, r.data, rows.map BRow.data, rp, .lst (SqL.of G4.ls) (rows_dp G4.pr), sh_row2 gr.1, rows_shaped rws.good.nm, _, rfl, ?_⟩
            rw [rows_any]
            rcases add_cases rows r with ⟨j, hj, ea⟩ | ⟨nw, ea⟩
            · have mem : r ∈ rows := List.mem_of_getElem? (idx_mem hj)
              rw [ea]
              exact ifnY mem ⟨F4, ps, G4, g4, rp, _, _, rfl⟩
            · rw [ea]
              have llen : (ps.map V.ref).length < sizeLine := by
                rw [lpm]
                exact Nat.lt_of_le_of_lt (show _ ≤ 100 by omega) (by decide)
              refine ifnN nw ⟨_, rfl, .inl ⟨rfl, _, SqL.of G4.ls⟩, _, rfl, t0, _, 1, _, rfl, rfl, SqL.of g4, rfl, q0, _, _, rfl, rfl, G4.ls, llen, ?_⟩
              have nt : t0 ≠ q0 := word_ne g4 G4.ls
              refine ⟨fun c o' nc h => ?_, ps ++ [pr0], G4.app rp, by rw [upd_ne nt]; exact g4, rp.sameT (sameT_lst G4.ls), _, _, rfl⟩
              rw [upd_ne (fun e => nc (by rw [e]; simp))]
              exact F4 c o' nc h
          · rintro σ H5 ⟨F5, ps', G5, g5, rp5, v3', v7', rfl⟩
            obtain ⟨ai1, ai2⟩ := add_idx nd r
            refine ⟨_, rfl, .inl ⟨rfl, _, SqL.of G5.ls⟩, _, rfl, t0, _, 1, _, rfl, rfl, SqL.of g5, rfl, q0, _, r.data, (addR rows r).1.map BRow.data, (addR rows r).2, r.data, rfl, rfl, .lst (SqL.of G5.ls) (rows_dp G5.pr), rp5, rows_shaped rws2.good.nm, sh_row2 gr.1, ?_, ?_, ?_, (show 2 ≤ sizeLine from by decide), fun t2 ht2 => ?_⟩
            · rw [List.getElem?_map, ai1]
              rfl
            · rw [row_eqv]
              exact decide_eq_true rfl
            · intro j z hj hz
              rw [List.getElem?_map] at hz
              obtain ⟨s, hs, rfl⟩ := Option.map_eq_some_iff.mp hz
              rw [row_eqv]
              exact decide_eq_false (ai2 j s hj hs)
            · exact ⟨F5.trans (Far.same (same_new ht2)), ps', t2, G5.same (same_new ht2), upd_same, _, _, rfl⟩
      · rintro σ H5 ⟨F5, ps', t, G5, g5, v3', v7', rfl⟩
        obtain ⟨e1, e2, e3⟩ := (fit_pair (n := 3) (w := 400) smw fed (by decide)).ok (by decide) (by decide)
        have lps' : (aft rows o).length = ps'.length := Paired.length G5.pr
        refine ⟨2, rfl, by decide, by decide, for_range (lo := 0) (n := 2) (fun j σ H' => Far [b, l, m, q0] H3 H' ∧ (∃ rowsC as', (j = 0 ∧ rowsC = rows ∨ rowsC = aft rows o) ∧ (0 < j → rowsC = aft rows o) ∧ Gs P w K a.CBook H' b x l m q0 (n2 + 100) rowsC (aft rows o) as' ps') ∧ H' t = some (.lst [.str (ansW o), ansV rows o]) ∧ ∃ v3 v7, σ = [some (.ref b), some (.ref x), some (.ref q0), v3, some (.ref p), some (.str e.shown), some (.ref t), v7]) ⟨F5, ⟨rows, as, .inl ⟨rfl, rfl⟩, (fun z => by omega), G5⟩, g5, _, _, rfl⟩ ?_ ?_⟩
        · rintro j σ H6 hj ⟨F6, ⟨rowsC, asC, hC, _, G6⟩, g6, v3'', v7'', rfl⟩
          have hC' : (CallIs K Hr rowsC.length items o) ∧ aft rowsC o = aft rows o ∧ ansV rowsC o = ansV rows o ∧ rowsC.length ≤ 100 := by
            rcases hC with ⟨_, rfl⟩ | rfl
            · exact ⟨ci, rfl, rfl, by omega⟩
            · refine ⟨?_, (aft_aft nd o).1, (aft_aft nd o).2, by omega⟩
              cases o with
              | bad w' v' => exact ci
              | row r => exact call_up ci la2
          obtain ⟨ciC, eA, eV, lC⟩ := hC'
          have W6 := WF F6
          refine ⟨_, rfl, _, rfl, x, l, m, rowsC, asC, p, items, o, rfl, G6.bk, by omega, sqT_same W6 ctup, ciC.same W6, told_two G6.bk fun t' H7 as7 k7 bk7 g7 => ?_⟩
          rw [eA] at bk7
          rw [eV] at g7
          have F7 : Far [b, l, m, q0] H3 H7 := fun c o' nc h => k7 c o' (fun e => nc (by rw [e]; simp)) (fun e => nc (by rw [e]; simp)) (F6 c o' nc h)
          have G7 := G6.told k7 bk7
          have nm7 : t ≠ m := fun e => by
            have h := G6.bk.num
            rw [← e, g6] at h
            cases h
          have gt7 := k7 _ _ (word_ne g6 G6.bk.lst) nm7 g6
          have W7 := WF F7
          refine ⟨_, .list [.str (ansW o), ed], rfl, G7.sy, .lst (SqL.of g7) (.cons (.str _) (.cons (hed H7 W7) .nil)), e1, e2, e3, ?_⟩
          refine ⟨_, rfl, _, .list [.str (ansW o), ed], rfl, G7.sy, .lst (SqL.of gt7) (.cons (.str _) (.cons (hed H7 W7) .nil)), e1, e2, e3, rfl, _, rfl, ifnY rfl ?_⟩
          refine ⟨_, rfl, _, e, rfl, G7.sy, (dq_same W7).1 cdat, f1, f2, f3, _, rfl, rfl, _, rfl, ifnY rfl ?_⟩
          obtain ⟨dx7, ho7⟩ := G7.bk.obj
          refine ⟨_, rfl, x, _, _, rfl, ho7, x, l, m, aft rows o, as7, rfl, G7.bk, (((aft rows o).length : Nat) : Int), rfl, by omega, by omega, _, rfl, q0, _, rfl, .inl (SqL.of G7.ls), rfl, _, rfl, ?_⟩
          rw [List.length_map, ← lps']
          exact ifnY rfl ⟨F7, ⟨aft rows o, as7, .inr rfl, fun _ => rfl, G7⟩, gt7, _, _, rfl⟩
        · rintro σ H6 ⟨F6, ⟨rowsC, asC, _, hC, G6⟩, g6, v3'', v7'', rfl⟩
          obtain rfl := hC (by decide)
          exact ⟨⟨n2 + 100, _, asC, ps', by omega, G6, rws2, by omega⟩, far3.trans F6, _, _, _, _, _, rfl⟩
    · rintro σ H2 ⟨⟨n2, rows, as, ps, ln2, G2, rws, lr⟩, far2, v3, v4, v5, v6, v7, rfl⟩
      exact ⟨_, rfl, _, rfl, x, l, m, rows, as, q0, ps, rfl, G2.bk, SqL.of G2.ls, G2.pr, rws, G2.sy, fun H3 S3 => q _ n2 rows as ps (by omega) (G2.same S3) rws (by omega) (far2.trans (Far.same S3))⟩
end
end L04

set_option Elab.async false
set_option linter.all false
set_option maxRecDepth 100000
set_option maxHeartbeats 4000000
set_option pp.deepTerms false
set_option pp.deepTerms.threshold 4
set_option pp.maxSteps 1000
namespace L04
open PySem L2 Tp
section
variable {P : Program} {w : World} {K : PySem.W.Frag} {mg : Str → Option Value} {base : Heap} {a : Ad} {d : Fd}
/-! ### two books -/
theorem first_self {C : Addr} : PySem.W.notFirst K C (.ref C) = true := by
  unfold PySem.W.notFirst
  rw [beq_self_eq_true, Bool.true_or]
theorem eqvAll_map : ∀ xs ys : List BRow, PyData.eqvAll (xs.map BRow.data) (ys.map BRow.data) = decide (xs = ys)
  | [], [] => rfl
  | [], y :: ys => by
    rw [decide_eq_false (by simp)]
    rfl
  | x :: xs, [] => by
    rw [decide_eq_false (by simp)]
    rfl
  | x :: xs, y :: ys => by
    rw [List.map_cons, List.map_cons, PyData.eqvAll, row_eqv, eqvAll_map xs ys]
    by_cases e : x = y
    · subst e
      by_cases f : xs = ys
      · subst f
        simp
      · rw [decide_eq_false f, Bool.and_false, decide_eq_false]
        intro z
        exact f (List.cons.inj z).2
    · rw [decide_eq_false e, Bool.false_and, decide_eq_false]
      intro z
      exact e (List.cons.inj z).1
theorem rows_eq (xs ys : List BRow) : PyData.eqv (rowsD xs) (rowsD ys) = decide (xs = ys) := eqvAll_map xs ys
structure Ds (P : Program) (w : World) (K : PySem.W.Frag) (C : Addr) (H : Hp) (x l m y l2 m2 q : Addr) (rows1 rows2 rows : List BRow) (as as2 ps : List Addr) : Prop where
  b1 : BookAt P w K C H x l m rows1 as
  b2 : BookAt P w K C H y l2 m2 rows2 as2
  nl : l ≠ l2
  nm : m ≠ m2
  ls : H q = some (.lst (ps.map V.ref))
  pr : Paired (RowAt K H) rows ps
  n1 : q ≠ l
  n2 : q ≠ l2
  sy : Sys K H
section
variable {C x l m y l2 m2 q : Addr} {H H' : Hp} {rows1 rows2 rows rows' : List BRow} {as as2 as' ps : List Addr}
theorem Ds.same (g : Ds P w K C H x l m y l2 m2 q rows1 rows2 rows as as2 ps) (S : Same H H') : Ds P w K C H' x l m y l2 m2 q rows1 rows2 rows as as2 ps :=
  ⟨g.b1.same S, g.b2.same S, g.nl, g.nm, S _ _ g.ls, paired_imp (fun _ _ h => h.same S) g.pr, g.n1, g.n2, g.sy.same S⟩
theorem lst_num (bk : BookAt P w K C H x l m rows1 as) (h : H q = some (.lst (ps.map V.ref))) : q ≠ m := fun e => by
  have h2 := bk.num
  rw [← e, h] at h2
  cases h2
theorem sys_bk (bk : BookAt P w K C H x l m rows1 as) (k : Kp2 l m H H') (s : Sys K H) : Sys K H' := sys_keep s fun a o φ h => k _ _ (fun e => by rw [e, bk.lst] at h; cases h) (fun e => by rw [e, bk.num] at h; cases h) h
theorem Ds.t1 (g : Ds P w K C H x l m y l2 m2 q rows1 rows2 rows as as2 ps) (k : Kp2 l m H H') (bk : BookAt P w K C H' x l m rows' as') : Ds P w K C H' x l m y l2 m2 q rows' rows2 rows as' as2 ps :=
  ⟨bk, g.b2.other g.b1 k (Ne.symm g.nl) (Ne.symm g.nm), g.nl, g.nm, k _ _ g.n1 (lst_num g.b1 g.ls) g.ls, paired_imp (fun _ _ h => h.sameT (g.b1.sameT k)) g.pr, g.n1, g.n2, sys_bk g.b1 k g.sy⟩
theorem Ds.t2 (g : Ds P w K C H x l m y l2 m2 q rows1 rows2 rows as as2 ps) (k : Kp2 l2 m2 H H') (bk : BookAt P w K C H' y l2 m2 rows' as') : Ds P w K C H' x l m y l2 m2 q rows1 rows' rows as as' ps :=
  ⟨g.b1.other g.b2 k g.nl g.nm, bk, g.nl, g.nm, k _ _ g.n2 (lst_num g.b2 g.ls) g.ls, paired_imp (fun _ _ h => h.sameT (g.b2.sameT k)) g.pr, g.n1, g.n2, sys_bk g.b2 k g.sy⟩
end
/-! ### names that are free -/
def nameQ (k : Nat) : Str := ("q" : Str) ++ (toString ((k : Nat) : Int) : Str) ++ ("q" : Str)
def names40 : List Str := (List.range 40).map nameQ
theorem names_ok : ∀ z ∈ names40, nmB z = true := by decide +kernel
theorem names_nd : names40.Nodup := by decide +kernel
theorem names_len : ∀ k, k < 40 → (toString ((k : Nat) : Int) : Str).length ≤ 2 := by decide +kernel
theorem names_get {i : Nat} (h : i < 40) : names40[i]? = some (nameQ i) := by
  unfold names40
  rw [List.getElem?_map, List.getElem?_range h]
  rfl
theorem app_len (a b : Str) : (a ++ b).length = a.length + b.length := by
  show (a.cps ++ b.cps).size = _
  rw [Array.size_append]
  rfl
theorem sub_len {α : Type} : ∀ {l m : List α}, l.Nodup → (∀ x ∈ l, x ∈ m) → l.length ≤ m.length
  | [], _, _, _ => Nat.zero_le _
  | x :: l, m, nd, h => by
    obtain ⟨m1, m2, rfl⟩ := List.append_of_mem (h x List.mem_cons_self)
    obtain ⟨nx, nl⟩ := List.nodup_cons.mp nd
    have := sub_len (m := m1 ++ m2) nl fun y hy => by
      rcases List.mem_append.mp (h y (List.mem_cons_of_mem _ hy)) with k | k
      · exact List.mem_append_left _ k
      · rcases List.mem_cons.mp k with k | k
        · rw [k] at hy
          exact absurd hy nx
        · exact List.mem_append_right _ k
    rw [List.length_append] at this ⊢
    rw [List.length_cons, List.length_cons]
    omega
theorem filter_two {α : Type} (p : α → Bool) : ∀ l : List α, (l.filter p).length + (l.filter fun x => !p x).length = l.length
  | [] => rfl
  | x :: l => by
    have := filter_two p l
    rw [List.filter_cons, List.filter_cons]
    cases p x
    · simp
      omega
    · simp
      omega
def cst (z : Str) : BRow := ⟨z, .inl []⟩
theorem free_two {rows : List BRow} (few : rows.length ≤ 38) : ∃ z0 z1 zs, names40.filter (fun z => !decide (cst z ∈ rows)) = z0 :: z1 :: zs ∧ z0 ≠ z1 ∧ (∀ z, z = z0 ∨ z = z1 → nmB z = true ∧ cst z ∉ rows) := by
  have h1 : (names40.filter fun z => decide (cst z ∈ rows)).length + (names40.filter fun z => !decide (cst z ∈ rows)).length = names40.length := filter_two (fun z => decide (cst z ∈ rows)) names40
  have h2 : (names40.filter fun z => decide (cst z ∈ rows)).length ≤ rows.length := by
    rw [← List.length_map (f := cst)]
    refine sub_len ?_ fun r hr => ?_
    · refine List.Pairwise.map _ (fun a b h e => h ?_) (List.Pairwise.filter _ names_nd)
      exact congrArg BRow.nm e
    · obtain ⟨z, hz, rfl⟩ := List.mem_map.mp hr
      exact of_decide_eq_true (List.mem_filter.mp hz).2
  have h3 : names40.length = 40 := by decide +kernel
  have nd : (names40.filter fun z => !decide (cst z ∈ rows)).Nodup := List.Pairwise.filter _ names_nd
  have ok : ∀ z ∈ names40.filter (fun z => !decide (cst z ∈ rows)), nmB z = true ∧ cst z ∉ rows := fun z hz => by
    obtain ⟨k1, k2⟩ := List.mem_filter.mp hz
    refine ⟨names_ok z k1, fun m => ?_⟩
    rw [decide_eq_true m] at k2
    cases k2
  cases e : names40.filter (fun z => !decide (cst z ∈ rows)) with
  | nil => rw [e, h3, List.length_nil] at h1; omega
  | cons z0 l =>
    cases l with
    | nil => rw [e, h3, List.length_singleton] at h1; omega
    | cons z1 zs =>
      rw [e] at nd ok
      refine ⟨z0, z1, zs, rfl, fun z => ?_, fun z hz => ?_⟩
      · rw [z] at nd
        simp at nd
      · rcases hz with rfl | rfl
        · exact ok _ List.mem_cons_self
        · exact ok _ (List.mem_cons_of_mem _ List.mem_cons_self)
theorem cst_good {z : Str} (h : nmB z = true) (n : Nat) : GoodL (cst z) n := ⟨h, Nat.le_trans (nm_sm h).1 (by decide), .inl ⟨[], rfl, Nat.zero_le _, fun j hj => by cases hj⟩⟩
theorem rws_snoc {rows : List BRow} (g : Rws rows) {z : Str} (h : nmB z = true) (nw : cst z ∉ rows) (few : rows.length ≤ 99) : Rws (rows ++ [cst z]) := by
  have := (good_add g (cst_good h rows.length) (fun t e => by cases e) few).1
  rw [add_new nw] at this
  exact this
theorem name_is {H : Hp} {z : Str} (h : nmB z = true) : NameIs K H (.str z) true := .inl ⟨z, rfl, Nat.le_trans (nm_sm h).1 (by decide), h.symm⟩
/-- constant(z), z a new name -/
theorem const_ask {H : Hp} {Q1 : Hp → Prop} {C x l m : Addr} {rows : List BRow} {as : List Addr} {z : Str} (nw : cst z ∉ rows) (h : ∀ H' as', Kp2 l m H H' → BookAt P w K C H' x l m (rows ++ [cst z]) as' → Q1 H') :
    ∀ H' as', Kp2 l m H H' → BookAt P w K C H' x l m (addR rows ⟨z, .inl []⟩).1 as' → Q1 H' := fun H' as' k b => h H' as' k (by rw [add_new (r := ⟨z, .inl []⟩) nw] at b; exact b)
def spCopyR (P : Program) (w : World) (K : PySem.W.Frag) (C : Addr) : Sp := fun vs H Q _ => ∃ (x l m y l2 m2 q : Addr) (rows : List BRow) (as as2 ps : List Addr), vs = [.ref x, .ref y, .ref q] ∧ Ds P w K C H x l m y l2 m2 q rows rows rows as as2 ps ∧ Rws rows ∧ rows.length ≤ 30 ∧ ∀ H', Far [l, m, l2, m2] H H' → Q (.bl true) H'
theorem ok_copyR (T : Txt K mg a d) : FnG P w K mg base CX0 8 a.copyR d.copyR ["_law_book", "_law_copy", "_law_rows"] (spCopyR P w K a.CBook) := by
  have G_rows := ok_rows (P := P) (w := w) (base := base) T
  have G_constant := ok_constant (P := P) (w := w) (base := base) T
  have G_eq := ok_eq (P := P) (w := w) (base := base) T
  have G_holds := ok_holds (P := P) (w := w) (base := base) T
  refine okG T.F_copyR scCopyR (fun vs H Q E h => ?_) (fun cdv A outer s H vs Q E hr hg h => ?_)
  · obtain ⟨x, l, m, y, l2, m2, q0, rows, as, as2, ps, rfl, _⟩ := h
    rfl
  · obtain ⟨x, l, m, y, l2, m2, q0, rows, as, as2, ps, rfl, D0, rws, few, q⟩ := h
    refine ⟨_, (pss_cons (ps_set (i := 3) scCopyR.nd rfl (Or.inl rfl) (pe_meth0 (pv 1) T.cl_Book T.me_rows G_rows (hr.mono (by decide)) T.b_rows .nil pass0))
      (pss_cons (ps_expr (pe_bm PySem.F.plainAttrs_list PySem.F.slot_list_append PySem.F.type_list_append mt_append (pv 3) (pa_cons (pe_tup (pa_cons pe_str (pa_cons (pe_tup pa_nil) pa_nil))) pa_nil)))
      (pss_cons (ps_setLc (i := 4) (own := [("_law_name", 8)]) (by rfl) scCopyR.nd rfl rfl (sw_true rfl rfl rfl (by decide +kernel)) (pi_list (pe_lc (own := [("_law_k", 9)]) (by rfl) scCopyR.nd (pi_range1 (by rfl) T.range_ (pa_cons pe_int pa_nil)) (blkOk_by (own := [("_law_k", 9)]) (N := scCopyR_N) (sc := defScope scCopyR_st) (by decide +kernel)) (fun _ _ _ _ _ => (pg_name (i := 9) scCopyR.nd rfl (Or.inl rfl))) (fun _ _ _ _ _ => pts_nil) (fun _ _ _ _ _ => (pe_op op_add_str (pe_op op_add_str pe_str (pe_callTy call_str_int (by rfl) T.str_ Tp.bt_str (pa_cons (pv 9) pa_nil))) pe_str)))) (blkOk_by (own := [("_law_name", 8)]) (N := scCopyR_N) (sc := defScope scCopyR_st) (by decide +kernel)) (fun _ _ _ _ _ => (pg_name (i := 8) scCopyR.nd rfl (Or.inl rfl))) (fun _ _ _ _ _ => (pts_one (pt_cmpR (Tp.op_notInDK (K := K) rfl (un65 hr)) (pe_tup (pa_cons (pv 8) (pa_cons (pe_tup pa_nil) pa_nil))) (pv 2) (by rfl)))) (fun _ _ _ _ _ => (pv 8)))
      (pss_cons (ps_par (i := 5) (j := 6) (by rfl) scCopyR.nd rfl rfl (by decide) rfl rfl (pa_cons (pe_ix ix_list (pv 4) pe_int (fun _ _ => rfl)) (pa_cons (pe_ix ix_list (pv 4) pe_int (fun _ _ => rfl)) pa_nil)) (by rfl))
      (pss_cons (ps_expr (Tp.pe_methE (pv 1) T.cl_Book T.me_constant G_constant (hr.mono (by decide)) T.b_constant .nil (fun σ => Tp.passA0 σ) (pa_cons (pv 5) pa_nil)))
      (pss_cons (ps_if (PW.pt (pw_or (pt_not (pt_val (Tp.pe_callG G_holds (hr.mono (by decide)) hg (by rfl) T.mg_holds T.F_holds.kp T.b_holds .nil pass0 (pa_cons (pv 0) (pa_cons (pv 2) pa_nil))))) (pw_or (pt_not (pt_val (Tp.pe_callG G_holds (hr.mono (by decide)) hg (by rfl) T.mg_holds T.F_holds.kp T.b_holds .nil pass0 (pa_cons (pv 1) (pa_cons (pe_op op_cat (pv 2) (pe_lst (pa_cons (pe_tup (pa_cons (pv 5) (pa_cons (pe_tup pa_nil) pa_nil))) pa_nil))) pa_nil))))) (pw_or1 (pt_cmpR (Tp.op_eqE T.me_eq.at_ T.me_eq.fn G_eq (hr.mono (by decide)) T.b_eq pass0) (pv 1) (pv 0) (nomark _)))))) (pss_one (ps_ret pe_bl)) pss_nil)
      (pss_cons (ps_expr (Tp.pe_methE (pv 0) T.cl_Book T.me_constant G_constant (hr.mono (by decide)) T.b_constant .nil (fun σ => Tp.passA0 σ) (pa_cons (pv 6) pa_nil)))
      (pss_cons (ps_if (PW.pt (pw_or (pt_cmpR op_ne (Tp.pe_methE (pv 0) T.cl_Book T.me_constant G_constant (hr.mono (by decide)) T.b_constant .nil (fun σ => Tp.passA0 σ) (pa_cons (pv 5) pa_nil)) (pe_op op_add (pe_callB call_len_seq (by rfl) T.len_ Tp.bt_len (pa_cons (pv 2) pa_nil)) pe_int) (nomark _)) (pw_or1 (pt_cmpR op_ne (Tp.pe_methE (pv 1) T.cl_Book T.me_constant G_constant (hr.mono (by decide)) T.b_constant .nil (fun σ => Tp.passA0 σ) (pa_cons (pv 6) pa_nil)) (pe_op op_add (pe_callB call_len_seq (by rfl) T.len_ Tp.bt_len (pa_cons (pv 2) pa_nil)) pe_int) (nomark _))))) (pss_one (ps_ret pe_bl)) pss_nil)
      (pss_cons (ps_set (i := 7) scCopyR.nd rfl (Or.inl rfl) (pe_lst (pa_cons (pe_op op_cat (pv 2) (pe_lst (pa_cons (pe_tup (pa_cons (pv 6) (pa_cons (pe_tup pa_nil) pa_nil))) (pa_cons (pe_tup (pa_cons (pv 5) (pa_cons (pe_tup pa_nil) pa_nil))) pa_nil)))) (pa_cons (pe_op op_cat (pv 2) (pe_lst (pa_cons (pe_tup (pa_cons (pv 5) (pa_cons (pe_tup pa_nil) pa_nil))) (pa_cons (pe_tup (pa_cons (pv 6) (pa_cons (pe_tup pa_nil) pa_nil))) pa_nil)))) pa_nil))))
      (pss_one (ps_ret (pe_and (Tp.pe_callG G_holds (hr.mono (by decide)) hg (by rfl) T.mg_holds T.F_holds.kp T.b_holds .nil pass0 (pa_cons (pv 0) (pa_cons (pe_ix ix_list (pv 7) pe_int (fun _ _ => rfl)) pa_nil))) (pe_one (Tp.pe_callG G_holds (hr.mono (by decide)) hg (by rfl) T.mg_holds T.F_holds.kp T.b_holds .nil pass0 (pa_cons (pv 1) (pa_cons (pe_ix ix_list (pv 7) pe_int (fun _ _ => rfl)) pa_nil)))))))))))))))), ?_⟩
    obtain ⟨dx, ho⟩ := D0.b2.obj
    have lps : rows.length = ps.length := Paired.length D0.pr
    refine ⟨_, rfl, y, _, _, rfl, ho, no_look (by decide) (by decide), y, l2, m2, rows, as2, rfl, D0.b2, fun q1 hq1 => ?_⟩
    have S1 := same_new (o := .lst (as2.map V.ref)) hq1
    have g1 : (upd H q1 (.lst (as2.map V.ref))) q1 = some (.lst (as2.map V.ref)) := upd_same
    generalize upd H q1 (.lst (as2.map V.ref)) = H1 at S1 g1 ⊢
    refine ⟨_, rfl, .inl ⟨rfl, _, SqL.of g1⟩, ?_⟩
    refine ⟨Nat.zero_le _, fun n2 hn2 => ?_⟩
    have S2 := same_new (o := .tup []) hn2
    have g2 : (upd H1 n2 (.tup [])) n2 = some (.tup []) := upd_same
    generalize upd H1 n2 (.tup []) = H2 at S2 g2 ⊢
    refine ⟨(show 2 ≤ sizeLine from by decide), fun n3 hn3 => ?_⟩
    have S3 := same_new (o := .tup [.str "zz", .ref n2]) hn3
    have g3 : (upd H2 n3 (.tup [.str "zz", .ref n2])) n3 = some (.tup [.str "zz", .ref n2]) := upd_same
    generalize upd H2 n3 (.tup [.str "zz", .ref n2]) = H3 at S3 g3 ⊢
    have la2 : (as2.map V.ref).length < sizeLine := by
      rw [List.length_map, ← D0.b2.len]
      exact Nat.lt_of_le_of_lt (show _ ≤ 100 by omega) (by decide)
    refine ⟨q1, _, _, rfl, rfl, S3 _ _ (S2 _ _ g1), la2, ?_⟩
    have S4 : Same H (upd H3 q1 (.lst (as2.map V.ref ++ [.ref n3]))) := Tp.Same.mut (S1.trans (S2.trans S3)) hq1
    generalize upd H3 q1 (.lst (as2.map V.ref ++ [.ref n3])) = H4 at S4 ⊢
    refine ⟨40, rfl, by decide, by decide, fun D1 hD1 => lc_range (lo := 0) (n := 40) (fun i H' => Same H4 H' ∧ H' D1 = some (.lst ((names40.take i).map V.str))) ⟨same_new hD1, upd_same⟩ ?_ ?_⟩
    · rintro i H' hi ⟨S, hD⟩
      have hi : i < 40 := hi
      have l2 := names_len i hi
      refine ⟨rfl, _, rfl, _, rfl, ?_, _, _, rfl, rfl, ?_, _, _, rfl, rfl, ?_, _, hD, ?_, Tp.Same.mut S hD1, ?_⟩
      · exact Nat.lt_of_le_of_lt (Nat.log2_le_self _) (by omega)
      · rw [Int.zero_add]
        exact Nat.le_trans (show _ ≤ 10 by rw [show ("q" : Str).length = 1 from rfl]; omega) (by decide)
      · rw [Int.zero_add, app_len]
        exact Nat.le_trans (show _ ≤ 10 by rw [show ("q" : Str).length = 1 from rfl]; omega) (by decide)
      · rw [List.length_map, List.length_take]
        exact Nat.lt_of_le_of_lt (show _ ≤ 40 by omega) (by decide)
      · rw [upd_same, take_succ (names_get hi), List.map_append, Int.zero_add]
        rfl
    · rintro H5 ⟨S5, hD1'⟩
      have et : names40.take 40 = names40 := by decide +kernel
      rw [et] at hD1'
      have D5 := D0.same (S4.trans S5)
      refine ⟨D1, rfl, ⟨_, SqL.of hD1'⟩, fun D2 hD2 => lc_it (walk_list (xs := names40.map V.str)) (fun i H' => Same H5 H' ∧ H' D2 = some (.lst (((names40.take i).filter (fun z => !decide (cst z ∈ rows))).map V.str))) ⟨same_new hD2, upd_same⟩ ?_ ?_ ?_⟩
      · rintro i H' _ ⟨S, _⟩
        exact SqL.of (S _ _ hD1')
      · rintro i v _ H6 hi ⟨S6, hD⟩ ⟨rfl, hv⟩
        rw [List.getElem?_map] at hv
        obtain ⟨z, hz, rfl⟩ := Option.map_eq_some_iff.mp hv
        have nz := names_ok z (List.mem_of_getElem? hz)
        have i40 : i < 40 := by
          have := (List.getElem?_eq_some_iff.mp hz).1
          exact this
        refine ⟨rfl, _, rfl, ?_⟩
        refine ⟨Nat.zero_le _, fun n7 hn7 => ?_⟩
        have S7 := same_new (o := .tup []) hn7
        have g7 : (upd H6 n7 (.tup [])) n7 = some (.tup []) := upd_same
        generalize upd H6 n7 (.tup []) = H7 at S7 g7 ⊢
        refine ⟨(show 2 ≤ sizeLine from by decide), fun n8 hn8 => ?_⟩
        have S8 := same_new (o := .tup [.str z, .ref n7]) hn8
        have g8 : (upd H7 n8 (.tup [.str z, .ref n7])) n8 = some (.tup [.str z, .ref n7]) := upd_same
        generalize upd H7 n8 (.tup [.str z, .ref n7]) = H8 at S8 g8 ⊢
        have D8 := D5.same (S6.trans (S7.trans S8))
        have hD8 := S8 _ _ (S7 _ _ hD)
        have S58 := S6.trans (S7.trans S8)
        refine ⟨_, rfl, BRow.data (cst z), rows.map BRow.data, RowAt.mkL (l := []) (SqT.of g8) (SqT.of (S8 _ _ g7)), .lst (SqL.of D8.ls) (rows_dp D8.pr), sh_row2 (r := cst z) nz, rows_shaped rws.good.nm, _, rfl, ?_⟩
        rw [rows_any]
        have fl : ((names40.take i).filter (fun z => !decide (cst z ∈ rows))).length ≤ 40 := Nat.le_trans (List.length_filter_le _ _) (by rw [List.length_take]; omega)
        by_cases mm : cst z ∈ rows
        · refine ifnY mm ⟨S58, ?_⟩
          rw [take_succ hz, List.filter_append, show List.filter (fun z => !decide (cst z ∈ rows)) [z] = [] from by simp [mm], List.append_nil]
          exact hD8
        · refine ifnN mm ⟨_, rfl, _, hD8, ?_, Tp.Same.mut S58 hD2, ?_⟩
          · rw [List.length_map]
            exact Nat.lt_of_le_of_lt fl (by decide)
          · rw [upd_same, take_succ hz, List.filter_append, show List.filter (fun z => !decide (cst z ∈ rows)) [z] = [z] from by simp [mm], List.map_append]
            rfl
      · rintro H6 ⟨S6, hD⟩
        have et : names40.take (names40.map V.str).length = names40 := by decide +kernel
        rw [et] at hD
        obtain ⟨z0, z1, zs, ef, n01, okz⟩ := free_two (rows := rows) (by omega)
        rw [ef] at hD
        obtain ⟨nz0, nr0⟩ := okz z0 (.inl rfl)
        obtain ⟨nz1, nr1⟩ := okz z1 (.inr rfl)
        have D6 := D5.same S6
        have F6 : Far [l, m, l2, m2] H H6 := Far.same (S4.trans (S5.trans S6))
        have rws0 := rws_snoc rws nz0 nr0 (by omega)
        have rws1 := rws_snoc rws nz1 nr1 (by omega)
        have len0 : (rows ++ [cst z0]).length = rows.length + 1 := by rw [List.length_append]; rfl
        have len1 : (rows ++ [cst z1]).length = rows.length + 1 := by rw [List.length_append]; rfl
        have nr10 : cst z0 ∉ rows ++ [cst z1] := fun hm => by
          rcases List.mem_append.mp hm with hm | hm
          · exact nr0 hm
          · exact n01 (congrArg BRow.nm (List.mem_singleton.mp hm))
        have nr01 : cst z1 ∉ rows ++ [cst z0] := fun hm => by
          rcases List.mem_append.mp hm with hm | hm
          · exact nr1 hm
          · exact n01 (congrArg BRow.nm (List.mem_singleton.mp hm)).symm
        have rws10 := rws_snoc rws1 nz0 nr10 (by omega)
        have rws01 := rws_snoc rws0 nz1 nr01 (by omega)
        have far2 : ∀ {Ha Hb : Hp}, Kp2 l2 m2 Ha Hb → Far [l, m, l2, m2] Ha Hb := fun k c o n h => k c o (fun e => n (by rw [e]; simp)) (fun e => n (by rw [e]; simp)) h
        have far1 : ∀ {Ha Hb : Hp}, Kp2 l m Ha Hb → Far [l, m, l2, m2] Ha Hb := fun k c o n h => k c o (fun e => n (by rw [e]; simp)) (fun e => n (by rw [e]; simp)) h
        refine ⟨_, rfl, D2, _, 0, _, rfl, rfl, SqL.of hD, atI_nat (j := 0) rfl, _, rfl, D2, _, 1, _, rfl, rfl, SqL.of hD, atI_nat (j := 1) rfl, _, _, rfl, ?_⟩
        obtain ⟨dy6, hy6⟩ := D6.b2.obj
        refine ⟨_, rfl, y, _, _, rfl, hy6, no_look (by decide) (by decide), _, rfl, y, l2, m2, rows, as2, .str z0, true, rfl, D6.b2, by omega, name_is nz0, (fun e => by cases e), fun z ez _ H7 as7 k7 b7 => ?_⟩
        cases ez
        rw [add_new (r := ⟨z0, .inl []⟩) nr0] at b7
        have D7 := D6.t2 k7 b7
        have F7 := F6.trans (far2 k7)
        refine ⟨_, rfl, _, rfl, x, l, m, rows, as, q0, ps, rfl, D7.b1, SqL.of D7.ls, D7.pr, rws, D7.sy, fun H8 S8 => ⟨_, rfl, iteF ?_⟩⟩
        have D8 := D7.same S8
        refine ⟨_, rfl, _, rfl, _, rfl, ?_⟩
        refine ⟨Nat.zero_le _, fun n9 hn9 => ?_⟩
        have S9 := same_new (o := .tup []) hn9
        have g9 : (upd H8 n9 (.tup [])) n9 = some (.tup []) := upd_same
        generalize upd H8 n9 (.tup []) = H9 at S9 g9 ⊢
        refine ⟨(show 2 ≤ sizeLine from by decide), fun n10 hn10 => ?_⟩
        have S10 := same_new (o := .tup [.str z0, .ref n9]) hn10
        have g10 : (upd H9 n10 (.tup [.str z0, .ref n9])) n10 = some (.tup [.str z0, .ref n9]) := upd_same
        generalize upd H9 n10 (.tup [.str z0, .ref n9]) = H10 at S10 g10 ⊢
        refine ⟨(show 1 ≤ sizeLine from by decide), fun n11 hn11 => ?_⟩
        have S11 := same_new (o := .lst [.ref n10]) hn11
        have g11 : (upd H10 n11 (.lst [.ref n10])) n11 = some (.lst [.ref n10]) := upd_same
        generalize upd H10 n11 (.lst [.ref n10]) = H11 at S11 g11 ⊢
        refine ⟨q0, n11, _, _, rfl, rfl, (D8.same (S9.trans (S10.trans S11))).ls, g11, (by rw [List.length_map, ← lps]; exact Nat.le_trans (show rows.length + 1 ≤ 100 by omega) (by decide)), fun n12 hn12 => ?_⟩
        have S12 := same_new (o := .lst (ps.map V.ref ++ [.ref n10])) hn12
        have g12 : (upd H11 n12 (.lst (ps.map V.ref ++ [.ref n10]))) n12 = some (.lst (ps.map V.ref ++ [.ref n10])) := upd_same
        generalize upd H11 n12 (.lst (ps.map V.ref ++ [.ref n10])) = H12 at S12 g12 ⊢
        have D12 := D8.same ((Same.trans S9 (Same.trans S10 (Same.trans S11 S12))))
        have l99 : (ps.map V.ref).length + 1 ≤ sizeLine := by
          rw [List.length_map, ← lps]
          exact Nat.le_trans (show _ ≤ 100 by omega) (by decide)
        have pr12 : Paired (RowAt K H12) (rows ++ [cst z0]) (ps ++ [n10]) := paired_snoc (D8.same (S9.trans (S10.trans (S11.trans S12)))).pr (RowAt.mkL (l := []) (SqT.of (S12 _ _ (S11 _ _ g10))) (SqT.of (S12 _ _ (S11 _ _ (S10 _ _ g9)))))
        refine ⟨y, l2, m2, rows ++ [cst z0], as7, n12, ps ++ [n10], rfl, D12.b2, by rw [List.map_append]; exact SqL.of g12, pr12, rws0, D12.sy, fun H13 S13 => ⟨_, rfl, iteF ?_⟩⟩
        have D13 := D12.same S13
        obtain ⟨dy13, hy13⟩ := D13.b2.obj
        refine ⟨_, rfl, _, rfl, y, _, _, _, rfl, hy13, book_ty T D13.b1, first_self, y, l2, m2, rows ++ [cst z0], as7, .ref x, rfl, D13.b2, .inl ⟨x, l, m, rows, as, rfl, D13.b1, rws0.good.nm, rws.good.nm, _, rfl, ?_⟩⟩
        rw [rows_eq]
        refine ifN (fun e => ?_) ?_
        · have := congrArg List.length e
          omega
        have F13 : Far [l, m, l2, m2] H H13 := F7.trans (Far.same (S8.trans (((Same.trans S9 (Same.trans S10 (Same.trans S11 S12)))).trans S13)))
        obtain ⟨dx13, hx13⟩ := D13.b1.obj
        refine ⟨_, rfl, x, _, _, rfl, hx13, no_look (by decide) (by decide), _, rfl, x, l, m, rows, as, .str z1, true, rfl, D13.b1, by omega, name_is nz1, (fun e => by cases e), fun z ez _ H14 as14 k14 b14 => ?_⟩
        cases ez
        rw [add_new (r := ⟨z1, .inl []⟩) nr1] at b14
        have D14 := D13.t1 k14 b14
        have F14 := F13.trans (far1 k14)
        obtain ⟨dx14, hx14⟩ := D14.b1.obj
        refine ⟨_, rfl, x, _, _, rfl, hx14, no_look (by decide) (by decide), _, rfl, x, l, m, rows ++ [cst z1], as14, .str z0, true, rfl, D14.b1, by omega, name_is nz0, (fun e => by cases e), fun z ez _ H15 as15 k15 b15 => ?_⟩
        cases ez
        rw [add_new (r := ⟨z0, .inl []⟩) nr10] at b15 ⊢
        have D15 := D14.t1 k15 b15
        have F15 := F14.trans (far1 k15)
        refine ⟨_, rfl, q0, _, rfl, .inl (SqL.of D15.ls), _, _, rfl, rfl, rfl, _, rfl, ?_⟩
        rw [List.length_map, ← lps]
        refine ifnY (congrArg V.int (by rw [len1]; omega)) ?_
        obtain ⟨dy15, hy15⟩ := D15.b2.obj
        refine ⟨_, rfl, y, _, _, rfl, hy15, no_look (by decide) (by decide), _, rfl, y, l2, m2, rows ++ [cst z0], as7, .str z1, true, rfl, D15.b2, by omega, name_is nz1, (fun e => by cases e), fun z ez _ H16 as16 k16 b16 => ?_⟩
        cases ez
        rw [add_new (r := ⟨z1, .inl []⟩) nr01] at b16 ⊢
        have D16 := D15.t2 k16 b16
        have F16 := F15.trans (far2 k16)
        refine ⟨_, rfl, q0, _, rfl, .inl (SqL.of D16.ls), _, _, rfl, rfl, rfl, _, rfl, ?_⟩
        rw [List.length_map, ← lps]
        refine ifnY (congrArg V.int (by rw [len0]; omega)) ?_
        refine ⟨_, rfl, ?_⟩
        skip
        refine ⟨_, rfl, ?_⟩
        refine ⟨Nat.zero_le _, fun n17 hn17 => ?_⟩
        have S17 := same_new (o := .tup []) hn17
        have g17 : (upd H16 n17 (.tup [])) n17 = some (.tup []) := upd_same
        generalize upd H16 n17 (.tup []) = H17 at S17 g17 ⊢
        refine ⟨(show 2 ≤ sizeLine from by decide), fun n18 hn18 => ?_⟩
        have S18 := same_new (o := .tup [.str z1, .ref n17]) hn18
        have g18 : (upd H17 n18 (.tup [.str z1, .ref n17])) n18 = some (.tup [.str z1, .ref n17]) := upd_same
        generalize upd H17 n18 (.tup [.str z1, .ref n17]) = H18 at S18 g18 ⊢
        refine ⟨_, rfl, ?_⟩
        refine ⟨Nat.zero_le _, fun n19 hn19 => ?_⟩
        have S19 := same_new (o := .tup []) hn19
        have g19 : (upd H18 n19 (.tup [])) n19 = some (.tup []) := upd_same
        generalize upd H18 n19 (.tup []) = H19 at S19 g19 ⊢
        refine ⟨(show 2 ≤ sizeLine from by decide), fun n20 hn20 => ?_⟩
        have S20 := same_new (o := .tup [.str z0, .ref n19]) hn20
        have g20 : (upd H19 n20 (.tup [.str z0, .ref n19])) n20 = some (.tup [.str z0, .ref n19]) := upd_same
        generalize upd H19 n20 (.tup [.str z0, .ref n19]) = H20 at S20 g20 ⊢
        refine ⟨(show 2 ≤ sizeLine from by decide), fun n21 hn21 => ?_⟩
        have S21 := same_new (o := .lst [.ref n18, .ref n20]) hn21
        have g21 : (upd H20 n21 (.lst [.ref n18, .ref n20])) n21 = some (.lst [.ref n18, .ref n20]) := upd_same
        generalize upd H20 n21 (.lst [.ref n18, .ref n20]) = H21 at S21 g21 ⊢
        refine ⟨q0, n21, _, _, rfl, rfl, (D16.same (Same.trans S17 (Same.trans S18 (Same.trans S19 (Same.trans S20 S21))))).ls, g21, (by rw [List.length_map, ← lps]; exact Nat.le_trans (show rows.length + 2 ≤ 100 by omega) (by decide)), fun n22 hn22 => ?_⟩
        have S22 := same_new (o := .lst (ps.map V.ref ++ [.ref n18, .ref n20])) hn22
        have g22 : (upd H21 n22 (.lst (ps.map V.ref ++ [.ref n18, .ref n20]))) n22 = some (.lst (ps.map V.ref ++ [.ref n18, .ref n20])) := upd_same
        generalize upd H21 n22 (.lst (ps.map V.ref ++ [.ref n18, .ref n20])) = H22 at S22 g22 ⊢
        refine ⟨_, rfl, ?_⟩
        refine ⟨_, rfl, ?_⟩
        refine ⟨Nat.zero_le _, fun n23 hn23 => ?_⟩
        have S23 := same_new (o := .tup []) hn23
        have g23 : (upd H22 n23 (.tup [])) n23 = some (.tup []) := upd_same
        generalize upd H22 n23 (.tup []) = H23 at S23 g23 ⊢
        refine ⟨(show 2 ≤ sizeLine from by decide), fun n24 hn24 => ?_⟩
        have S24 := same_new (o := .tup [.str z0, .ref n23]) hn24
        have g24 : (upd H23 n24 (.tup [.str z0, .ref n23])) n24 = some (.tup [.str z0, .ref n23]) := upd_same
        generalize upd H23 n24 (.tup [.str z0, .ref n23]) = H24 at S24 g24 ⊢
        refine ⟨_, rfl, ?_⟩
        refine ⟨Nat.zero_le _, fun n25 hn25 => ?_⟩
        have S25 := same_new (o := .tup []) hn25
        have g25 : (upd H24 n25 (.tup [])) n25 = some (.tup []) := upd_same
        generalize upd H24 n25 (.tup []) = H25 at S25 g25 ⊢
        refine ⟨(show 2 ≤ sizeLine from by decide), fun n26 hn26 => ?_⟩
        have S26 := same_new (o := .tup [.str z1, .ref n25]) hn26
        have g26 : (upd H25 n26 (.tup [.str z1, .ref n25])) n26 = some (.tup [.str z1, .ref n25]) := upd_same
        generalize upd H25 n26 (.tup [.str z1, .ref n25]) = H26 at S26 g26 ⊢
        refine ⟨(show 2 ≤ sizeLine from by decide), fun n27 hn27 => ?_⟩
        have S27 := same_new (o := .lst [.ref n24, .ref n26]) hn27
        have g27 : (upd H26 n27 (.lst [.ref n24, .ref n26])) n27 = some (.lst [.ref n24, .ref n26]) := upd_same
        generalize upd H26 n27 (.lst [.ref n24, .ref n26]) = H27 at S27 g27 ⊢
        refine ⟨q0, n27, _, _, rfl, rfl, (D16.same (Same.trans S17 (Same.trans S18 (Same.trans S19 (Same.trans S20 (Same.trans S21 (Same.trans S22 (Same.trans S23 (Same.trans S24 (Same.trans S25 (Same.trans S26 S27))))))))))).ls, g27, (by rw [List.length_map, ← lps]; exact Nat.le_trans (show rows.length + 2 ≤ 100 by omega) (by decide)), fun n28 hn28 => ?_⟩
        have S28 := same_new (o := .lst (ps.map V.ref ++ [.ref n24, .ref n26])) hn28
        have g28 : (upd H27 n28 (.lst (ps.map V.ref ++ [.ref n24, .ref n26]))) n28 = some (.lst (ps.map V.ref ++ [.ref n24, .ref n26])) := upd_same
        generalize upd H27 n28 (.lst (ps.map V.ref ++ [.ref n24, .ref n26])) = H28 at S28 g28 ⊢
        refine ⟨(show 2 ≤ sizeLine from by decide), fun n29 hn29 => ?_⟩
        have S29 := same_new (o := .lst [.ref n22, .ref n28]) hn29
        have g29 : (upd H28 n29 (.lst [.ref n22, .ref n28])) n29 = some (.lst [.ref n22, .ref n28]) := upd_same
        generalize upd H28 n29 (.lst [.ref n22, .ref n28]) = H29 at S29 g29 ⊢
        have SZ := (Same.trans S17 (Same.trans S18 (Same.trans S19 (Same.trans S20 (Same.trans S21 (Same.trans S22 (Same.trans S23 (Same.trans S24 (Same.trans S25 (Same.trans S26 (Same.trans S27 (Same.trans S28 S29))))))))))))
        have DZ := D16.same SZ
        have FZ : Far [l, m, l2, m2] H H29 := F16.trans (Far.same SZ)
        have prA : Paired (RowAt K H29) (rows ++ [cst z1] ++ [cst z0]) (ps ++ [n18] ++ [n20]) := paired_snoc (paired_snoc DZ.pr (RowAt.mkL (l := []) (SqT.of ((Same.trans S19 (Same.trans S20 (Same.trans S21 (Same.trans S22 (Same.trans S23 (Same.trans S24 (Same.trans S25 (Same.trans S26 (Same.trans S27 (Same.trans S28 S29)))))))))) _ _ g18)) (SqT.of ((Same.trans S18 (Same.trans S19 (Same.trans S20 (Same.trans S21 (Same.trans S22 (Same.trans S23 (Same.trans S24 (Same.trans S25 (Same.trans S26 (Same.trans S27 (Same.trans S28 S29))))))))))) _ _ g17)))) (RowAt.mkL (l := []) (SqT.of ((Same.trans S21 (Same.trans S22 (Same.trans S23 (Same.trans S24 (Same.trans S25 (Same.trans S26 (Same.trans S27 (Same.trans S28 S29)))))))) _ _ g20)) (SqT.of ((Same.trans S20 (Same.trans S21 (Same.trans S22 (Same.trans S23 (Same.trans S24 (Same.trans S25 (Same.trans S26 (Same.trans S27 (Same.trans S28 S29))))))))) _ _ g19)))
        have prB : Paired (RowAt K H29) (rows ++ [cst z0] ++ [cst z1]) (ps ++ [n24] ++ [n26]) := paired_snoc (paired_snoc DZ.pr (RowAt.mkL (l := []) (SqT.of ((Same.trans S25 (Same.trans S26 (Same.trans S27 (Same.trans S28 S29)))) _ _ g24)) (SqT.of ((Same.trans S24 (Same.trans S25 (Same.trans S26 (Same.trans S27 (Same.trans S28 S29))))) _ _ g23)))) (RowAt.mkL (l := []) (SqT.of ((Same.trans S27 (Same.trans S28 S29)) _ _ g26)) (SqT.of ((Same.trans S26 (Same.trans S27 (Same.trans S28 S29))) _ _ g25)))
        refine ⟨_, rfl, _, rfl, n29, _, 0, _, rfl, rfl, SqL.of g29, rfl, x, l, m, rows ++ [cst z1] ++ [cst z0], as15, n22, _, rfl, DZ.b1, by rw [List.map_append, List.map_append, List.append_assoc]; exact SqL.of ((Same.trans S23 (Same.trans S24 (Same.trans S25 (Same.trans S26 (Same.trans S27 (Same.trans S28 S29)))))) _ _ g22), prA, rws10, DZ.sy, fun HY SY => ⟨_, rfl, iteT ?_⟩⟩
        have DY := DZ.same SY
        exact ⟨_, rfl, _, rfl, n29, _, 1, _, rfl, rfl, SqL.of (SY _ _ g29), rfl, y, l2, m2, rows ++ [cst z0] ++ [cst z1], as16, n28, _, rfl, DY.b2, by rw [List.map_append, List.map_append, List.append_assoc]; exact SqL.of (SY _ _ (S29 _ _ g28)), paired_imp (fun _ _ h => h.same SY) prB, rws01, DY.sy, fun HX SX => q _ (FZ.trans (Far.same (SY.trans SX)))⟩
end
end L04

set_option Elab.async false
set_option linter.all false
set_option maxRecDepth 100000
set_option maxHeartbeats 4000000
set_option pp.deepTerms false
set_option pp.deepTerms.threshold 4
set_option pp.maxSteps 1000
namespace L04
open PySem L2 Tp
section
variable {P : Program} {w : World} {K : PySem.W.Frag} {mg : Str → Option Value} {base : Heap} {a : Ad} {d : Fd}
/-! ### lists that are bent: their items -/
def thirdB (e : PyData) : Bool := match itemsD e with
  | [u, s] => (match u with
    | .str z => decide (z.length ≤ 10000)
    | _ => true) && (match s with
    | .int i => decide (i < 10 ^ 30)
    | _ => true)
  | _ => true
structure BtOk (e : PyData) : Prop where
  lay : e.canLay0 = true
  dep : e.depth ≤ 3
  thr : thirdB e = true
  fit : FitQ 3 1000 e
  its : ∀ x ∈ itemsD e, FitQ 3 1000 x
theorem third_ok {e u s : PyData} (h : thirdB e = true) (hi : itemsD e = [u, s]) : (∀ z, u = .str z → z.length ≤ 10000) ∧ ∀ i, s = .int i → i < 10 ^ 30 := by
  unfold thirdB at h
  rw [hi] at h
  obtain ⟨h1, h2⟩ := Bool.and_eq_true_iff.mp h
  constructor
  · intro z e
    subst e
    exact of_decide_eq_true h1
  · intro i e
    subst e
    exact of_decide_eq_true h2
theorem BtOk.io {e : PyData} (h : BtOk e) : ItOk e := ⟨h.lay, h.dep, fun u s z hi hz => (third_ok h.thr hi).1 z hz⟩
theorem numsO_len {n : Nat} : ∀ {es : List PyData} {ns : List Nat}, numsO n es = some ns → ns.length = es.length ∧ ∀ k ∈ ns, k < n
  | [], ns, h => by
    cases h
    exact ⟨rfl, fun k hk => by cases hk⟩
  | e :: es, ns, h => by
    rw [numsO_cons] at h
    cases a : numD n e with
    | none => rw [a] at h; cases h
    | some k =>
      cases b : numsO n es with
      | none => rw [a, b] at h; cases h
      | some ks =>
        rw [a, b] at h
        cases h
        obtain ⟨h1, h2⟩ := numsO_len b
        refine ⟨by rw [List.length_cons, List.length_cons, h1], fun j hj => ?_⟩
        rcases List.mem_cons.mp hj with z | z
        · rw [z]
          exact (numD_some a).2
        · exact h2 j z
theorem item_ok {rows : List BRow} {e : PyData} {r : BRow} (h : itemD rows e = .ok r) (b : BtOk e) : GoodL r rows.length ∧ (∀ t, r.sec = .inr t → t < 10 ^ 30) ∧ r ∉ rows := by
  unfold itemD at h
  split at h
  · rename_i u s hi
    obtain ⟨t1, t2⟩ := third_ok b.thr hi
    unfold twoD at h
    split at h
    · cases h
    · rename_i so
      split at h
      · cases h
      · rename_i no
        have so : secOk s = true := by simpa using so
        have no : nmD u = true := by simpa using no
        unfold txtD at h
        cases u with
        | str z =>
          have nz : nmB z = true := no
          have lz := t1 z rfl
          have h : rowD rows z (secD rows.length s) = .ok r := h
          cases hs : secD rows.length s with
          | none => rw [hs] at h; cases h
          | some sec =>
            rw [hs] at h
            have h : (if ⟨z, sec⟩ ∈ rows then ItD.row else .ok ⟨z, sec⟩) = .ok r := h
            by_cases nm : (⟨z, sec⟩ : BRow) ∈ rows
            · rw [if_pos nm] at h
              cases h
            · rw [if_neg nm] at h
              cases h
              refine ⟨⟨nz, lz, ?_⟩, ?_, nm⟩
              · unfold secD at hs
                split at hs
                · cases hs
                  exact .inr ⟨_, rfl⟩
                · rename_i ni
                  obtain ⟨ns, hn, rfl⟩ := Option.map_eq_some_iff.mp hs
                  obtain ⟨l1, l2⟩ := numsO_len hn
                  refine .inl ⟨ns, rfl, ?_, l2⟩
                  unfold secOk at so
                  rcases Bool.or_eq_true_iff.mp so with k | k
                  · cases s with
                    | int i => exact absurd rfl (ni i)
                    | _ => cases k
                  · have := of_decide_eq_true (Bool.and_eq_true_iff.mp k).2
                    omega
              · intro t ht
                cases s with
                | int i =>
                  have hs : some (Sum.inr i.toNat) = some sec := hs
                  cases hs
                  have := t2 i rfl
                  cases ht
                  omega
                | _ =>
                  unfold secD at hs
                  obtain ⟨ns, _, rfl⟩ := Option.map_eq_some_iff.mp hs
                  cases ht
        | _ => cases h
  · cases h
theorem mk_good : ∀ {ds : List PyData} {rows rows' : List BRow}, mkD rows ds = .ok rows' → (∀ e ∈ ds, BtOk e) → Rws rows → rows.length + ds.length ≤ 100 → Rws rows' ∧ rows'.length ≤ rows.length + ds.length
  | [], rows, rows', h, _, g, _ => by
    cases h
    exact ⟨g, Nat.le_refl _⟩
  | e :: ds, rows, rows', h, hb, g, l => by
    rw [mkD_step] at h
    rw [List.length_cons] at l ⊢
    cases ei : itemD rows e with
    | row => rw [ei] at h; cases h
    | name u => rw [ei] at h; cases h
    | ok r =>
      rw [ei] at h
      obtain ⟨g1, g2, g3⟩ := item_ok ei (hb e List.mem_cons_self)
      have := (good_add g g1 g2 (by omega)).1
      rw [add_new g3] at this
      have le : (rows ++ [r]).length = rows.length + 1 := by rw [List.length_append]; rfl
      obtain ⟨k1, k2⟩ := mk_good h (fun x hx => hb x (List.mem_cons_of_mem _ hx)) this (by omega)
      exact ⟨k1, by omega⟩
theorem mk_row : ∀ {ds : List PyData} {rows : List BRow} {e : PyData}, mkD rows ds = .row e → e ∈ ds
  | [], _, _, h => by cases h
  | f :: ds, rows, e, h => by
    rw [mkD_step] at h
    cases ei : itemD rows f with
    | row =>
      rw [ei] at h
      cases h
      exact List.mem_cons_self
    | name u => rw [ei] at h; cases h
    | ok r =>
      rw [ei] at h
      exact List.mem_cons_of_mem _ (mk_row h)
theorem item_name {rows : List BRow} {e u : PyData} (h : itemD rows e = .name u) : u ∈ itemsD e := by
  unfold itemD at h
  split at h
  · rename_i u' s hi
    rw [hi]
    unfold twoD at h
    split at h
    · cases h
    · split at h
      · cases h
        exact List.mem_cons_self
      · unfold txtD at h
        split at h
        · unfold rowD at h
          split at h
          · cases h
          · split at h <;> cases h
        · cases h
  · cases h
theorem mk_name : ∀ {ds : List PyData} {rows : List BRow} {u : PyData}, mkD rows ds = .name u → ∃ e ∈ ds, u ∈ itemsD e
  | [], _, _, h => by cases h
  | f :: ds, rows, u, h => by
    rw [mkD_step] at h
    cases ei : itemD rows f with
    | row => rw [ei] at h; cases h
    | name u' =>
      rw [ei] at h
      cases h
      exact ⟨f, List.mem_cons_self, item_name ei⟩
    | ok r =>
      rw [ei] at h
      obtain ⟨e, he, hu⟩ := mk_name h
      exact ⟨e, List.mem_cons_of_mem _ he, hu⟩
/-! ### the things that may come in -/
def oddB (N : Nat) : List PyData := [.none, .tuple [.str "a"], .tuple [.str "a", .int 1, .int 2], .tuple [.str "A", .tuple []], .tuple [.str "a", .int (-1)], .tuple [.str "a", .bool true], .tuple [.str "a", .str "0"], .int 3, .str "ab", .tuple [.str "", .int 2],
  .tuple [.str "f", .tuple [.int ((N : Nat) + 9)]], .tuple [.str "f", .list [.int (-1)]], .list [.str "a", .list [.none]], .tuple [.str "f", .tuple [.int 0, .int 0, .int 0, .int 0]], .tuple [.none, .int 3],
  .tuple [.str "f", .tuple [.bool false]], .tuple [.str "g", .list [.int 0, .bool true]], .tuple [.str "A", .int (-1)], .tuple [.str "", .str "0"], .tuple [.none, .tuple [.int 0, .int 0, .int 0, .int 0]], .tuple [.str "A", .tuple [.int 99]], .tuple [.str "1a", .list [.bool true]]]
theorem oddB_ok {N : Nat} (l : N ≤ 1000) : ∀ e ∈ oddB N, BtOk e := by
  intro e he
  unfold oddB at he
  simp only [List.mem_cons, List.not_mem_nil, or_false] at he
  have big : BtOk (.tuple [.str "f", .tuple [.int ((N : Nat) + 9)]]) := by
    have f1 : FitQ 1 60 (.tuple [.int (((N : Nat) : Int) + 9)]) := by
      refine (fitq_tuple (n := 0) (w := 50) (xs := [.int (((N : Nat) : Int) + 9)]) fun x hx => ?_).up (Nat.le_refl _) (show 1 * (50 + 2) + 3 ≤ 60 from by decide)
      rw [List.mem_singleton.mp hx]
      exact fitq_int (by omega)
    have f2 : FitQ 1 60 (.str "f") := by
      unfold FitQ
      decide +kernel
    have its : ∀ x ∈ ([.str "f", .tuple [.int (((N : Nat) : Int) + 9)]] : List PyData), FitQ 1 60 x := fun x hx => by
      rcases List.mem_cons.mp hx with hx | hx
      · rw [hx]; exact f2
      · rw [List.mem_singleton.mp hx]; exact f1
    refine ⟨?_, ?_, rfl, (fitq_tuple its).up (by decide) (show 2 * (60 + 2) + 3 ≤ 1000 from by decide), fun x hx => (its x hx).up (by decide) (by decide)⟩
    · simp only [PyData.canLay0, PyData.canLayAll0]
      decide +kernel
    · simp only [PyData.depth, PyData.depthAll]
      decide
  rcases he with rfl | rfl | rfl | rfl | rfl | rfl | rfl | rfl | rfl | rfl | rfl | rfl | rfl | rfl | rfl | rfl | rfl | rfl | rfl | rfl | rfl | rfl
  all_goals first
    | exact big
    | exact ⟨by decide +kernel, by decide +kernel, by decide +kernel, ⟨by decide +kernel, by decide +kernel, by decide +kernel⟩, by unfold FitQ; decide +kernel⟩
theorem row_bt {r : BRow} {n : Nat} (g : GoodL r n) (n6 : n ≤ 1000000) (tb : ∀ t, r.sec = .inr t → t < 10 ^ 30) : BtOk r.data ∧ BtOk (.list (itemsD r.data)) := by
  have f := row_fit g n6 tb
  obtain ⟨k1, k2⟩ := row_lay g.1
  obtain ⟨nm, sec⟩ := r
  have s1 : FitQ 1 165 (.str nm) := (fitq_str (nm_sm g.1)).up (Nat.le_refl _) (by decide)
  obtain ⟨sd, es, fs⟩ : ∃ sd, itemsD (BRow.data ⟨nm, sec⟩) = [.str nm, sd] ∧ FitQ 1 165 sd := by
    rcases g.2.2 with ⟨l, e, l3, lt⟩ | ⟨t, e⟩
    · cases e
      exact ⟨_, rfl, nums_fit (fun k hk => by have := lt k hk; omega) l3⟩
    · cases e
      have := tb t rfl
      exact ⟨_, rfl, (fitq_int (by omega)).up (Nat.le_refl _) (by decide)⟩
  have its : ∀ x ∈ ([.str nm, sd] : List PyData), FitQ 1 165 x := fun x hx => by
    rcases List.mem_cons.mp hx with hx | hx
    · rw [hx]; exact s1
    · rw [List.mem_singleton.mp hx]; exact fs
  have th : thirdB (BRow.data ⟨nm, sec⟩) = true := by
    have lz : decide (nm.length ≤ 10000) = true := decide_eq_true g.2.1
    cases sec with
    | inl l =>
      show (decide (nm.length ≤ 10000) && true) = true
      rw [lz]
      rfl
    | inr t =>
      have := tb t rfl
      show (decide (nm.length ≤ 10000) && decide (((t : Nat) : Int) < 10 ^ 30)) = true
      rw [lz, decide_eq_true (by omega)]
      rfl
  refine ⟨⟨k1, by omega, th, f.up (by decide) (by decide), fun x hx => ?_⟩, ⟨?_, ?_, ?_, ?_, fun x hx => ?_⟩⟩
  · rw [es] at hx
    exact (its x hx).up (by decide) (by decide)
  · cases sec <;> exact k1
  · cases sec <;> (simp only [BRow.data, itemsD, PyData.depth] at k2 ⊢; omega)
  · cases sec <;> exact th
  · rw [es]
    exact (fitq_list its).up (by decide) (show 2 * (165 + 2) + 3 ≤ 1000 from by decide)
  · have hx : x ∈ itemsD (BRow.data ⟨nm, sec⟩) := hx
    rw [es] at hx
    exact (its x hx).up (by decide) (by decide)
/-! ### lists of data that are changed -/
theorem dpAll_set {H : Hp} : ∀ {xs : List V} {ds : List PyData} {j : Nat} {v : V} {e : PyData}, DpAll K H xs ds → Dp K H v e → DpAll K H (xs.set j v) (ds.set j e)
  | _, _, j, _, _, .nil, _ => .nil
  | _, _, 0, _, _, .cons _ t, h => .cons h t
  | _, _, j + 1, _, _, .cons x t, h => .cons x (dpAll_set t h)
theorem dpAll_take {H : Hp} : ∀ {xs : List V} {ds : List PyData} (n : Nat), DpAll K H xs ds → DpAll K H (xs.take n) (ds.take n) ∧ DpAll K H (xs.drop n) (ds.drop n)
  | _, _, n, .nil => by
    cases n <;> exact ⟨.nil, .nil⟩
  | _, _, 0, .cons x t => ⟨.nil, .cons x t⟩
  | _, _, n + 1, .cons x t => ⟨.cons x (dpAll_take n t).1, (dpAll_take n t).2⟩
theorem dpAll_put {H : Hp} {xs : List V} {ds : List PyData} {n : Nat} {v : V} {e : PyData} (h : DpAll K H xs ds) (hv : Dp K H v e) : DpAll K H (xs.take n ++ [v] ++ xs.drop n) (ds.take n ++ [e] ++ ds.drop n) :=
  dpAll_app (dpAll_app (dpAll_take n h).1 (.cons hv .nil)) (dpAll_take n h).2
theorem put_len {α : Type} (l : List α) (n : Nat) (x : α) : (l.take n ++ [x] ++ l.drop n).length = l.length + 1 := by
  rw [List.length_append, List.length_append, List.length_take, List.length_drop, List.length_singleton]
  omega
theorem put_mem {α : Type} {l : List α} {n : Nat} {x y : α} (h : y ∈ l.take n ++ [x] ++ l.drop n) : y ∈ l ∨ y = x := by
  rcases List.mem_append.mp h with h | h
  · rcases List.mem_append.mp h with h | h
    · exact .inl (List.mem_of_mem_take h)
    · exact .inr (List.mem_singleton.mp h)
  · exact .inl (List.mem_of_mem_drop h)
theorem Ds.far {C x l m y l2 m2 q : Addr} {H H' : Hp} {rows1 rows2 rows : List BRow} {as as2 ps : List Addr} {L : List Addr} (g : Ds P w K C H x l m y l2 m2 q rows1 rows2 rows as as2 ps) (k : Far L H H') (hL : ∀ c ∈ L, (∃ zs, H c = some (.lst zs)) ∧ c ≠ l ∧ c ≠ l2 ∧ c ≠ q) : Ds P w K C H' x l m y l2 m2 q rows1 rows2 rows as as2 ps := by
  have nl : ∀ {c : Addr} {o : HO}, H c = some o → (∀ zs, o ≠ .lst zs) → c ∉ L := fun {c o} h n hc => by
    obtain ⟨⟨zs, hz⟩, _⟩ := hL c hc
    rw [h] at hz
    exact n zs (Option.some.inj hz)
  have S : SameT H H' := ⟨fun a xs h => k _ _ (nl h fun zs e => by cases e) h, fun a o xs h => k _ _ (nl h fun zs e => by cases e) h⟩
  have bkf : ∀ {x l m : Addr} {rows : List BRow} {as : List Addr}, BookAt P w K C H x l m rows as → (∀ c ∈ L, c ≠ l) → BookAt P w K C H' x l m rows as := fun {x l m rows as} bk n => by
    refine bk_far bk (fun a o e h => k a o ?_ h) S
    obtain ⟨dx, ho⟩ := bk.obj
    rcases e with e | e | e
    · rw [e]
      exact nl ho fun zs e => by cases e
    · rw [e]
      exact fun hm => n _ hm rfl
    · rw [e]
      exact nl bk.num fun zs e => by cases e
  exact ⟨bkf g.b1 fun c hc => (hL c hc).2.1, bkf g.b2 fun c hc => (hL c hc).2.2.1, g.nl, g.nm, k _ _ (fun hm => (hL _ hm).2.2.2 rfl) g.ls, paired_imp (fun _ _ h => h.sameT S) g.pr, g.n1, g.n2, sys_keep g.sy fun a o φ h => k _ _ (nl h fun zs e => by cases e) h⟩
theorem kit_no (T : Txt K mg a d) {n : String} {l : List Value} (e : fastBuiltinMro n = some l) (h : ∀ C : Addr, l.contains (.ref C) = false) : PySem.W.kitOne K (.type n) (.ref a.CBook) = some false := by
  refine Tp.kit_ref rfl T.hd_Book T.ty_Book ?_
  show (fastBuiltinMro n).map (·.contains (.ref a.CBook)) = some false
  rw [e]
  exact congrArg some (h _)
theorem first_ty {C : Addr} {n : String} {l : List Value} (e : fastBuiltinMro n = some l) (h : ∀ C : Addr, l.contains (.ref C) = false) : PySem.W.notFirst K C (.type n) = true := by
  unfold PySem.W.notFirst
  have : PySem.W.subIn K (.type n) (.ref C) = some false := by
    show (fastBuiltinMro n).map (·.contains (.ref C)) = some false
    rw [e]
    exact congrArg some (h _)
  rw [this]
  simp
end
end L04

set_option Elab.async false
set_option linter.all false
set_option maxRecDepth 100000
set_option maxHeartbeats 4000000
set_option pp.deepTerms false
set_option pp.deepTerms.threshold 4
set_option pp.maxSteps 1000
namespace L04
open PySem L2 Tp
section
variable {P : Program} {w : World} {K : PySem.W.Frag} {mg : Str → Option Value} {base : Heap} {a : Ad} {d : Fd}
/-! ### _law_again_right -/
theorem far_kp {b bt : Addr} {H H' : Hp} (k : Kp b H H') : Far [b, bt] H H' := fun c o n h => k c o (fun e => n (by rw [e]; exact List.mem_cons_self)) h
theorem off_far {L : List Addr} {H H' : Hp} (k : Far L H H') : Same (off L H) (off L H') := fun c o h => let ⟨n, g⟩ := off_get h; off_put n (k c o n g)
theorem cutP {B G : Prop} (els : B) (h : B → G) : G := h els
def spAgain (P : Program) (w : World) (K : PySem.W.Frag) (C : Addr) : Sp := fun vs H Q _ => ∃ (b : Addr) (n : Nat) (x l m q : Addr) (rows : List BRow) (as ps : List Addr), vs = [.ref b, .ref x, .ref q] ∧ Gs P w K C H b x l m q n rows rows as ps ∧ n ≤ 10000 ∧ Rws rows ∧ rows.length ≤ 30 ∧ ∀ H', Far [b, l, m] H H' → Q (.bl true) H'
theorem ok_againR (T : Txt K mg a d) : FnG P w K mg base CX0 9 a.againR d.againR ["_law_box_here", "_law_book", "_law_rows"] (spAgain P w K a.CBook) := by
  have G_take := ok_take (P := P) (w := w) (base := base) T
  have G_bookInit := ok_bookInit (P := P) (w := w) (base := base) T
  have bBook1 := bk1 T
  have G_copied := ok_copied (P := P) (w := w) (base := base) T
  have G_eq := ok_eq (P := P) (w := w) (base := base) T
  have G_holds := ok_holds (P := P) (w := w) (base := base) T
  have G_madeDue := ok_madeDue (P := P) (w := w) (base := base) T
  have G_made := ok_made (P := P) (w := w) (base := base) T
  have G_copyR := ok_copyR (P := P) (w := w) (base := base) T
  refine okG T.F_againR scAgainR (fun vs H Q E h => ?_) (fun cdv A outer s H vs Q E hr hg h => ?_)
  · obtain ⟨b, n, x, l, m, q0, rows, as, ps, rfl, _⟩ := h
    rfl
  · obtain ⟨b, n, x, l, m, q0, rows, as, ps, rfl, G0, hn, rws, few, q⟩ := h
    refine ⟨_, (pss_cons (ps_par (i := 3) (j := 4) (by rfl) scAgainR.nd rfl rfl (by decide) rfl rfl (pa_cons (Tp.pe_makeE T.mk_Book G_bookInit (hr.mono (by decide)) (by rfl) T.mg_Book bBook1 .nil (fun σ => Tp.passA0 σ) (pa_cons (pe_ix ix_list (pe_lst (pa_cons (pv 2) (pa_cons (pe_callTy call_tuple_of (by rfl) T.tuple_ Tp.bt_tuple (pa_cons (pv 2) pa_nil)) pa_nil))) (Tp.pe_callG G_take (hr.mono (by decide)) hg (by rfl) T.mg_take T.F_take.kp T.b_take .nil pass0 (pa_cons (pv 0) (pa_cons pe_int pa_nil))) (fun _ _ => rfl)) pa_nil)) (pa_cons (pe_meth0 (pv 1) T.cl_Book T.me_copied G_copied (hr.mono (by decide)) T.b_copied .nil pass0) pa_nil)) (by rfl))
      (pss_cons (ps_if (PW.pt (pw_or (pt_cmpR (Tp.op_neE T.me_eq.at_ T.me_eq.fn T.ne_Book T.cm_Book G_eq (hr.mono (by decide)) T.b_eq pass0) (pv 3) (pv 1) (nomark _)) (pw_or (pt_not (pt_cmpR (Tp.op_eqE T.me_eq.at_ T.me_eq.fn G_eq (hr.mono (by decide)) T.b_eq pass0) (pv 3) (pv 1) (nomark _))) (pw_or (pt_cmpR (Tp.op_neE T.me_eq.at_ T.me_eq.fn T.ne_Book T.cm_Book G_eq (hr.mono (by decide)) T.b_eq pass0) (pv 4) (pv 1) (nomark _)) (pw_or (pt_cmpR (Tp.op_eqE T.me_eq.at_ T.me_eq.fn G_eq (hr.mono (by decide)) T.b_eq pass0) (pv 3) (pv 2) (nomark _)) (pw_or1 (pt_not (pt_val (Tp.pe_callG G_holds (hr.mono (by decide)) hg (by rfl) T.mg_holds T.F_holds.kp T.b_holds .nil pass0 (pa_cons (pv 3) (pa_cons (pv 2) pa_nil))))))))))) (pss_one (ps_ret pe_bl)) pss_nil)
      (pss_cons (ps_par3 (i := 5) (j := 6) (l := 7) (by rfl) scAgainR.nd rfl rfl rfl (by decide) (by decide) (by decide) rfl rfl rfl (pa_cons (pe_callTy call_list_of (by rfl) T.list_ Tp.bt_list (pa_cons (pv 2) pa_nil)) (pa_cons (Tp.pe_callG G_take (hr.mono (by decide)) hg (by rfl) T.mg_take T.F_take.kp T.b_take .nil pass0 (pa_cons (pv 0) (pa_cons (pe_op op_add (pe_callB call_len_seq (by rfl) T.len_ Tp.bt_len (pa_cons (pv 2) pa_nil)) pe_int) pa_nil))) (pa_cons (Tp.pe_callG G_take (hr.mono (by decide)) hg (by rfl) T.mg_take T.F_take.kp T.b_take .nil pass0 (pa_cons (pv 0) (pa_cons (pe_op op_add (pe_callB call_len_seq (by rfl) T.len_ Tp.bt_len (pa_cons (pv 2) pa_nil)) pe_int) pa_nil))) pa_nil))) (by rfl))
      (pss_cons (ps_for PassesOwn.never rfl (pi_range1 (by rfl) T.range_ (pa_cons (pe_op op_add pe_int (Tp.pe_callG G_take (hr.mono (by decide)) hg (by rfl) T.mg_take T.F_take.kp T.b_take .nil pass0 (pa_cons (pv 0) (pa_cons pe_int pa_nil)))) pa_nil)) (pg_name (i := 8) scAgainR.nd rfl (Or.inl rfl)) (pss_one (ps_if (PW.pt (pw_and (pt_cmpR op_eq (Tp.pe_callG G_take (hr.mono (by decide)) hg (by rfl) T.mg_take T.F_take.kp T.b_take .nil pass0 (pa_cons (pv 0) (pa_cons pe_int pa_nil))) pe_int (nomark _)) (pw_and (pt_cmpR op_lt (pv 6) (pe_callB call_len_seq (by rfl) T.len_ Tp.bt_len (pa_cons (pv 2) pa_nil)) (nomark _)) (pw_and1 (pt_cmpR op_lt (pv 7) (pe_callB call_len_seq (by rfl) T.len_ Tp.bt_len (pa_cons (pv 2) pa_nil)) (nomark _)))))) (pss_one (ps_asg (pe_tup (pa_cons (pe_ix ix_list (pv 5) (pv 7) (fun _ _ => rfl)) (pa_cons (pe_ix ix_list (pv 5) (pv 6) (fun _ _ => rfl)) pa_nil))) (pg_tup (by rfl) (pgs_cons (pg_sub (pv 5) (pv 6) set_list) (pgs_cons (pg_sub (pv 5) (pv 7) set_list) pgs_nil))))) (pss_one (ps_if (PW.pt (pw_and (pt_cmpR op_eq (Tp.pe_callG G_take (hr.mono (by decide)) hg (by rfl) T.mg_take T.F_take.kp T.b_take .nil pass0 (pa_cons (pv 0) (pa_cons pe_int pa_nil))) pe_int (nomark _)) (pw_and1 (pt_cmpR op_lt (pv 6) (pe_callB call_len_seq (by rfl) T.len_ Tp.bt_len (pa_cons (pv 2) pa_nil)) (nomark _))))) (pss_one (ps_expr (pe_bm PySem.F.plainAttrs_list PySem.F.slot_list_insert PySem.F.type_list_insert mt_insert (pv 5) (pa_cons (pv 7) (pa_cons (pe_callTy call_list_of (by rfl) T.list_ Tp.bt_list (pa_cons (pe_ix ix_list (pv 2) (pv 6) (fun _ _ => rfl)) pa_nil)) pa_nil))))) (pss_cons (ps_set (i := 9) scAgainR.nd rfl (Or.inl rfl) (pe_lst (pa_cons pe_non (pa_cons (pe_tup (pa_cons pe_str pa_nil)) (pa_cons (pe_tup (pa_cons pe_str (pa_cons pe_int (pa_cons pe_int pa_nil)))) (pa_cons (pe_tup (pa_cons pe_str (pa_cons (pe_tup pa_nil) pa_nil))) (pa_cons (pe_tup (pa_cons pe_str (pa_cons (pe_op op_sub pe_int pe_int) pa_nil))) (pa_cons (pe_tup (pa_cons pe_str (pa_cons pe_bl pa_nil))) (pa_cons (pe_tup (pa_cons pe_str (pa_cons pe_str pa_nil))) (pa_cons pe_int (pa_cons pe_str (pa_cons (pe_tup (pa_cons pe_str (pa_cons pe_int pa_nil))) pa_nil))))))))))))
      (pss_cons (ps_set (i := 9) scAgainR.nd rfl (Or.inl rfl) (pe_op op_cat (pv 9) (pe_lst (pa_cons (pe_tup (pa_cons pe_str (pa_cons (pe_tup (pa_cons (pe_op op_add (pe_callB call_len_seq (by rfl) T.len_ Tp.bt_len (pa_cons (pv 2) pa_nil)) pe_int) pa_nil)) pa_nil))) (pa_cons (pe_tup (pa_cons pe_str (pa_cons (pe_lst (pa_cons (pe_op op_sub pe_int pe_int) pa_nil)) pa_nil))) (pa_cons (pe_lst (pa_cons pe_str (pa_cons (pe_lst (pa_cons pe_non pa_nil)) pa_nil))) (pa_cons (pe_tup (pa_cons pe_str (pa_cons (pe_tup (pa_cons pe_int (pa_cons pe_int (pa_cons pe_int (pa_cons pe_int pa_nil))))) pa_nil))) (pa_cons (pe_tup (pa_cons pe_non (pa_cons pe_int pa_nil))) pa_nil))))))))
      (pss_cons (ps_set (i := 9) scAgainR.nd rfl (Or.inl rfl) (pe_op op_cat (pv 9) (pe_lst (pa_cons (pe_tup (pa_cons pe_str (pa_cons (pe_tup (pa_cons pe_bl pa_nil)) pa_nil))) (pa_cons (pe_tup (pa_cons pe_str (pa_cons (pe_lst (pa_cons pe_int (pa_cons pe_bl pa_nil))) pa_nil))) (pa_cons (pe_tup (pa_cons pe_str (pa_cons (pe_op op_sub pe_int pe_int) pa_nil))) (pa_cons (pe_tup (pa_cons pe_str (pa_cons pe_str pa_nil))) (pa_cons (pe_tup (pa_cons pe_non (pa_cons (pe_tup (pa_cons pe_int (pa_cons pe_int (pa_cons pe_int (pa_cons pe_int pa_nil))))) pa_nil))) pa_nil))))))))
      (pss_cons (ps_set (i := 9) scAgainR.nd rfl (Or.inl rfl) (pe_op op_cat (pv 9) (pe_lst (pa_cons (pe_tup (pa_cons pe_str (pa_cons (pe_tup (pa_cons pe_int pa_nil)) pa_nil))) (pa_cons (pe_tup (pa_cons pe_str (pa_cons (pe_lst (pa_cons pe_bl pa_nil)) pa_nil))) pa_nil)))))
      (pss_one (ps_expr (pe_bm PySem.F.plainAttrs_list PySem.F.slot_list_insert PySem.F.type_list_insert mt_insert (pv 5) (pa_cons (pv 7) (pa_cons (pe_ix ix_list (pv 9) (Tp.pe_callG G_take (hr.mono (by decide)) hg (by rfl) T.mg_take T.F_take.kp T.b_take .nil pass0 (pa_cons (pv 0) (pa_cons pe_int pa_nil))) (fun _ _ => rfl)) pa_nil))))))))))))))
      (pss_cons (ps_par (i := 10) (j := 11) (by rfl) scAgainR.nd rfl rfl (by decide) rfl rfl (pa_cons (pe_call G_madeDue (hr.mono (by decide)) (by rfl) T.mg_madeDue T.F_madeDue.kp T.b_madeDue .nil pass0 (pa_cons (pv 5) pa_nil)) (pa_cons (pe_call G_made (hr.mono (by decide)) (by rfl) T.mg_made T.F_made.kp T.b_made .nil pass0 (pa_cons (pv 5) pa_nil)) pa_nil)) (by rfl))
      (pss_cons (ps_if (pt_cmpR op_eq (pe_ix ix_list (pv 10) pe_int (fun _ _ => rfl)) pe_str (nomark _)) (pss_one (ps_if (PW.pt (pw_or (pt_cmpR op_ne (pe_ix ix_list (pv 11) pe_int (fun _ _ => rfl)) pe_str (nomark _)) (pw_or (pt_not (pt_val (Tp.pe_callG G_holds (hr.mono (by decide)) hg (by rfl) T.mg_holds T.F_holds.kp T.b_holds .nil pass0 (pa_cons (pe_ix ix_list (pv 11) pe_int (fun _ _ => rfl)) (pa_cons (pe_ix ix_list (pv 10) pe_int (fun _ _ => rfl)) pa_nil))))) (pw_or1 (pt_cmpR op_ne (pe_cmpR (Tp.op_eqE T.me_eq.at_ T.me_eq.fn G_eq (hr.mono (by decide)) T.b_eq pass0) (pe_ix ix_list (pv 11) pe_int (fun _ _ => rfl)) (pv 1) (nomark _)) (pe_cmpR (op_eqD hr.units) (pe_ix ix_list (pv 10) pe_int (fun _ _ => rfl)) (pv 2) (nomark _)) (nomark _)))))) (pss_one (ps_ret pe_bl)) pss_nil)) (pss_one (ps_if (pt_cmpR op_ne (pe_callB (Tp.call_reprQ hr hg) (by rfl) T.repr_ Tp.bt_repr (pa_cons (pv 11) pa_nil)) (pe_callB (Tp.call_reprQ hr hg) (by rfl) T.repr_ Tp.bt_repr (pa_cons (pv 10) pa_nil)) (nomark _)) (pss_one (ps_ret pe_bl)) pss_nil)))
      (pss_one (ps_ret (Tp.pe_callG G_copyR (hr.mono (by decide)) hg (by rfl) T.mg_copyR T.F_copyR.kp T.b_copyR .nil pass0 (pa_cons (pv 1) (pa_cons (pv 4) (pa_cons (pv 2) pa_nil)))))))))))), ?_⟩
    have lps : rows.length = ps.length := Paired.length G0.pr
    refine ⟨_, rfl, _, rfl, q0, _, rfl, .inl ⟨SqL.of G0.ls, fun n1 hn1 => ?_⟩⟩
    have S1 := same_new (o := .tup (ps.map V.ref)) hn1
    have g1 : (upd H n1 (.tup (ps.map V.ref))) n1 = some (.tup (ps.map V.ref)) := upd_same
    generalize upd H n1 (.tup (ps.map V.ref)) = H1 at S1 g1 ⊢
    have ne1 : n1 ≠ b := G0.bx.ne hn1
    refine ⟨(show 2 ≤ sizeLine from by decide), fun n2 hn2 => ?_⟩
    have S2 := same_new (o := .lst [.ref q0, .ref n1]) hn2
    have g2 : (upd H1 n2 (.lst [.ref q0, .ref n1])) n2 = some (.lst [.ref q0, .ref n1]) := upd_same
    generalize upd H1 n2 (.lst [.ref q0, .ref n1]) = H2 at S2 g2 ⊢
    have G2 := G0.same (S1.trans S2)
    have ne2 : n2 ≠ b := (G0.bx.same S1).ne hn2
    refine ⟨_, rfl, b, 2, n, rfl, G2.bx, by omega, by decide, by decide, fun r3 H3 a3 b3 s3 B3 => ?_⟩
    have G3 := G2.kp s3 B3
    obtain ⟨v, hv, c, p, rfl, sqp⟩ := at_some (xs := [V.ref q0, .ref n1]) (r := r3) (P := fun v => ∃ c p, v = V.ref p ∧ SqB c K H3 p (ps.map V.ref)) (fun y hy => by
      simp only [List.mem_cons, List.not_mem_nil, or_false] at hy
      rcases hy with rfl | rfl
      · exact ⟨false, q0, rfl, SqL.of G3.ls⟩
      · exact ⟨true, n1, rfl, SqT.of (s3 _ _ ne1 (S2 _ _ g1))⟩) a3 b3
    refine ⟨n2, _, _, _, rfl, rfl, SqL.of (s3 _ _ ne2 g2), hv, fun y dy h1 h2 h3 => ?_⟩
    have SB : Same H3 (upd (upd H3 dy (.own y)) y (.ins a.CBook dy [])) := same_two h1 h2
    refine book_ask (b := c) upd_same (sqp.same SB) (paired_imp (fun _ _ h => h.same SB) G3.pr) rws.good (by omega) fun H4 ly my asy nly nmy k4 bky => ⟨rfl, ?_⟩
    have S4 : Same H3 H4 := fun c o h => k4 c o (ne_of_none h h1) (SB _ _ h)
    have G4 := G3.same S4
    obtain ⟨dx4, hx4⟩ := G4.bk.obj
    refine ⟨_, rfl, x, _, _, rfl, hx4, no_look (by decide) (by decide), x, l, m, rows, as, rfl, G4.bk, rws.good, by omega, fun z lz mz asz H5 S5 nz nlz nmz bkz => ?_⟩
    refine ⟨_, _, rfl, ?_⟩
    have G5 := G4.same S5
    have bky5 := bky.same S5
    have nllz : l ≠ lz := fun e => by
      have h := G4.bk.lst
      rw [e, nlz] at h
      cases h
    have nmmz : m ≠ mz := fun e => by
      have h := G4.bk.num
      rw [e, nmz] at h
      cases h
    have nqlz : q0 ≠ lz := fun e => by
      have h := G4.ls
      rw [e, nlz] at h
      cases h
    have nblz : b ≠ lz := fun e => by
      obtain ⟨y1, y2, y3, h, _⟩ := G4.bx
      rw [e, nlz] at h
      cases h
    have D5 : Ds P w K a.CBook H5 x l m z lz mz q0 rows rows rows as asz ps := ⟨G5.bk, bkz, nllz, nmmz, G5.ls, G5.pr, G5.nql, nqlz, G5.sy⟩
    have ev : PyData.eqv (rowsD rows) (rowsD rows) = true := by
      rw [rows_eq]
      exact decide_eq_true rfl
    have gn := rws.good.nm
    obtain ⟨dy5, hy5⟩ := bky5.obj
    obtain ⟨dz5, hz5⟩ := bkz.obj
    refine ⟨_, rfl, _, rfl, y, _, _, _, rfl, hy5, book_ty T G5.bk, first_self, y, ly, my, rows, asy, .ref x, rfl, bky5, .inl ⟨x, l, m, rows, as, rfl, G5.bk, gn, gn, _, rfl, _, rfl, ?_⟩⟩
    rw [ev]
    refine iteF ?_
    refine ⟨_, rfl, _, rfl, y, _, _, _, rfl, hy5, book_ty T G5.bk, first_self, y, ly, my, rows, asy, .ref x, rfl, bky5, .inl ⟨x, l, m, rows, as, rfl, G5.bk, gn, gn, _, rfl, ?_⟩⟩
    rw [ev]
    refine iteF ?_
    refine ⟨_, rfl, _, rfl, z, _, _, _, rfl, hz5, book_ty T G5.bk, first_self, z, lz, mz, rows, asz, .ref x, rfl, bkz, .inl ⟨x, l, m, rows, as, rfl, G5.bk, gn, gn, _, rfl, _, rfl, ?_⟩⟩
    rw [ev]
    refine iteF ?_
    have tq : TyX K H5 (.ref q0) (.type "list") := ty_sqL (SqL.of G5.ls)
    refine ⟨_, rfl, _, rfl, y, _, _, _, rfl, hy5, tq, first_ty (l := [.type "list", .type "object"]) (by decide +kernel) (fun _ => rfl), y, ly, my, rows, asy, .ref q0, rfl, bky5, .inr ⟨⟨_, .a (.x tq), kit_no T (l := [.type "list", .type "object"]) (by decide +kernel) (fun _ => rfl)⟩, _, rfl, iteF ?_⟩⟩
    refine ⟨_, rfl, _, rfl, y, ly, my, rows, asy, q0, ps, rfl, bky5, SqL.of G5.ls, G5.pr, rws, G5.sy, fun H6 S6 => ⟨_, rfl, iteF ?_⟩⟩
    have D6 := D5.same S6
    have B6 := G5.bx.same S6
    have F4 : Far [b] H H4 := fun c o nc h => S4 c o (s3 c o (fun e => nc (by rw [e]; exact List.mem_cons_self)) (S2 _ _ (S1 _ _ h)))
    have F6 : Far [b] H H6 := F4.trans (Far.same (S5.trans S6))
    refine ⟨_, rfl, q0, _, rfl, .inl (SqL.of D6.ls), fun bt hbt => ?_⟩
    have S7 := same_new (o := .lst (ps.map V.ref)) hbt
    have g7 : (upd H6 bt (.lst (ps.map V.ref))) bt = some (.lst (ps.map V.ref)) := upd_same
    generalize upd H6 bt (.lst (ps.map V.ref)) = H7 at S7 g7 ⊢
    have nbt : bt ≠ b := B6.ne hbt
    have nbl : bt ≠ l := fun e => by
      have h := D6.b1.lst
      rw [← e, hbt] at h
      cases h
    have nblz' : bt ≠ lz := fun e => by
      have h := D6.b2.lst
      rw [← e, hbt] at h
      cases h
    have nbq : bt ≠ q0 := fun e => by
      have h := D6.ls
      rw [← e, hbt] at h
      cases h
    have D7 := D6.same S7
    have B7 := B6.same S7
    have lpm : (ps.map V.ref).length = rows.length := by rw [List.length_map, lps]
    refine ⟨_, rfl, _, rfl, q0, _, rfl, .inl (SqL.of D7.ls), _, _, rfl, rfl, b, _, _, rfl, B7, by omega, by omega, by omega, fun r8 H8 a8 b8 s8 B8 => ?_⟩
    rw [lpm] at b8
    have hL : ∀ {Hc : Hp} {k : Nat}, BoxAt b k Hc → ∀ c ∈ [b], (∃ zs, Hc c = some (.lst zs)) ∧ c ≠ l ∧ c ≠ lz ∧ c ≠ q0 := fun B c hc => by
      rw [List.mem_singleton.mp hc]
      obtain ⟨y1, y2, y3, h, _⟩ := B
      exact ⟨⟨_, h⟩, G0.nbl, nblz, G0.nbq⟩
    have kpF : ∀ {Ha Hb : Hp}, Kp b Ha Hb → Far [b] Ha Hb := fun k c o nc h => k c o (fun e => nc (by rw [e]; exact List.mem_cons_self)) h
    have D8 := D7.far (kpF s8) (hL B7)
    refine ⟨_, rfl, _, rfl, q0, _, rfl, .inl (SqL.of D8.ls), _, _, rfl, rfl, b, _, _, rfl, B8, by omega, by omega, by omega, fun r9 H9 a9 b9 s9 B9 => ?_⟩
    rw [lpm] at b9
    have D9 := D8.far (kpF s9) (hL B8)
    have D10 := D9
    have B10 := B9
    have hb10 := s9 _ _ nbt (s8 _ _ nbt g7)
    have F10 : Far [b] H H9 := F6.trans ((Far.same S7).trans ((kpF s8).trans (kpF s9)))
    refine ⟨_, _, _, rfl, ?_⟩
    refine ⟨_, rfl, b, 2, _, rfl, B10, by omega, by decide, by decide, fun r11 H11 a11 b11 s11 B11 => ?_⟩
    have hL2 : ∀ c ∈ [b, bt], (∃ zs, H9 c = some (.lst zs)) ∧ c ≠ l ∧ c ≠ lz ∧ c ≠ q0 := fun c hc => by
      simp only [List.mem_cons, List.not_mem_nil, or_false] at hc
      rcases hc with e | e
      · rw [e]
        exact hL B10 b List.mem_cons_self
      · rw [e]
        exact ⟨⟨_, hb10⟩, nbl, nblz', nbq⟩
    have da0 : DpAll K (off [b, bt] H11) (ps.map V.ref) (rows.map BRow.data) := by
      have D11 := D10.far (far_kp (bt := bt) s11) hL2
      have SO : SameT H11 (off [b, bt] H11) := by
        have key : ∀ {c : Addr} {o : HO}, H11 c = some o → (∀ zs, o ≠ .lst zs) → off [b, bt] H11 c = some o := fun {c o} h no => off_put (fun mc => by
          simp only [List.mem_cons, List.not_mem_nil, or_false] at mc
          rcases mc with e | e
          · obtain ⟨y1, y2, y3, hb, _⟩ := B11
            rw [e, hb] at h
            exact no _ (Option.some.inj h).symm
          · rw [e, s11 _ _ nbt hb10] at h
            exact no _ (Option.some.inj h).symm) h
        exact ⟨fun c xs h => key h fun zs e => (by cases e), fun c o xs h => key h fun zs e => (by cases e)⟩
      exact rows_dp (paired_imp (fun _ _ h => h.sameT SO) D11.pr)
    have bok0 : ∀ e ∈ rows.map BRow.data, BtOk e := fun e he => by
      obtain ⟨r, hr, rfl⟩ := List.mem_map.mp he
      obtain ⟨i, hi⟩ := List.mem_iff_getElem?.mp hr
      have il := (List.getElem?_eq_some_iff.mp hi).1
      exact (row_bt (rws.good.2 i r hi) (by omega) (rws.tb r hr)).1
    refine ⟨_, _, rfl, rfl, 1 + r11, rfl, by omega, by omega, for_range (lo := 0) (n := (1 + r11).toNat) (fun i σ H' => Far [b, bt] H9 H' ∧ BoxAt b (n + 20 + 10 * i) H' ∧ (∃ vs ds, H' bt = some (.lst vs) ∧ DpAll K (off [b, bt] H') vs ds ∧ (∀ e ∈ ds, BtOk e) ∧ rows.length ≤ ds.length ∧ ds.length ≤ rows.length + i) ∧ ∃ v8 v9, σ = [some (.ref b), some (.ref x), some (.ref q0), some (.ref y), some (.ref z), some (.ref bt), some (.int r8), some (.int r9), v8, v9, none, none]) ⟨far_kp s11, B11.up (by omega), ⟨_, _, s11 _ _ nbt hb10, da0, bok0, by rw [List.length_map]; exact Nat.le_refl _, by rw [List.length_map]; exact Nat.le_refl _⟩, _, _, rfl⟩ ?_ ?_⟩
    · rintro i σ HS hi ⟨FS, BS, ⟨vs, ds, hbS, da, bok, l1, l2⟩, v8, v9, rfl⟩
      have lvs := dpAll_len da
      have lvs2 : vs.length < sizeLine := Nat.lt_of_le_of_lt (show _ ≤ 100 by omega) (by decide)
      obtain ⟨ja, rfl⟩ := Int.eq_ofNat_of_zero_le a8
      have daS : ∀ {HF : Hp}, Far [b, bt] H9 HF → Far [b, bt] HS HF → DpAll K (off [b, bt] HF) vs ds := fun _ F => (dp_same (off_far F)).2 da
      have fin : ∀ {HF : Hp} {yv : V} {e : PyData} {t : Nat}, Far [b, bt] H9 HF → BoxAt b (n + 20 + 10 * (i + 1)) HF → HF bt = some (.lst vs) → DpAll K (off [b, bt] HF) vs ds → Dp K (off [b, bt] HF) yv e → BtOk e →
          Far [b, bt] H9 (upd HF bt (.lst (vs.take t ++ [yv] ++ vs.drop t))) ∧ BoxAt b (n + 20 + 10 * (i + 1)) (upd HF bt (.lst (vs.take t ++ [yv] ++ vs.drop t))) ∧ (∃ vs' ds', (upd HF bt (.lst (vs.take t ++ [yv] ++ vs.drop t))) bt = some (.lst vs') ∧ DpAll K (off [b, bt] (upd HF bt (.lst (vs.take t ++ [yv] ++ vs.drop t)))) vs' ds' ∧ (∀ e ∈ ds', BtOk e) ∧ rows.length ≤ ds'.length ∧ ds'.length ≤ rows.length + (i + 1)) := fun {HF yv e t} F B hb dF hd be => by
        have FU : Far [b, bt] HF (upd HF bt (.lst (vs.take t ++ [yv] ++ vs.drop t))) := fun c o nc h => by
          rw [upd_ne (fun e => nc (by rw [e]; simp))]
          exact h
        refine ⟨F.trans FU, B.off nbt, _, ds.take t ++ [e] ++ ds.drop t, upd_same, (dp_same (off_far FU)).2 (dpAll_put dF hd), fun e' he' => ?_, ?_, ?_⟩
        · rcases put_mem he' with h | h
          · exact bok e' h
          · rw [h]
            exact be
        · rw [put_len]
          omega
        · rw [put_len]
          omega
      refine ⟨_, rfl, b, 3, _, rfl, BS, by omega, by decide, by decide, fun rA HA aA bA sA BA => ⟨rfl, _, rfl, ?_⟩⟩
      have FA_S : Far [b, bt] HS HA := far_kp sA
      have FA := FS.trans FA_S
      have DA := D10.far FA hL2
      have hbA := sA _ _ nbt hbS
      refine cutP ?els (fun els => if2 (fun c1 => ⟨_, rfl, _, rfl, q0, _, rfl, .inl (SqL.of DA.ls), _, _, rfl, rfl, _, rfl, if2 (fun c2 => ⟨_, rfl, _, rfl, q0, _, rfl, .inl (SqL.of DA.ls), _, _, rfl, rfl, _, rfl, if2 (fun c3 => ?sw) (fun c3 => els)⟩) (fun c2 => iteF els)⟩) (fun c1 => iteF els))
      case sw =>
        rw [lpm] at c2 c3
        obtain ⟨jt, rfl⟩ := Int.eq_ofNat_of_zero_le a9
        have ha : ja < vs.length := by omega
        have ht : jt < vs.length := by omega
        have eva : vs[ja]? = some vs[ja] := List.getElem?_eq_getElem ha
        have evt : vs[jt]? = some vs[jt] := List.getElem?_eq_getElem ht
        refine ⟨_, rfl, _, rfl, bt, _, _, _, rfl, rfl, SqL.of hbA, atI_nat evt, _, rfl, _, rfl, bt, _, _, _, rfl, rfl, SqL.of hbA, atI_nat eva, (show 2 ≤ sizeLine from by decide), fun tt htt => ?_⟩
        have SW := same_new (o := .tup [vs[jt], vs[ja]]) htt
        have gW : (upd HA tt (.tup [vs[jt], vs[ja]])) tt = some (.tup [vs[jt], vs[ja]]) := upd_same
        generalize upd HA tt (.tup [vs[jt], vs[ja]]) = HW at SW gW ⊢
        have hbW := SW _ _ hbA
        have ht' : jt < (vs.set ja vs[jt]).length := by rw [List.length_set]; exact ht
        refine ⟨tt, _, rfl, SqT.of gW, rfl, _, _, rfl, _, rfl, _, rfl, bt, vs, _, ja, rfl, rfl, hbW, Evl.ixN_nat ha, _, _, rfl, _, rfl, _, rfl, bt, _, _, jt, rfl, rfl, upd_same, Evl.ixN_nat ht', rfl, ?_⟩
        have FW := FA.trans (Far.same SW)
        have dW : DpAll K (off [b, bt] HW) vs ds := daS FW (FA_S.trans (Far.same SW))
        obtain ⟨ea, hea, da1⟩ := dpAll_get dW eva
        obtain ⟨et, het, dt1⟩ := dpAll_get dW evt
        have FU : Far [b, bt] HW (upd (upd HW bt (.lst (vs.set ja vs[jt]))) bt (.lst ((vs.set ja vs[jt]).set jt vs[ja]))) := fun c o nc h => by
          rw [upd_ne (fun e => nc (by rw [e]; simp)), upd_ne (fun e => nc (by rw [e]; simp))]
          exact h
        refine ⟨FW.trans FU, (((BA.same SW).off nbt).off nbt).up (by omega), ⟨_, (ds.set ja et).set jt ea, upd_same, (dp_same (off_far FU)).2 (dpAll_set (dpAll_set dW dt1) da1), fun e' he' => ?_, ?_, ?_⟩, _, _, rfl⟩
        · rcases List.mem_or_eq_of_mem_set he' with h | h
          · rcases List.mem_or_eq_of_mem_set h with h | h
            · exact bok e' h
            · rw [h]
              exact bok _ (List.mem_of_getElem? het)
          · rw [h]
            exact bok _ (List.mem_of_getElem? hea)
        · rw [List.length_set, List.length_set]
          exact l1
        · rw [List.length_set, List.length_set]
          omega
      case els =>
        refine ⟨_, rfl, b, 2, _, rfl, BA, by omega, by decide, by decide, fun rB HB aB bB sB BB => ⟨rfl, _, rfl, ?_⟩⟩
        have FB_S := FA_S.trans (far_kp (bt := bt) sB)
        have FB := FA.trans (far_kp (bt := bt) sB)
        have DB := D10.far FB hL2
        have hbB := sB _ _ nbt hbA
        refine cutP ?odd (fun odd => if2 (fun d1 => ⟨_, rfl, _, rfl, q0, _, rfl, .inl (SqL.of DB.ls), _, _, rfl, rfl, _, rfl, if2 (fun d2 => ?ins) (fun d2 => odd)⟩) (fun d1 => iteF odd))
        case ins =>
          rw [lpm] at d2
          have jl : ja < rows.length := by omega
          have hr' : rows[ja]? = some rows[ja] := List.getElem?_eq_getElem jl
          obtain ⟨p', hp', rp⟩ := Tp.paired_get DB.pr hr'
          generalize rows[ja] = r at hr' rp
          have mem : r ∈ rows := List.mem_of_getElem? hr'
          obtain ⟨s', sqp', hs'⟩ := row_two rp
          refine ⟨_, rfl, .inl ⟨rfl, _, SqL.of hbB⟩, _, rfl, _, rfl, _, rfl, q0, _, _, _, rfl, rfl, SqL.of DB.ls, atI_nat (by rw [List.getElem?_map, hp']; rfl), p', _, rfl, .inr sqp', fun l5 hl5 => ?_⟩
          have S5' := same_new (o := .lst [.str r.nm, s']) hl5
          have g5' : (upd HB l5 (.lst [.str r.nm, s'])) l5 = some (.lst [.str r.nm, s']) := upd_same
          generalize upd HB l5 (.lst [.str r.nm, s']) = HC at S5' g5' ⊢
          have FC := FB.trans (Far.same S5')
          have FC_S := FB_S.trans (Far.same S5')
          have BC := BB.same S5'
          have hbC := S5' _ _ hbB
          have key : ∀ {c : Addr} {o : HO}, HC c = some o → (∀ zs, o ≠ .lst zs) → off [b, bt] HC c = some o := fun {c o} h no => off_put (fun mc => by
            simp only [List.mem_cons, List.not_mem_nil, or_false] at mc
            rcases mc with e | e
            · obtain ⟨y1, y2, y3, hb, _⟩ := BC
              rw [e, hb] at h
              exact no _ (Option.some.inj h).symm
            · rw [e, hbC] at h
              exact no _ (Option.some.inj h).symm) h
          have SO : SameT HC (off [b, bt] HC) := ⟨fun c xs h => key h fun zs e => (by cases e), fun c o xs h => key h fun zs e => (by cases e)⟩
          have l5o : off [b, bt] HC l5 = some (.lst [.str r.nm, s']) := off_put (fun mc => by
            simp only [List.mem_cons, List.not_mem_nil, or_false] at mc
            rcases mc with e | e
            · exact BB.ne hl5 e
            · rw [e, hbB] at hl5
              cases hl5) g5'
          obtain ⟨i5, hi5⟩ := List.mem_iff_getElem?.mp mem
          have il5 := (List.getElem?_eq_some_iff.mp hi5).1
          have bt5 := (row_bt (rws.good.2 i5 r hi5) (by omega) (rws.tb r mem)).2
          have dl : Dp K (off [b, bt] HC) (.ref l5) (.list (itemsD r.data)) := by
            obtain ⟨nm, sec⟩ := r
            have hsO : SecV K (off [b, bt] HC) sec s' := by
              cases sec with
              | inl ns =>
                obtain ⟨qq, e, h⟩ := hs'
                exact ⟨qq, e, SO.sq (sqT_same S5' h)⟩
              | inr t => exact hs'
            cases sec with
            | inl ns =>
              obtain ⟨qq, rfl, h⟩ := hsO
              exact .lst (SqL.of l5o) (.cons (.str nm) (.cons (.tup h (dpN ns)) .nil))
            | inr t =>
              obtain rfl : s' = .int (t : Nat) := hsO
              exact .lst (SqL.of l5o) (.cons (.str nm) (.cons (.int _) .nil))
          obtain ⟨f1, f2, f3⟩ := fin (t := r9.toNat) FC (BC.up (by omega)) hbC (daS FC FC_S) dl bt5
          exact ⟨bt, vs, r9, _, rfl, rfl, hbC, lvs2, a9, by omega, f1, f2, f3, _, _, rfl⟩
        case odd =>
            have T0 : Same HB HB := Same.refl _
            refine ⟨(show 1 ≤ sizeLine from by decide), fun n1 hn1 => ?_⟩
            generalize hG1 : upd HB n1 _ = H21
            have S1 : Same HB H21 := by rw [← hG1]; exact same_new hn1
            have g1 : H21 n1 = some (.tup [.str "a"]) := by rw [← hG1]; exact upd_same
            clear hG1
            have z1 : HB n1 = none := none_same T0 hn1
            have T1 := T0.trans S1
            refine ⟨(show 3 ≤ sizeLine from by decide), fun n2 hn2 => ?_⟩
            generalize hG2 : upd H21 n2 _ = H22
            have S2 : Same H21 H22 := by rw [← hG2]; exact same_new hn2
            have g2 : H22 n2 = some (.tup [.str "a", .int 1, .int 2]) := by rw [← hG2]; exact upd_same
            clear hG2
            have z2 : HB n2 = none := none_same T1 hn2
            have T2 := T1.trans S2
            refine ⟨Nat.zero_le _, fun n3 hn3 => ?_⟩
            generalize hG3 : upd H22 n3 _ = H23
            have S3 : Same H22 H23 := by rw [← hG3]; exact same_new hn3
            have g3 : H23 n3 = some (.tup []) := by rw [← hG3]; exact upd_same
            clear hG3
            have z3 : HB n3 = none := none_same T2 hn3
            have T3 := T2.trans S3
            refine ⟨(show 2 ≤ sizeLine from by decide), fun n4 hn4 => ?_⟩
            generalize hG4 : upd H23 n4 _ = H24
            have S4 : Same H23 H24 := by rw [← hG4]; exact same_new hn4
            have g4 : H24 n4 = some (.tup [.str "A", .ref n3]) := by rw [← hG4]; exact upd_same
            clear hG4
            have z4 : HB n4 = none := none_same T3 hn4
            have T4 := T3.trans S4
            refine ⟨_, _, rfl, rfl, ?_⟩
            refine ⟨(show 2 ≤ sizeLine from by decide), fun n5 hn5 => ?_⟩
            generalize hG5 : upd H24 n5 _ = H25
            have S5 : Same H24 H25 := by rw [← hG5]; exact same_new hn5
            have g5 : H25 n5 = some (.tup [.str "a", .int (0 - 1)]) := by rw [← hG5]; exact upd_same
            clear hG5
            have z5 : HB n5 = none := none_same T4 hn5
            have T5 := T4.trans S5
            refine ⟨(show 2 ≤ sizeLine from by decide), fun n6 hn6 => ?_⟩
            generalize hG6 : upd H25 n6 _ = H26
            have S6 : Same H25 H26 := by rw [← hG6]; exact same_new hn6
            have g6 : H26 n6 = some (.tup [.str "a", .bl true]) := by rw [← hG6]; exact upd_same
            clear hG6
            have z6 : HB n6 = none := none_same T5 hn6
            have T6 := T5.trans S6
            refine ⟨(show 2 ≤ sizeLine from by decide), fun n7 hn7 => ?_⟩
            generalize hG7 : upd H26 n7 _ = H27
            have S7 : Same H26 H27 := by rw [← hG7]; exact same_new hn7
            have g7 : H27 n7 = some (.tup [.str "a", .str "0"]) := by rw [← hG7]; exact upd_same
            clear hG7
            have z7 : HB n7 = none := none_same T6 hn7
            have T7 := T6.trans S7
            refine ⟨(show 2 ≤ sizeLine from by decide), fun n8 hn8 => ?_⟩
            generalize hG8 : upd H27 n8 _ = H28
            have S8 : Same H27 H28 := by rw [← hG8]; exact same_new hn8
            have g8 : H28 n8 = some (.tup [.str "", .int 2]) := by rw [← hG8]; exact upd_same
            clear hG8
            have z8 : HB n8 = none := none_same T7 hn8
            have T8 := T7.trans S8
            refine ⟨(show 10 ≤ sizeLine from by decide), fun n9 hn9 => ?_⟩
            generalize hG9 : upd H28 n9 _ = H29
            have S9 : Same H28 H29 := by rw [← hG9]; exact same_new hn9
            have g9 : H29 n9 = some (.lst [.non, .ref n1, .ref n2, .ref n4, .ref n5, .ref n6, .ref n7, .int 3, .str "ab", .ref n8]) := by rw [← hG9]; exact upd_same
            clear hG9
            have z9 : HB n9 = none := none_same T8 hn9
            have T9 := T8.trans S9
            refine ⟨_, rfl, _, rfl, q0, _, rfl, .inl (SqL.of (T9 _ _ DB.ls)), _, _, rfl, rfl, ?_⟩
            rw [List.length_map, ← lps]
            refine ⟨(show 1 ≤ sizeLine from by decide), fun n10 hn10 => ?_⟩
            generalize hG10 : upd H29 n10 _ = H30
            have S10 : Same H29 H30 := by rw [← hG10]; exact same_new hn10
            have g10 : H30 n10 = some (.tup [.int (((rows.length : Nat) : Int) + 9)]) := by rw [← hG10]; exact upd_same
            clear hG10
            have z10 : HB n10 = none := none_same T9 hn10
            have T10 := T9.trans S10
            refine ⟨(show 2 ≤ sizeLine from by decide), fun n11 hn11 => ?_⟩
            generalize hG11 : upd H30 n11 _ = H31
            have S11 : Same H30 H31 := by rw [← hG11]; exact same_new hn11
            have g11 : H31 n11 = some (.tup [.str "f", .ref n10]) := by rw [← hG11]; exact upd_same
            clear hG11
            have z11 : HB n11 = none := none_same T10 hn11
            have T11 := T10.trans S11
            refine ⟨_, _, rfl, rfl, ?_⟩
            refine ⟨(show 1 ≤ sizeLine from by decide), fun n12 hn12 => ?_⟩
            generalize hG12 : upd H31 n12 _ = H32
            have S12 : Same H31 H32 := by rw [← hG12]; exact same_new hn12
            have g12 : H32 n12 = some (.lst [.int (0 - 1)]) := by rw [← hG12]; exact upd_same
            clear hG12
            have z12 : HB n12 = none := none_same T11 hn12
            have T12 := T11.trans S12
            refine ⟨(show 2 ≤ sizeLine from by decide), fun n13 hn13 => ?_⟩
            generalize hG13 : upd H32 n13 _ = H33
            have S13 : Same H32 H33 := by rw [← hG13]; exact same_new hn13
            have g13 : H33 n13 = some (.tup [.str "f", .ref n12]) := by rw [← hG13]; exact upd_same
            clear hG13
            have z13 : HB n13 = none := none_same T12 hn13
            have T13 := T12.trans S13
            refine ⟨(show 1 ≤ sizeLine from by decide), fun n14 hn14 => ?_⟩
            generalize hG14 : upd H33 n14 _ = H34
            have S14 : Same H33 H34 := by rw [← hG14]; exact same_new hn14
            have g14 : H34 n14 = some (.lst [.non]) := by rw [← hG14]; exact upd_same
            clear hG14
            have z14 : HB n14 = none := none_same T13 hn14
            have T14 := T13.trans S14
            refine ⟨(show 2 ≤ sizeLine from by decide), fun n15 hn15 => ?_⟩
            generalize hG15 : upd H34 n15 _ = H35
            have S15 : Same H34 H35 := by rw [← hG15]; exact same_new hn15
            have g15 : H35 n15 = some (.lst [.str "a", .ref n14]) := by rw [← hG15]; exact upd_same
            clear hG15
            have z15 : HB n15 = none := none_same T14 hn15
            have T15 := T14.trans S15
            refine ⟨(show 4 ≤ sizeLine from by decide), fun n16 hn16 => ?_⟩
            generalize hG16 : upd H35 n16 _ = H36
            have S16 : Same H35 H36 := by rw [← hG16]; exact same_new hn16
            have g16 : H36 n16 = some (.tup [.int 0, .int 0, .int 0, .int 0]) := by rw [← hG16]; exact upd_same
            clear hG16
            have z16 : HB n16 = none := none_same T15 hn16
            have T16 := T15.trans S16
            refine ⟨(show 2 ≤ sizeLine from by decide), fun n17 hn17 => ?_⟩
            generalize hG17 : upd H36 n17 _ = H37
            have S17 : Same H36 H37 := by rw [← hG17]; exact same_new hn17
            have g17 : H37 n17 = some (.tup [.str "f", .ref n16]) := by rw [← hG17]; exact upd_same
            clear hG17
            have z17 : HB n17 = none := none_same T16 hn17
            have T17 := T16.trans S17
            refine ⟨(show 2 ≤ sizeLine from by decide), fun n18 hn18 => ?_⟩
            generalize hG18 : upd H37 n18 _ = H38
            have S18 : Same H37 H38 := by rw [← hG18]; exact same_new hn18
            have g18 : H38 n18 = some (.tup [.non, .int 3]) := by rw [← hG18]; exact upd_same
            clear hG18
            have z18 : HB n18 = none := none_same T17 hn18
            have T18 := T17.trans S18
            refine ⟨(show 5 ≤ sizeLine from by decide), fun n19 hn19 => ?_⟩
            generalize hG19 : upd H38 n19 _ = H39
            have S19 : Same H38 H39 := by rw [← hG19]; exact same_new hn19
            have g19 : H39 n19 = some (.lst [.ref n11, .ref n13, .ref n15, .ref n17, .ref n18]) := by rw [← hG19]; exact upd_same
            clear hG19
            have z19 : HB n19 = none := none_same T18 hn19
            have T19 := T18.trans S19
            refine ⟨n9, n19, _, _, rfl, rfl, ((Same.trans S10 (Same.trans S11 (Same.trans S12 (Same.trans S13 (Same.trans S14 (Same.trans S15 (Same.trans S16 (Same.trans S17 (Same.trans S18 S19))))))))) _ _ g9), g19, (show 15 ≤ sizeLine from by decide), fun n20 hn20 => ?_⟩
            generalize hG20 : upd H39 n20 _ = H40
            have S20 : Same H39 H40 := by rw [← hG20]; exact same_new hn20
            have g20 : H40 n20 = some (.lst [.non, .ref n1, .ref n2, .ref n4, .ref n5, .ref n6, .ref n7, .int 3, .str "ab", .ref n8, .ref n11, .ref n13, .ref n15, .ref n17, .ref n18]) := by rw [← hG20]; exact upd_same
            clear hG20
            have z20 : HB n20 = none := none_same T19 hn20
            have T20 := T19.trans S20
            refine ⟨_, rfl, ?_⟩
            refine ⟨(show 1 ≤ sizeLine from by decide), fun n21 hn21 => ?_⟩
            generalize hG21 : upd H40 n21 _ = H41
            have S21 : Same H40 H41 := by rw [← hG21]; exact same_new hn21
            have g21 : H41 n21 = some (.tup [.bl false]) := by rw [← hG21]; exact upd_same
            clear hG21
            have z21 : HB n21 = none := none_same T20 hn21
            have T21 := T20.trans S21
            refine ⟨(show 2 ≤ sizeLine from by decide), fun n22 hn22 => ?_⟩
            generalize hG22 : upd H41 n22 _ = H42
            have S22 : Same H41 H42 := by rw [← hG22]; exact same_new hn22
            have g22 : H42 n22 = some (.tup [.str "f", .ref n21]) := by rw [← hG22]; exact upd_same
            clear hG22
            have z22 : HB n22 = none := none_same T21 hn22
            have T22 := T21.trans S22
            refine ⟨(show 2 ≤ sizeLine from by decide), fun n23 hn23 => ?_⟩
            generalize hG23 : upd H42 n23 _ = H43
            have S23 : Same H42 H43 := by rw [← hG23]; exact same_new hn23
            have g23 : H43 n23 = some (.lst [.int 0, .bl true]) := by rw [← hG23]; exact upd_same
            clear hG23
            have z23 : HB n23 = none := none_same T22 hn23
            have T23 := T22.trans S23
            refine ⟨(show 2 ≤ sizeLine from by decide), fun n24 hn24 => ?_⟩
            generalize hG24 : upd H43 n24 _ = H44
            have S24 : Same H43 H44 := by rw [← hG24]; exact same_new hn24
            have g24 : H44 n24 = some (.tup [.str "g", .ref n23]) := by rw [← hG24]; exact upd_same
            clear hG24
            have z24 : HB n24 = none := none_same T23 hn24
            have T24 := T23.trans S24
            refine ⟨_, _, rfl, rfl, ?_⟩
            refine ⟨(show 2 ≤ sizeLine from by decide), fun n25 hn25 => ?_⟩
            generalize hG25 : upd H44 n25 _ = H45
            have S25 : Same H44 H45 := by rw [← hG25]; exact same_new hn25
            have g25 : H45 n25 = some (.tup [.str "A", .int (0 - 1)]) := by rw [← hG25]; exact upd_same
            clear hG25
            have z25 : HB n25 = none := none_same T24 hn25
            have T25 := T24.trans S25
            refine ⟨(show 2 ≤ sizeLine from by decide), fun n26 hn26 => ?_⟩
            generalize hG26 : upd H45 n26 _ = H46
            have S26 : Same H45 H46 := by rw [← hG26]; exact same_new hn26
            have g26 : H46 n26 = some (.tup [.str "", .str "0"]) := by rw [← hG26]; exact upd_same
            clear hG26
            have z26 : HB n26 = none := none_same T25 hn26
            have T26 := T25.trans S26
            refine ⟨(show 4 ≤ sizeLine from by decide), fun n27 hn27 => ?_⟩
            generalize hG27 : upd H46 n27 _ = H47
            have S27 : Same H46 H47 := by rw [← hG27]; exact same_new hn27
            have g27 : H47 n27 = some (.tup [.int 0, .int 0, .int 0, .int 0]) := by rw [← hG27]; exact upd_same
            clear hG27
            have z27 : HB n27 = none := none_same T26 hn27
            have T27 := T26.trans S27
            refine ⟨(show 2 ≤ sizeLine from by decide), fun n28 hn28 => ?_⟩
            generalize hG28 : upd H47 n28 _ = H48
            have S28 : Same H47 H48 := by rw [← hG28]; exact same_new hn28
            have g28 : H48 n28 = some (.tup [.non, .ref n27]) := by rw [← hG28]; exact upd_same
            clear hG28
            have z28 : HB n28 = none := none_same T27 hn28
            have T28 := T27.trans S28
            refine ⟨(show 5 ≤ sizeLine from by decide), fun n29 hn29 => ?_⟩
            generalize hG29 : upd H48 n29 _ = H49
            have S29 : Same H48 H49 := by rw [← hG29]; exact same_new hn29
            have g29 : H49 n29 = some (.lst [.ref n22, .ref n24, .ref n25, .ref n26, .ref n28]) := by rw [← hG29]; exact upd_same
            clear hG29
            have z29 : HB n29 = none := none_same T28 hn29
            have T29 := T28.trans S29
            refine ⟨n20, n29, _, _, rfl, rfl, ((Same.trans S21 (Same.trans S22 (Same.trans S23 (Same.trans S24 (Same.trans S25 (Same.trans S26 (Same.trans S27 (Same.trans S28 S29)))))))) _ _ g20), g29, (show 20 ≤ sizeLine from by decide), fun n30 hn30 => ?_⟩
            generalize hG30 : upd H49 n30 _ = H50
            have S30 : Same H49 H50 := by rw [← hG30]; exact same_new hn30
            have g30 : H50 n30 = some (.lst [.non, .ref n1, .ref n2, .ref n4, .ref n5, .ref n6, .ref n7, .int 3, .str "ab", .ref n8, .ref n11, .ref n13, .ref n15, .ref n17, .ref n18, .ref n22, .ref n24, .ref n25, .ref n26, .ref n28]) := by rw [← hG30]; exact upd_same
            clear hG30
            have z30 : HB n30 = none := none_same T29 hn30
            have T30 := T29.trans S30
            refine ⟨_, rfl, ?_⟩
            refine ⟨(show 1 ≤ sizeLine from by decide), fun n31 hn31 => ?_⟩
            generalize hG31 : upd H50 n31 _ = H51
            have S31 : Same H50 H51 := by rw [← hG31]; exact same_new hn31
            have g31 : H51 n31 = some (.tup [.int 99]) := by rw [← hG31]; exact upd_same
            clear hG31
            have z31 : HB n31 = none := none_same T30 hn31
            have T31 := T30.trans S31
            refine ⟨(show 2 ≤ sizeLine from by decide), fun n32 hn32 => ?_⟩
            generalize hG32 : upd H51 n32 _ = H52
            have S32 : Same H51 H52 := by rw [← hG32]; exact same_new hn32
            have g32 : H52 n32 = some (.tup [.str "A", .ref n31]) := by rw [← hG32]; exact upd_same
            clear hG32
            have z32 : HB n32 = none := none_same T31 hn32
            have T32 := T31.trans S32
            refine ⟨(show 1 ≤ sizeLine from by decide), fun n33 hn33 => ?_⟩
            generalize hG33 : upd H52 n33 _ = H53
            have S33 : Same H52 H53 := by rw [← hG33]; exact same_new hn33
            have g33 : H53 n33 = some (.lst [.bl true]) := by rw [← hG33]; exact upd_same
            clear hG33
            have z33 : HB n33 = none := none_same T32 hn33
            have T33 := T32.trans S33
            refine ⟨(show 2 ≤ sizeLine from by decide), fun n34 hn34 => ?_⟩
            generalize hG34 : upd H53 n34 _ = H54
            have S34 : Same H53 H54 := by rw [← hG34]; exact same_new hn34
            have g34 : H54 n34 = some (.tup [.str "1a", .ref n33]) := by rw [← hG34]; exact upd_same
            clear hG34
            have z34 : HB n34 = none := none_same T33 hn34
            have T34 := T33.trans S34
            refine ⟨(show 2 ≤ sizeLine from by decide), fun n35 hn35 => ?_⟩
            generalize hG35 : upd H54 n35 _ = H55
            have S35 : Same H54 H55 := by rw [← hG35]; exact same_new hn35
            have g35 : H55 n35 = some (.lst [.ref n32, .ref n34]) := by rw [← hG35]; exact upd_same
            clear hG35
            have z35 : HB n35 = none := none_same T34 hn35
            have T35 := T34.trans S35
            refine ⟨n30, n35, _, _, rfl, rfl, ((Same.trans S31 (Same.trans S32 (Same.trans S33 (Same.trans S34 S35)))) _ _ g30), g35, (show 22 ≤ sizeLine from by decide), fun n36 hn36 => ?_⟩
            generalize hG36 : upd H55 n36 _ = H56
            have S36 : Same H55 H56 := by rw [← hG36]; exact same_new hn36
            have g36 : H56 n36 = some (.lst [.non, .ref n1, .ref n2, .ref n4, .ref n5, .ref n6, .ref n7, .int 3, .str "ab", .ref n8, .ref n11, .ref n13, .ref n15, .ref n17, .ref n18, .ref n22, .ref n24, .ref n25, .ref n26, .ref n28, .ref n32, .ref n34]) := by rw [← hG36]; exact upd_same
            clear hG36
            have z36 : HB n36 = none := none_same T35 hn36
            have T36 := T35.trans S36
            refine ⟨_, rfl, .inl ⟨rfl, _, SqL.of (T36 _ _ hbB)⟩, _, rfl, _, rfl, _, rfl, b, 22, _, rfl, BB.same T36, by omega, by decide, by decide, fun rC HC aC bC sC BC => ?_⟩
            have NW : NewIn HB HC (off [b, bt] HC) := fun c o h1 h2 => off_put (fun mc => by
              simp only [List.mem_cons, List.not_mem_nil, or_false] at mc
              rcases mc with e | e
              · obtain ⟨y1, y2, y3, hb, _⟩ := BB
                rw [e, hb] at h1
                cases h1
              · rw [e, hbB] at h1
                cases h1) h2
            have toC : ∀ {c o}, HB c = none → H56 c = some o → HC c = some o := fun {c o} h1 h2 => sC c o (fun e => by
              obtain ⟨y1, y2, y3, hb, _⟩ := BB
              rw [e, hb] at h1
              cases h1) h2
            have all : ∀ v ∈ ([.non, .ref n1, .ref n2, .ref n4, .ref n5, .ref n6, .ref n7, .int 3, .str "ab", .ref n8, .ref n11, .ref n13, .ref n15, .ref n17, .ref n18, .ref n22, .ref n24, .ref n25, .ref n26, .ref n28, .ref n32, .ref n34] : List V), ∃ e ∈ oddB rows.length, Dp K (off [b, bt] HC) v e := by
              intro v hv
              simp only [List.mem_cons, List.not_mem_nil, or_false] at hv
              rcases hv with rfl | rfl | rfl | rfl | rfl | rfl | rfl | rfl | rfl | rfl | rfl | rfl | rfl | rfl | rfl | rfl | rfl | rfl | rfl | rfl | rfl | rfl
              · exact ⟨(oddB rows.length)[0]'(show 0 < 22 from by decide), List.getElem_mem _, .non⟩
              · exact ⟨(oddB rows.length)[1]'(show 1 < 22 from by decide), List.getElem_mem _, (.tup (SqT.of (NW _ _ z1 (toC z1 ((Same.trans S2 (Same.trans S3 (Same.trans S4 (Same.trans S5 (Same.trans S6 (Same.trans S7 (Same.trans S8 (Same.trans S9 (Same.trans S10 (Same.trans S11 (Same.trans S12 (Same.trans S13 (Same.trans S14 (Same.trans S15 (Same.trans S16 (Same.trans S17 (Same.trans S18 (Same.trans S19 (Same.trans S20 (Same.trans S21 (Same.trans S22 (Same.trans S23 (Same.trans S24 (Same.trans S25 (Same.trans S26 (Same.trans S27 (Same.trans S28 (Same.trans S29 (Same.trans S30 (Same.trans S31 (Same.trans S32 (Same.trans S33 (Same.trans S34 (Same.trans S35 S36)))))))))))))))))))))))))))))))))) _ _ g1)))) (.cons (.str "a") .nil))⟩
              · exact ⟨(oddB rows.length)[2]'(show 2 < 22 from by decide), List.getElem_mem _, (.tup (SqT.of (NW _ _ z2 (toC z2 ((Same.trans S3 (Same.trans S4 (Same.trans S5 (Same.trans S6 (Same.trans S7 (Same.trans S8 (Same.trans S9 (Same.trans S10 (Same.trans S11 (Same.trans S12 (Same.trans S13 (Same.trans S14 (Same.trans S15 (Same.trans S16 (Same.trans S17 (Same.trans S18 (Same.trans S19 (Same.trans S20 (Same.trans S21 (Same.trans S22 (Same.trans S23 (Same.trans S24 (Same.trans S25 (Same.trans S26 (Same.trans S27 (Same.trans S28 (Same.trans S29 (Same.trans S30 (Same.trans S31 (Same.trans S32 (Same.trans S33 (Same.trans S34 (Same.trans S35 S36))))))))))))))))))))))))))))))))) _ _ g2)))) (.cons (.str "a") (.cons (.int _) (.cons (.int _) .nil))))⟩
              · exact ⟨(oddB rows.length)[3]'(show 3 < 22 from by decide), List.getElem_mem _, (.tup (SqT.of (NW _ _ z4 (toC z4 ((Same.trans S5 (Same.trans S6 (Same.trans S7 (Same.trans S8 (Same.trans S9 (Same.trans S10 (Same.trans S11 (Same.trans S12 (Same.trans S13 (Same.trans S14 (Same.trans S15 (Same.trans S16 (Same.trans S17 (Same.trans S18 (Same.trans S19 (Same.trans S20 (Same.trans S21 (Same.trans S22 (Same.trans S23 (Same.trans S24 (Same.trans S25 (Same.trans S26 (Same.trans S27 (Same.trans S28 (Same.trans S29 (Same.trans S30 (Same.trans S31 (Same.trans S32 (Same.trans S33 (Same.trans S34 (Same.trans S35 S36))))))))))))))))))))))))))))))) _ _ g4)))) (.cons (.str "A") (.cons (.tup (SqT.of (NW _ _ z3 (toC z3 ((Same.trans S4 (Same.trans S5 (Same.trans S6 (Same.trans S7 (Same.trans S8 (Same.trans S9 (Same.trans S10 (Same.trans S11 (Same.trans S12 (Same.trans S13 (Same.trans S14 (Same.trans S15 (Same.trans S16 (Same.trans S17 (Same.trans S18 (Same.trans S19 (Same.trans S20 (Same.trans S21 (Same.trans S22 (Same.trans S23 (Same.trans S24 (Same.trans S25 (Same.trans S26 (Same.trans S27 (Same.trans S28 (Same.trans S29 (Same.trans S30 (Same.trans S31 (Same.trans S32 (Same.trans S33 (Same.trans S34 (Same.trans S35 S36)))))))))))))))))))))))))))))))) _ _ g3)))) .nil) .nil)))⟩
              · exact ⟨(oddB rows.length)[4]'(show 4 < 22 from by decide), List.getElem_mem _, (.tup (SqT.of (NW _ _ z5 (toC z5 ((Same.trans S6 (Same.trans S7 (Same.trans S8 (Same.trans S9 (Same.trans S10 (Same.trans S11 (Same.trans S12 (Same.trans S13 (Same.trans S14 (Same.trans S15 (Same.trans S16 (Same.trans S17 (Same.trans S18 (Same.trans S19 (Same.trans S20 (Same.trans S21 (Same.trans S22 (Same.trans S23 (Same.trans S24 (Same.trans S25 (Same.trans S26 (Same.trans S27 (Same.trans S28 (Same.trans S29 (Same.trans S30 (Same.trans S31 (Same.trans S32 (Same.trans S33 (Same.trans S34 (Same.trans S35 S36)))))))))))))))))))))))))))))) _ _ g5)))) (.cons (.str "a") (.cons (.int _) .nil)))⟩
              · exact ⟨(oddB rows.length)[5]'(show 5 < 22 from by decide), List.getElem_mem _, (.tup (SqT.of (NW _ _ z6 (toC z6 ((Same.trans S7 (Same.trans S8 (Same.trans S9 (Same.trans S10 (Same.trans S11 (Same.trans S12 (Same.trans S13 (Same.trans S14 (Same.trans S15 (Same.trans S16 (Same.trans S17 (Same.trans S18 (Same.trans S19 (Same.trans S20 (Same.trans S21 (Same.trans S22 (Same.trans S23 (Same.trans S24 (Same.trans S25 (Same.trans S26 (Same.trans S27 (Same.trans S28 (Same.trans S29 (Same.trans S30 (Same.trans S31 (Same.trans S32 (Same.trans S33 (Same.trans S34 (Same.trans S35 S36))))))))))))))))))))))))))))) _ _ g6)))) (.cons (.str "a") (.cons (.bl true) .nil)))⟩
              · exact ⟨(oddB rows.length)[6]'(show 6 < 22 from by decide), List.getElem_mem _, (.tup (SqT.of (NW _ _ z7 (toC z7 ((Same.trans S8 (Same.trans S9 (Same.trans S10 (Same.trans S11 (Same.trans S12 (Same.trans S13 (Same.trans S14 (Same.trans S15 (Same.trans S16 (Same.trans S17 (Same.trans S18 (Same.trans S19 (Same.trans S20 (Same.trans S21 (Same.trans S22 (Same.trans S23 (Same.trans S24 (Same.trans S25 (Same.trans S26 (Same.trans S27 (Same.trans S28 (Same.trans S29 (Same.trans S30 (Same.trans S31 (Same.trans S32 (Same.trans S33 (Same.trans S34 (Same.trans S35 S36)))))))))))))))))))))))))))) _ _ g7)))) (.cons (.str "a") (.cons (.str "0") .nil)))⟩
              · exact ⟨(oddB rows.length)[7]'(show 7 < 22 from by decide), List.getElem_mem _, (.int _)⟩
              · exact ⟨(oddB rows.length)[8]'(show 8 < 22 from by decide), List.getElem_mem _, (.str "ab")⟩
              · exact ⟨(oddB rows.length)[9]'(show 9 < 22 from by decide), List.getElem_mem _, (.tup (SqT.of (NW _ _ z8 (toC z8 ((Same.trans S9 (Same.trans S10 (Same.trans S11 (Same.trans S12 (Same.trans S13 (Same.trans S14 (Same.trans S15 (Same.trans S16 (Same.trans S17 (Same.trans S18 (Same.trans S19 (Same.trans S20 (Same.trans S21 (Same.trans S22 (Same.trans S23 (Same.trans S24 (Same.trans S25 (Same.trans S26 (Same.trans S27 (Same.trans S28 (Same.trans S29 (Same.trans S30 (Same.trans S31 (Same.trans S32 (Same.trans S33 (Same.trans S34 (Same.trans S35 S36))))))))))))))))))))))))))) _ _ g8)))) (.cons (.str "") (.cons (.int _) .nil)))⟩
              · exact ⟨(oddB rows.length)[10]'(show 10 < 22 from by decide), List.getElem_mem _, (.tup (SqT.of (NW _ _ z11 (toC z11 ((Same.trans S12 (Same.trans S13 (Same.trans S14 (Same.trans S15 (Same.trans S16 (Same.trans S17 (Same.trans S18 (Same.trans S19 (Same.trans S20 (Same.trans S21 (Same.trans S22 (Same.trans S23 (Same.trans S24 (Same.trans S25 (Same.trans S26 (Same.trans S27 (Same.trans S28 (Same.trans S29 (Same.trans S30 (Same.trans S31 (Same.trans S32 (Same.trans S33 (Same.trans S34 (Same.trans S35 S36)))))))))))))))))))))))) _ _ g11)))) (.cons (.str "f") (.cons (.tup (SqT.of (NW _ _ z10 (toC z10 ((Same.trans S11 (Same.trans S12 (Same.trans S13 (Same.trans S14 (Same.trans S15 (Same.trans S16 (Same.trans S17 (Same.trans S18 (Same.trans S19 (Same.trans S20 (Same.trans S21 (Same.trans S22 (Same.trans S23 (Same.trans S24 (Same.trans S25 (Same.trans S26 (Same.trans S27 (Same.trans S28 (Same.trans S29 (Same.trans S30 (Same.trans S31 (Same.trans S32 (Same.trans S33 (Same.trans S34 (Same.trans S35 S36))))))))))))))))))))))))) _ _ g10)))) (.cons (.int _) .nil)) .nil)))⟩
              · exact ⟨(oddB rows.length)[11]'(show 11 < 22 from by decide), List.getElem_mem _, (.tup (SqT.of (NW _ _ z13 (toC z13 ((Same.trans S14 (Same.trans S15 (Same.trans S16 (Same.trans S17 (Same.trans S18 (Same.trans S19 (Same.trans S20 (Same.trans S21 (Same.trans S22 (Same.trans S23 (Same.trans S24 (Same.trans S25 (Same.trans S26 (Same.trans S27 (Same.trans S28 (Same.trans S29 (Same.trans S30 (Same.trans S31 (Same.trans S32 (Same.trans S33 (Same.trans S34 (Same.trans S35 S36)))))))))))))))))))))) _ _ g13)))) (.cons (.str "f") (.cons (.lst (SqL.of (NW _ _ z12 (toC z12 ((Same.trans S13 (Same.trans S14 (Same.trans S15 (Same.trans S16 (Same.trans S17 (Same.trans S18 (Same.trans S19 (Same.trans S20 (Same.trans S21 (Same.trans S22 (Same.trans S23 (Same.trans S24 (Same.trans S25 (Same.trans S26 (Same.trans S27 (Same.trans S28 (Same.trans S29 (Same.trans S30 (Same.trans S31 (Same.trans S32 (Same.trans S33 (Same.trans S34 (Same.trans S35 S36))))))))))))))))))))))) _ _ g12)))) (.cons (.int _) .nil)) .nil)))⟩
              · exact ⟨(oddB rows.length)[12]'(show 12 < 22 from by decide), List.getElem_mem _, (.lst (SqL.of (NW _ _ z15 (toC z15 ((Same.trans S16 (Same.trans S17 (Same.trans S18 (Same.trans S19 (Same.trans S20 (Same.trans S21 (Same.trans S22 (Same.trans S23 (Same.trans S24 (Same.trans S25 (Same.trans S26 (Same.trans S27 (Same.trans S28 (Same.trans S29 (Same.trans S30 (Same.trans S31 (Same.trans S32 (Same.trans S33 (Same.trans S34 (Same.trans S35 S36)))))))))))))))))))) _ _ g15)))) (.cons (.str "a") (.cons (.lst (SqL.of (NW _ _ z14 (toC z14 ((Same.trans S15 (Same.trans S16 (Same.trans S17 (Same.trans S18 (Same.trans S19 (Same.trans S20 (Same.trans S21 (Same.trans S22 (Same.trans S23 (Same.trans S24 (Same.trans S25 (Same.trans S26 (Same.trans S27 (Same.trans S28 (Same.trans S29 (Same.trans S30 (Same.trans S31 (Same.trans S32 (Same.trans S33 (Same.trans S34 (Same.trans S35 S36))))))))))))))))))))) _ _ g14)))) (.cons .non .nil)) .nil)))⟩
              · exact ⟨(oddB rows.length)[13]'(show 13 < 22 from by decide), List.getElem_mem _, (.tup (SqT.of (NW _ _ z17 (toC z17 ((Same.trans S18 (Same.trans S19 (Same.trans S20 (Same.trans S21 (Same.trans S22 (Same.trans S23 (Same.trans S24 (Same.trans S25 (Same.trans S26 (Same.trans S27 (Same.trans S28 (Same.trans S29 (Same.trans S30 (Same.trans S31 (Same.trans S32 (Same.trans S33 (Same.trans S34 (Same.trans S35 S36)))))))))))))))))) _ _ g17)))) (.cons (.str "f") (.cons (.tup (SqT.of (NW _ _ z16 (toC z16 ((Same.trans S17 (Same.trans S18 (Same.trans S19 (Same.trans S20 (Same.trans S21 (Same.trans S22 (Same.trans S23 (Same.trans S24 (Same.trans S25 (Same.trans S26 (Same.trans S27 (Same.trans S28 (Same.trans S29 (Same.trans S30 (Same.trans S31 (Same.trans S32 (Same.trans S33 (Same.trans S34 (Same.trans S35 S36))))))))))))))))))) _ _ g16)))) (.cons (.int _) (.cons (.int _) (.cons (.int _) (.cons (.int _) .nil))))) .nil)))⟩
              · exact ⟨(oddB rows.length)[14]'(show 14 < 22 from by decide), List.getElem_mem _, (.tup (SqT.of (NW _ _ z18 (toC z18 ((Same.trans S19 (Same.trans S20 (Same.trans S21 (Same.trans S22 (Same.trans S23 (Same.trans S24 (Same.trans S25 (Same.trans S26 (Same.trans S27 (Same.trans S28 (Same.trans S29 (Same.trans S30 (Same.trans S31 (Same.trans S32 (Same.trans S33 (Same.trans S34 (Same.trans S35 S36))))))))))))))))) _ _ g18)))) (.cons .non (.cons (.int _) .nil)))⟩
              · exact ⟨(oddB rows.length)[15]'(show 15 < 22 from by decide), List.getElem_mem _, (.tup (SqT.of (NW _ _ z22 (toC z22 ((Same.trans S23 (Same.trans S24 (Same.trans S25 (Same.trans S26 (Same.trans S27 (Same.trans S28 (Same.trans S29 (Same.trans S30 (Same.trans S31 (Same.trans S32 (Same.trans S33 (Same.trans S34 (Same.trans S35 S36))))))))))))) _ _ g22)))) (.cons (.str "f") (.cons (.tup (SqT.of (NW _ _ z21 (toC z21 ((Same.trans S22 (Same.trans S23 (Same.trans S24 (Same.trans S25 (Same.trans S26 (Same.trans S27 (Same.trans S28 (Same.trans S29 (Same.trans S30 (Same.trans S31 (Same.trans S32 (Same.trans S33 (Same.trans S34 (Same.trans S35 S36)))))))))))))) _ _ g21)))) (.cons (.bl false) .nil)) .nil)))⟩
              · exact ⟨(oddB rows.length)[16]'(show 16 < 22 from by decide), List.getElem_mem _, (.tup (SqT.of (NW _ _ z24 (toC z24 ((Same.trans S25 (Same.trans S26 (Same.trans S27 (Same.trans S28 (Same.trans S29 (Same.trans S30 (Same.trans S31 (Same.trans S32 (Same.trans S33 (Same.trans S34 (Same.trans S35 S36))))))))))) _ _ g24)))) (.cons (.str "g") (.cons (.lst (SqL.of (NW _ _ z23 (toC z23 ((Same.trans S24 (Same.trans S25 (Same.trans S26 (Same.trans S27 (Same.trans S28 (Same.trans S29 (Same.trans S30 (Same.trans S31 (Same.trans S32 (Same.trans S33 (Same.trans S34 (Same.trans S35 S36)))))))))))) _ _ g23)))) (.cons (.int _) (.cons (.bl true) .nil))) .nil)))⟩
              · exact ⟨(oddB rows.length)[17]'(show 17 < 22 from by decide), List.getElem_mem _, (.tup (SqT.of (NW _ _ z25 (toC z25 ((Same.trans S26 (Same.trans S27 (Same.trans S28 (Same.trans S29 (Same.trans S30 (Same.trans S31 (Same.trans S32 (Same.trans S33 (Same.trans S34 (Same.trans S35 S36)))))))))) _ _ g25)))) (.cons (.str "A") (.cons (.int _) .nil)))⟩
              · exact ⟨(oddB rows.length)[18]'(show 18 < 22 from by decide), List.getElem_mem _, (.tup (SqT.of (NW _ _ z26 (toC z26 ((Same.trans S27 (Same.trans S28 (Same.trans S29 (Same.trans S30 (Same.trans S31 (Same.trans S32 (Same.trans S33 (Same.trans S34 (Same.trans S35 S36))))))))) _ _ g26)))) (.cons (.str "") (.cons (.str "0") .nil)))⟩
              · exact ⟨(oddB rows.length)[19]'(show 19 < 22 from by decide), List.getElem_mem _, (.tup (SqT.of (NW _ _ z28 (toC z28 ((Same.trans S29 (Same.trans S30 (Same.trans S31 (Same.trans S32 (Same.trans S33 (Same.trans S34 (Same.trans S35 S36))))))) _ _ g28)))) (.cons .non (.cons (.tup (SqT.of (NW _ _ z27 (toC z27 ((Same.trans S28 (Same.trans S29 (Same.trans S30 (Same.trans S31 (Same.trans S32 (Same.trans S33 (Same.trans S34 (Same.trans S35 S36)))))))) _ _ g27)))) (.cons (.int _) (.cons (.int _) (.cons (.int _) (.cons (.int _) .nil))))) .nil)))⟩
              · exact ⟨(oddB rows.length)[20]'(show 20 < 22 from by decide), List.getElem_mem _, (.tup (SqT.of (NW _ _ z32 (toC z32 ((Same.trans S33 (Same.trans S34 (Same.trans S35 S36))) _ _ g32)))) (.cons (.str "A") (.cons (.tup (SqT.of (NW _ _ z31 (toC z31 ((Same.trans S32 (Same.trans S33 (Same.trans S34 (Same.trans S35 S36)))) _ _ g31)))) (.cons (.int _) .nil)) .nil)))⟩
              · exact ⟨(oddB rows.length)[21]'(show 21 < 22 from by decide), List.getElem_mem _, (.tup (SqT.of (NW _ _ z34 (toC z34 ((Same.trans S35 S36) _ _ g34)))) (.cons (.str "1a") (.cons (.lst (SqL.of (NW _ _ z33 (toC z33 ((Same.trans S34 (Same.trans S35 S36)) _ _ g33)))) (.cons (.bl true) .nil)) .nil)))⟩
            obtain ⟨yv, hyv, e, he, hd⟩ := at_some (xs := ([.non, .ref n1, .ref n2, .ref n4, .ref n5, .ref n6, .ref n7, .int 3, .str "ab", .ref n8, .ref n11, .ref n13, .ref n15, .ref n17, .ref n18, .ref n22, .ref n24, .ref n25, .ref n26, .ref n28, .ref n32, .ref n34] : List V)) (r := rC) (P := fun v => ∃ e ∈ oddB rows.length, Dp K (off [b, bt] HC) v e) all aC bC
            have neg : n36 ≠ b := fun e => by
              obtain ⟨y1, y2, y3, hb, _⟩ := BB
              rw [e, hb] at z36
              cases z36
            have kC : Kp b HB HC := fun c o nb h => sC c o nb (T36 c o h)
            have FC := FB.trans (far_kp kC)
            obtain ⟨f1, f2, f3⟩ := fin (t := r9.toNat) FC (BC.up (by omega)) (kC _ _ nbt hbB) (daS FC (FB_S.trans (far_kp kC))) hd (oddB_ok (by omega) e he)
            exact ⟨n36, _, _, yv, rfl, rfl, SqL.of (sC _ _ neg g36), hyv, bt, vs, r9, yv, rfl, rfl, kC _ _ nbt hbB, lvs2, a9, by omega, f1, f2, f3, _, _, rfl⟩
    · rintro σ H12 ⟨F12, B12, ⟨vs, ds, hb12, da, bok, l1, l2⟩, v8, v9, rfl⟩
      have D12 := D10.far F12 hL2
      have daH : DpAll K H12 vs ds := (dp_same (Far.off (Far.same (Same.refl H12)))).2 da
      have out : ∀ {HX HE : Hp}, Same H12 HX → Far [l, m, lz, mz] HX HE → Far [b, l, m] H HE := fun SX FE c o nc h => by
        have nb : c ∉ [b] := fun e => nc (by rw [List.mem_singleton.mp e]; exact List.mem_cons_self)
        have h4 := F4 c o nb h
        have h6 := F6 c o nb h
        refine FE c o (fun mc => ?_) (SX _ _ (F12 c o (fun mc => ?_) (F10 c o nb h)))
        · simp only [List.mem_cons, List.not_mem_nil, or_false] at mc
          rcases mc with e | e | e | e
          · exact nc (by rw [e]; simp)
          · exact nc (by rw [e]; simp)
          · rw [e, nlz] at h4
            cases h4
          · rw [e, nmz] at h4
            cases h4
        · simp only [List.mem_cons, List.not_mem_nil, or_false] at mc
          rcases mc with e | e
          · exact nc (by rw [e]; simp)
          · rw [e, hbt] at h6
            cases h6
      have smr : Sm 10 "row" ∧ Sm 10 "name" := by
        unfold Sm
        decide +kernel
      cases em : mkD [] ds with
      | row e0 =>
        refine ⟨_, rfl, bt, vs, ds, rfl, SqL.of hb12, daH, by omega, (fun e he => (bok e he).io), (fun e u t H13 em' S13 du g13 => ?_), (fun e u t H13 em' => by rw [em] at em'; cases em'), (fun rows' em' => by rw [em] at em'; cases em')⟩
        rw [em] at em'
        cases em'
        refine ⟨_, rfl, .ref bt, rfl, .inr ⟨false, bt, vs, ds, rfl, SqL.of (S13 _ _ hb12), dp_dq.2 ((dp_same S13).2 daH), by omega, (fun e he => (bok e he).io.sh), (fun e u2 t2 H14 em2 S14 du2 g14 => ?_), (fun e u t H13 em' => by rw [em] at em'; cases em'), (fun rows' em' => by rw [em] at em'; cases em')⟩⟩
        rw [em] at em2
        cases em2
        obtain ⟨f1, f2, f3⟩ := (fit_pair (n := 3) (w := 1000) smr.1 (bok e0 (mk_row em)).fit (by decide)).ok (by decide) (by decide)
        have g13' := S14 _ _ g13
        have D14 := D12.same (S13.trans S14)
        refine ⟨_, _, rfl, _, rfl, t, _, 0, _, rfl, rfl, SqL.of g13', rfl, rfl, _, rfl, ifN (by decide +kernel) ?_⟩
        refine ⟨_, rfl, _, .list [.str "row", e0], rfl, D14.sy, .lst (SqL.of g14) (.cons (.str _) (.cons du2 .nil)), f1, f2, f3, _, rfl, _, .list [.str "row", e0], rfl, D14.sy, .lst (SqL.of g13') (.cons (.str _) (.cons (dp_dq.1 ((dp_same S14).1 du)) .nil)), f1, f2, f3, rfl, _, rfl, ifnY rfl ?_⟩
        exact ⟨_, rfl, _, rfl, _, rfl, x, l, m, z, lz, mz, q0, rows, as, asz, ps, rfl, D14, rws, few, fun HE FE => q _ (out (S13.trans S14) FE)⟩
      | name e0 =>
        refine ⟨_, rfl, bt, vs, ds, rfl, SqL.of hb12, daH, by omega, (fun e he => (bok e he).io), (fun e u t H13 em' => by rw [em] at em'; cases em'), (fun e u t H13 em' S13 du g13 => ?_), (fun rows' em' => by rw [em] at em'; cases em')⟩
        rw [em] at em'
        cases em'
        refine ⟨_, rfl, .ref bt, rfl, .inr ⟨false, bt, vs, ds, rfl, SqL.of (S13 _ _ hb12), dp_dq.2 ((dp_same S13).2 daH), by omega, (fun e he => (bok e he).io.sh), (fun e u t H13 em' => by rw [em] at em'; cases em'), (fun e u2 t2 H14 em2 S14 du2 g14 => ?_), (fun rows' em' => by rw [em] at em'; cases em')⟩⟩
        rw [em] at em2
        cases em2
        obtain ⟨e1, he1, hu1⟩ := mk_name em
        obtain ⟨f1, f2, f3⟩ := (fit_pair (n := 3) (w := 1000) smr.2 ((bok e1 he1).its e0 hu1) (by decide)).ok (by decide) (by decide)
        have g13' := S14 _ _ g13
        have D14 := D12.same (S13.trans S14)
        refine ⟨_, _, rfl, _, rfl, t, _, 0, _, rfl, rfl, SqL.of g13', rfl, rfl, _, rfl, ifN (by decide +kernel) ?_⟩
        refine ⟨_, rfl, _, .list [.str "name", e0], rfl, D14.sy, .lst (SqL.of g14) (.cons (.str _) (.cons du2 .nil)), f1, f2, f3, _, rfl, _, .list [.str "name", e0], rfl, D14.sy, .lst (SqL.of g13') (.cons (.str _) (.cons (dp_dq.1 ((dp_same S14).1 du)) .nil)), f1, f2, f3, rfl, _, rfl, ifnY rfl ?_⟩
        exact ⟨_, rfl, _, rfl, _, rfl, x, l, m, z, lz, mz, q0, rows, as, asz, ps, rfl, D14, rws, few, fun HE FE => q _ (out (S13.trans S14) FE)⟩
      | ok rows' =>
        have rws' := (mk_good em bok ⟨⟨List.nodup_nil, fun i r h => (by cases h)⟩, (fun r h => by cases h), Nat.zero_le _⟩ (by rw [List.length_nil]; omega)).1
        refine ⟨_, rfl, bt, vs, ds, rfl, SqL.of hb12, daH, by omega, (fun e he => (bok e he).io), (fun e u t H13 em' => by rw [em] at em'; cases em'), (fun e u t H13 em' => by rw [em] at em'; cases em'), fun rows2 em' kq ps' t H13 S13 gk nk pr' g13 => ?_⟩
        rw [em] at em'
        cases em'
        refine ⟨_, rfl, .ref bt, rfl, .inr ⟨false, bt, vs, ds, rfl, SqL.of (S13 _ _ hb12), dp_dq.2 ((dp_same S13).2 daH), by omega, (fun e he => (bok e he).io.sh), (fun e u t H13 em' => by rw [em] at em'; cases em'), (fun e u t H13 em' => by rw [em] at em'; cases em'), fun rows2 em2 x2 lx mx asx t2 H14 S14 nx nlx nmx bk2 g14 => ?_⟩⟩
        rw [em] at em2
        cases em2
        have g13' := S14 _ _ g13
        have gk' := S14 _ _ gk
        have pr14 : Paired (RowAt K H14) rows' ps' := paired_imp (fun _ _ h => h.same S14) pr'
        have D14 := D12.same (S13.trans S14)
        refine ⟨_, _, rfl, _, rfl, t, _, 0, _, rfl, rfl, SqL.of g13', rfl, rfl, _, rfl, ifY rfl ?_⟩
        refine ⟨_, rfl, t2, _, 0, _, rfl, rfl, SqL.of g14, rfl, rfl, _, rfl, ifnY rfl ?_⟩
        refine ⟨_, rfl, t2, _, 1, _, rfl, rfl, SqL.of g14, rfl, _, rfl, t, _, 1, _, rfl, rfl, SqL.of g13', rfl, x2, lx, mx, rows', asx, kq, ps', rfl, bk2, SqL.of gk', pr14, rws', D14.sy, fun H15 S15 => ⟨_, rfl, iteF ?_⟩⟩
        have D15 := D14.same S15
        have bk15 := bk2.same S15
        obtain ⟨dx15, hx15⟩ := bk15.obj
        have gn' := rws'.good.nm
        refine ⟨_, rfl, t2, _, 1, _, rfl, rfl, SqL.of (S15 _ _ g14), rfl, _, rfl, x2, _, _, _, rfl, hx15, book_ty T D15.b1, first_self, x2, lx, mx, rows', asx, .ref x, rfl, bk15, .inl ⟨x, l, m, rows, as, rfl, D15.b1, gn', gn, ?_⟩⟩
        refine ⟨_, rfl, t, _, 1, _, rfl, rfl, SqL.of (S15 _ _ g13'), rfl, _, rfl, rowsD rows', rowsD rows, .lst (SqL.of (S15 _ _ gk')) (rows_dp (paired_imp (fun _ _ h => h.same S15) pr14)), .lst (SqL.of D15.ls) (rows_dp D15.pr), rows_shaped gn', rows_shaped gn, rfl, _, rfl, ifnY rfl ?_⟩
        exact ⟨_, rfl, _, rfl, _, rfl, x, l, m, z, lz, mz, q0, rows, as, asz, ps, rfl, D15, rws, few, fun HE FE => q _ (out (S13.trans (S14.trans S15)) FE)⟩
end
end L04

set_option Elab.async false
set_option linter.all false
set_option maxRecDepth 100000
set_option maxHeartbeats 4000000
set_option pp.deepTerms false
set_option pp.deepTerms.threshold 4
set_option pp.maxSteps 1000
namespace L04
open PySem L2 Tp
section
variable {P : Program} {w : World} {K : PySem.W.Frag} {mg : Str → Option Value} {base : Heap} {a : Ad} {d : Fd}
/-! ### the law -/
theorem rws_nil : Rws [] := ⟨⟨List.nodup_nil, fun i r h => by cases h⟩, (fun r h => by cases h), Nat.zero_le _⟩
theorem paired_nil {α β : Type} {F : α → β → Prop} {l : List β} (h : Paired F [] l) : l = [] := by
  cases h
  rfl
def keyA : Key := .inr "a"
/-- things that are no lists, as the law asks them -/
def SelfT (P : Program) (w : World) (K : PySem.W.Frag) (C : Addr) (H : Hp) (v : V) : Prop := NoLT K H v ∧ (scal v v = true ∨ (∃ d t, v = .ref d ∧ H d = some (.dK [(keyA, .ref t)])) ∨ ∃ x l m, v = .ref x ∧ BookAt P w K C H x l m [] [])
theorem SelfT.same {C : Addr} {H H' : Hp} {v : V} (h : SelfT P w K C H v) (S : Same H H') : SelfT P w K C H' v := by
  refine ⟨NoLT.same h.1 S, ?_⟩
  rcases h.2 with h | ⟨d, t, e, h⟩ | ⟨x, l, m, e, h⟩
  · exact .inl h
  · exact .inr (.inl ⟨d, t, e, S _ _ h⟩)
  · exact .inr (.inr ⟨x, l, m, e, h.same S⟩)
def spLaw (K : PySem.W.Frag) : Sp := fun vs H Q _ => ∃ (s : Addr) (ns : List Int), vs = [.ref s] ∧ Sys K H ∧ SqL K H s (ns.map V.int) ∧ ns.length ≤ 63 ∧ ∀ H', Q (.bl true) H'
theorem ok_law (T : Txt K mg a d) : FnG P w K mg base CX0 11 a.law d.law ["_law_script"] (spLaw K) := by
  have G_cell := ok_cell (P := P) (w := w) (base := base) T
  have G_box := ok_box (P := P) (w := w) (base := base) T
  have G_bookInit := ok_bookInit (P := P) (w := w) (base := base) T
  have G_eq := ok_eq (P := P) (w := w) (base := base) T
  have G_holds := ok_holds (P := P) (w := w) (base := base) T
  have G_grown := ok_grown (P := P) (w := w) (base := base) T
  have G_againR := ok_againR (P := P) (w := w) (base := base) T
  have G_made := ok_made (P := P) (w := w) (base := base) T
  have bBook1 := bk1 T
  obtain ⟨dsB, vBook, bBook⟩ := bk0 T
  refine okG T.F_law scLaw (fun vs H Q E h => ?_) (fun cdv A outer s H vs Q E hr hg h => ?_)
  · obtain ⟨s, ns, rfl, _⟩ := h
    rfl
  · obtain ⟨s, ns, rfl, sy, hS, h63, q⟩ := h
    refine ⟨_, (pss_cons (ps_for PassesOwn.never rfl (pi_range1 (by rfl) T.range_ (pa_cons (pe_callB (call_max2 rfl) (by rfl) T.max_ Tp.bt_max (pa_cons pe_int (pa_cons (pe_callB (call_min2 rfl) (by rfl) T.min_ Tp.bt_min (pa_cons pe_int (pa_cons (pe_callB call_len_seq (by rfl) T.len_ Tp.bt_len (pa_cons (pv 0) pa_nil)) pa_nil))) pa_nil))) pa_nil)) (pg_name (i := 1) scLaw.nd rfl (Or.inl rfl)) (pss_cons (ps_set (i := 2) scLaw.nd rfl (Or.inl rfl) (Tp.pe_callG G_box (hr.mono (by decide)) hg (by rfl) T.mg_box T.F_box.kp T.b_box .nil pass0 (pa_cons (Tp.pe_callG G_cell (hr.mono (by decide)) hg (by rfl) T.mg_cell T.F_cell.kp T.b_cell .nil pass0 (pa_cons (pv 0) (pa_cons (pv 1) pa_nil))) pa_nil)))
      (pss_cons (ps_par (i := 3) (j := 4) (by rfl) scLaw.nd rfl rfl (by decide) rfl rfl (pa_cons (Tp.pe_makeE0 T.mk_Book G_bookInit (hr.mono (by decide)) (by rfl) T.mg_Book bBook vBook (fun σ => Tp.passA0 σ)) (pa_cons (pe_lst pa_nil) pa_nil)) (by rfl))
      (pss_one (ps_if (PW.pt (pw_or (pt_not (pt_val (Tp.pe_callG G_holds (hr.mono (by decide)) hg (by rfl) T.mg_holds T.F_holds.kp T.b_holds .nil pass0 (pa_cons (pv 3) (pa_cons (pe_lst pa_nil) pa_nil))))) (pw_or (pt_not (pt_val (Tp.pe_callG G_grown (hr.mono (by decide)) hg (by rfl) T.mg_grown T.F_grown.kp T.b_grown .nil pass0 (pa_cons (pv 2) (pa_cons (pv 3) (pa_cons (pv 4) pa_nil)))))) (pw_or1 (pt_not (pt_val (Tp.pe_callG G_againR (hr.mono (by decide)) hg (by rfl) T.mg_againR T.F_againR.kp T.b_againR .nil pass0 (pa_cons (pv 2) (pa_cons (pv 3) (pa_cons (pv 4) pa_nil)))))))))) (pss_one (ps_ret pe_bl)) pss_nil)))))
      (pss_cons (ps_for PassesOwn.never rfl (pi_list (pe_lst (pa_cons pe_non (pa_cons pe_int (pa_cons pe_str (pa_cons (pe_disp (pps_cons pe_str (pe_tup pa_nil) pps_nil) (by rfl) (by rfl) (fun z => by cases z) (by decide)) (pa_cons pe_bl (pa_cons (Tp.pe_makeE0 T.mk_Book G_bookInit (hr.mono (by decide)) (by rfl) T.mg_Book bBook vBook (fun σ => Tp.passA0 σ)) pa_nil)))))))) (pg_name (i := 5) scLaw.nd rfl (Or.inl rfl)) (pss_cons (ps_set (i := 6) scLaw.nd rfl (Or.inl rfl) (pe_call G_made (hr.mono (by decide)) (by rfl) T.mg_made T.F_made.kp T.b_made .nil pass0 (pa_cons (pv 5) pa_nil)))
      (pss_one (ps_if (PW.pt (pw_or (pt_cmpR op_ne (pe_ix ix_list (pv 6) pe_int (fun _ _ => rfl)) pe_str (nomark _)) (pw_or1 (pt_not (pt_cmpR (Tp.op_orR op_eq (Tp.op_orR (op_eqV hr.units) (Tp.op_eqE T.me_eq.at_ T.me_eq.fn G_eq (hr.mono (by decide)) T.b_eq pass0))) (pe_ix ix_list (pv 6) pe_int (fun _ _ => rfl)) (pv 5) (nomark _)))))) (pss_one (ps_ret pe_bl)) pss_nil))))
      (pss_one (ps_ret (pe_cmpR (Tp.op_eqE T.me_eq.at_ T.me_eq.fn G_eq (hr.mono (by decide)) T.b_eq pass0) (pe_ix ix_list (pe_call G_made (hr.mono (by decide)) (by rfl) T.mg_made T.F_made.kp T.b_made .nil pass0 (pa_cons (pe_tup pa_nil) pa_nil)) pe_int (fun _ _ => rfl)) (Tp.pe_makeE T.mk_Book G_bookInit (hr.mono (by decide)) (by rfl) T.mg_Book bBook1 .nil (fun σ => Tp.passA0 σ) (pa_cons (pe_lst pa_nil) pa_nil)) (nomark _)))))), ?_⟩
    refine ⟨_, rfl, s, _, rfl, .inl hS, _, _, rfl, _, _, rfl, ?_⟩
    generalize hm : (if _ > (2 : Int) then _ else (2 : Int)) = m
    have m1 : 0 ≤ m ∧ m ≤ 8 := by
      rw [← hm]
      rw [List.length_map]
      repeat' split
      all_goals omega
    refine ⟨_, rfl, by omega, by omega, for_range (lo := 0) (n := m.toNat) (fun i σ H' => Same H H' ∧ ∃ v1 v2 v3 v4, σ = [some (.ref s), v1, v2, v3, v4, none, none]) ⟨Same.refl H, _, _, _, _, rfl⟩ ?_ ?_⟩
    · rintro i σ H0 hi ⟨S0, v1, v2, v3, v4, rfl⟩
      refine ⟨_, rfl, _, rfl, s, ns, _, rfl, S0.seq hS, by omega, by omega, fun c => ⟨_, rfl, fun b x0 y0 hb p1 p2 p3 => ?_⟩⟩
      have S1 : Same H0 (upd H0 b (.lst [.int x0, .int y0, .int 0])) := same_new hb
      have bx : BoxAt b 0 (upd H0 b (.lst [.int x0, .int y0, .int 0])) := ⟨x0, y0, 0, upd_same, p1, p2, p3, by decide, by decide⟩
      generalize upd H0 b (.lst [.int x0, .int y0, .int 0]) = H1 at S1 bx ⊢
      intro x dx h1 h2 h3
      have SB : Same H1 (upd (upd H1 dx (.own x)) x (.ins a.CBook dx [])) := same_two h1 h2
      refine book_ask (b := true) (ps := []) upd_same (emp_T T.lkE) .nil rws_nil.good (by decide) fun H2 l m' as nl nm k2 bk => ⟨rfl, ?_⟩
      obtain rfl : as = [] := paired_nil bk.row
      have S2 : Same H1 H2 := fun c o h => k2 c o (ne_of_none h h1) (SB _ _ h)
      refine ⟨Nat.zero_le _, fun q0 hq0 => ?_⟩
      have S3 := same_new (o := .lst []) hq0
      have g3 : (upd H2 q0 (.lst [])) q0 = some (.lst []) := upd_same
      generalize upd H2 q0 (.lst []) = H3 at S3 g3 ⊢
      refine ⟨_, _, rfl, ?_⟩
      have nbl : b ≠ l := fun e => by
        obtain ⟨y1, y2, y3, h, _⟩ := bx
        have := SB _ _ h
        rw [e, nl] at this
        cases this
      have nbq : b ≠ q0 := fun e => by
        obtain ⟨y1, y2, y3, h, _⟩ := bx
        have := S2 _ _ h
        rw [e, hq0] at this
        cases this
      have nql : q0 ≠ l := fun e => by
        have := bk.lst
        rw [← e, hq0] at this
        cases this
      have sy3 : Sys K H3 := sy.same (S0.trans (S1.trans (S2.trans S3)))
      have G3 : Gs P w K a.CBook H3 b x l m' q0 0 [] [] [] [] := ⟨bx.same (S2.trans S3), bk.same S3, g3, .nil, nql, nbl, nbq, sy3⟩
      refine ⟨_, rfl, Nat.zero_le _, fun q2 hq2 => ?_⟩
      have S4 := same_new (o := .lst []) hq2
      have g4 : (upd H3 q2 (.lst [])) q2 = some (.lst []) := upd_same
      generalize upd H3 q2 (.lst []) = H4 at S4 g4 ⊢
      have G4 := G3.same S4
      refine ⟨x, l, m', [], [], q2, [], rfl, G4.bk, SqL.of g4, .nil, rws_nil, G4.sy, fun H5 S5 => ⟨_, rfl, iteF ?_⟩⟩
      have G5 := G4.same S5
      refine ⟨_, rfl, _, rfl, _, rfl, b, 0, x, l, m', q0, rfl, G5, by decide, fun H6 n6 rows as6 ps6 ln6 G6 rws6 l6 F6 => ⟨_, rfl, iteF ?_⟩⟩
      refine ⟨_, rfl, _, rfl, _, rfl, b, n6, x, l, m', q0, rows, as6, ps6, rfl, G6, by omega, rws6, l6, fun H7 F7 => ⟨_, rfl, iteF ⟨fun c o h => ?_, _, _, _, _, rfl⟩⟩⟩
      have h0 := S0 _ _ h
      have h1' := S1 _ _ h0
      have hB := SB _ _ h1'
      have h2' := S2 _ _ h1'
      have nb : c ≠ b := fun e => by rw [e, hb] at h0; cases h0
      have ncl : c ≠ l := fun e => by rw [e, nl] at hB; cases hB
      have ncm : c ≠ m' := fun e => by rw [e, nm] at hB; cases hB
      have ncq : c ≠ q0 := fun e => by rw [e, hq0] at h2'; cases h2'
      refine F7 c o (fun mc => ?_) (F6 c o (fun mc => ?_) (S5 _ _ (S4 _ _ (S3 _ _ h2'))))
      · simp only [List.mem_cons, List.not_mem_nil, or_false] at mc
        rcases mc with e | e | e
        · exact nb e
        · exact ncl e
        · exact ncm e
      · simp only [List.mem_cons, List.not_mem_nil, or_false] at mc
        rcases mc with e | e | e | e
        · exact nb e
        · exact ncl e
        · exact ncm e
        · exact ncq e
    · rintro σ H1 ⟨S1, v1, v2, v3, v4, rfl⟩
      intro dd hdd
      refine ⟨Nat.zero_le _, fun t0 ht0 => ?_⟩
      have ndt : dd ≠ t0 := fun e => by
        rw [← e, upd_same] at ht0
        cases ht0
      refine ⟨by rw [upd_ne ndt]; exact upd_same, [(keyA, .ref t0)], rfl, (show 1 ≤ 15 from by decide), ?_⟩
      generalize hG : upd (upd (upd H1 dd _) t0 _) dd _ = H2
      have S2 : Same H1 H2 := by
        rw [← hG]
        intro c o h
        have n1 : c ≠ dd := ne_of_none h hdd
        have n2 : c ≠ t0 := fun e => by
          rw [e] at h
          rw [upd_ne (fun z => ndt z.symm), h] at ht0
          cases ht0
        rw [upd_ne n1, upd_ne n2, upd_ne n1]
        exact h
      have gd : H2 dd = some (.dK [(keyA, .ref t0)]) := by
        rw [← hG]
        exact upd_same
      have gt : H2 t0 = some (.tup []) := by
        rw [← hG, upd_ne (fun z => ndt z.symm)]
        exact upd_same
      clear hG
      intro x dx h1 h2 h3
      have SB : Same H2 (upd (upd H2 dx (.own x)) x (.ins a.CBook dx [])) := same_two h1 h2
      refine book_ask (b := true) (ps := []) upd_same (emp_T T.lkE) .nil rws_nil.good (by decide) fun H3 l m' as nl nm k3 bk => ⟨rfl, ?_⟩
      obtain rfl : as = [] := paired_nil bk.row
      have S3 : Same H2 H3 := fun c o h => k3 c o (ne_of_none h h1) (SB _ _ h)
      refine ⟨(show 6 ≤ sizeLine from by decide), fun n4 hn4 => ?_⟩
      have S4 := same_new (o := .lst [.non, .int 3, .str "ab", .ref dd, .bl true, .ref x]) hn4
      have g4 : (upd H3 n4 (.lst [.non, .int 3, .str "ab", .ref dd, .bl true, .ref x])) n4 = some (.lst [.non, .int 3, .str "ab", .ref dd, .bl true, .ref x]) := upd_same
      generalize upd H3 n4 (.lst [.non, .int 3, .str "ab", .ref dd, .bl true, .ref x]) = H4 at S4 g4 ⊢
      have all : ∀ v ∈ ([.non, .int 3, .str "ab", .ref dd, .bl true, .ref x] : List V), SelfT P w K a.CBook H4 v := by
        intro v hv
        simp only [List.mem_cons, List.not_mem_nil, or_false] at hv
        have gd4 := S4 _ _ (S3 _ _ gd)
        have gt4 := S4 _ _ (S3 _ _ gt)
        rcases hv with rfl | rfl | rfl | rfl | rfl | rfl
        · exact ⟨noLT_dq .non rfl, .inl rfl⟩
        · exact ⟨noLT_dq (.int 3) rfl, .inl rfl⟩
        · exact ⟨noLT_dq (.str "ab") rfl, .inl rfl⟩
        · exact ⟨noLT_dq (e := .dict [(.str "a", .tuple [])]) (.dic (kvs := [(keyA, .ref t0)]) (.inl gd4) (.cons (.str "a") .nil) (.cons (.tup (SqT.of gt4) .nil) .nil)) rfl, .inr (.inl ⟨dd, t0, rfl, gd4⟩)⟩
        · exact ⟨noLT_dq (.bl true) rfl, .inl rfl⟩
        · exact ⟨⟨_, book_ty T (bk.same S4), kit_any (.cons T.ki_Book_list (.cons T.ki_Book_tuple .nil))⟩, .inr (.inr ⟨x, l, m', rfl, bk.same S4⟩)⟩
      refine ⟨n4, rfl, ⟨_, SqL.of g4⟩, for_it (walk_list (xs := [.non, .int 3, .str "ab", .ref dd, .bl true, .ref x])) (fun i σ H' => Same H4 H' ∧ ∃ v1 v2 v3 v4 v5 v6, σ = [some (.ref s), v1, v2, v3, v4, v5, v6]) ⟨Same.refl _, _, _, _, _, _, _, rfl⟩ ?_ ?_ ?_⟩
      · rintro i σ H' _ ⟨S, _⟩
        exact SqL.of (S _ _ g4)
      · rintro i v σ _ H5 hi ⟨S5, v1, v2, v3, v4, v5, v6, rfl⟩ ⟨rfl, hv⟩
        obtain ⟨nolt, se⟩ := (all v (List.mem_of_getElem? hv)).same S5
        refine ⟨_, rfl, v, rfl, .inl ⟨nolt, fun t H6 S6 g6 => ?_⟩⟩
        refine ⟨_, rfl, t, _, 0, _, rfl, rfl, SqL.of g6, rfl, rfl, _, rfl, ifnY rfl ?_⟩
        refine ⟨_, rfl, t, _, 1, _, rfl, rfl, SqL.of g6, rfl, _, rfl, ?_⟩
        rcases se with sc | ⟨d', t', rfl, hd'⟩ | ⟨x', l', m'', rfl, bk'⟩
        · exact .inl ⟨sc, _, rfl, ifnY rfl ⟨S5.trans S6, _, _, _, _, _, _, rfl⟩⟩
        · have h6 := S6 _ _ hd'
          refine .inr (.inl ⟨1, by decide, .inr ⟨d', d', _, _, rfl, rfl, h6, h6, rfl, fun p hp => ?_⟩, _, rfl, iteF ⟨S5.trans S6, _, _, _, _, _, _, rfl⟩⟩)
          rw [List.mem_singleton.mp hp]
          exact ⟨.ref t', rfl, .inr (.inl ⟨t', rfl, rfl⟩)⟩
        · have bk6 := bk'.same S6
          obtain ⟨dx6, hx6⟩ := bk6.obj
          refine .inr (.inr ⟨x', _, _, _, rfl, hx6, book_ty T bk6, first_self, x', l', m'', [], [], .ref x', rfl, bk6, .inl ⟨x', l', m'', [], [], rfl, bk6, (fun r h => by cases h), (fun r h => by cases h), _, rfl, ?_⟩⟩)
          rw [rows_eq]
          exact ifnY rfl ⟨S5.trans S6, _, _, _, _, _, _, rfl⟩
      · rintro σ H5 ⟨S5, v1, v2, v3, v4, v5, v6, rfl⟩
        refine ⟨Nat.zero_le _, fun t0 ht0 => ?_⟩
        have g6 : (upd H5 t0 (.tup [])) t0 = some (.tup []) := upd_same
        generalize upd H5 t0 (.tup []) = H6 at g6 ⊢
        refine ⟨.ref t0, rfl, .inr ⟨true, t0, [], [], rfl, SqT.of g6, .nil, by decide, (fun e he => by cases he), (fun e u t H' em => by cases em), (fun e u t H' em => by cases em), fun rows em x2 l2 m2 as2 t H7 S7 nx2 nl2 nm2 bk2 g7 => ?_⟩⟩
        cases em
        refine ⟨t, _, 1, _, rfl, rfl, SqL.of g7, rfl, Nat.zero_le _, fun l0 hl0 => ?_⟩
        have S8 := same_new (o := .lst []) hl0
        have g8 : (upd H7 l0 (.lst [])) l0 = some (.lst []) := upd_same
        generalize upd H7 l0 (.lst []) = H8 at S8 g8 ⊢
        intro y dy h1 h2 h3
        have SC : Same H8 (upd (upd H8 dy (.own y)) y (.ins a.CBook dy [])) := same_two h1 h2
        refine book_ask (b := false) (ps := []) upd_same (SqL.of (SC _ _ g8)) .nil rws_nil.good (by decide) fun H9 l9 m9 as9 nl9 nm9 k9 bk9 => ⟨rfl, ?_⟩
        have S9 : Same H8 H9 := fun c o h => k9 c o (ne_of_none h h1) (SC _ _ h)
        have bk29 := bk2.same (S8.trans S9)
        obtain ⟨dx9, hx9⟩ := bk29.obj
        refine ⟨x2, _, _, _, rfl, hx9, book_ty T bk9, first_self, x2, l2, m2, [], as2, .ref y, rfl, bk29, .inl ⟨y, l9, m9, [], as9, rfl, bk9, (fun r h => by cases h), (fun r h => by cases h), ?_⟩⟩
        rw [rows_eq]
        exact q _
end
end L04

set_option Elab.async false
set_option linter.all false
set_option maxRecDepth 100000
set_option maxHeartbeats 4000000
set_option pp.deepTerms false
set_option pp.deepTerms.threshold 4
set_option pp.maxSteps 300
namespace L04
open PySem L2 Tp
def hd0 : He.DefD := ⟨("InvalidPart", some "__init__"), "__init__", "InvalidPart.__init__", defArgs scInvalidPart_st, defBody scInvalidPart_st, defScope scInvalidPart_st, [], []⟩
def hd1 : He.DefD := ⟨("InvalidName", some "__init__"), "__init__", "InvalidName.__init__", defArgs scInvalidName_st, defBody scInvalidName_st, defScope scInvalidName_st, [], []⟩
def hd2 : He.DefD := ⟨("InvalidRow", some "__init__"), "__init__", "InvalidRow.__init__", defArgs scInvalidRow_st, defBody scInvalidRow_st, defScope scInvalidRow_st, [], []⟩
def hd3 : He.DefD := ⟨("InvalidTurn", some "__init__"), "__init__", "InvalidTurn.__init__", defArgs scInvalidTurn_st, defBody scInvalidTurn_st, defScope scInvalidTurn_st, [], []⟩
def hd4 : He.DefD := ⟨("UnknownTerm", some "__init__"), "__init__", "UnknownTerm.__init__", defArgs scUnknownTerm_st, defBody scUnknownTerm_st, defScope scUnknownTerm_st, [], []⟩
def hd5 : He.DefD := ⟨("is_integer", none), "is_integer", "is_integer", defArgs scIsInt_st, defBody scIsInt_st, defScope scIsInt_st, [], []⟩
def hd6 : He.DefD := ⟨("is_name", none), "is_name", "is_name", defArgs scIsName_st, defBody scIsName_st, defScope scIsName_st, [], []⟩
def hd7 : He.DefD := ⟨("is_list", none), "is_list", "is_list", defArgs scIsList_st, defBody scIsList_st, defScope scIsList_st, [], []⟩
def hd8 : He.DefD := ⟨("is_pair", none), "is_pair", "is_pair", defArgs scIsPair_st, defBody scIsPair_st, defScope scIsPair_st, [], []⟩
def hd9 : He.DefD := ⟨("is_turn", none), "is_turn", "is_turn", defArgs scIsTurn_st, defBody scIsTurn_st, defScope scIsTurn_st, [], []⟩
def hd10 : He.DefD := ⟨("Book", some "__init__"), "__init__", "Book.__init__", defArgs scBookInit_st, defBody scBookInit_st, defScope scBookInit_st, [.adr (He.dflAt ("Book", some "__init__") 0)], []⟩
def hd11 : He.DefD := ⟨("Book", some "add_item"), "add_item", "Book.add_item", defArgs scAddItem_st, defBody scAddItem_st, defScope scAddItem_st, [], []⟩
def hd12 : He.DefD := ⟨("Book", some "has_number"), "has_number", "Book.has_number", defArgs scHasNumber_st, defBody scHasNumber_st, defScope scHasNumber_st, [], []⟩
def hd13 : He.DefD := ⟨("Book", some "need_number"), "need_number", "Book.need_number", defArgs scNeedNumber_st, defBody scNeedNumber_st, defScope scNeedNumber_st, [], []⟩
def hd14 : He.DefD := ⟨("Book", some "number_of"), "number_of", "Book.number_of", defArgs scNumberOf_st, defBody scNumberOf_st, defScope scNumberOf_st, [], []⟩
def hd15 : He.DefD := ⟨("Book", some "constant"), "constant", "Book.constant", defArgs scConstant_st, defBody scConstant_st, defScope scConstant_st, [], []⟩
def hd16 : He.DefD := ⟨("Book", some "apply"), "apply", "Book.apply", defArgs scApply_st, defBody scApply_st, defScope scApply_st, [], []⟩
def hd17 : He.DefD := ⟨("Book", some "sample"), "sample", "Book.sample", defArgs scSample_st, defBody scSample_st, defScope scSample_st, [], []⟩
def hd18 : He.DefD := ⟨("Book", some "rows"), "rows", "Book.rows", defArgs scRows_st, defBody scRows_st, defScope scRows_st, [], []⟩
def hd19 : He.DefD := ⟨("Book", some "__len__"), "__len__", "Book.__len__", defArgs scLen_st, defBody scLen_st, defScope scLen_st, [], []⟩
def hd20 : He.DefD := ⟨("Book", some "__getitem__"), "__getitem__", "Book.__getitem__", defArgs scGet_st, defBody scGet_st, defScope scGet_st, [], []⟩
def hd21 : He.DefD := ⟨("Book", some "__contains__"), "__contains__", "Book.__contains__", defArgs scHas_st, defBody scHas_st, defScope scHas_st, [], []⟩
def hd22 : He.DefD := ⟨("Book", some "__eq__"), "__eq__", "Book.__eq__", defArgs scEq_st, defBody scEq_st, defScope scEq_st, [], []⟩
def hd23 : He.DefD := ⟨("Book", some "copied"), "copied", "Book.copied", defArgs scCopied_st, defBody scCopied_st, defScope scCopied_st, [], []⟩
def hd24 : He.DefD := ⟨("_law_cell", none), "_law_cell", "_law_cell", defArgs scCell_st, defBody scCell_st, defScope scCell_st, [], []⟩
def hd25 : He.DefD := ⟨("_law_box", none), "_law_box", "_law_box", defArgs scBox_st, defBody scBox_st, defScope scBox_st, [], []⟩
def hd26 : He.DefD := ⟨("_law_take", none), "_law_take", "_law_take", defArgs scTake_st, defBody scTake_st, defScope scTake_st, [], []⟩
def hd27 : He.DefD := ⟨("_law_label", none), "_law_label", "_law_label", defArgs scLabel_st, defBody scLabel_st, defScope scLabel_st, [], []⟩
def hd28 : He.DefD := ⟨("_law_odd", none), "_law_odd", "_law_odd", defArgs scOdd_st, defBody scOdd_st, defScope scOdd_st, [], []⟩
def hd29 : He.DefD := ⟨("_law_call", none), "_law_call", "_law_call", defArgs scCall_st, defBody scCall_st, defScope scCall_st, [], []⟩
def hd30 : He.DefD := ⟨("_law_is_named", none), "_law_is_named", "_law_is_named", defArgs scIsNamed_st, defBody scIsNamed_st, defScope scIsNamed_st, [], []⟩
def hd31 : He.DefD := ⟨("_law_is_whole", none), "_law_is_whole", "_law_is_whole", defArgs scIsWhole_st, defBody scIsWhole_st, defScope scIsWhole_st, [], []⟩
def hd32 : He.DefD := ⟨("_law_due", none), "_law_due", "_law_due", defArgs scDue_st, defBody scDue_st, defScope scDue_st, [], []⟩
def hd33 : He.DefD := ⟨("_law_told", none), "_law_told", "_law_told", defArgs scTold_st, defBody scTold_st, defScope scTold_st, [], []⟩
def hd34 : He.DefD := ⟨("_law_made", none), "_law_made", "_law_made", defArgs scMade_st, defBody scMade_st, defScope scMade_st, [], []⟩
def hd35 : He.DefD := ⟨("_law_made_due", none), "_law_made_due", "_law_made_due", defArgs scMadeDue_st, defBody scMadeDue_st, defScope scMadeDue_st, [], []⟩
def hd36 : He.DefD := ⟨("_law_holds", none), "_law_holds", "_law_holds", defArgs scHolds_st, defBody scHolds_st, defScope scHolds_st, [], []⟩
def hd37 : He.DefD := ⟨("_law_forms_right", none), "_law_forms_right", "_law_forms_right", defArgs scFormsR_st, defBody scFormsR_st, defScope scFormsR_st, [], []⟩
def hd38 : He.DefD := ⟨("_law_numbers_refused", none), "_law_numbers_refused", "_law_numbers_refused", defArgs scNumsR_st, defBody scNumsR_st, defScope scNumsR_st, [], []⟩
def hd39 : He.DefD := ⟨("_law_grown", none), "_law_grown", "_law_grown", defArgs scGrown_st, defBody scGrown_st, defScope scGrown_st, [], []⟩
def hd40 : He.DefD := ⟨("_law_again_right", none), "_law_again_right", "_law_again_right", defArgs scAgainR_st, defBody scAgainR_st, defScope scAgainR_st, [], []⟩
def hd41 : He.DefD := ⟨("_law_copy_right", none), "_law_copy_right", "_law_copy_right", defArgs scCopyR_st, defBody scCopyR_st, defScope scCopyR_st, [], []⟩
def hd42 : He.DefD := ⟨("law", none), "law", "law", defArgs scLaw_st, defBody scLaw_st, defScope scLaw_st, [], []⟩
def hfn : List He.DefD := [hd0, hd1, hd2, hd3, hd4, hd5, hd6, hd7, hd8, hd9, hd10, hd11, hd12, hd13, hd14, hd15, hd16, hd17, hd18, hd19, hd20, hd21, hd22, hd23, hd24, hd25, hd26, hd27, hd28, hd29, hd30, hd31, hd32, hd33, hd34, hd35, hd36, hd37, hd38, hd39, hd40, hd41, hd42]
def hex0 : List (PySem.W.Frag → Bool) := [fun K => decide (PySem.W.findIn K (.ref (He.ga K "InvalidPart")) "__init__" = some (some (.ref (He.ma K (He.ga K "InvalidPart") "__init__")))),
  fun K => decide (PySem.W.findIn K (.ref (He.ga K "InvalidName")) "__init__" = some (some (.ref (He.ma K (He.ga K "InvalidName") "__init__")))),
  fun K => decide (PySem.W.findIn K (.ref (He.ga K "InvalidRow")) "__init__" = some (some (.ref (He.ma K (He.ga K "InvalidRow") "__init__")))),
  fun K => decide (PySem.W.findIn K (.ref (He.ga K "InvalidTurn")) "__init__" = some (some (.ref (He.ma K (He.ga K "InvalidTurn") "__init__")))),
  fun K => decide (PySem.W.findIn K (.ref (He.ga K "UnknownTerm")) "__init__" = some (some (.ref (He.ma K (He.ga K "UnknownTerm") "__init__")))),
  fun K => (He.Fa.glo "is_integer").ok K,
  fun K => (He.Fa.glo "is_name").ok K,
  fun K => (He.Fa.glo "is_list").ok K,
  fun K => (He.Fa.glo "is_pair").ok K,
  fun K => (He.Fa.glo "is_turn").ok K,
  fun K => decide (PySem.W.findIn K (.ref (He.ga K "Book")) "__init__" = some (some (.ref (He.ma K (He.ga K "Book") "__init__")))),
  fun K => PySem.W.isFn K (.ref (He.fAd K ("Book", some "__init__"))),
  fun K => decide (PySem.W.findIn K (.ref (He.ga K "Book")) "add_item" = some (some (.ref (He.ma K (He.ga K "Book") "add_item")))),
  fun K => PySem.W.isFn K (.ref (He.fAd K ("Book", some "add_item"))),
  fun K => decide (PySem.W.findIn K (.ref (He.ga K "Book")) "has_number" = some (some (.ref (He.ma K (He.ga K "Book") "has_number")))),
  fun K => PySem.W.isFn K (.ref (He.fAd K ("Book", some "has_number"))),
  fun K => decide (PySem.W.findIn K (.ref (He.ga K "Book")) "need_number" = some (some (.ref (He.ma K (He.ga K "Book") "need_number")))),
  fun K => PySem.W.isFn K (.ref (He.fAd K ("Book", some "need_number"))),
  fun K => decide (PySem.W.findIn K (.ref (He.ga K "Book")) "number_of" = some (some (.ref (He.ma K (He.ga K "Book") "number_of")))),
  fun K => PySem.W.isFn K (.ref (He.fAd K ("Book", some "number_of"))),
  fun K => decide (PySem.W.findIn K (.ref (He.ga K "Book")) "constant" = some (some (.ref (He.ma K (He.ga K "Book") "constant")))),
  fun K => PySem.W.isFn K (.ref (He.fAd K ("Book", some "constant"))),
  fun K => decide (PySem.W.findIn K (.ref (He.ga K "Book")) "apply" = some (some (.ref (He.ma K (He.ga K "Book") "apply")))),
  fun K => PySem.W.isFn K (.ref (He.fAd K ("Book", some "apply"))),
  fun K => decide (PySem.W.findIn K (.ref (He.ga K "Book")) "sample" = some (some (.ref (He.ma K (He.ga K "Book") "sample")))),
  fun K => PySem.W.isFn K (.ref (He.fAd K ("Book", some "sample"))),
  fun K => decide (PySem.W.findIn K (.ref (He.ga K "Book")) "rows" = some (some (.ref (He.ma K (He.ga K "Book") "rows")))),
  fun K => PySem.W.isFn K (.ref (He.fAd K ("Book", some "rows"))),
  fun K => decide (PySem.W.findIn K (.ref (He.ga K "Book")) "__len__" = some (some (.ref (He.ma K (He.ga K "Book") "__len__")))),
  fun K => PySem.W.isFn K (.ref (He.fAd K ("Book", some "__len__"))),
  fun K => decide (PySem.W.findIn K (.ref (He.ga K "Book")) "__getitem__" = some (some (.ref (He.ma K (He.ga K "Book") "__getitem__")))),
  fun K => PySem.W.isFn K (.ref (He.fAd K ("Book", some "__getitem__"))),
  fun K => PySem.W.fnIn K (He.fAd K ("Book", some "__getitem__")),
  fun K => decide (PySem.W.findIn K (.ref (He.ga K "Book")) "__contains__" = some (some (.ref (He.ma K (He.ga K "Book") "__contains__")))),
  fun K => PySem.W.isFn K (.ref (He.fAd K ("Book", some "__contains__"))),
  fun K => decide (PySem.W.findIn K (.ref (He.ga K "Book")) "__eq__" = some (some (.ref (He.ma K (He.ga K "Book") "__eq__")))),
  fun K => PySem.W.isFn K (.ref (He.fAd K ("Book", some "__eq__"))),
  fun K => decide (PySem.W.findIn K (.ref (He.ga K "Book")) "copied" = some (some (.ref (He.ma K (He.ga K "Book") "copied")))),
  fun K => PySem.W.isFn K (.ref (He.fAd K ("Book", some "copied"))),
  fun K => (He.Fa.glo "_law_cell").ok K,
  fun K => (He.Fa.glo "_law_box").ok K,
  fun K => (He.Fa.glo "_law_take").ok K,
  fun K => (He.Fa.glo "_law_label").ok K,
  fun K => (He.Fa.glo "_law_odd").ok K,
  fun K => (He.Fa.glo "_law_call").ok K,
  fun K => (He.Fa.glo "_law_is_named").ok K,
  fun K => (He.Fa.glo "_law_is_whole").ok K,
  fun K => (He.Fa.glo "_law_due").ok K,
  fun K => (He.Fa.glo "_law_told").ok K,
  fun K => (He.Fa.glo "_law_made").ok K,
  fun K => (He.Fa.glo "_law_made_due").ok K,
  fun K => (He.Fa.glo "_law_holds").ok K,
  fun K => (He.Fa.glo "_law_forms_right").ok K,
  fun K => (He.Fa.glo "_law_numbers_refused").ok K,
  fun K => (He.Fa.glo "_law_grown").ok K,
  fun K => (He.Fa.glo "_law_again_right").ok K,
  fun K => (He.Fa.glo "_law_copy_right").ok K,
  fun K => (He.Fa.glo "law").ok K,
  fun K => (He.Fa.str "LETTERS" "abcdefghijklmnopqrstuvwxyz").ok K,
  fun K => (He.Fa.str "DIGITS" "0123456789").ok K,
  fun K => (He.Fa.int "LONGEST_NAME" (8)).ok K,
  fun K => (He.Fa.int "MOST_ARGUMENTS" (3)).ok K,
  fun K => (He.Fa.free "len").ok K,
  fun K => (He.Fa.free "max").ok K,
  fun K => (He.Fa.free "min").ok K,
  fun K => (He.Fa.free "isinstance").ok K,
  fun K => (He.Fa.free "str").ok K,
  fun K => (He.Fa.free "int").ok K,
  fun K => (He.Fa.free "all").ok K,
  fun K => (He.Fa.free "range").ok K,
  fun K => (He.Fa.free "repr").ok K,
  fun K => (He.Fa.free "list").ok K,
  fun K => (He.Fa.free "tuple").ok K,
  fun K => (He.Fa.free "bool").ok K,
  fun K => (He.Fa.free "enumerate").ok K,
  fun K => (He.Fa.glo "NetError").ok K,
  fun K => Tp.clsXB .ve K (He.ga K "NetError") [],
  fun K => decide (PySem.W.specialIn K (.ref (He.ga K "NetError")) "__getattribute__" = some (some (.builtin "type.__getattribute__"))),
  fun K => PySem.W.readsIn K (He.ga K "NetError") (.type "type"),
  fun K => Tp.clsB K (He.ga K "NetError") "__init__" (Tp.XB.initId .ve),
  fun K => (He.Fa.glo "MissingError").ok K,
  fun K => Tp.clsXB .ke K (He.ga K "MissingError") [],
  fun K => decide (PySem.W.specialIn K (.ref (He.ga K "MissingError")) "__getattribute__" = some (some (.builtin "type.__getattribute__"))),
  fun K => PySem.W.readsIn K (He.ga K "MissingError") (.type "type"),
  fun K => Tp.clsB K (He.ga K "MissingError") "__init__" (Tp.XB.initId .ke),
  fun K => (He.Fa.glo "StateError").ok K,
  fun K => Tp.clsXB .le K (He.ga K "StateError") [],
  fun K => decide (PySem.W.specialIn K (.ref (He.ga K "StateError")) "__getattribute__" = some (some (.builtin "type.__getattribute__"))),
  fun K => PySem.W.readsIn K (He.ga K "StateError") (.type "type"),
  fun K => Tp.clsB K (He.ga K "StateError") "__init__" (Tp.XB.initId .le),
  fun K => (He.Fa.glo "InvalidPart").ok K,
  fun K => Tp.clsXB .ve K (He.ga K "InvalidPart") [(He.ga K "NetError")],
  fun K => Tp.initXB K (He.ga K "InvalidPart") (He.fAd K ("InvalidPart", some "__init__")) ["value"],
  fun K => (He.Fa.glo "InvalidName").ok K,
  fun K => Tp.clsXB .ve K (He.ga K "InvalidName") [(He.ga K "NetError")],
  fun K => Tp.initXB K (He.ga K "InvalidName") (He.fAd K ("InvalidName", some "__init__")) ["value"],
  fun K => (He.Fa.glo "InvalidRow").ok K,
  fun K => Tp.clsXB .ve K (He.ga K "InvalidRow") [(He.ga K "NetError")],
  fun K => Tp.initXB K (He.ga K "InvalidRow") (He.fAd K ("InvalidRow", some "__init__")) ["value"],
  fun K => (He.Fa.glo "InvalidTurn").ok K,
  fun K => Tp.clsXB .ve K (He.ga K "InvalidTurn") [(He.ga K "NetError")],
  fun K => Tp.initXB K (He.ga K "InvalidTurn") (He.fAd K ("InvalidTurn", some "__init__")) ["value"],
  fun K => (He.Fa.glo "UnknownTerm").ok K,
  fun K => Tp.clsXB .ke K (He.ga K "UnknownTerm") [(He.ga K "MissingError")],
  fun K => Tp.initXB K (He.ga K "UnknownTerm") (He.fAd K ("UnknownTerm", some "__init__")) ["number"],
  fun K => (He.Fa.glo "Book").ok K,
  fun K => PySem.W.plainGet K (He.ga K "Book") Str.empty,
  fun K => PySem.W.hasDictIn K (He.ga K "Book"),
  fun K => PySem.W.plainOver K (He.ga K "Book"),
  fun K => decide (PySem.W.findIn K (.ref (He.ga K "Book")) "__setattr__" = some (some (.builtin "object.__setattr__"))),
  fun K => PySem.W.makesIn K (He.ga K "Book"),
  fun K => PySem.W.keepIn K (.ref (He.ga K "Book")),
  fun K => decide (PySem.W.findIn K (.ref (He.ga K "Book")) "__class__" = some (some (.builtin "object.__class__"))),
  fun K => decide (PySem.W.mroIn K (He.ga K "Book") (.type "object") = some true),
  fun K => decide (PySem.W.typeIn K (.ref (He.ga K "Book")) = some (.type "type")),
  fun K => decide (PySem.W.findIn K (.ref (He.ga K "Book")) "held" = some none),
  fun K => decide (PySem.W.findIn K (.ref (He.ga K "Book")) "numbers" = some none),
  fun K => decide (PySem.W.subIn K (.ref (He.ga K "Book")) (.type "str") = some false),
  fun K => decide (PySem.W.subIn K (.ref (He.ga K "Book")) (.type "int") = some false),
  fun K => decide (PySem.W.subIn K (.ref (He.ga K "Book")) (.type "list") = some false),
  fun K => decide (PySem.W.subIn K (.ref (He.ga K "Book")) (.type "tuple") = some false),
  fun K => decide (PySem.W.subIn K (.ref (He.ga K "Book")) (.type "dict") = some false),
  fun K => decide (PySem.W.subIn K (.ref (He.ga K "Book")) (.type "bool") = some false),
  fun K => decide (PySem.W.findIn K (.ref (He.ga K "Book")) "__ne__" = some (some (.builtin "object.__ne__"))),
  fun K => decide (PySem.W.specialIn K (.builtin "object.__class__") "__get__" = some (some (.builtin "getset_descriptor.__get__"))),
  fun K => decide (PySem.W.takesIn K (.builtin "object.__class__") = some true),
  fun K => Tp.tup0B K (He.dflAt ("Book", some "__init__") 0 K),
  fun K => decide ([(He.ga K "InvalidPart"), (He.ga K "InvalidName"), (He.ga K "InvalidRow"), (He.ga K "InvalidTurn"), (He.ga K "UnknownTerm"), (He.ga K "NetError"), (He.ga K "MissingError"), (He.ga K "StateError")].Nodup)]
def hexs : List (List (PySem.W.Frag → Bool)) := [hex0]
def hln0 : List Str := ["_wall", "__name__", "NetError", "MissingError", "StateError", "InvalidPart", "InvalidName", "InvalidRow", "InvalidTurn", "InvalidString", "UnknownTerm", "TooLong", "LETTERS", "DIGITS", "LONGEST_NAME", "MOST_DIGITS", "MOST_ARGUMENTS", "is_integer", "is_name", "is_list", "is_pair", "parse_integer", "LONGEST_TEXT", "is_turn", "is_sample_row", "arguments_of", "written", "Book", "Reader", "_law_cell"]
def hln1 : List Str := ["_law_box", "_law_take", "_law_label", "_law_odd", "_law_call", "_law_is_named", "_law_is_whole", "_law_due", "_law_told", "_law_made", "_law_made_due", "_law_holds", "_law_forms_right", "_law_numbers_refused", "_law_grown", "_law_again_right", "_law_copy_right"]
def hln : List Str := hln0 ++ (hln1)
abbrev HR : PySem.W.OpenRow := PySem.W.OpenLaw.row PySem.Challenge.rw_toldpast_k04_books_of_distinct_rows
abbrev hq : Program := PySem.W.view HR.prog [50]
def hcs : List Str := [("NetError" : Str), ("MissingError" : Str), ("StateError" : Str), ("InvalidPart" : Str), ("InvalidName" : Str), ("InvalidRow" : Str), ("InvalidTurn" : Str), ("UnknownTerm" : Str), ("Book" : Str)]
abbrev hk : PySem.W.Hook := Tp.hookB hcs hfn hexs.flatten
def hob (s : PySem.W.SharedT) : He.AlD := Tp.obsB hcs hfn hexs.flatten (HandSHeadRun.getT s)
theorem hob_eq (s : PySem.W.SharedT) : hob s = hk.obs s.abs := Tp.obsB_eq (HandSHeadRun.getT_eq s)
noncomputable abbrev hx (w : World) (os : OsState) : Option PySem.W.SharedT := HandSHeadRun.endF (HandSHeadRun.stepQ (HandSHeadRun.denQ HandSHeadRun.tabQ) HR.prog w) 20000 HR.prog w os
end L04


set_option Elab.async false
set_option linter.all false
set_option maxRecDepth 100000
set_option maxHeartbeats 4000000
set_option pp.deepTerms false
set_option pp.deepTerms.threshold 4
set_option pp.maxSteps 300
namespace L04
open PySem PySem.W PySem.Calls PyProof.Rows L2 Tp
theorem hr_looks (w : World) (os : OsState) : (hx w os).map (fun s => HandSHeadRun.looksF HR.prog (boot_heap w.params) s.abs) = some true := by kernel_rfl
theorem hr_seen (w : World) (os : OsState) : (hx w os).map (fun s => HandSHeadRun.seenQ hq hln (importedModules HR.prog.main.body) (fun s => PySem.W.xlAt hq [] s && PySem.W.recOk HR.toRowW.records s) s.abs) = some (PySem.W.openGood hq hln) := by kernel_rfl
theorem hr_e0 (w : World) (os : OsState) : (hx w os).map (fun s => Tp.withK (HandSHeadRun.getT s) hcs (hfn.map He.DefD.at_) fun K => hex0.all fun f => f K) = some true := by kernel_rfl
theorem hr_ok (w : World) (os : OsState) : (hx w os).map (fun s => Tp.withK (HandSHeadRun.getT s) hcs (hfn.map He.DefD.at_) fun K => hfn.all fun d => d.ok K) = some true := by kernel_rfl
theorem hr_v (w : World) (os : OsState) : (hx w os).map (fun s => Tp.withK (HandSHeadRun.getT s) hcs (hfn.map He.DefD.at_) fun K => hfn.map fun d => He.fnW K d.at_) = some (hfn.map He.DefD.val) := by kernel_rfl
end L04


set_option Elab.async false
set_option linter.all false
set_option maxRecDepth 100000
set_option maxHeartbeats 4000000
set_option pp.deepTerms false
set_option pp.deepTerms.threshold 4
set_option pp.maxSteps 300
namespace L04
open PySem L2 Tp
theorem all_mk {l : PySem.W.OpenLaw} {w : World} {K : PySem.W.Frag} {h : Heap} {mg : Str → Option Value} {fa : Addr} (X : K.In h) (G : h.Ns mainGlobals mg) (hfa : mg "law" = some (.ref fa)) (c : Tp.SaysB hfn hexs.flatten K)
    : ∃ fd : FuncData, (∀ (s : Shared) (v : Value), BindsTo s fd ⟨[v], []⟩ [("_law_script", v)]) ∧ ∀ base : Heap, K.In base → base.Ns mainGlobals mg → Tp.FnG l.prog w K mg base CX0 11 fa fd ["_law_script"] (spLaw K) := by
  have a0 : PySem.W.findIn K (.ref (He.ga K "InvalidPart")) "__init__" = some (some (.ref (He.ma K (He.ga K "InvalidPart") "__init__"))) := of_decide_eq_true (c.factP 0 0 rfl rfl)
  have a1 : PySem.W.findIn K (.ref (He.ga K "InvalidName")) "__init__" = some (some (.ref (He.ma K (He.ga K "InvalidName") "__init__"))) := of_decide_eq_true (c.factP 0 1 rfl rfl)
  have a2 : PySem.W.findIn K (.ref (He.ga K "InvalidRow")) "__init__" = some (some (.ref (He.ma K (He.ga K "InvalidRow") "__init__"))) := of_decide_eq_true (c.factP 0 2 rfl rfl)
  have a3 : PySem.W.findIn K (.ref (He.ga K "InvalidTurn")) "__init__" = some (some (.ref (He.ma K (He.ga K "InvalidTurn") "__init__"))) := of_decide_eq_true (c.factP 0 3 rfl rfl)
  have a4 : PySem.W.findIn K (.ref (He.ga K "UnknownTerm")) "__init__" = some (some (.ref (He.ma K (He.ga K "UnknownTerm") "__init__"))) := of_decide_eq_true (c.factP 0 4 rfl rfl)
  have g5 := He.glo_ok X G (c.factP 0 5 rfl rfl)
  have g6 := He.glo_ok X G (c.factP 0 6 rfl rfl)
  have g7 := He.glo_ok X G (c.factP 0 7 rfl rfl)
  have g8 := He.glo_ok X G (c.factP 0 8 rfl rfl)
  have g9 := He.glo_ok X G (c.factP 0 9 rfl rfl)
  have a10 : PySem.W.findIn K (.ref (He.ga K "Book")) "__init__" = some (some (.ref (He.ma K (He.ga K "Book") "__init__"))) := of_decide_eq_true (c.factP 0 10 rfl rfl)
  have fn10 : PySem.W.isFn K (.ref (He.fAd K ("Book", some "__init__"))) = true := (c.factP 0 11 rfl rfl)
  have a11 : PySem.W.findIn K (.ref (He.ga K "Book")) "add_item" = some (some (.ref (He.ma K (He.ga K "Book") "add_item"))) := of_decide_eq_true (c.factP 0 12 rfl rfl)
  have fn11 : PySem.W.isFn K (.ref (He.fAd K ("Book", some "add_item"))) = true := (c.factP 0 13 rfl rfl)
  have a12 : PySem.W.findIn K (.ref (He.ga K "Book")) "has_number" = some (some (.ref (He.ma K (He.ga K "Book") "has_number"))) := of_decide_eq_true (c.factP 0 14 rfl rfl)
  have fn12 : PySem.W.isFn K (.ref (He.fAd K ("Book", some "has_number"))) = true := (c.factP 0 15 rfl rfl)
  have a13 : PySem.W.findIn K (.ref (He.ga K "Book")) "need_number" = some (some (.ref (He.ma K (He.ga K "Book") "need_number"))) := of_decide_eq_true (c.factP 0 16 rfl rfl)
  have fn13 : PySem.W.isFn K (.ref (He.fAd K ("Book", some "need_number"))) = true := (c.factP 0 17 rfl rfl)
  have a14 : PySem.W.findIn K (.ref (He.ga K "Book")) "number_of" = some (some (.ref (He.ma K (He.ga K "Book") "number_of"))) := of_decide_eq_true (c.factP 0 18 rfl rfl)
  have fn14 : PySem.W.isFn K (.ref (He.fAd K ("Book", some "number_of"))) = true := (c.factP 0 19 rfl rfl)
  have a15 : PySem.W.findIn K (.ref (He.ga K "Book")) "constant" = some (some (.ref (He.ma K (He.ga K "Book") "constant"))) := of_decide_eq_true (c.factP 0 20 rfl rfl)
  have fn15 : PySem.W.isFn K (.ref (He.fAd K ("Book", some "constant"))) = true := (c.factP 0 21 rfl rfl)
  have a16 : PySem.W.findIn K (.ref (He.ga K "Book")) "apply" = some (some (.ref (He.ma K (He.ga K "Book") "apply"))) := of_decide_eq_true (c.factP 0 22 rfl rfl)
  have fn16 : PySem.W.isFn K (.ref (He.fAd K ("Book", some "apply"))) = true := (c.factP 0 23 rfl rfl)
  have a17 : PySem.W.findIn K (.ref (He.ga K "Book")) "sample" = some (some (.ref (He.ma K (He.ga K "Book") "sample"))) := of_decide_eq_true (c.factP 0 24 rfl rfl)
  have fn17 : PySem.W.isFn K (.ref (He.fAd K ("Book", some "sample"))) = true := (c.factP 0 25 rfl rfl)
  have a18 : PySem.W.findIn K (.ref (He.ga K "Book")) "rows" = some (some (.ref (He.ma K (He.ga K "Book") "rows"))) := of_decide_eq_true (c.factP 0 26 rfl rfl)
  have fn18 : PySem.W.isFn K (.ref (He.fAd K ("Book", some "rows"))) = true := (c.factP 0 27 rfl rfl)
  have a19 : PySem.W.findIn K (.ref (He.ga K "Book")) "__len__" = some (some (.ref (He.ma K (He.ga K "Book") "__len__"))) := of_decide_eq_true (c.factP 0 28 rfl rfl)
  have fn19 : PySem.W.isFn K (.ref (He.fAd K ("Book", some "__len__"))) = true := (c.factP 0 29 rfl rfl)
  have a20 : PySem.W.findIn K (.ref (He.ga K "Book")) "__getitem__" = some (some (.ref (He.ma K (He.ga K "Book") "__getitem__"))) := of_decide_eq_true (c.factP 0 30 rfl rfl)
  have fn20 : PySem.W.isFn K (.ref (He.fAd K ("Book", some "__getitem__"))) = true := (c.factP 0 31 rfl rfl)
  have gi20 : PySem.W.fnIn K (He.fAd K ("Book", some "__getitem__")) = true := (c.factP 0 32 rfl rfl)
  have a21 : PySem.W.findIn K (.ref (He.ga K "Book")) "__contains__" = some (some (.ref (He.ma K (He.ga K "Book") "__contains__"))) := of_decide_eq_true (c.factP 0 33 rfl rfl)
  have fn21 : PySem.W.isFn K (.ref (He.fAd K ("Book", some "__contains__"))) = true := (c.factP 0 34 rfl rfl)
  have a22 : PySem.W.findIn K (.ref (He.ga K "Book")) "__eq__" = some (some (.ref (He.ma K (He.ga K "Book") "__eq__"))) := of_decide_eq_true (c.factP 0 35 rfl rfl)
  have fn22 : PySem.W.isFn K (.ref (He.fAd K ("Book", some "__eq__"))) = true := (c.factP 0 36 rfl rfl)
  have a23 : PySem.W.findIn K (.ref (He.ga K "Book")) "copied" = some (some (.ref (He.ma K (He.ga K "Book") "copied"))) := of_decide_eq_true (c.factP 0 37 rfl rfl)
  have fn23 : PySem.W.isFn K (.ref (He.fAd K ("Book", some "copied"))) = true := (c.factP 0 38 rfl rfl)
  have g24 := He.glo_ok X G (c.factP 0 39 rfl rfl)
  have g25 := He.glo_ok X G (c.factP 0 40 rfl rfl)
  have g26 := He.glo_ok X G (c.factP 0 41 rfl rfl)
  have g27 := He.glo_ok X G (c.factP 0 42 rfl rfl)
  have g28 := He.glo_ok X G (c.factP 0 43 rfl rfl)
  have g29 := He.glo_ok X G (c.factP 0 44 rfl rfl)
  have g30 := He.glo_ok X G (c.factP 0 45 rfl rfl)
  have g31 := He.glo_ok X G (c.factP 0 46 rfl rfl)
  have g32 := He.glo_ok X G (c.factP 0 47 rfl rfl)
  have g33 := He.glo_ok X G (c.factP 0 48 rfl rfl)
  have g34 := He.glo_ok X G (c.factP 0 49 rfl rfl)
  have g35 := He.glo_ok X G (c.factP 0 50 rfl rfl)
  have g36 := He.glo_ok X G (c.factP 0 51 rfl rfl)
  have g37 := He.glo_ok X G (c.factP 0 52 rfl rfl)
  have g38 := He.glo_ok X G (c.factP 0 53 rfl rfl)
  have g39 := He.glo_ok X G (c.factP 0 54 rfl rfl)
  have g40 := He.glo_ok X G (c.factP 0 55 rfl rfl)
  have g41 := He.glo_ok X G (c.factP 0 56 rfl rfl)
  have g42 := He.glo_ok X G (c.factP 0 57 rfl rfl)
  have m_LETTERS := He.str_ok X G (c.factP 0 58 rfl rfl)
  have m_DIGITS := He.str_ok X G (c.factP 0 59 rfl rfl)
  have m_LONGEST_NAME := He.int_ok X G (c.factP 0 60 rfl rfl)
  have m_MOST_ARGUMENTS := He.int_ok X G (c.factP 0 61 rfl rfl)
  have z_len := He.free_ok X G (c.factP 0 62 rfl rfl)
  have z_max := He.free_ok X G (c.factP 0 63 rfl rfl)
  have z_min := He.free_ok X G (c.factP 0 64 rfl rfl)
  have z_isinstance := He.free_ok X G (c.factP 0 65 rfl rfl)
  have z_str := He.free_ok X G (c.factP 0 66 rfl rfl)
  have z_int := He.free_ok X G (c.factP 0 67 rfl rfl)
  have z_all := He.free_ok X G (c.factP 0 68 rfl rfl)
  have z_range := He.free_ok X G (c.factP 0 69 rfl rfl)
  have z_repr := He.free_ok X G (c.factP 0 70 rfl rfl)
  have z_list := He.free_ok X G (c.factP 0 71 rfl rfl)
  have z_tuple := He.free_ok X G (c.factP 0 72 rfl rfl)
  have z_bool := He.free_ok X G (c.factP 0 73 rfl rfl)
  have z_enumerate := He.free_ok X G (c.factP 0 74 rfl rfl)
  have aCNetError := He.glo_ok X G (c.factP 0 75 rfl rfl)
  have cxNetError := Tp.clsXB_ok (c.factP 0 76 rfl rfl)
  have bgNetError : PySem.W.specialIn K (.ref (He.ga K "NetError")) "__getattribute__" = some (some (.builtin "type.__getattribute__")) := of_decide_eq_true (c.factP 0 77 rfl rfl)
  have brNetError : PySem.W.readsIn K (He.ga K "NetError") (.type "type") = true := (c.factP 0 78 rfl rfl)
  have bfNetError := Tp.clsB_ok (c.factP 0 79 rfl rfl)
  have aCMissingError := He.glo_ok X G (c.factP 0 80 rfl rfl)
  have cxMissingError := Tp.clsXB_ok (c.factP 0 81 rfl rfl)
  have bgMissingError : PySem.W.specialIn K (.ref (He.ga K "MissingError")) "__getattribute__" = some (some (.builtin "type.__getattribute__")) := of_decide_eq_true (c.factP 0 82 rfl rfl)
  have brMissingError : PySem.W.readsIn K (He.ga K "MissingError") (.type "type") = true := (c.factP 0 83 rfl rfl)
  have bfMissingError := Tp.clsB_ok (c.factP 0 84 rfl rfl)
  have aCStateError := He.glo_ok X G (c.factP 0 85 rfl rfl)
  have cxStateError := Tp.clsXB_ok (c.factP 0 86 rfl rfl)
  have bgStateError : PySem.W.specialIn K (.ref (He.ga K "StateError")) "__getattribute__" = some (some (.builtin "type.__getattribute__")) := of_decide_eq_true (c.factP 0 87 rfl rfl)
  have brStateError : PySem.W.readsIn K (He.ga K "StateError") (.type "type") = true := (c.factP 0 88 rfl rfl)
  have bfStateError := Tp.clsB_ok (c.factP 0 89 rfl rfl)
  have aCInvalidPart := He.glo_ok X G (c.factP 0 90 rfl rfl)
  have cxInvalidPart := Tp.clsXB_ok (c.factP 0 91 rfl rfl)
  have xiInvalidPart := Tp.initXB_ok (c.factP 0 92 rfl rfl)
  have aCInvalidName := He.glo_ok X G (c.factP 0 93 rfl rfl)
  have cxInvalidName := Tp.clsXB_ok (c.factP 0 94 rfl rfl)
  have xiInvalidName := Tp.initXB_ok (c.factP 0 95 rfl rfl)
  have aCInvalidRow := He.glo_ok X G (c.factP 0 96 rfl rfl)
  have cxInvalidRow := Tp.clsXB_ok (c.factP 0 97 rfl rfl)
  have xiInvalidRow := Tp.initXB_ok (c.factP 0 98 rfl rfl)
  have aCInvalidTurn := He.glo_ok X G (c.factP 0 99 rfl rfl)
  have cxInvalidTurn := Tp.clsXB_ok (c.factP 0 100 rfl rfl)
  have xiInvalidTurn := Tp.initXB_ok (c.factP 0 101 rfl rfl)
  have aCUnknownTerm := He.glo_ok X G (c.factP 0 102 rfl rfl)
  have cxUnknownTerm := Tp.clsXB_ok (c.factP 0 103 rfl rfl)
  have xiUnknownTerm := Tp.initXB_ok (c.factP 0 104 rfl rfl)
  have aCBook := He.glo_ok X G (c.factP 0 105 rfl rfl)
  have pgBook : PySem.W.plainGet K (He.ga K "Book") Str.empty = true := (c.factP 0 106 rfl rfl)
  have hdBook : PySem.W.hasDictIn K (He.ga K "Book") = true := (c.factP 0 107 rfl rfl)
  have poBook : PySem.W.plainOver K (He.ga K "Book") = true := (c.factP 0 108 rfl rfl)
  have saBook : PySem.W.findIn K (.ref (He.ga K "Book")) "__setattr__" = some (some (.builtin "object.__setattr__")) := of_decide_eq_true (c.factP 0 109 rfl rfl)
  have mkBook : PySem.W.makesIn K (He.ga K "Book") = true := (c.factP 0 110 rfl rfl)
  have kcBook : PySem.W.keepIn K (.ref (He.ga K "Book")) = true := (c.factP 0 111 rfl rfl)
  have caBook : PySem.W.findIn K (.ref (He.ga K "Book")) "__class__" = some (some (.builtin "object.__class__")) := of_decide_eq_true (c.factP 0 112 rfl rfl)
  have cmBook : PySem.W.mroIn K (He.ga K "Book") (.type "object") = some true := of_decide_eq_true (c.factP 0 113 rfl rfl)
  have tyBook : PySem.W.typeIn K (.ref (He.ga K "Book")) = some (.type "type") := of_decide_eq_true (c.factP 0 114 rfl rfl)
  have nBookheld : PySem.W.findIn K (.ref (He.ga K "Book")) "held" = some none := of_decide_eq_true (c.factP 0 115 rfl rfl)
  have nBooknumbers : PySem.W.findIn K (.ref (He.ga K "Book")) "numbers" = some none := of_decide_eq_true (c.factP 0 116 rfl rfl)
  have kiBookstr : PySem.W.subIn K (.ref (He.ga K "Book")) (.type "str") = some false := of_decide_eq_true (c.factP 0 117 rfl rfl)
  have kiBookint : PySem.W.subIn K (.ref (He.ga K "Book")) (.type "int") = some false := of_decide_eq_true (c.factP 0 118 rfl rfl)
  have kiBooklist : PySem.W.subIn K (.ref (He.ga K "Book")) (.type "list") = some false := of_decide_eq_true (c.factP 0 119 rfl rfl)
  have kiBooktuple : PySem.W.subIn K (.ref (He.ga K "Book")) (.type "tuple") = some false := of_decide_eq_true (c.factP 0 120 rfl rfl)
  have kiBookdict : PySem.W.subIn K (.ref (He.ga K "Book")) (.type "dict") = some false := of_decide_eq_true (c.factP 0 121 rfl rfl)
  have kiBookbool : PySem.W.subIn K (.ref (He.ga K "Book")) (.type "bool") = some false := of_decide_eq_true (c.factP 0 122 rfl rfl)
  have neBook : PySem.W.findIn K (.ref (He.ga K "Book")) "__ne__" = some (some (.builtin "object.__ne__")) := of_decide_eq_true (c.factP 0 123 rfl rfl)
  have ccn : PySem.W.specialIn K (.builtin "object.__class__") "__get__" = some (some (.builtin "getset_descriptor.__get__")) := of_decide_eq_true (c.factP 0 124 rfl rfl)
  have cct : PySem.W.takesIn K (.builtin "object.__class__") = some true := of_decide_eq_true (c.factP 0 125 rfl rfl)
  obtain ⟨_, _, _, lE⟩ := Tp.tup0B_ok (c.factP 0 126 rfl rfl)
  have xnd : [(He.ga K "InvalidPart"), (He.ga K "InvalidName"), (He.ga K "InvalidRow"), (He.ga K "InvalidTurn"), (He.ga K "UnknownTerm"), (He.ga K "NetError"), (He.ga K "MissingError"), (He.ga K "StateError")].Nodup := of_decide_eq_true (c.factP 0 127 rfl rfl)
  have e := hfa.symm.trans g42
  cases e
  obtain ⟨fd0, G0⟩ := c.def_ 0 (d := hd0) rfl
  have F0 : Fun K "__init__" "InvalidPart.__init__" scInvalidPart_st (He.fAd K ("InvalidPart", some "__init__")) fd0 := Tp.fun_of G0
  have b0 := F0.binds (ps := ["self", "value"]) fun _ _ _ _ _ _ us hl => match us, hl with | [_, _], _ => rfl
  have k0 := F0.kp
  obtain ⟨fd1, G1⟩ := c.def_ 1 (d := hd1) rfl
  have F1 : Fun K "__init__" "InvalidName.__init__" scInvalidName_st (He.fAd K ("InvalidName", some "__init__")) fd1 := Tp.fun_of G1
  have b1 := F1.binds (ps := ["self", "value"]) fun _ _ _ _ _ _ us hl => match us, hl with | [_, _], _ => rfl
  have k1 := F1.kp
  obtain ⟨fd2, G2⟩ := c.def_ 2 (d := hd2) rfl
  have F2 : Fun K "__init__" "InvalidRow.__init__" scInvalidRow_st (He.fAd K ("InvalidRow", some "__init__")) fd2 := Tp.fun_of G2
  have b2 := F2.binds (ps := ["self", "value"]) fun _ _ _ _ _ _ us hl => match us, hl with | [_, _], _ => rfl
  have k2 := F2.kp
  obtain ⟨fd3, G3⟩ := c.def_ 3 (d := hd3) rfl
  have F3 : Fun K "__init__" "InvalidTurn.__init__" scInvalidTurn_st (He.fAd K ("InvalidTurn", some "__init__")) fd3 := Tp.fun_of G3
  have b3 := F3.binds (ps := ["self", "value"]) fun _ _ _ _ _ _ us hl => match us, hl with | [_, _], _ => rfl
  have k3 := F3.kp
  obtain ⟨fd4, G4⟩ := c.def_ 4 (d := hd4) rfl
  have F4 : Fun K "__init__" "UnknownTerm.__init__" scUnknownTerm_st (He.fAd K ("UnknownTerm", some "__init__")) fd4 := Tp.fun_of G4
  have b4 := F4.binds (ps := ["self", "number"]) fun _ _ _ _ _ _ us hl => match us, hl with | [_, _], _ => rfl
  have k4 := F4.kp
  obtain ⟨fd5, G5⟩ := c.def_ 5 (d := hd5) rfl
  have F5 : Fun K "is_integer" "is_integer" scIsInt_st (He.fAd K ("is_integer", none)) fd5 := Tp.fun_of G5
  have b5 := F5.binds (ps := ["value", "low", "high"]) fun _ _ _ _ _ _ us hl => match us, hl with | [_, _, _], _ => rfl
  have k5 := F5.kp
  obtain ⟨fd6, G6⟩ := c.def_ 6 (d := hd6) rfl
  have F6 : Fun K "is_name" "is_name" scIsName_st (He.fAd K ("is_name", none)) fd6 := Tp.fun_of G6
  have b6 := F6.binds (ps := ["value"]) fun _ _ _ _ _ _ us hl => match us, hl with | [_], _ => rfl
  have k6 := F6.kp
  obtain ⟨fd7, G7⟩ := c.def_ 7 (d := hd7) rfl
  have F7 : Fun K "is_list" "is_list" scIsList_st (He.fAd K ("is_list", none)) fd7 := Tp.fun_of G7
  have b7 := F7.binds (ps := ["value"]) fun _ _ _ _ _ _ us hl => match us, hl with | [_], _ => rfl
  have k7 := F7.kp
  obtain ⟨fd8, G8⟩ := c.def_ 8 (d := hd8) rfl
  have F8 : Fun K "is_pair" "is_pair" scIsPair_st (He.fAd K ("is_pair", none)) fd8 := Tp.fun_of G8
  have b8 := F8.binds (ps := ["value"]) fun _ _ _ _ _ _ us hl => match us, hl with | [_], _ => rfl
  have k8 := F8.kp
  obtain ⟨fd9, G9⟩ := c.def_ 9 (d := hd9) rfl
  have F9 : Fun K "is_turn" "is_turn" scIsTurn_st (He.fAd K ("is_turn", none)) fd9 := Tp.fun_of G9
  have b9 := F9.binds (ps := ["value"]) fun _ _ _ _ _ _ us hl => match us, hl with | [_], _ => rfl
  have k9 := F9.kp
  obtain ⟨fd10, F10⟩ := c.def_ 10 (d := hd10) rfl
  have k10 := F10.kp
  obtain ⟨fd11, G11⟩ := c.def_ 11 (d := hd11) rfl
  have F11 : Fun K "add_item" "Book.add_item" scAddItem_st (He.fAd K ("Book", some "add_item")) fd11 := Tp.fun_of G11
  have b11 := F11.binds (ps := ["self", "item"]) fun _ _ _ _ _ _ us hl => match us, hl with | [_, _], _ => rfl
  have k11 := F11.kp
  obtain ⟨fd12, G12⟩ := c.def_ 12 (d := hd12) rfl
  have F12 : Fun K "has_number" "Book.has_number" scHasNumber_st (He.fAd K ("Book", some "has_number")) fd12 := Tp.fun_of G12
  have b12 := F12.binds (ps := ["self", "number"]) fun _ _ _ _ _ _ us hl => match us, hl with | [_, _], _ => rfl
  have k12 := F12.kp
  obtain ⟨fd13, G13⟩ := c.def_ 13 (d := hd13) rfl
  have F13 : Fun K "need_number" "Book.need_number" scNeedNumber_st (He.fAd K ("Book", some "need_number")) fd13 := Tp.fun_of G13
  have b13 := F13.binds (ps := ["self", "number"]) fun _ _ _ _ _ _ us hl => match us, hl with | [_, _], _ => rfl
  have k13 := F13.kp
  obtain ⟨fd14, G14⟩ := c.def_ 14 (d := hd14) rfl
  have F14 : Fun K "number_of" "Book.number_of" scNumberOf_st (He.fAd K ("Book", some "number_of")) fd14 := Tp.fun_of G14
  have b14 := F14.binds (ps := ["self", "row"]) fun _ _ _ _ _ _ us hl => match us, hl with | [_, _], _ => rfl
  have k14 := F14.kp
  obtain ⟨fd15, G15⟩ := c.def_ 15 (d := hd15) rfl
  have F15 : Fun K "constant" "Book.constant" scConstant_st (He.fAd K ("Book", some "constant")) fd15 := Tp.fun_of G15
  have b15 := F15.binds (ps := ["self", "symbol"]) fun _ _ _ _ _ _ us hl => match us, hl with | [_, _], _ => rfl
  have k15 := F15.kp
  obtain ⟨fd16, G16⟩ := c.def_ 16 (d := hd16) rfl
  have F16 : Fun K "apply" "Book.apply" scApply_st (He.fAd K ("Book", some "apply")) fd16 := Tp.fun_of G16
  have b16 := F16.binds (ps := ["self", "symbol", "numbers"]) fun _ _ _ _ _ _ us hl => match us, hl with | [_, _, _], _ => rfl
  have k16 := F16.kp
  obtain ⟨fd17, G17⟩ := c.def_ 17 (d := hd17) rfl
  have F17 : Fun K "sample" "Book.sample" scSample_st (He.fAd K ("Book", some "sample")) fd17 := Tp.fun_of G17
  have b17 := F17.binds (ps := ["self", "name", "turn"]) fun _ _ _ _ _ _ us hl => match us, hl with | [_, _, _], _ => rfl
  have k17 := F17.kp
  obtain ⟨fd18, G18⟩ := c.def_ 18 (d := hd18) rfl
  have F18 : Fun K "rows" "Book.rows" scRows_st (He.fAd K ("Book", some "rows")) fd18 := Tp.fun_of G18
  have b18 := F18.binds (ps := ["self"]) fun _ _ _ _ _ _ us hl => match us, hl with | [_], _ => rfl
  have k18 := F18.kp
  obtain ⟨fd19, G19⟩ := c.def_ 19 (d := hd19) rfl
  have F19 : Fun K "__len__" "Book.__len__" scLen_st (He.fAd K ("Book", some "__len__")) fd19 := Tp.fun_of G19
  have b19 := F19.binds (ps := ["self"]) fun _ _ _ _ _ _ us hl => match us, hl with | [_], _ => rfl
  have k19 := F19.kp
  obtain ⟨fd20, G20⟩ := c.def_ 20 (d := hd20) rfl
  have F20 : Fun K "__getitem__" "Book.__getitem__" scGet_st (He.fAd K ("Book", some "__getitem__")) fd20 := Tp.fun_of G20
  have b20 := F20.binds (ps := ["self", "number"]) fun _ _ _ _ _ _ us hl => match us, hl with | [_, _], _ => rfl
  have k20 := F20.kp
  obtain ⟨fd21, G21⟩ := c.def_ 21 (d := hd21) rfl
  have F21 : Fun K "__contains__" "Book.__contains__" scHas_st (He.fAd K ("Book", some "__contains__")) fd21 := Tp.fun_of G21
  have b21 := F21.binds (ps := ["self", "value"]) fun _ _ _ _ _ _ us hl => match us, hl with | [_, _], _ => rfl
  have k21 := F21.kp
  obtain ⟨fd22, G22⟩ := c.def_ 22 (d := hd22) rfl
  have F22 : Fun K "__eq__" "Book.__eq__" scEq_st (He.fAd K ("Book", some "__eq__")) fd22 := Tp.fun_of G22
  have b22 := F22.binds (ps := ["self", "other"]) fun _ _ _ _ _ _ us hl => match us, hl with | [_, _], _ => rfl
  have k22 := F22.kp
  obtain ⟨fd23, G23⟩ := c.def_ 23 (d := hd23) rfl
  have F23 : Fun K "copied" "Book.copied" scCopied_st (He.fAd K ("Book", some "copied")) fd23 := Tp.fun_of G23
  have b23 := F23.binds (ps := ["self"]) fun _ _ _ _ _ _ us hl => match us, hl with | [_], _ => rfl
  have k23 := F23.kp
  obtain ⟨fd24, G24⟩ := c.def_ 24 (d := hd24) rfl
  have F24 : Fun K "_law_cell" "_law_cell" scCell_st (He.fAd K ("_law_cell", none)) fd24 := Tp.fun_of G24
  have b24 := F24.binds (ps := ["_law_script", "_law_k"]) fun _ _ _ _ _ _ us hl => match us, hl with | [_, _], _ => rfl
  have k24 := F24.kp
  obtain ⟨fd25, G25⟩ := c.def_ 25 (d := hd25) rfl
  have F25 : Fun K "_law_box" "_law_box" scBox_st (He.fAd K ("_law_box", none)) fd25 := Tp.fun_of G25
  have b25 := F25.binds (ps := ["_law_cell_here"]) fun _ _ _ _ _ _ us hl => match us, hl with | [_], _ => rfl
  have k25 := F25.kp
  obtain ⟨fd26, G26⟩ := c.def_ 26 (d := hd26) rfl
  have F26 : Fun K "_law_take" "_law_take" scTake_st (He.fAd K ("_law_take", none)) fd26 := Tp.fun_of G26
  have b26 := F26.binds (ps := ["_law_box_here", "_law_many"]) fun _ _ _ _ _ _ us hl => match us, hl with | [_, _], _ => rfl
  have k26 := F26.kp
  obtain ⟨fd27, G27⟩ := c.def_ 27 (d := hd27) rfl
  have F27 : Fun K "_law_label" "_law_label" scLabel_st (He.fAd K ("_law_label", none)) fd27 := Tp.fun_of G27
  have b27 := F27.binds (ps := ["_law_box_here"]) fun _ _ _ _ _ _ us hl => match us, hl with | [_], _ => rfl
  have k27 := F27.kp
  obtain ⟨fd28, G28⟩ := c.def_ 28 (d := hd28) rfl
  have F28 : Fun K "_law_odd" "_law_odd" scOdd_st (He.fAd K ("_law_odd", none)) fd28 := Tp.fun_of G28
  have b28 := F28.binds (ps := ["_law_box_here", "_law_good"]) fun _ _ _ _ _ _ us hl => match us, hl with | [_, _], _ => rfl
  have k28 := F28.kp
  obtain ⟨fd29, G29⟩ := c.def_ 29 (d := hd29) rfl
  have F29 : Fun K "_law_call" "_law_call" scCall_st (He.fAd K ("_law_call", none)) fd29 := Tp.fun_of G29
  have b29 := F29.binds (ps := ["_law_box_here", "_law_rows"]) fun _ _ _ _ _ _ us hl => match us, hl with | [_, _], _ => rfl
  have k29 := F29.kp
  obtain ⟨fd30, G30⟩ := c.def_ 30 (d := hd30) rfl
  have F30 : Fun K "_law_is_named" "_law_is_named" scIsNamed_st (He.fAd K ("_law_is_named", none)) fd30 := Tp.fun_of G30
  have b30 := F30.binds (ps := ["_law_word"]) fun _ _ _ _ _ _ us hl => match us, hl with | [_], _ => rfl
  have k30 := F30.kp
  obtain ⟨fd31, G31⟩ := c.def_ 31 (d := hd31) rfl
  have F31 : Fun K "_law_is_whole" "_law_is_whole" scIsWhole_st (He.fAd K ("_law_is_whole", none)) fd31 := Tp.fun_of G31
  have b31 := F31.binds (ps := ["_law_thing"]) fun _ _ _ _ _ _ us hl => match us, hl with | [_], _ => rfl
  have k31 := F31.kp
  obtain ⟨fd32, G32⟩ := c.def_ 32 (d := hd32) rfl
  have F32 : Fun K "_law_due" "_law_due" scDue_st (He.fAd K ("_law_due", none)) fd32 := Tp.fun_of G32
  have b32 := F32.binds (ps := ["_law_rows", "_law_call_here"]) fun _ _ _ _ _ _ us hl => match us, hl with | [_, _], _ => rfl
  have k32 := F32.kp
  obtain ⟨fd33, G33⟩ := c.def_ 33 (d := hd33) rfl
  have F33 : Fun K "_law_told" "_law_told" scTold_st (He.fAd K ("_law_told", none)) fd33 := Tp.fun_of G33
  have b33 := F33.binds (ps := ["_law_book", "_law_call_here"]) fun _ _ _ _ _ _ us hl => match us, hl with | [_, _], _ => rfl
  have k33 := F33.kp
  obtain ⟨fd34, G34⟩ := c.def_ 34 (d := hd34) rfl
  have F34 : Fun K "_law_made" "_law_made" scMade_st (He.fAd K ("_law_made", none)) fd34 := Tp.fun_of G34
  have b34 := F34.binds (ps := ["_law_rows"]) fun _ _ _ _ _ _ us hl => match us, hl with | [_], _ => rfl
  have k34 := F34.kp
  obtain ⟨fd35, G35⟩ := c.def_ 35 (d := hd35) rfl
  have F35 : Fun K "_law_made_due" "_law_made_due" scMadeDue_st (He.fAd K ("_law_made_due", none)) fd35 := Tp.fun_of G35
  have b35 := F35.binds (ps := ["_law_rows"]) fun _ _ _ _ _ _ us hl => match us, hl with | [_], _ => rfl
  have k35 := F35.kp
  obtain ⟨fd36, G36⟩ := c.def_ 36 (d := hd36) rfl
  have F36 : Fun K "_law_holds" "_law_holds" scHolds_st (He.fAd K ("_law_holds", none)) fd36 := Tp.fun_of G36
  have b36 := F36.binds (ps := ["_law_book", "_law_rows"]) fun _ _ _ _ _ _ us hl => match us, hl with | [_, _], _ => rfl
  have k36 := F36.kp
  obtain ⟨fd37, G37⟩ := c.def_ 37 (d := hd37) rfl
  have F37 : Fun K "_law_forms_right" "_law_forms_right" scFormsR_st (He.fAd K ("_law_forms_right", none)) fd37 := Tp.fun_of G37
  have b37 := F37.binds (ps := ["_law_book", "_law_name", "_law_rest"]) fun _ _ _ _ _ _ us hl => match us, hl with | [_, _, _], _ => rfl
  have k37 := F37.kp
  obtain ⟨fd38, G38⟩ := c.def_ 38 (d := hd38) rfl
  have F38 : Fun K "_law_numbers_refused" "_law_numbers_refused" scNumsR_st (He.fAd K ("_law_numbers_refused", none)) fd38 := Tp.fun_of G38
  have b38 := F38.binds (ps := ["_law_book", "_law_many"]) fun _ _ _ _ _ _ us hl => match us, hl with | [_, _], _ => rfl
  have k38 := F38.kp
  obtain ⟨fd39, G39⟩ := c.def_ 39 (d := hd39) rfl
  have F39 : Fun K "_law_grown" "_law_grown" scGrown_st (He.fAd K ("_law_grown", none)) fd39 := Tp.fun_of G39
  have b39 := F39.binds (ps := ["_law_box_here", "_law_book", "_law_rows"]) fun _ _ _ _ _ _ us hl => match us, hl with | [_, _, _], _ => rfl
  have k39 := F39.kp
  obtain ⟨fd40, G40⟩ := c.def_ 40 (d := hd40) rfl
  have F40 : Fun K "_law_again_right" "_law_again_right" scAgainR_st (He.fAd K ("_law_again_right", none)) fd40 := Tp.fun_of G40
  have b40 := F40.binds (ps := ["_law_box_here", "_law_book", "_law_rows"]) fun _ _ _ _ _ _ us hl => match us, hl with | [_, _, _], _ => rfl
  have k40 := F40.kp
  obtain ⟨fd41, G41⟩ := c.def_ 41 (d := hd41) rfl
  have F41 : Fun K "_law_copy_right" "_law_copy_right" scCopyR_st (He.fAd K ("_law_copy_right", none)) fd41 := Tp.fun_of G41
  have b41 := F41.binds (ps := ["_law_book", "_law_copy", "_law_rows"]) fun _ _ _ _ _ _ us hl => match us, hl with | [_, _, _], _ => rfl
  have k41 := F41.kp
  obtain ⟨fd42, G42⟩ := c.def_ 42 (d := hd42) rfl
  have F42 : Fun K "law" "law" scLaw_st (He.fAd K ("law", none)) fd42 := Tp.fun_of G42
  have b42 := F42.binds (ps := ["_law_script"]) fun _ _ _ _ _ _ us hl => match us, hl with | [_], _ => rfl
  have k42 := F42.kp
  have T : Txt K mg ⟨He.fAd K ("InvalidPart", some "__init__"), He.fAd K ("InvalidName", some "__init__"), He.fAd K ("InvalidRow", some "__init__"), He.fAd K ("InvalidTurn", some "__init__"), He.fAd K ("UnknownTerm", some "__init__"), He.fAd K ("is_integer", none), He.fAd K ("is_name", none), He.fAd K ("is_list", none), He.fAd K ("is_pair", none), He.fAd K ("is_turn", none), He.fAd K ("Book", some "__init__"), He.fAd K ("Book", some "add_item"), He.fAd K ("Book", some "has_number"), He.fAd K ("Book", some "need_number"), He.fAd K ("Book", some "number_of"), He.fAd K ("Book", some "constant"), He.fAd K ("Book", some "apply"), He.fAd K ("Book", some "sample"), He.fAd K ("Book", some "rows"), He.fAd K ("Book", some "__len__"), He.fAd K ("Book", some "__getitem__"), He.fAd K ("Book", some "__contains__"), He.fAd K ("Book", some "__eq__"), He.fAd K ("Book", some "copied"), He.fAd K ("_law_cell", none), He.fAd K ("_law_box", none), He.fAd K ("_law_take", none), He.fAd K ("_law_label", none), He.fAd K ("_law_odd", none), He.fAd K ("_law_call", none), He.fAd K ("_law_is_named", none), He.fAd K ("_law_is_whole", none), He.fAd K ("_law_due", none), He.fAd K ("_law_told", none), He.fAd K ("_law_made", none), He.fAd K ("_law_made_due", none), He.fAd K ("_law_holds", none), He.fAd K ("_law_forms_right", none), He.fAd K ("_law_numbers_refused", none), He.fAd K ("_law_grown", none), He.fAd K ("_law_again_right", none), He.fAd K ("_law_copy_right", none), He.fAd K ("law", none), He.ga K "NetError", He.ga K "MissingError", He.ga K "StateError", He.ga K "InvalidPart", He.ga K "InvalidName", He.ga K "InvalidRow", He.ga K "InvalidTurn", He.ga K "UnknownTerm", He.ga K "Book", He.dflAt ("Book", some "__init__") 0 K⟩ ⟨fd0, fd1, fd2, fd3, fd4, fd5, fd6, fd7, fd8, fd9, fd10, fd11, fd12, fd13, fd14, fd15, fd16, fd17, fd18, fd19, fd20, fd21, fd22, fd23, fd24, fd25, fd26, fd27, fd28, fd29, fd30, fd31, fd32, fd33, fd34, fd35, fd36, fd37, fd38, fd39, fd40, fd41, fd42⟩ := ⟨F0, b0, F1, b1, F2, b2, F3, b3, F4, b4, F5, b5, g5, F6, b6, g6, F7, b7, g7, F8, b8, g8, F9, b9, g9, F10, F11, b11, F12, b12, F13, b13, F14, b14, F15, b15, F16, b16, F17, b17, F18, b18, F19, b19, F20, b20, F21, b21, F22, b22, F23, b23, F24, b24, g24, F25, b25, g25, F26, b26, g26, F27, b27, g27, F28, b28, g28, F29, b29, g29, F30, b30, g30, F31, b31, g31, F32, b32, g32, F33, b33, g33, F34, b34, g34, F35, b35, g35, F36, b36, g36, F37, b37, g37, F38, b38, g38, F39, b39, g39, F40, b40, g40, F41, b41, g41, F42, b42, g42, m_LETTERS, m_DIGITS, m_LONGEST_NAME, m_MOST_ARGUMENTS, z_len, z_max, z_min, z_isinstance, z_str, z_int, z_all, z_range, z_repr, z_list, z_tuple, z_bool, z_enumerate, aCNetError, cxNetError, ⟨bgNetError, brNetError, bfNetError⟩, aCMissingError, cxMissingError, ⟨bgMissingError, brMissingError, bfMissingError⟩, aCStateError, cxStateError, ⟨bgStateError, brStateError, bfStateError⟩, aCInvalidPart, cxInvalidPart, xiInvalidPart, aCInvalidName, cxInvalidName, xiInvalidName, aCInvalidRow, cxInvalidRow, xiInvalidRow, aCInvalidTurn, cxInvalidTurn, xiInvalidTurn, aCUnknownTerm, cxUnknownTerm, xiUnknownTerm, aCBook, ⟨pgBook, hdBook, poBook, saBook⟩, ⟨mkBook, a10, fn10, kcBook⟩, caBook, cmBook, hdBook, tyBook, nBookheld, nBooknumbers, (Tp.kit_own kiBookstr (by decide +kernel)), (Tp.kit_own kiBookint (by decide +kernel)), (Tp.kit_own kiBooklist (by decide +kernel)), (Tp.kit_own kiBooktuple (by decide +kernel)), (Tp.kit_own kiBookdict (by decide +kernel)), (Tp.kit_own kiBookbool (by decide +kernel)), ⟨a11, fn11, k11⟩, ⟨a12, fn12, k12⟩, ⟨a13, fn13, k13⟩, ⟨a14, fn14, k14⟩, ⟨a15, fn15, k15⟩, ⟨a16, fn16, k16⟩, ⟨a17, fn17, k17⟩, ⟨a18, fn18, k18⟩, ⟨a23, fn23, k23⟩, ⟨a19, fn19, k19⟩, ⟨a20, fn20, k20⟩, ⟨a21, fn21, k21⟩, ⟨a22, fn22, k22⟩, gi20, neBook, ccn, cct, ⟨_, _, lE, rfl, rfl⟩, xnd⟩
  have bl := FunD.bindsA (ps := ["_law_script"]) G42 fun _ _ _ _ _ _ us hl => match us, hl with | [_], _ => rfl
  exact ⟨fd42, fun s v => bl s [v] rfl, fun base _ _ => ok_law T⟩
theorem hrun (w : World) : HandSHeadRun.RunEq HR hq hk hob 20000 hln w := fun os => Tp.run_join (hr_looks w os) (hr_seen w os) ⟨hr_e0 w os, trivial⟩ (hr_ok w os) (hr_v w os)
end L04

open PySem PySem.W PySem.Calls PyProof.Rows in
set_option maxRecDepth 100000 in
set_option maxHeartbeats 0 in
theorem PySem.Challenge.cw_toldpast_k04_books_of_distinct_rows_holds : PySem.Challenge.rw_toldpast_k04_books_of_distinct_rows.Holds := by
  w_on; o_law
  refine HandSHeadRun.head_any (r := OpenLaw.row PySem.Challenge.rw_toldpast_k04_books_of_distinct_rows) (q := L04.hq) (H := L04.hk) (ob := L04.hob) (M := 20000) (loose := L04.hln) (d := HandSHeadRun.topDef (OpenLaw.row PySem.Challenge.rw_toldpast_k04_books_of_distinct_rows).prog 50) (kwd := []) L04.hob_eq
    (by kernel_rfl) (fun s => by kernel_rfl) L04.hrun (by kernel_rfl) (by kernel_rfl) (by kernel_rfl) (by rfl) (by first | assumption | decide +kernel) (by decide +kernel) ⟨rfl, rfl, rfl, rfl, rfl, by decide +kernel⟩ ?hw ?hc
  case hw => w_witness2
  case hc =>
    refine Tp.walkSE (l := PySem.Challenge.rw_toldpast_k04_books_of_distinct_rows) (n := 63) (k := 11) (x := "_law_script") (sp := L04.spLaw) rfl (by decide) (by kernel_rfl) (by decide +kernel) ⟨rfl, by decide, by decide⟩ ?F (fun K H a ns hl hs hS => ⟨a, ns, rfl, hs, hS, hl, fun _ => rfl⟩)
    intro w mg fa h Y G hmg0
    obtain ⟨K, KX, c⟩ := Y
    have hmg : mg ("law" : PySem.Str) = some (.ref fa) := by
      have e : (HandSHeadRun.topDef (OpenLaw.row PySem.Challenge.rw_toldpast_k04_books_of_distinct_rows).prog 50).name = ("law" : PySem.Str) := by kernel_rfl
      rw [← e]
      exact hmg0
    obtain ⟨fd, hb, hF⟩ := L04.all_mk (l := PySem.Challenge.rw_toldpast_k04_books_of_distinct_rows) (w := w) KX G hmg c
    exact ⟨K, fd, KX, hb, hF⟩


