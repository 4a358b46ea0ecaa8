import PyProof.Rows.All
import Wide.All
import OpenK.AllK
import Wide.FinOn
import HandS.ForMost
import HandS.Evl
import HandS.Defaults
import HandS.IsInst
import HandS.StrMore
import KE.IntTextText
import HandS.Walk
import PyProof.ReprLen
import HandS.ForExc
import HandS.ExcInit
import HandS.ExcField
import HandS.TryMany
import HandS.ExcIs
import HandS.SlotsOwn
import HandS.ExcOwn
import PyProof.InstEq
import HandS.Spec
import HandS.DictComp
import HandS.DeepEq
import HandS.Iter
import HandS.More
import HandS.ListItems
import HandS.Zip
import KE.GoesEnum
import KE.GoesMore
import HandS.Star
import HandS.NoneIn
import HandS.Style
import HandS.Comp
import HandS.Head0
import HandS.Head1
import HandS.Head2
import HandS.HeadHook1
import HandS.HeadHook2
import HandS.AnyAll
import PySem.Challenge.RW_toldpast_k02_names_integers_and_lists_of
set_option Elab.async false
set_option linter.all false
set_option maxRecDepth 100000
set_option maxHeartbeats 4000000
/-! Tp: what all laws of this package share: promises that know that no repr runs around (FnG), repr of data, the box of draws -/
namespace Tp
open PySem PySem.Spec PyProof.Rows L2

/-! ### a def's promise where no guard (a repr that runs) stands around -/
structure FnG (P : Program) (w : World) (K : PySem.W.Frag) (mg : Str → Option Value) (base : Heap)
    (CX : CXT) (k : Nat) (f : Addr) (fd : FuncData) (ps : List Str) (sp : Sp) : Prop where
  ar : ∀ vs H Q E, sp vs H Q E → vs.length = ps.length
  go : ∀ (A : Around) (outer : List Env) (s : Shared) (H : Hp) (args : Args) (us : List Value) (vs : List V) (Q : VK) (E : XK),
    Room k A → A.guards = some [] → Env0 P w K mg base A outer s H → BindsTo s fd args (ps.zip us) → Vals vs us → sp vs H Q E →
      codeAny (model P w) A (.call (.ref f) args) (CR CX outer P w H s Q E) s

section
variable {P : Program} {w : World} {K : PySem.W.Frag} {mg : Str → Option Value} {base : Heap} {CX : CXT} {k : Nat} {f : Addr} {fd : FuncData} {ps : List Str} {sp : Sp}
theorem FnG.up {j : Nat} (F : FnG P w K mg base CX j f fd ps sp) (h : j ≤ k) : FnG P w K mg base CX k f fd ps sp :=
  ⟨F.ar, fun A o s H args us vs Q E hr => F.go A o s H args us vs Q E (hr.mono h)⟩
theorem FnG.of (F : FnOk P w K mg base CX k f fd ps sp) : FnG P w K mg base CX k f fd ps sp :=
  ⟨F.len, fun A o s H args us vs Q E hr _ => F.run A o s H args us vs Q E hr⟩

theorem fnG_of {name qual : Str} {params : Arguments} {body : List Stmt} {scope : Scope} {dV kV doc pm cdv ct oc : Value} {an od : Option Addr}
    {osl : Array (Option Value)} {N : List Str}
    (there : K.lookup f = some ⟨oc, od, .func (PySem.W.fnOf name qual params body scope dV kV doc pm an cdv ct), osl⟩)
    (code : PySem.W.codeIn K cdv qual = true) (S : FnScope N ps scope) (ar : ∀ vs H Q E, sp vs H Q E → vs.length = ps.length)
    (bd : ∀ (A : Around) (outer : List Env) (s : Shared) (H : Hp) (vs : List V) (Q : VK) (E : XK),
      Room k (A.deeper (envOfC qual scope s.heap.objs.size f cdv)) → A.guards = some [] → sp vs H Q E →
      ∃ t, PSs (cxOf CX P w K mg base N qual scope f cdv A outer s H E) body t ∧ t { nx := fun _ H' => Q .non H', rt := Q } (start N vs) H) :
    FnG P w K mg base CX (k + 1) f (PySem.W.fnOf name qual params body scope dV kV doc pm an cdv ct) ps sp := by
  refine ⟨ar, fun A outer s H args us vs Q E hr hg e0 hb r hsp => ?_⟩
  have keep : ∀ b o, base.get? b = some o → s.heap.get? b = some o := fun b o e => (e0.bs b o e).1
  have inK : K.In s.heap := e0.mod.kin.keeps keep
  have room : s.heap.NoLimit := e0.mod.nolimit.keeps keep
  have kinds : ∀ y ∈ ps.zip us, scope.names.lookup y.1 = some .local ∨
      (scope.names.lookup y.1 = some .cell ∧ ((cellsFrom (s.heap.objs.size + 1) scope.names []).lookup y.1).isSome = true) := by
    rintro ⟨n, v⟩ hy
    exact (S.par n (List.of_mem_zip hy).1).imp id fun q => ⟨q, PySem.W.cellsFrom_some _ _ _ (.inl q)⟩
  refine codeAny_call_function hr.depth (inK _ _ there) rfl S.co S.gen rfl (PySem.W.codeRec_of inK code) (hb _ _ _ _ ?_)
  refine wpAny_newFunctionEnv_cells S.kind kinds fun env eqE s1 x => ?_
  subst eqE
  refine ⟨room.keeps x.toInCall.keep, codeAny_func ?_⟩
  obtain ⟨t, ht, hq⟩ := bd A outer s H vs Q E (hr.deeper _) hg hsp
  have J0 : Inv (cxOf CX P w K mg base N qual scope f cdv A outer s H E) [] (start N vs) H s1 := inv_start S hr.hd e0 (ar _ _ _ _ hsp) r x
  refine wpAny_mono (ht.run [] s1 (start N vs) H _ J0 hq) (fun fl s' hs => ?_) fun _ _ hs => hs
  cases fl with
  | ret u => obtain ⟨v, σ', H', J, rv, q⟩ := hs; exact ⟨v, H', J.os, J.bare, J.base, J.hok, rv, q⟩
  | next => obtain ⟨σ', H', J, q⟩ := hs; exact ⟨V.non, H', J.os, J.bare, J.base, J.hok, rfl, q⟩
  | brk => obtain ⟨_, _, _, q⟩ := hs; exact q.elim
  | cont => obtain ⟨_, _, _, q⟩ := hs; exact q.elim

/-- a def of the text without defaults -/
theorem okG {x qual : Str} {st : Stmt} {N : List Str} (F : Fun K x qual st f fd) (S : FnScope N ps (defScope st)) (ar : ∀ vs H Q E, sp vs H Q E → vs.length = ps.length)
    (bd : ∀ (cdv : Value) (A : Around) (outer : List Env) (s : Shared) (H : Hp) (vs : List V) (Q : VK) (E : XK),
      Room k (A.deeper (envOfC qual (defScope st) s.heap.objs.size f cdv)) → A.guards = some [] → sp vs H Q E →
      ∃ t, PSs (cxOf CX0 P w K mg base N qual (defScope st) f cdv A outer s H E).nox (defBody st) t ∧ t { nx := fun _ H' => Q .non H', rt := Q } (start N vs) H) :
    FnG P w K mg base CX0 (k + 1) f fd ps sp := by
  obtain ⟨oc, od, kV, doc, pm, an, cdv, ct, osl, rfl, lk, hcd⟩ := F.ex
  refine fnG_of lk hcd S ar fun A outer s H vs Q E hr hg hsp => ?_
  obtain ⟨t, h, q⟩ := bd cdv A outer s H vs Q E hr hg hsp
  exact ⟨t, h.nox, q⟩
/-- a def with defaults -/
theorem okGD {x qual : Str} {st : Stmt} {dvs : List V} {kws : List (Str × V)} {N : List Str} (F : FunD K x qual (defArgs st) (defBody st) (defScope st) dvs kws f fd) (S : FnScope N ps (defScope st))
    (ar : ∀ vs H Q E, sp vs H Q E → vs.length = ps.length)
    (bd : ∀ (cdv : Value) (A : Around) (outer : List Env) (s : Shared) (H : Hp) (vs : List V) (Q : VK) (E : XK),
      Room k (A.deeper (envOfC qual (defScope st) s.heap.objs.size f cdv)) → A.guards = some [] → sp vs H Q E →
      ∃ t, PSs (cxOf CX0 P w K mg base N qual (defScope st) f cdv A outer s H E).nox (defBody st) t ∧ t { nx := fun _ H' => Q .non H', rt := Q } (start N vs) H) :
    FnG P w K mg base CX0 (k + 1) f fd ps sp := by
  obtain ⟨oc, od, dV, kV, doc, pm, an, cdv, ct, osl, rfl, lk, hcd, _, _⟩ := F.ex
  refine fnG_of lk hcd S ar fun A outer s H vs Q E hr hg hsp => ?_
  obtain ⟨t, h, q⟩ := bd cdv A outer s H vs Q E hr hg hsp
  exact ⟨t, h.nox, q⟩
end

/-! ### calls of such defs -/
section
variable {X : Cx} {CX : CXT} {k n : Nat} {f C : Addr} {fd : FuncData} {ps ks : List Str} {sp : Sp} {dvs : List V} {ds : List Value} {E : XK} {x m : Str} {p pos apos : Pos} {e o : Expr} {es : List Expr} {ta : TE} {t tk : TA} {kws : List Keyword}
  {g : List Value → List Value → List Value} {gV : List V → List V → List V}

theorem runG {pins : List (Addr × Obj)} {σ : L2.St} {H : Hp} {s : Shared} {Q : VK} {args : Args} {us : List Value} {vs : List V}
    (F : FnG X.prog X.w X.K X.mg X.base CX k f fd ps sp) (hr : Room k X.A) (hg : X.A.guards = some []) (hx : Passes CX X E) (I : Inv X pins σ H s)
    (hb : BindsTo s fd args (ps.zip us)) (r : Vals vs us) (h : sp vs H Q E) :
    wpAny (model X.prog X.w) X.A (call (.ref f) args.pos args.kw) (EP X pins σ Q) X.xe s := by
  obtain ⟨ap, ak⟩ := args
  refine wpAny_call (codeAny_mono (F.go X.A X.stack s H ⟨ap, ak⟩ us vs Q E hr hg I.env0 hb r h) fun r s' hq => ?_)
  cases r with
  | error e => exact hx pins σ H s e s' I hq
  | ok fl =>
    cases fl with
    | ret u => exact I.after hq
    | _ => exact hq.elim
theorem runG1 {pins : List (Addr × Obj)} {σ : L2.St} {H : Hp} {s : Shared} {Q : VK} {us : List Value} {vs : List V}
    (F : FnG X.prog X.w X.K X.mg X.base CX k f fd ps sp) (hr : Room k X.A) (hg : X.A.guards = some []) (hb : Binds X.K fd ps ds) (hd : Vals dvs ds) (hx : Passes CX X E)
    (I : Inv X pins σ H s) (r : Vals vs us) (h : sp (vs ++ dvs) H Q E) : wpAny (model X.prog X.w) X.A (call (.ref f) us) (EP X pins σ Q) X.xe s := by
  have r2 := r.append hd
  exact runG (args := ⟨us, []⟩) F hr hg hx I (hb s us I.kIn (r2.length.symm.trans (F.ar _ _ _ _ h))) r2 h

theorem pe_callG (F : FnG X.prog X.w X.K X.mg X.base CX k f fd ps sp) (hr : Room k X.A) (hgu : X.A.guards = some []) (hg : Gl X x) (hm : X.mg x = some (.ref f)) (hk : PySem.W.keepIn X.K (.ref f) = true)
    (hb : Binds X.K fd ps ds) (hd : Vals dvs ds) (hx : Passes CX X E) (ha : PA X (e :: es) t) (hdb : (x == ("__debug__" : Str)) = false := by decide)
    (he : starEach (e :: es) X.env = (false, eval e X.env) :: starEach es X.env := by rfl) (hpl : (backTo pos (starEach es X.env)).any (·.1) = false := by rfl) :
    PE X (.Call (.Name x p) (e :: es) [] pos) (tCall sp dvs E t) :=
  ⟨fun pins s σ H Q I h => wpAny_Call_Name_kw (ld_glob I hg hm (PySem.W.callWith_K (h₀ := X.base) I.ok.mod.kin hk
    (thn (ha.run pos pins s σ H _ I h) fun us s1 ⟨vs, H1, I1, r, q⟩ => ⟨I1.kIn, runG1 F hr hgu hb hd hx I1 r q⟩) he hpl) hdb)⟩
theorem pe_callG0 (F : FnG X.prog X.w X.K X.mg X.base CX k f fd ps sp) (hr : Room k X.A) (hgu : X.A.guards = some []) (hg : Gl X x) (hm : X.mg x = some (.ref f)) (hk : PySem.W.keepIn X.K (.ref f) = true)
    (hb : Binds X.K fd ps ds) (hd : Vals dvs ds) (hx : Passes CX X E) (hdb : (x == ("__debug__" : Str)) = false := by decide) : PE X (.Call (.Name x p) [] [] pos) (tCall sp dvs E tNil) :=
  ⟨fun pins s σ H Q I h => wpAny_Call_Name_kw (ld_glob I hg hm (PySem.W.callWith_K0 I.kIn hk (runG1 (us := []) F hr hgu hb hd hx I .nil h)) hdb)⟩
theorem pe_callGN (F : FnG X.prog X.w X.K X.mg X.base CX k f fd ps sp) (hr : Room k X.A) (hgu : X.A.guards = some []) (hg : Gl X x) (hm : X.mg x = some (.ref f)) (hk : PySem.W.keepIn X.K (.ref f) = true)
    (hb : KBn X.K fd ps n ks g gV) (hx : Passes CX X E) (ha : PA X (e :: es) t) (hkw : PK X kws tk)
    (hall : (backToKw pos (keywordEach kws X.env)).all (·.1.isSome) = true := by rfl) (hks : (backToKw pos (keywordEach kws X.env)).filterMap (·.1) = ks := by rfl)
    (hdb : (x == ("__debug__" : Str)) = false := by decide) (he : starEach (e :: es) X.env = (false, eval e X.env) :: starEach es X.env := by rfl)
    (hpl : ((backTo pos (starEach (e :: es) X.env)).any (·.1) || (backToKw pos (keywordEach kws X.env)).any (·.1.isNone)) = false := by rfl) :
    PE X (.Call (.Name x p) (e :: es) kws pos) (tCallN n ks.length sp gV E t tk) :=
  ⟨fun pins s σ H Q I h => wpAny_Call_Name_kw (ld_glob I hg hm (PySem.W.callWith_KW (h₀ := X.base) I.ok.mod.kin hk hall
    (thn (ha.run pos pins s σ H _ I h) fun us s1 ⟨vs, H1, I1, r, q⟩ => thn (hkw.run pos pins s1 σ H1 _ I1 q) fun ws s2 ⟨zs, H2, I2, rz, l1, l2, q2⟩ => ⟨I2.kIn, by
      rw [hks]
      exact runG (args := ⟨us, ks.zip ws⟩) F hr hgu hx I2 (hb.to s2 us ws I2.kIn (r.length.symm.trans l1) (rz.length.symm.trans l2)) (hb.rel r rz) q2⟩) hpl he) hdb)⟩
end

/-! ### repr of data -/
section
variable {X : Cx}
def rRepr (K : PySem.W.Frag) : List V → Hp → VK → Prop := fun xs H Q => ∃ v d, xs = [v] ∧ Dp K H v d ∧ d.showable = true ∧ d.hasDict = false ∧ d.depth ≤ 60 ∧ d.shown.length ≤ sizeLine ∧ Q (.str d.shown) H
theorem call_reprD {k : Nat} (hr : Room k X.A) (hg : X.A.guards = some []) : CallR X (.builtin "repr") (rRepr X.K) := by
  intro pins s σ H xs us Q I r h
  obtain ⟨v, d, rfl, hd, hs, hn, hp, hz, q⟩ := h
  obtain ⟨u, rfl, ru⟩ := vals1 r
  obtain ⟨as, rd⟩ := Dp.reads I d v u hd ru
  have un := hr.un
  have fin : ∀ {z : Str} {s' : Shared} {t : Tok}, Inv X pins σ H s' → d.shown = z → EP X pins σ Q (.str z t) s' := fun J e => ⟨.str d.shown, H, J, ⟨_, by rw [e]⟩, q⟩
  cases hd with
  | non => cases ru; exact PySem.P.repr_of_none (fin (I.tok _) (by simp only [PyData.shown]))
  | bl b => cases ru; exact PySem.P.repr_of_bool (fin (I.tok _) (by simp only [PyData.shown]))
  | int i => obtain ⟨t, rfl⟩ := ru; exact PySem.P.repr_of_int (by simpa [PyData.showable] using hs) (fin (I.tok _) (by simp only [PyData.shown]))
  | str x => obtain ⟨t, rfl⟩ := ru; exact PySem.P.repr_of_str (fin (I.tok _) (by simp only [PyData.shown])) (by simpa only [PyData.shown] using hz)
  | lst _ _ => cases ru; exact repr_of_reads' rd hs (PyData.noDict_hsm hn) hg (by omega) (fun _ _ e => e) (fun h' u tk kp => fin (I.kept kp) rfl) hz
  | tup _ _ => cases ru; exact repr_of_reads' rd hs (PyData.noDict_hsm hn) hg (by omega) (fun _ _ e => e) (fun h' u tk kp => fin (I.kept kp) rfl) hz
end

/-! ### the end of a law -/
section
variable {P : Program} {w : World} {K : PySem.W.Frag} {mg mb : Str → Option Value} {CX : CXT} {k : Nat} {fa a : Addr} {fd : FuncData} {x : Str} {sp : Sp} {s1 : Shared} {vs : List Value} {ns : List Int}
def LawEnd (s1 : Shared) (r : Result) (s' : Shared) : Prop := r = .ok (.ret (.bool true)) ∧ OldK s1.heap s'.heap ∧ s'.os = s1.os ∧ AllBare s'.gens
/-- from an abstract heap H that tracks the script alone, or nothing -/
theorem law_core (KX : K.In s1.heap) (hns : s1.heap.Ns mainGlobals mg) (hb : s1.heap.Ns builtinsNs mb) (hbb : ∀ x : Str, x ≠ "__name__" → mb x = bootBuiltins x)
    (hlim : s1.heap.NoLimit) (hg : s1.gens = #[]) (ha : s1.heap.get? a = some { cls := .type "list", data := .seq vs.toArray }) (hr : Room k callerA)
    (F : ∀ base : Heap, K.In base → base.Ns mainGlobals mg → FnG P w K mg base CX k fa fd [x] sp) (hbind : ∀ (s : Shared) (u : Value), BindsTo s fd ⟨[u], []⟩ [(x, u)])
    (hCX : ∀ H e s', ¬ CX [] H s1 (fun _ _ _ => False) e s') {H : Hp} (only : Only H) (hsp : sp [.ref a] H (fun v _ => v = .bl true) fun _ _ _ => False)
    (hok : HOk P w H s1.heap) (hA : ∀ b, H b ≠ none → b = a) (hK : H a ≠ none → K.lookup a = none) :
    codeAny (model P w) callerA (.call (.ref fa) ⟨[.ref a], []⟩) (LawEnd s1) s1 := by
  have free : ∀ {b : Addr} {o : Obj} {es : Array DictEntry} {ep : Nat}, s1.heap.get? b = some o → o.data = .dict es ep → H b = none := by
    intro b o es ep e d
    refine Classical.byContradiction fun q => ?_
    obtain rfl := hA b q
    rw [ha] at e
    cases e
    cases (d : Data.seq vs.toArray _ = Data.dict es ep)
  have ns : ∀ {b : Addr} {m : Str → Option Value}, s1.heap.Ns b m → (hidT s1.heap H).Ns b m := by
    rintro b m ⟨o, es, ep, e, d, r⟩
    exact ⟨o, es, ep, hidT_get e (free e d), d, r⟩
  have inK : K.In (hidT s1.heap H) := by
    intro b o e
    refine hidT_get (KX b o e) (Classical.byContradiction fun q => ?_)
    obtain rfl := hA b q
    rw [hK q] at e
    cases e
  obtain ⟨mc, l1, l2⟩ := hlim
  have M : Mod K mg (hidT s1.heap H) := ⟨inK, ns hns, ⟨mb, ns hb, hbb⟩, ⟨mc, ns l1, l2⟩⟩
  have none_in : ∀ b : Addr, b ∉ ([] : List Addr) := fun _ z => nomatch z
  have e0 : Env0 P w K mg (hidT s1.heap H) callerA [] s1 H := ⟨rfl, M, fun _ _ e => of_hidT e, Nat.le_of_eq (hidT_size _ _), trivial, fun b z => (none_in b z).elim, hok, .of_eq hg⟩
  refine codeAny_mono ((F _ inK (ns hns)).go callerA [] s1 H ⟨[.ref a], []⟩ [.ref a] [.ref a] _ _ hr rfl e0 (hbind s1 (.ref a)) (.cons rfl .nil) hsp) fun r s' h => ?_
  cases r with
  | error e => exact (hCX H e s' h).elim
  | ok fl =>
    cases fl with
    | ret u =>
      obtain ⟨v, H', os, bare, un, hok', rv, q⟩ := h
      obtain rfl : v = .bl true := q
      obtain rfl : u = Value.bool true := rv
      refine ⟨rfl, OldK.of_keep fun b o e => ?_, os, bare⟩
      rcases only b with z | ⟨ob, xs, z⟩
      · exact un.keep b o e z (none_in b) (none_in b)
      · have e2 := (hok' b _ (un.frzs b ob _ z)).1
        have e1 := (hok b _ z).1
        rw [e] at e1
        cases e1
        exact e2
    | _ => exact h.elim
theorem law_endG (KX : K.In s1.heap) (hns : s1.heap.Ns mainGlobals mg) (hb : s1.heap.Ns builtinsNs mb) (hbb : ∀ x : Str, x ≠ "__name__" → mb x = bootBuiltins x)
    (hlim : s1.heap.NoLimit) (hg : s1.gens = #[]) (ha : s1.heap.get? a = some { cls := .type "list", data := .seq vs.toArray }) (hi : IntsAre vs ns) (hl : ns.length ≤ sizeLine) (hr : Room k callerA)
    (F : ∀ base : Heap, K.In base → base.Ns mainGlobals mg → FnG P w K mg base CX k fa fd [x] sp) (hbind : ∀ (s : Shared) (u : Value), BindsTo s fd ⟨[u], []⟩ [(x, u)])
    (hCX : ∀ H e s', ¬ CX [] H s1 (fun _ _ _ => False) e s')
    (hsp : ∀ H : Hp, Only H → SqL K H a (ns.map V.int) → sp [.ref a] H (fun v _ => v = .bl true) fun _ _ _ => False) :
    codeAny (model P w) callerA (.call (.ref fa) ⟨[.ref a], []⟩) (LawEnd s1) s1 := by
  have rv := vals_ints hi
  cases hk : K.lookup a with
  | some o =>
    have e := KX a o hk
    rw [ha] at e
    cases e
    have only : Only (fun _ => none) := fun _ => .inl rfl
    refine law_core KX hns hb hbb hlim hg ha hr F hbind hCX only (hsp _ only (.inr ⟨_, vs.toArray, _, hk, rfl, rfl, rfl, ?_, by simpa using rv⟩)) (fun b u z => nomatch (z : (none : Option HO) = some u)) (fun b z => (z rfl).elim) fun z => (z rfl).elim
    rw [List.size_toArray, hi.length]
    exact hl
  | none =>
    have at_a : (upd (fun _ => none) a (.frz { cls := .type "list", data := .seq vs.toArray } (.lst (ns.map V.int))) : Hp) a = some (.frz { cls := .type "list", data := .seq vs.toArray } (.lst (ns.map V.int))) := upd_same
    have off : ∀ b, b ≠ a → (upd (fun _ => none) a (.frz { cls := .type "list", data := .seq vs.toArray } (.lst (ns.map V.int))) : Hp) b = none := fun b nb => upd_ne nb
    have only : Only (upd (fun _ => none) a (.frz { cls := .type "list", data := .seq vs.toArray } (.lst (ns.map V.int)))) := fun b => by
      by_cases nb : b = a
      · subst nb; exact .inr ⟨_, _, at_a⟩
      · exact .inl (off b nb)
    refine law_core KX hns hb hbb hlim hg ha hr F hbind hCX only (hsp _ only (.inl (.inr ⟨_, at_a⟩))) (fun b u z => ?_) (fun b z => Classical.byContradiction fun nb => z (off b nb)) fun _ => hk
    by_cases nb : b = a
    · subst nb
      rw [at_a] at z
      cases z
      exact ⟨ha, by rw [List.length_map]; exact hl, vs, _, rv, ha⟩
    · rw [off b nb] at z
      cases z
end
theorem walkG {l : PySem.W.OpenLaw} {n k : Nat} {q : Program} {loose : List Str} {XP : (Str → Option Value) → Heap → Prop} {YP : World → Heap → Prop} {d : DefRec} {K : Params → PySem.W.Frag} {sp : World → Sp} {x : Str}
    (hn : l.most = some n) (hn2 : n ≤ sizeLine) (hdf : d.params.defaults = []) (hr : Room k callerA) (hY : ∀ (w : World) (h : Heap), YP w h → (K w.params).In h)
    (F : ∀ (w : World) (mg : Str → Option Value) (fa : Addr) (h : Heap), (K w.params).In h → h.Ns mainGlobals mg → mg d.name = some (.ref fa) →
      ∃ fd : FuncData, (∀ (s : Shared) (u : Value), BindsTo s fd ⟨[u], []⟩ [(x, u)]) ∧
        ∀ base : Heap, (K w.params).In base → base.Ns mainGlobals mg → FnG l.prog w (K w.params) mg base CX0 k fa fd [x] (sp w))
    (hsp : ∀ (w : World) (H : Hp) (a : Addr) (ns : List Int), ns.length ≤ n → Only H → SqL (K w.params) H a (ns.map V.int) → sp w [.ref a] H (fun v _ => v = .bl true) fun _ _ _ => False) :
    PySem.W.WalkO q loose XP YP l.row.toRowW d [] (fun f vs => PySem.call f vs) := by
  refine Att.attach_call hn hdf fun w s₀ s₁ mg mb fa o pm cd doc a vs ns G Y ho hd hcd hmg hobj hints hlen hg => ?_
  obtain ⟨fd, hb, hF⟩ := F w mg fa _ (hY w _ Y) G.T.g hmg
  exact law_endG (hY w _ Y) G.T.g G.T.b G.T.builtins G.T.nolimit hg hobj hints (Nat.le_trans hlen hn2) hr hF hb (fun _ _ _ z => z) fun H hO hS => hsp w H a ns hlen hO hS
end Tp

set_option Elab.async false
set_option linter.all false
set_option maxRecDepth 100000
set_option maxHeartbeats 4000000
namespace Tp
open PySem PySem.Spec PyProof.Rows L2
/-! ### keywords alone -/
section
variable {X : Cx} {CX : CXT} {k : Nat} {f : Addr} {fd : FuncData} {ps ks : List Str} {sp : Sp} {E : XK} {x : Str} {p pos : Pos} {tk : TA} {kw : Keyword} {kws : List Keyword}
  {g : List Value → List Value → List Value} {gV : List V → List V → List V}
def tCallN0 (m : Nat) (sp : Sp) (gV : List V → List V → List V) (E : XK) (tk : TA) : TE := fun σ H Q => tk σ H fun zs H2 => zs.length = m ∧ sp (gV [] zs) H2 Q E
theorem pe_callGN0 (F : FnG X.prog X.w X.K X.mg X.base CX k f fd ps sp) (hr : Room k X.A) (hgu : X.A.guards = some []) (hg : Gl X x) (hm : X.mg x = some (.ref f)) (hk : PySem.W.keepIn X.K (.ref f) = true)
    (hb : KBn X.K fd ps 0 ks g gV) (hx : Passes CX X E) (hkw : PK X kws tk)
    (hall : (backToKw pos (keywordEach kws X.env)).all (·.1.isSome) = true := by rfl) (hks : (backToKw pos (keywordEach kws X.env)).filterMap (·.1) = ks := by rfl)
    (hdb : (x == ("__debug__" : Str)) = false := by decide)
    (hpl : ((backTo pos (starEach [] X.env)).any (·.1) || (backToKw pos (keywordEach kws X.env)).any (·.1.isNone)) = false := by rfl) :
    PE X (.Call (.Name x p) [] kws pos) (tCallN0 ks.length sp gV E tk) :=
  ⟨fun pins s σ H Q I h => wpAny_Call_Name_kw (ld_glob I hg hm (PySem.W.callWith_KW0 (h₀ := X.base) I.ok.mod.kin hk hall
    (thn (hkw.run pos pins s σ H _ I h) fun ws s2 ⟨zs, H2, I2, rz, l2, q2⟩ => ⟨I2.kIn, by
      rw [hks]
      exact runG (args := ⟨[], ks.zip ws⟩) F hr hgu hx I2 (hb.to s2 [] ws I2.kIn rfl (rz.length.symm.trans l2)) (hb.rel .nil rz) q2⟩) hpl) hdb)⟩
end
/-! ### keyword-only parameters, no other defaults: some given, the others from the def -/
section
variable {K : PySem.W.Frag} {x qual : Str} {st : Stmt} {kws : List (Str × V)} {f : Addr} {fd : FuncData} {ps : List Str}
theorem kb0 (F : FunD K x qual (defArgs st) (defBody st) (defScope st) [] kws f fd) (n : Nat) (ks : List Str) (ms : List (Str × V)) (g : {α : Type} → List α → List α → List α → List α) (hk : kws ≠ []) (hms : ∀ q ∈ ms, q ∈ kws)
    (hrel : ∀ {vs mz zs : List V} {us mv ws : List Value}, Vals vs us → Vals mz mv → Vals zs ws → Vals (g vs mz zs) (g us mv ws))
    (h : ∀ (D : Addr) (doc pm : Value) (an : Option Addr) (cdv ct : Value) (us mv ws : List Value), us.length = n → mv.length = ms.length → ws.length = ks.length →
      KwChain D ((ms.map (·.1)).zip mv) (bindArgs (PySem.W.fnOf x qual (defArgs st) (defBody st) (defScope st) .none (.ref D) doc pm an cdv ct) ⟨us, ks.zip ws⟩) (ps.zip (g us mv ws))) :
    ∃ mv : List Value, KBn K fd ps n ks (fun us ws => g us mv ws) (fun vs zs => g vs (ms.map (·.2)) zs) := by
  obtain ⟨oc, od, dV, kV, doc, pm, an, cdv, ct, osl, rfl, lk, hcd, hD, hK⟩ := F.ex
  rcases hD with ⟨_, rfl⟩ | ⟨z, _⟩
  · rcases hK with z | ⟨D, rfl, hq⟩
    · exact (hk z).elim
    · obtain ⟨mv, hl, rk, hks⟩ := kwd_vals (ms := ms) fun q hm => hq q (hms q hm)
      exact ⟨mv, fun s us ws X l1 l2 => BindsTo.of_looks fun M => KwChain.looks X hks (h D doc pm an cdv ct us mv ws l1 hl l2), fun r1 r2 => hrel r1 rk r2⟩
  · exact (z rfl).elim
end
/-! ### text * n -/
section
variable {X : Cx}
def repS (x : Str) (n : Nat) : Str := ⟨(List.replicate n x.cps).foldl (· ++ ·) #[]⟩
def rRepS : R2 := fun x y H Q => ∃ (a : Str) (n : Nat), x = .str a ∧ y = .int n ∧ 2 ≤ n ∧ n < 100000 ∧ 1 ≤ a.length ∧ a.length ≤ 100 ∧ Q (.str (repS a n)) H
theorem op_repS : OpR X (binaryOp .Mult) rRepS := by
  intro pins s σ H x y v u Q I rx ry h
  obtain ⟨a, n, rfl, rfl, h1, h2, h3, h4, q⟩ := h
  obtain ⟨t, rfl⟩ := rx
  obtain ⟨t', rfl⟩ := ry
  have hm : a.length * n ≤ 100 * 100000 := Nat.mul_le_mul h4 (Nat.le_of_lt h2)
  have n1 : ¬ ((n : Int) < 1) := by omega
  have n2 : ((n : Int) == 1 || a.length == 0) = false := by
    have e1 : ((n : Int) == 1) = false := beq_eq_false_iff_ne.mpr (by omega)
    have e2 : (a.length == 0) = false := beq_eq_false_iff_ne.mpr (by omega)
    rw [e1, e2]
    rfl
  refine PySem.P.mul_str ?_ (fun _ _ => ?_) (fun _ _ => ?_) ?_
  · rw [decide_eq_false (show ¬ ((n : Int) < -(2 ^ 63)) by omega), decide_eq_false (show ¬ ((n : Int) ≥ 2 ^ 63) by omega)]
    rfl
  · have : (100000 : Int) ≤ (2 ^ 63 - 1) / (n : Int) := by
      rw [Int.le_ediv_iff_mul_le (by omega)]
      have : (100000 : Int) * n ≤ 100000 * 100000 := by omega
      omega
    omega
  · exact decide_eq_false (by rw [Int.toNat_natCast]; exact Nat.not_lt.mpr (Nat.le_trans hm (by decide)))
  · rw [if_neg n1, n2, if_neg Bool.false_ne_true]
    have e : ((n : Int)).toNat = n := Int.toNat_natCast n
    rw [e]
    refine ⟨?_, ⟨.str (repS a n), H, I.tok _, ⟨_, rfl⟩, q⟩⟩
    have len : ∀ (m : Nat) (acc : Array Nat), ((List.replicate m a.cps).foldl (· ++ ·) acc).size = acc.size + m * a.length := by
      intro m
      induction m with
      | zero => intro acc; simp
      | succ m ih =>
        intro acc
        rw [List.replicate_succ, List.foldl_cons, ih, Array.size_append, Nat.succ_mul]
        show acc.size + a.length + m * a.length = _
        omega
    show ((List.replicate n a.cps).foldl (· ++ ·) #[]).size ≤ sizeLine
    rw [len n #[], Nat.mul_comm]
    exact Nat.le_trans (by simpa using hm) (by decide)
end
/-! ### built-in names, and constants of the module -/
theorem bt_len : bootBuiltins "len" = some (.builtin "len") := by decide +kernel
theorem bt_max : bootBuiltins "max" = some (.builtin "max") := by decide +kernel
theorem bt_min : bootBuiltins "min" = some (.builtin "min") := by decide +kernel
theorem bt_isinstance : bootBuiltins "isinstance" = some (.builtin "isinstance") := by decide +kernel
theorem bt_all : bootBuiltins "all" = some (.builtin "all") := by decide +kernel
theorem bt_any : bootBuiltins "any" = some (.builtin "any") := by decide +kernel
theorem bt_sum : bootBuiltins "sum" = some (.builtin "sum") := by decide +kernel
theorem bt_ord : bootBuiltins "ord" = some (.builtin "ord") := by decide +kernel
theorem bt_chr : bootBuiltins "chr" = some (.builtin "chr") := by decide +kernel
theorem bt_repr : bootBuiltins "repr" = some (.builtin "repr") := by decide +kernel
theorem bt_abs : bootBuiltins "abs" = some (.builtin "abs") := by decide +kernel
theorem bt_sorted : bootBuiltins "sorted" = some (.builtin "sorted") := by decide +kernel
theorem bt_str : bootBuiltins "str" = some (.type "str") := by decide +kernel
theorem bt_int : bootBuiltins "int" = some (.type "int") := by decide +kernel
theorem bt_list : bootBuiltins "list" = some (.type "list") := by decide +kernel
theorem bt_tuple : bootBuiltins "tuple" = some (.type "tuple") := by decide +kernel
theorem bt_dict : bootBuiltins "dict" = some (.type "dict") := by decide +kernel
theorem bt_range : bootBuiltins "range" = some (.type "range") := by decide +kernel
theorem bt_bool : bootBuiltins "bool" = some (.type "bool") := by decide +kernel
theorem bt_enumerate : bootBuiltins "enumerate" = some (.type "enumerate") := by decide +kernel
theorem bt_zip : bootBuiltins "zip" = some (.type "zip") := by decide +kernel
theorem pe_glS {X : Cx} {x z : Str} {pos : Pos} (hg : Gl X x) (hm : ∃ t, X.mg x = some (.str z t)) (hd : (x == ("__debug__" : Str)) = false := by decide) : PE X (.Name x pos) (tC (.str z)) :=
  let ⟨_, h⟩ := hm
  pe_glob hg h ⟨_, rfl⟩ hd
theorem pe_glI {X : Cx} {x : Str} {i : Int} {pos : Pos} (hg : Gl X x) (hm : ∃ t, X.mg x = some (.int i t)) (hd : (x == ("__debug__" : Str)) = false := by decide) : PE X (.Name x pos) (tC (.int i)) :=
  let ⟨_, h⟩ := hm
  pe_glob hg h ⟨_, rfl⟩ hd
/-! ### the box of draws: a list of three ints; n: at most so many draws so far -/
def Kp (b : Addr) (H H' : Hp) : Prop := ∀ a o, a ≠ b → H a = some o → H' a = some o
theorem Kp.refl (b : Addr) (H : Hp) : Kp b H H := fun _ _ _ h => h
theorem Kp.trans {b : Addr} {H H1 H2 : Hp} (p : Kp b H H1) (q : Kp b H1 H2) : Kp b H H2 := fun a o n h => q a o n (p a o n h)
theorem Kp.same {b : Addr} {H H1 H2 : Hp} (p : Kp b H H1) (q : Same H1 H2) : Kp b H H2 := fun a o n h => q a o (p a o n h)
theorem Kp.box {b : Addr} {H : Hp} {o : HO} : Kp b H (upd H b o) := fun a u n h => by rw [upd_ne n]; exact h
theorem same_new {H : Hp} {p : Addr} {o : HO} (h : H p = none) : Same H (upd H p o) := fun a u e => by rw [upd_ne (ne_of_none e h)]; exact e
theorem Kp.new {b p : Addr} {H : Hp} {o : HO} (h : H p = none) : Kp b H (upd H p o) := fun a u _ e => same_new h a u e
def BoxAt (b : Addr) (n : Nat) (H : Hp) : Prop := ∃ x y z : Int, H b = some (.lst [.int x, .int y, .int z]) ∧ 0 ≤ x ∧ 0 ≤ y ∧ y < 2147483629 ∧ 0 ≤ z ∧ z ≤ n
theorem BoxAt.same {b : Addr} {n : Nat} {H H' : Hp} (h : BoxAt b n H) (q : Same H H') : BoxAt b n H' := let ⟨x, y, z, h1, r⟩ := h; ⟨x, y, z, q _ _ h1, r⟩
theorem BoxAt.up {b : Addr} {n m : Nat} {H : Hp} (h : BoxAt b n H) (q : n ≤ m) : BoxAt b m H := by
  obtain ⟨x, y, z, h1, h2, h3, h4, h5, h6⟩ := h
  exact ⟨x, y, z, h1, h2, h3, h4, h5, by omega⟩
theorem BoxAt.ne {b p : Addr} {n : Nat} {H : Hp} (h : BoxAt b n H) (q : H p = none) : p ≠ b := by
  obtain ⟨x, y, z, h1, _⟩ := h
  exact (ne_of_none h1 q).symm
def spCell (K : PySem.W.Frag) : Sp := fun vs H Q _ => ∃ (s : Addr) (ns : List Int) (k : Int), vs = [.ref s, .int k] ∧ SqL K H s (ns.map V.int) ∧ 0 ≤ k ∧ k < 1000 ∧ ∀ n : Int, Q (.int n) H
def spBox : Sp := fun vs H Q _ => ∃ c : Int, vs = [.int c] ∧ ∀ p x y, H p = none → 0 ≤ x → 0 ≤ y → y < 2147483629 → Q (.ref p) (upd H p (.lst [.int x, .int y, .int 0]))
def spTake : Sp := fun vs H Q _ => ∃ (b : Addr) (m : Int) (n : Nat), vs = [.ref b, .int m] ∧ BoxAt b n H ∧ n < 1000000 ∧ 0 < m ∧ m < 1000000000 ∧
  ∀ r H', 0 ≤ r → r < m → Kp b H H' → BoxAt b (n + 1) H' → Q (.int r) H'
theorem mixA {y c z e : Int} (y0 : 0 ≤ y) (y1 : y < 2147483629) (z0 : 0 ≤ z) (z1 : z ≤ 1000000) (c0 : 0 ≤ c ∧ c ≤ 1000000000) (e0 : 0 ≤ e ∧ e ≤ 1000000) : (y + c * (z + 1) + e).natAbs < 2 ^ 64 := by
  have h1 : 0 ≤ c * (z + 1) := Int.mul_nonneg c0.1 (by omega)
  have h2 : c * (z + 1) ≤ 1000000000 * 1000001 := Int.mul_le_mul c0.2 (by omega) (by omega) (by omega)
  omega
theorem mixB {i c z : Int} (z0 : 0 ≤ z) (z1 : z ≤ 1000000) (c0 : 0 ≤ c ∧ c ≤ 1000000000) : (i.fmod 2147483647 + c * (z + 1)).natAbs < 2 ^ 64 := by
  have h1 : 0 ≤ c * (z + 1) := Int.mul_nonneg c0.1 (by omega)
  have h2 : c * (z + 1) ≤ 1000000000 * 1000001 := Int.mul_le_mul c0.2 (by omega) (by omega) (by omega)
  rw [Int.fmod_eq_emod_of_nonneg _ (by decide)]
  have h3 := Int.emod_nonneg i (show (2147483647 : Int) ≠ 0 by decide)
  have h4 := Int.emod_lt_of_pos i (show (0 : Int) < 2147483647 by decide)
  omega
/-! ### tests whose answer is known -/
section
variable {p : Prop} [Decidable p] {A B : Prop}
theorem ifY (h : p) (x : A) : if decide p = true then A else B := by rw [decide_eq_true h]; exact iteT x
theorem ifN (h : ¬ p) (x : B) : if decide p = true then A else B := by rw [decide_eq_false h]; exact iteF x
theorem ifnY (h : p) (x : B) : if (!decide p) = true then A else B := by rw [decide_eq_true h]; exact iteF x
theorem ifnN (h : ¬ p) (x : A) : if (!decide p) = true then A else B := by rw [decide_eq_false h]; exact iteT x
theorem if2 (h1 : p → A) (h2 : ¬ p → B) : if decide p = true then A else B := by
  by_cases h : p
  · exact ifY h (h1 h)
  · exact ifN h (h2 h)
theorem ifn2 (h1 : p → B) (h2 : ¬ p → A) : if (!decide p) = true then A else B := by
  by_cases h : p
  · exact ifnY h (h1 h)
  · exact ifnN h (h2 h)
end
theorem ifB {b : Bool} {A B : Prop} (h1 : b = true → A) (h2 : b = false → B) : if b = true then A else B := by
  cases b with
  | true => exact iteT (h1 rfl)
  | false => exact iteF (h2 rfl)
theorem ifnB {b : Bool} {A B : Prop} (h1 : b = true → B) (h2 : b = false → A) : if (!b) = true then A else B := by
  cases b with
  | true => exact iteF (h1 rfl)
  | false => exact iteT (h2 rfl)
theorem Kp.mut {b p : Addr} {H H' : Hp} {o : HO} (k : Kp b H H') (h : H p = none) : Kp b H (upd H' p o) := fun a u n e => by
  rw [upd_ne (ne_of_none e h)]
  exact k a u n e
theorem Same.mut {p : Addr} {H H' : Hp} {o : HO} (k : Same H H') (h : H p = none) : Same H (upd H' p o) := fun a u e => by
  rw [upd_ne (ne_of_none e h)]
  exact k a u e
theorem BoxAt.off {b p : Addr} {n : Nat} {H : Hp} {o : HO} (h : BoxAt b n H) (ne : p ≠ b) : BoxAt b n (upd H p o) := by
  obtain ⟨x, y, z, h1, r⟩ := h
  exact ⟨x, y, z, by rw [upd_ne ne.symm]; exact h1, r⟩
end Tp

set_option Elab.async false
set_option linter.all false
set_option maxRecDepth 100000
set_option maxHeartbeats 4000000
namespace Tp
open PySem L2 PySem.NumText
/-! ### numbers as texts -/
def numOf (z : Str) : Option Int :=
  if 0 < z.length ∧ z.length ≤ 30 ∧ (∀ c ∈ z.cps.toList, 48 ≤ c ∧ c ≤ 57) ∧ (z.cps.toList.head? = some 48 → z.length = 1) then some ((digitsVal z.cps.toList : Nat) : Int) else none
def numV (z : Str) (lo hi : Int) : V := match numOf z with
  | some n => if lo ≤ n ∧ n ≤ hi then .int n else .non
  | none => .non
theorem len_list (z : Str) : z.cps.toList.length = z.length := Array.length_toList
theorem str_ext {a b : Str} (h : a.cps.toList = b.cps.toList) : a = b := by
  obtain ⟨x⟩ := a
  obtain ⟨y⟩ := b
  have : x = y := Array.toList_inj.mp h
  rw [this]
theorem val_lt : ∀ (cs : List Nat) (a : Nat), (∀ c ∈ cs, 48 ≤ c ∧ c ≤ 57) → cs.foldl (fun acc c => acc * 10 + (c - 48)) a < (a + 1) * 10 ^ cs.length
  | [], a, _ => by simp
  | c :: cs, a, h => by
    have h1 := h c (List.mem_cons_self ..)
    have h2 := val_lt cs (a * 10 + (c - 48)) fun d hd => h d (List.mem_cons_of_mem _ hd)
    rw [List.foldl_cons, List.length_cons]
    refine Nat.lt_of_lt_of_le h2 ?_
    rw [Nat.pow_succ, Nat.mul_comm (10 ^ cs.length) 10, ← Nat.mul_assoc]
    exact Nat.mul_le_mul_right _ (by omega)
theorem num_lt {z : Str} {n : Int} (h : numOf z = some n) : 0 ≤ n ∧ n < 10 ^ 30 := by
  unfold numOf at h
  split at h
  · rename_i c
    obtain ⟨h1, h2, h3, h4⟩ := c
    have e := Option.some.inj h
    have l := val_lt z.cps.toList 0 h3
    rw [len_list] at l
    have l2 : (10 : Nat) ^ z.length ≤ 10 ^ 30 := Nat.pow_le_pow_right (by decide) h2
    have l3 : digitsVal z.cps.toList < 10 ^ 30 := by
      show List.foldl _ 0 _ < _
      omega
    rw [← e]
    omega
  · cases h
/-- str(n) of what the digits are worth -/
theorem str_val {cs : List Nat} (h : AllDigits cs) (hne : cs ≠ []) : (Str.ofString (toString ((digitsVal cs : Nat) : Int))).cps.toList = cs ↔ (cs.head? = some 48 → cs.length = 1) := by
  rw [PySem.W.KIN.signs_num]
  have back : ∀ l : List Nat, AllDigits l → (l.map Char.ofNat).map Char.toNat = l := by
    intro l hl
    rw [List.map_map]
    refine (List.map_congr_left fun c hc => ?_).trans (List.map_id l)
    have := hl c hc
    show (Char.ofNat c).toNat = c
    have key : ∀ k : Nat, k < 128 → (Char.ofNat k).toNat = k := by decide
    exact key c (by omega)
  constructor
  · intro e hd
    cases cs with
    | nil => exact (hne rfl).elim
    | cons c r =>
      have : c = 48 := by simpa using hd
      subst this
      cases r with
      | nil => rfl
      | cons c2 r2 =>
        exfalso
        have len := congrArg List.length e
        rw [List.length_map] at len
        have hv : digitsVal (48 :: c2 :: r2) < 10 ^ (r2.length + 1) := by
          have l := val_lt (c2 :: r2) 0 h.tail
          have e0 : digitsVal (48 :: c2 :: r2) = List.foldl (fun acc c => acc * 10 + (c - 48)) 0 (c2 :: r2) := rfl
          rw [e0]
          simpa using l
        have := PyProof.Rows.digits10_le (k := r2.length + 1) (n := digitsVal (48 :: c2 :: r2)) (by omega) hv
        rw [len] at this
        simp at this
        omega
  · intro hd
    have : cs.length = (cs.length - 1) + 1 := by
      cases cs with
      | nil => exact (hne rfl).elim
      | cons => rfl
    rw [toDigits_digitsVal (cs.length - 1) cs this h ?_, back cs h]
    cases cs with
    | nil => exact (hne rfl).elim
    | cons c r =>
      by_cases c0 : c = 48
      · left
        have := hd (by rw [c0]; rfl)
        omega
      · right
        have := h.head
        exact ⟨c, r, rfl, by omega⟩
/-! ### strip, count -/
theorem strip_empty (x y : Str) : Txt.stripChars x y = Str.empty ↔ ∀ c ∈ x.cps.toList, c ∈ y.cps.toList := by
  have cont : ∀ c, y.cps.contains c = true ↔ c ∈ y.cps.toList := by
    intro c
    rw [Array.contains_iff_mem, Array.mem_toList_iff]
  have tw : ∀ (p : Nat → Bool) (l : List Nat), (l.takeWhile p).length = l.length ↔ ∀ c ∈ l, p c = true := by
    intro p l
    induction l with
    | nil => simp
    | cons c l ih =>
      rw [List.takeWhile_cons]
      by_cases hc : p c = true
      · rw [if_pos hc, List.length_cons, List.length_cons]
        constructor
        · intro h d hd
          rcases List.mem_cons.mp hd with rfl | hd
          · exact hc
          · exact ih.mp (by omega) d hd
        · intro h
          have := ih.mpr fun d hd => h d (List.mem_cons_of_mem _ hd)
          omega
      · rw [if_neg hc]
        constructor
        · intro h
          simp at h
        · intro h
          exact absurd (h c (List.mem_cons_self ..)) hc
  unfold Txt.stripChars Txt.stripBy
  constructor
  · intro h
    by_cases hs : stripSame y.cps.contains true true x = true
    · rw [if_pos hs] at h
      subst h
      intro c hc
      cases hc
    · rw [if_neg hs] at h
      have hz := congrArg (fun s : Str => s.cps.size) h
      have hz : (x.cps.extract (stripLo y.cps.contains true x) (stripHi y.cps.contains true x (stripLo y.cps.contains true x))).size = 0 := hz
      rw [Array.size_extract] at hz
      have l1 : stripLo y.cps.contains true x = (x.cps.toList.takeWhile y.cps.contains).length := if_pos rfl
      have l2 : stripHi y.cps.contains true x (stripLo y.cps.contains true x) = x.length - ((x.cps.toList.drop (stripLo y.cps.contains true x)).reverse.takeWhile y.cps.contains).length := if_pos rfl
      have xl : x.length = x.cps.size := rfl
      rw [l2] at hz
      have le := (List.takeWhile_prefix y.cps.contains (l := (x.cps.toList.drop (stripLo y.cps.contains true x)).reverse)).length_le
      rw [List.length_reverse, List.length_drop, len_list] at le
      have lo_le : stripLo y.cps.contains true x ≤ x.length := by
        rw [l1, ← len_list]
        exact (List.takeWhile_prefix _).length_le
      have all : ∀ c ∈ (x.cps.toList.drop (stripLo y.cps.contains true x)).reverse, y.cps.contains c = true := by
        refine (tw _ _).mp ?_
        rw [List.length_reverse, List.length_drop, len_list]
        omega
      intro c hc
      rw [← cont]
      rw [← List.take_append_drop (stripLo y.cps.contains true x) x.cps.toList] at hc
      rcases List.mem_append.mp hc with hc | hc
      · rw [l1] at hc
        have e : x.cps.toList.take (x.cps.toList.takeWhile y.cps.contains).length = x.cps.toList.takeWhile y.cps.contains :=
          List.prefix_iff_eq_take.mp (List.takeWhile_prefix _) |>.symm
        rw [e] at hc
        exact List.all_eq_true.mp (List.all_takeWhile) c hc
      · exact all c (List.mem_reverse.mpr hc)
  · intro h
    have lo : stripLo y.cps.contains true x = x.length := by
      have e : stripLo y.cps.contains true x = (x.cps.toList.takeWhile y.cps.contains).length := if_pos rfl
      rw [e, ← len_list]
      exact (tw _ _).mpr fun c hc => (cont c).mpr (h c hc)
    by_cases hs : stripSame y.cps.contains true true x = true
    · rw [if_pos hs]
      have := (Bool.and_eq_true _ _ ▸ hs : (stripLo y.cps.contains true x == 0) = true ∧ _).1
      rw [lo] at this
      have z0 : x.cps.size = 0 := beq_iff_eq.mp this
      exact str_ext (by rw [Array.eq_empty_of_size_eq_zero z0]; rfl)
    · rw [if_neg hs]
      refine str_ext ?_
      have z0 : (stripped y.cps.contains true true x).cps.size = 0 := by
        show (x.cps.extract (stripLo y.cps.contains true x) _).size = 0
        rw [Array.size_extract, lo]
        have xl : x.length = x.cps.size := rfl
        omega
      rw [Array.eq_empty_of_size_eq_zero z0]
      rfl
theorem occ_some (s sub : Str) (hi L : Nat) (hL : 1 ≤ L) : ∀ (l : List Nat) (free : Nat), (∀ i ∈ l, free ≤ i) →
    ((forIn l ((#[] : Array Nat), free) (StrLaws.occBody s sub hi L)).run.fst = #[] ↔ ∀ i ∈ l, ¬ (i + sub.length ≤ hi ∧ Builtin.Str.subAt s sub i = true))
  | [], free, _ => by simp
  | a :: l, free, hf => by
    rw [List.forIn_cons]
    unfold StrLaws.occBody
    have ha : free ≤ a := hf a (List.mem_cons_self ..)
    by_cases hc : a + sub.length ≤ hi ∧ Builtin.Str.subAt s sub a = true
    · have c1 : (((#[] : Array Nat), free).fst.size < L ∧ ((#[] : Array Nat), free).snd ≤ a) ∧ a + sub.length ≤ hi := ⟨⟨hL, ha⟩, hc.1⟩
      rw [if_pos ⟨c1, hc.2⟩]
      exact ⟨fun h => absurd h (StrLaws.occ_grows s sub hi L l _ (by simp)), fun h => absurd hc (h a (List.mem_cons_self ..))⟩
    · rw [if_neg fun h => hc ⟨h.1.2, h.2⟩]
      have ih := occ_some s sub hi L hL l free (fun i hi' => hf i (List.mem_cons_of_mem _ hi'))
      refine ⟨fun h i hi' => ?_, fun h => ih.mpr fun i hm => h i (List.mem_cons_of_mem _ hm)⟩
      rcases List.mem_cons.mp hi' with rfl | hm
      · exact hc
      · exact ih.mp h i hm
theorem count_one (x : Str) (c : Nat) : decide (0 < Txt.count x ⟨#[c]⟩) = decide (c ∈ x.cps.toList) := by
  have key := occ_some x ⟨#[c]⟩ x.length (x.length + 1) (by omega) (List.range' 0 (x.length + 1 - 0)) 0 (fun _ _ => Nat.zero_le _)
  have e : Txt.count x ⟨#[c]⟩ = (((forIn (List.range' 0 (x.length + 1 - 0)) ((#[] : Array Nat), 0) (StrLaws.occBody x ⟨#[c]⟩ x.length (x.length + 1))).run.fst.toList.length : Nat) : Int) := by
    unfold Txt.count
    rw [StrLaws.occ_eq]
  rw [e, decide_eq_decide, List.mem_iff_getElem?]
  constructor
  · intro h
    refine Classical.byContradiction fun hn => ?_
    rw [key.mpr fun i _ hc => hn ⟨i, (StrLaws.subAt_one x c i).mp hc⟩] at h
    exact absurd h (by decide)
  · rintro ⟨i, hi⟩
    have hs := (StrLaws.subAt_one x c i).mpr hi
    have one : (⟨#[c]⟩ : Str).length = 1 := rfl
    have ne := fun h0 => key.mp h0 i (by simp [List.mem_range']; omega) hs
    have : (forIn (List.range' 0 (x.length + 1 - 0)) ((#[] : Array Nat), 0) (StrLaws.occBody x ⟨#[c]⟩ x.length (x.length + 1))).run.fst.toList ≠ [] := by simpa using ne
    have := List.length_pos_iff.mpr this
    omega
/-! ### items in bounds -/
theorem at_some {α : Type} {xs : List α} {P : α → Prop} {r : Int} (h : ∀ x ∈ xs, P x) (r0 : 0 ≤ r) (r1 : r < xs.length) : ∃ v, atI xs r = some v ∧ P v := by
  obtain ⟨j, rfl⟩ := Int.eq_ofNat_of_zero_le r0
  have hj : j < xs.length := by omega
  exact ⟨xs[j], atI_nat (List.getElem?_eq_getElem hj), h _ (List.getElem_mem hj)⟩
theorem join_len {ys : List Str} {a : Str} {m : Nat} (h : ∀ y ∈ ys, y.length ≤ m) : (Txt.join a ys).length ≤ ys.length * (m + a.length) := by
  have e : Txt.join a ys = Str.join a ys := StrLaws.glued_eq_join a ys
  rw [e]
  refine Nat.le_trans (StrLaws.join_length_le a ys) ?_
  have : (ys.map (·.length)).sum ≤ ys.length * m := by
    induction ys with
    | nil => simp
    | cons y ys ih =>
      have h1 := h y (List.mem_cons_self ..)
      have h2 := ih (fun z hz => h z (List.mem_cons_of_mem _ hz)) (StrLaws.glued_eq_join a ys)
      simp only [List.map_cons, List.sum_cons, List.length_cons, Nat.succ_mul]
      omega
  rw [Nat.mul_add]
  omega
theorem sum_len {ys : List Str} {m : Nat} (h : ∀ y ∈ ys, y.length ≤ m) : (ys.map (·.length)).sum ≤ ys.length * m := by
  induction ys with
  | nil => simp
  | cons y ys ih =>
    have h1 := h y (List.mem_cons_self ..)
    have h2 := ih (fun z hz => h z (List.mem_cons_of_mem _ hz))
    simp only [List.map_cons, List.sum_cons, List.length_cons, Nat.succ_mul]
    omega
theorem cut_len (z : Str) (lo hi : Option Int) : (cutS z lo hi).length ≤ z.length := by
  show (List.toArray _).size ≤ z.length
  rw [List.size_toArray, List.length_take, List.length_drop, len_list]
  omega
end Tp

set_option Elab.async false
set_option linter.all false
set_option maxRecDepth 100000
set_option maxHeartbeats 4000000
namespace Tp
open PySem L2
/-! ### how long a repr is -/
mutual
def wt : PyData → Nat
  | .none => 4
  | .bool _ => 5
  | .int _ => 50
  | .str z => 10 * z.length + 2
  | .list xs => wtAll xs + 3
  | .tuple xs => wtAll xs + 3
  | .dict _ => 0
def wtAll : List PyData → Nat
  | [] => 0
  | x :: xs => wt x + 2 + wtAll xs
end
inductive Fit : Nat → PyData → Prop
  | non {n : Nat} : Fit n .none
  | bl {n : Nat} (b : Bool) : Fit n (.bool b)
  | int {n : Nat} {i : Int} (h : i.natAbs < 10 ^ 40) : Fit n (.int i)
  | str {n : Nat} {z : Str} (h : ∀ c ∈ z.cps.toList, c < 16 ^ 8) : Fit n (.str z)
  | lst {n : Nat} {xs : List PyData} (h : ∀ x ∈ xs, Fit n x) : Fit (n + 1) (.list xs)
  | tup {n : Nat} {xs : List PyData} (h : ∀ x ∈ xs, Fit n x) : Fit (n + 1) (.tuple xs)
theorem shown_int_len {i : Int} (h : i.natAbs < 10 ^ 40) : (Str.ofString (toString i)).length ≤ 50 := by
  have key : ∀ m : Nat, m < 10 ^ 40 → (Nat.repr m).length ≤ 40 := fun m hm => by
    show (Nat.repr m).toList.length ≤ 40
    rw [Nat.toList_repr]
    exact PyProof.Rows.digits10_le (by decide) hm
  rw [PyProof.Rows.ofString_len]
  cases i with
  | ofNat m => exact Nat.le_trans (key m h) (by decide)
  | negSucc m =>
    have := key (m + 1) h
    show ("-" ++ Nat.repr (m + 1)).length ≤ 50
    rw [String.length_append]
    have : ("-" : String).length = 1 := by decide
    omega
theorem fit_all {n : Nat} (ih : ∀ d, Fit n d → d.showable = true ∧ d.hasDict = false ∧ d.depth ≤ n ∧ d.shown.length ≤ wt d) :
    ∀ xs : List PyData, (∀ x ∈ xs, Fit n x) → PyData.showableAll xs = true ∧ PyData.hasDictAll xs = false ∧ PyData.depthAll xs ≤ n ∧ ((PyData.shownAll xs).map (·.length)).sum + 2 * (PyData.shownAll xs).length ≤ wtAll xs
  | [], _ => ⟨by simp only [PyData.showableAll], by simp only [PyData.hasDictAll], by simp only [PyData.depthAll]; omega, by simp [PyData.shownAll, wtAll]⟩
  | x :: xs, h => by
    obtain ⟨a1, a2, a3, a4⟩ := ih x (h x (List.mem_cons_self ..))
    obtain ⟨b1, b2, b3, b4⟩ := fit_all ih xs fun y hy => h y (List.mem_cons_of_mem _ hy)
    refine ⟨by simp only [PyData.showableAll, a1, b1, Bool.and_self], by simp only [PyData.hasDictAll, a2, b2, Bool.or_self], by simp only [PyData.depthAll]; omega, ?_⟩
    simp only [PyData.shownAll, List.map_cons, List.sum_cons, List.length_cons, wtAll]
    omega
theorem fit_ok : ∀ (n : Nat) (d : PyData), Fit n d → d.showable = true ∧ d.hasDict = false ∧ d.depth ≤ n ∧ d.shown.length ≤ wt d := by
  have flat : ∀ (n : Nat) (d : PyData), Fit n d → (∀ xs, d ≠ .list xs) → (∀ xs, d ≠ .tuple xs) → d.showable = true ∧ d.hasDict = false ∧ d.depth ≤ n ∧ d.shown.length ≤ wt d := by
    intro n d h n1 n2
    cases h with
    | non => exact ⟨by simp only [PyData.showable], by simp only [PyData.hasDict], by simp only [PyData.depth]; omega, by simp only [PyData.shown, wt]; decide⟩
    | bl b => exact ⟨by simp only [PyData.showable], by simp only [PyData.hasDict], by simp only [PyData.depth]; omega, by simp only [PyData.shown, wt]; cases b <;> decide⟩
    | int h =>
      rename_i i
      refine ⟨?_, by simp only [PyData.hasDict], by simp only [PyData.depth]; omega, by simp only [PyData.shown, wt]; exact shown_int_len h⟩
      simp only [PyData.showable, decide_eq_true_eq]
      by_cases z : i.natAbs = 0
      · rw [z]; decide
      · exact (Nat.log2_lt z).mpr (Nat.lt_of_lt_of_le h (by decide +kernel))
    | str h => exact ⟨by simp only [PyData.showable], by simp only [PyData.hasDict], by simp only [PyData.depth]; omega, by simp only [PyData.shown, wt]; exact StrLaws.reprText_len _ h⟩
    | lst _ => exact (n1 _ rfl).elim
    | tup _ => exact (n2 _ rfl).elim
  intro n
  induction n with
  | zero => intro d h; exact flat 0 d h (by rintro xs rfl; cases h) (by rintro xs rfl; cases h)
  | succ n ih =>
    intro d h
    cases d with
    | list xs =>
      cases h with
      | lst h =>
        obtain ⟨b1, b2, b3, b4⟩ := fit_all ih xs h
        refine ⟨by simp only [PyData.showable, b1], by simp only [PyData.hasDict, b2], by simp only [PyData.depth]; omega, ?_⟩
        simp only [PyData.shown, wt]
        exact Nat.le_trans (listText_len_le _) (by omega)
    | tuple xs =>
      cases h with
      | tup h =>
        obtain ⟨b1, b2, b3, b4⟩ := fit_all ih xs h
        refine ⟨by simp only [PyData.showable, b1], by simp only [PyData.hasDict, b2], by simp only [PyData.depth]; omega, ?_⟩
        simp only [PyData.shown, wt]
        exact Nat.le_trans (tupleText_len_le _) (by omega)
    | _ => exact flat _ _ h (by intro xs q; cases q) (by intro xs q; cases q)
theorem repr_fit {K : PySem.W.Frag} {H : Hp} {v : V} {d : PyData} {Q : VK} {n : Nat} (hd : Dp K H v d) (hf : Fit n d) (hn : n ≤ 60) (hw : wt d ≤ 16000000) (q : Q (.str d.shown) H) : rRepr K [v] H Q := by
  obtain ⟨b1, b2, b3, b4⟩ := fit_ok n d hf
  exact ⟨v, d, rfl, hd, b1, b2, by omega, Nat.le_trans b4 (Nat.le_trans hw (by decide)), q⟩
theorem fit4 {d : PyData} {n : Nat} (hf : Fit n d) (hn : n ≤ 60) (hw : wt d ≤ 16000000) : d.showable = true ∧ d.hasDict = false ∧ d.depth ≤ 60 ∧ d.shown.length ≤ sizeLine := by
  obtain ⟨b1, b2, b3, b4⟩ := fit_ok n d hf
  exact ⟨b1, b2, by omega, Nat.le_trans b4 (Nat.le_trans hw (by decide))⟩
end Tp

set_option Elab.async false
set_option linter.all false
set_option maxRecDepth 100000
set_option maxHeartbeats 4000000
namespace Tp
open PySem L2
/-! ### small texts: at most m signs, all of them below 1000 -/
def Sm (m : Nat) (z : Str) : Prop := z.length ≤ m ∧ ∀ c ∈ z.cps.toList, c < 1000
theorem Sm.up {m n : Nat} {z : Str} (h : Sm m z) (l : m ≤ n) : Sm n z := ⟨Nat.le_trans h.1 l, h.2⟩
theorem Sm.one {c : Nat} (h : c < 1000) : Sm 1 ⟨#[c]⟩ := ⟨Nat.le_refl 1, fun x hx => by
  have : x = c := by simpa using hx
  omega⟩
theorem Sm.at {m : Nat} {z : Str} (h : Sm m z) {r : Int} (r0 : 0 ≤ r) (r1 : r < z.length) : ∃ c, atI z.cps.toList r = some c ∧ c < 1000 :=
  at_some h.2 r0 (by rw [len_list]; exact r1)
theorem Sm.app {m n : Nat} {y z : Str} (h : Sm m y) (k : Sm n z) : Sm (m + n) (y ++ z) := by
  refine ⟨by rw [Str.length_append]; exact Nat.add_le_add h.1 k.1, fun c hc => ?_⟩
  rw [Str.cps_append, Array.toList_append] at hc
  rcases List.mem_append.mp hc with hc | hc
  · exact h.2 c hc
  · exact k.2 c hc
theorem Sm.cut {m : Nat} {z : Str} (h : Sm m z) (lo hi : Option Int) : Sm m (cutS z lo hi) :=
  ⟨Nat.le_trans (cut_len z lo hi) h.1, fun c hc => h.2 c (List.mem_of_mem_drop (List.mem_of_mem_take (show c ∈ List.take _ (List.drop _ _) from hc)))⟩
theorem Sm.sub {m : Nat} {z : Str} (h : Sm m z) (i j : Nat) : Sm m (Builtin.Str.strSub z i j) := by
  refine ⟨?_, fun c hc => ?_⟩
  · show (z.cps.extract i j).size ≤ m
    rw [Array.size_extract]
    have := h.1
    have e : z.length = z.cps.size := rfl
    omega
  · refine h.2 c ?_
    have hc : c ∈ (z.cps.extract i j).toList := hc
    rw [Array.toList_extract] at hc
    exact List.mem_of_mem_drop (List.mem_of_mem_take hc)
theorem Sm.join {m n : Nat} {a : Str} {ys : List Str} (ha : Sm n a) (h : ∀ y ∈ ys, Sm m y) : Sm (ys.length * (m + n)) (Txt.join a ys) := by
  refine ⟨Nat.le_trans (join_len fun y hy => (h y hy).1) (Nat.mul_le_mul_left _ (Nat.add_le_add_left ha.1 _)), ?_⟩
  have e : Txt.join a ys = Str.join a ys := StrLaws.glued_eq_join a ys
  rw [e]
  clear e
  induction ys with
  | nil => intro c hc; cases hc
  | cons y ys ih =>
    cases ys with
    | nil => exact (h y (List.mem_cons_self ..)).2
    | cons y2 ys =>
      intro c hc
      have hc : c ∈ (y ++ a ++ Str.join a (y2 :: ys)).cps.toList := hc
      rw [Str.cps_append, Str.cps_append, Array.toList_append, Array.toList_append] at hc
      rcases List.mem_append.mp hc with hc | hc
      · rcases List.mem_append.mp hc with hc | hc
        · exact (h y (List.mem_cons_self ..)).2 c hc
        · exact ha.2 c hc
      · exact ih (fun z hz => h z (List.mem_cons_of_mem _ hz)) c hc
theorem Sm.split {m : Nat} {z y : Str} (h : Sm m z) : ∀ x ∈ Txt.split z y, Sm m x := by
  have key : ∀ (cuts : List Nat) (k a : Nat), ∀ x ∈ StrLaws.partsFrom z k a cuts, Sm m x := by
    intro cuts
    induction cuts with
    | nil =>
      intro k a x hx
      rw [List.mem_singleton.mp (show x ∈ [Builtin.Str.strSub z a z.length] from hx)]
      exact h.sub _ _
    | cons c r ih =>
      intro k a x hx
      rcases List.mem_cons.mp (show x ∈ Builtin.Str.strSub z a c :: StrLaws.partsFrom z k (c + k) r from hx) with rfl | hx
      · exact h.sub _ _
      · exact ih k (c + k) x hx
  intro x hx
  unfold Txt.split at hx
  split at hx
  · rw [List.mem_singleton.mp hx]; exact h
  · split at hx
    · rw [List.mem_singleton.mp hx]; exact h
    · rw [StrLaws.partsBetween_eq] at hx
      exact key _ _ _ x hx
theorem Sm.fit {m n : Nat} {z : Str} (h : Sm m z) : Fit n (.str z) := .str fun c hc => Nat.lt_of_lt_of_le (h.2 c hc) (by decide)
theorem dp_strs {K : PySem.W.Frag} {H : Hp} : ∀ ws : List Str, DpAll K H (ws.map V.str) (ws.map PyData.str)
  | [] => .nil
  | w :: ws => .cons (.str w) (dp_strs ws)
theorem wt_strs {m : Nat} : ∀ ws : List Str, (∀ x ∈ ws, Sm m x) → wtAll (ws.map PyData.str) ≤ ws.length * (10 * m + 4)
  | [], _ => by simp [wtAll]
  | w :: ws, h => by
    have h1 := (h w (List.mem_cons_self ..)).1
    have h2 := wt_strs ws fun x hx => h x (List.mem_cons_of_mem _ hx)
    simp only [List.map_cons, wtAll, wt, List.length_cons]
    rw [Nat.add_mul ws.length 1 (10 * m + 4), Nat.one_mul]
    omega
theorem fit_strs {m n : Nat} {ws : List Str} (h : ∀ x ∈ ws, Sm m x) : Fit (n + 1) (.list (ws.map PyData.str)) := .lst fun x hx => by
  obtain ⟨w, hw, rfl⟩ := List.mem_map.mp hx
  exact (h w hw).fit
theorem dp_same {K : PySem.W.Frag} {H H' : Hp} (S : Same H H') : (∀ {v : V} {d : PyData}, Dp K H v d → Dp K H' v d) ∧ (∀ {vs : List V} {ds : List PyData}, DpAll K H vs ds → DpAll K H' vs ds) := by
  have sq : ∀ {a : Addr} {xs : List V}, SqT K H a xs → SqT K H' a xs := by
    rintro a xs ((h | ⟨o, h⟩) | h)
    · exact .inl (.inl (S _ _ h))
    · exact .inl (.inr ⟨o, S _ _ h⟩)
    · exact .inr h
  constructor
  · intro v d h
    exact Dp.rec (motive_1 := fun v d _ => Dp K H' v d) (motive_2 := fun vs ds _ => DpAll K H' vs ds) .non .bl .int .str (fun s _ ih => .lst (S.seq s) ih) (fun s _ ih => .tup (sq s) ih) .nil (fun _ _ a b => .cons a b) h
  · intro vs ds h
    exact DpAll.rec (motive_1 := fun v d _ => Dp K H' v d) (motive_2 := fun vs ds _ => DpAll K H' vs ds) .non .bl .int .str (fun s _ ih => .lst (S.seq s) ih) (fun s _ ih => .tup (sq s) ih) .nil (fun _ _ a b => .cons a b) h
theorem fits2 {x y m n : Nat} (h : x ≤ m) (k : y ≤ n) (l : m + n ≤ 100000 := by decide) : x + y ≤ sizeLine := Nat.le_trans (Nat.add_le_add h k) (Nat.le_trans l (by decide))
/-- a value's type, as long as what stands stays -/
theorem ty_same {K : PySem.W.Frag} {H H' : Hp} (S : Same H H') {v : V} {t : Value} (h : TyX K H v t) : TyX K H' v t := by
  cases h with
  | base b =>
    cases b with
    | non => exact .base .non
    | bl x => exact .base (.bl x)
    | int i => exact .base (.int i)
    | str x => exact .base (.str x)
    | flt x => exact .base (.flt x)
    | lst e => exact .base (.lst (S _ _ e))
    | frz e => exact .base (.frz (S _ _ e))
    | tup e => exact .base (.tup (S _ _ e))
    | dK e => exact .base (.dK (S _ _ e))
    | dT e => exact .base (.dT (S _ _ e))
    | ins e x1 x2 x3 x4 x5 => exact .base (.ins (S _ _ e) x1 x2 x3 x4 x5)
  | byt b => exact .byt b
  | set e => exact .set (S _ _ e)
  | kList e c => exact .kList e c
  | kTuple e c => exact .kTuple e c
  | kDict e c => exact .kDict e c
  | fTuple e => exact .fTuple (S _ _ e)
  | fDict e => exact .fDict (S _ _ e)
end Tp

set_option Elab.async false
set_option linter.all false
set_option maxRecDepth 100000
set_option maxHeartbeats 4000000
namespace Tp
open PySem PySem.Spec PyProof.Rows L2
/-! ### own exceptions: B.__init__(self, 'text'); self.f = v, with B an own class over ValueError -/
section
variable {X : Cx} {e : Expr} {es : List Expr} {ta : TA} {x : Str} {B : Addr} {p1 p2 pos : Pos}
/-- what is known of such a base -/
structure BaseT (K : PySem.W.Frag) (B : Addr) : Prop where
  ga : PySem.W.specialIn K (.ref B) "__getattribute__" = some (some (.builtin "type.__getattribute__"))
  rd : PySem.W.readsIn K B (.type "type") = true
  fi : PySem.W.findCls K (.ref B) (.type "type") "__init__" = some (.val (.builtin "ValueError.__init__"))
theorem pe_ownInit {pl : Sem Bool} (hg : Gl X x) (hm : X.mg x = some (.ref B)) (T : BaseT X.K B) (ha : PA X (e :: es) ta)
    (hc : eval (.Call (.Attribute (.Name x p1) "__init__" p2) (e :: es) [] pos) X.env = (do
      let ov ← eval (.Name x p1) X.env
      standAt p2.atName
      let (f, first) ← holding [ov] (getMethod ov "__init__" pl)
      callWith pos f first (backTo pos (starEach (e :: es) X.env)) (backToKw pos (keywordEach [] X.env))) := by rfl)
    (hdb : (x == ("__debug__" : Str)) = false := by decide)
    (he : starEach (e :: es) X.env = (false, eval e X.env) :: starEach es X.env := by rfl) (hpl : (backTo pos (starEach es X.env)).any (·.1) = false := by rfl) :
    PE X (.Call (.Attribute (.Name x p1) "__init__" p2) (e :: es) [] pos) (tVeI X.K ta) := by
  refine ⟨fun pins s σ H Q I h => ?_⟩
  refine PySem.W.methodCall_KW (ld_glob I hg hm ?_ hdb) hc
  refine PySem.W.method_cls I.kIn T.ga (PySem.W.cls_value I.kIn T.rd T.fi (by decide +kernel) ?_)
  show wpAny _ _ (callWith pos (Value.builtin "ValueError.__init__") [] (backTo pos (starEach (e :: es) X.env)) []) _ _ _
  refine PyProof.Rows.callWith_method1 (thn (ha.run pos pins _ σ H _ (I.tok _) h) fun us s1 ⟨vs, H1, I1, r1, a, C, ws, ev, hl, TC, ea, q⟩ => ?_) he hpl
  subst ev
  cases r1 with
  | cons ra rr =>
    cases (ra : _ = Value.ref a)
    refine oinit_ok TC I1 ea ?_ fun s' J => ⟨.non, H1, J, rfl, q⟩
    have := Paired.length rr
    exact Nat.le_trans (by omega) (show 1000 ≤ sizeLine from by decide)
end
/-- what the promise of such an __init__ is -/
def spXI (C : Addr) (f : Str) : Sp := fun vs H Q _ => ∃ (a : Addr) (v : V), vs = [.ref a, v] ∧ H a = some (exo a C none) ∧
  ∀ dx, H dx = none → dx ≠ a → Q .non (upd (upd H dx (exd dx [(f, v)])) a (exo a C (some dx)))
/-- an own exception class of one field -/
structure ExT (P : Program) (w : World) (K : PySem.W.Frag) (mg : Str → Option Value) (base : Heap) (C fI : Addr) (fd : FuncData) (f : Str) : Prop where
  ox : OexC K C
  iC : PySem.W.findIn K (.ref C) "__init__" = some (some (.ref fI))
  tI : PySem.W.typeIn K (.ref fI) = some (.type "function")
  ok : FnOk P w K mg base CX0 1 fI fd ["self", f] (spXI C f)
  bn : Binds K fd ["self", f] []
section
variable {X : Cx} {x f : Str} {C fI : Addr} {fd : FuncData} {e : Expr} {te : TE} {p pos pos2 : Pos}
/-- the same reading, whatever weaker is wanted -/
def tMono (te : TE) : TA := fun σ H Q => ∃ R : VK, te σ H R ∧ ∀ v H1, R v H1 → Q [v] H1
theorem pa_mono (he : PE X e te) (hs : starEach (e :: []) X.env = (false, eval e X.env) :: starEach [] X.env) : PA X [e] (tMono te) := by
  refine ⟨fun pos pins s σ H Q I h => ?_⟩
  obtain ⟨R, h1, h2⟩ := h
  have e1 : R = fun x H1 => ∃ v, [x] = [v] ∧ R v H1 := by
    funext x H1
    exact propext ⟨fun q => ⟨x, rfl, q⟩, fun ⟨v, ev, q⟩ => by cases ev; exact q⟩
  rw [e1] at h1
  exact thn ((pa_cons he pa_nil hs).run pos pins s σ H (fun vs H1 => ∃ v, vs = [v] ∧ R v H1) I h1) fun us s1 ⟨vs, H1, I1, r1, v, ev, q⟩ => ⟨vs, H1, I1, r1, by rw [ev]; exact h2 v H1 q⟩
/-- C(e): the exception is made; its dict is told -/
def tMkX (C : Addr) (f : Str) (te : TE) : L2.St → Hp → XK → Prop := fun σ H Q => te σ H fun v H1 => ∀ d, H1 d = none → Q (.ref C) (some d) (upd H1 d (.xd [(f, v)]))
theorem mk_heap {H1 : Hp} {a dx : Addr} {C : Addr} {f : Str} {v : V} (ha : H1 a = none) (ne : dx ≠ a) :
    upd (del (upd (upd (upd H1 a (exo a C none)) dx (exd dx [(f, v)])) a (exo a C (some dx))) a) dx (.xd [(f, v)]) = upd H1 dx (.xd [(f, v)]) := by
  funext b
  by_cases h1 : b = dx
  · rw [h1, upd_same, upd_same]
  · rw [upd_ne h1, upd_ne h1]
    by_cases h2 : b = a
    · rw [h2, del_same, ha]
    · rw [del_ne h2, upd_ne h2, upd_ne h1, upd_ne h2]
theorem pmk_x {k : Nat} (T : ExT X.prog X.w X.K X.mg X.base C fI fd f) (hr : Room (k + 2) X.A) (hg : Gl X x) (hm : X.mg x = some (.ref C)) (he : PE X e te)
    (hdb : (x == ("__debug__" : Str)) = false := by decide) (hs : starEach (e :: []) X.env = (false, eval e X.env) :: starEach [] X.env := by rfl) (hpl : (backTo pos (starEach [] X.env)).any (·.1) = false := by rfl) :
    PMk X (.Call (.Name x p) [e] [] pos) (tMkX C f te) := by
  intro pins s σ H Q I h
  refine pmk_oex T.ox T.iC T.tI T.ok (hr.mono (by omega)) T.bn .nil (fun _ _ _ _ _ _ _ z => z.elim) hg hm (pa_mono he hs) hdb hs hpl pins s σ H Q I ⟨_, h, fun v H1 q => ⟨(show 1 ≤ 1000 from by decide), fun a ha => ?_⟩⟩
  refine ⟨a, v, rfl, upd_same, fun dx hd ne => ⟨rfl, dx, [(f, v)], upd_same, ?_, ?_, ?_⟩⟩
  · rw [upd_ne ne, upd_same]
  · rw [upd_ne ne] at hd
    exact hd
  · rw [mk_heap ha ne]
    rw [upd_ne ne] at hd
    exact q dx hd
theorem ps_raiseX {k : Nat} {W : WX} (hc : X.calm = true) (T : ExT X.prog X.w X.K X.mg X.base C fI fd f) (hr : Room (k + 2) X.A) (tk : Takes X W) (hg : Gl X x) (hm : X.mg x = some (.ref C)) (he : PE X e te)
    (hdb : (x == ("__debug__" : Str)) = false := by decide) (hs : starEach (e :: []) X.env = (false, eval e X.env) :: starEach [] X.env := by rfl) (hpl : (backTo pos (starEach [] X.env)).any (·.1) = false := by rfl) :
    PS X (.Raise (some (.Call (.Name x p) [e] [] pos)) none pos2) (fun _ σ H => tMkX C f te σ H fun cls d H' => W cls d σ H') := ps_raise hc tk (pmk_x T hr hg hm he hdb hs hpl)
end
end Tp

set_option Elab.async false
set_option linter.all false
set_option maxRecDepth 100000
set_option maxHeartbeats 4000000
namespace Tp
open PySem PySem.Spec PyProof.Rows L2
/-! ### try with several clauses, each with or without a name -/
/-- one clause: the class, the slot of its name (if it has one), its suite's reading -/
structure Cl where
  c : Value
  i : Option Nat
  ts : Addr → Value → Option Addr → TS
def setO (σ : L2.St) (i : Option Nat) (v : Option V) : L2.St := match i with
  | some j => σ.set j v
  | none => σ
def wCl (K : PySem.W.Frag) (Wout : WX) (D : Ends) : List Cl → WX
  | [] => Wout
  | k :: r => fun cls d σ H => ∃ b, PySem.W.exmOne K cls k.c = some b ∧
      (b = true → ∀ a, H a = none → k.ts a cls d { nx := fun σ' H' => D.nx (setO σ' k.i none) H', rt := D.rt, bk := fun σ' H' => D.bk (setO σ' k.i none) H', ct := fun σ' H' => D.ct (setO σ' k.i none) H' } (setO σ k.i (some (.ref a))) H) ∧
      (b = false → wCl K Wout D r cls d σ H)
inductive HdsA (X : Cx) : List ExceptHandler → List Cl → Prop
  | nil : HdsA X [] []
  | as_ {x n : Str} {i : Nat} {c : Value} {ts : Addr → Value → Option Addr → TS} {b₀ : Stmt} {suite : List Stmt} {np pos' : Pos} {hds : List ExceptHandler} {l : List Cl} (hN : X.N.Nodup) (hi : X.N[i]? = some n) (hln : X.env.kindOf n = some .local) (hc : Names X x c)
      (hsu : ∀ (a : Addr) (oe : Obj) (cls : Value) (d : Option Addr) (pn : List (Addr × Obj)), Zc cls d oe → (∃ vs, oe.data = .fields vs) → PSs (X.suite a ((a, oe) :: pn)) (b₀ :: suite) (ts a cls d)) (r : HdsA X hds l) :
      HdsA X (.ExceptHandler (some (.Name x np)) (some n) (b₀ :: suite) pos' :: hds) (⟨c, some i, ts⟩ :: l)
  | bare {x : Str} {c : Value} {ts : Addr → Value → Option Addr → TS} {b₀ : Stmt} {suite : List Stmt} {np pos' : Pos} {hds : List ExceptHandler} {l : List Cl} (hc : Names X x c)
      (hsu : ∀ (a : Addr) (oe : Obj) (cls : Value) (d : Option Addr) (pn : List (Addr × Obj)), Zc cls d oe → (∃ vs, oe.data = .fields vs) → PSs (X.suite a ((a, oe) :: pn)) (b₀ :: suite) (ts a cls d)) (r : HdsA X hds l) :
      HdsA X (.ExceptHandler (some (.Name x np)) none (b₀ :: suite) pos' :: hds) (⟨c, none, ts⟩ :: l)
section
variable {X : Cx} {body : List Stmt} {h₀ : ExceptHandler} {hds : List ExceptHandler} {l : List Cl} {pos : Pos} {tb : WX → TS} {Wout : WX}
theorem ps_tryA (hs : X.stack = X.env :: X.outer) (hf : X.env.frame = some X.env.locals) (tk : Takes X Wout)
    (hb : ∀ (W : WX) (pn : List (Addr × Obj)) (xe : Value → Shared → Prop), Takes (X.tr pn xe) W → PassesOwn (model X.prog X.w) X.A X.env xe → PSs (X.tr pn xe) body (tb W))
    (hh : HdsA X (h₀ :: hds) l) : PS X (.Try body (h₀ :: hds) [] [] pos) (fun D σ H => tb (wCl X.K Wout D l) D σ H) := by
  refine ⟨fun pins s σ H D I h => ?_⟩
  have ok := I.ok
  have hfr : X.A.frames = some (X.env :: X.outer) := by rw [ok.frames, hs]
  refine wpAny_Try_except ?_
  refine wpAny_mono ((hb (wCl X.K Wout D l) (X.pn ++ pins) (fun e s₁ => wpAny (model X.prog X.w) X.A (noteFrame e X.env) (fun _ s₂ => wpAny (model X.prog X.w) X.A (setFlight e none) (fun _ s₃ =>
    wpAny (model X.prog X.w) X.A (handleBy e X.env (h₀ :: hds)) (SP X pins D) X.xe s₃) X.xe s₂) X.xe s₁) (fun u s' xx => ?_) PassesOwn.looking).run [] s σ H D (I.toTry _) h) (fun f s1 hsp => ?_) (fun e s1 he => he)
  · obtain ⟨a, B, sI, pins', σ', H', cls, d, rfl, J', nb, up, sky, na, os, ag, w⟩ := xx
    have J : Inv X pins σ' H' sI := J'.ofTry ok
    have sky' : Sky B (X.env :: X.outer) a (Zc cls d) X.env.locals s'.heap := by rw [← hs]; exact sky
    show wpAny (model X.prog X.w) X.A (noteFrame (.ref a) X.env) _ _ _
    refine Sky.land Zc.steady hfr hf sky' fun h3 fl3 up3 => ?_
    have J3 : Inv X pins σ' H' { s' with heap := h3 } := J.landed nb fl3.1 (up.trans up3) os ag
    obtain ⟨oe3, vs3, he3, hz3, hd3⟩ := fl3.there
    have notFr : ∀ {h : Heap} {o : Obj} {vs : Array Value}, h.FunFrames B (X.env :: X.outer) → h.get? a = some o → o.data = .fields vs → a ∉ frs (X.env :: X.outer) := fun {h o vs} ff e dd hm => by
      obtain ⟨_, o', e', hnf⟩ := ff.mem hm
      rw [e] at e'; cases e'
      exact hnf _ dd
    have nfr := notFr fl3.2.2.1 he3 hd3
    have nL : a ≠ X.env.locals := fun z => nfr (List.mem_filterMap.mpr ⟨X.env, List.mem_cons_self, by rw [hf, z]⟩)
    have nF : a ∉ X.fs := fun hm => by
      obtain ⟨e, he, q⟩ := List.mem_filterMap.mp hm
      exact nfr (List.mem_filterMap.mpr ⟨e, List.mem_cons_of_mem _ he, q⟩)
    have S3 := J3.suite he3 hd3 na nL nF
    have LT : PySem.W.Looks (model X.prog X.w) h3 (typeOf (.ref a)) cls := fun A Q E s k q => wpAny_typeOf_ref (k _ _ he3) (by rw [hz3.1]; exact q)
    have test : ∀ {x : Str} {c : Value} {np : Pos} {Q : Value → Shared → Prop} {E : Value → Shared → Prop}, Names X x c → Q c { s' with heap := h3 } →
        wpAny (model X.prog X.w) (X.A.mark (some (.ref a))) (eval (.Name x np) X.env) Q E { s' with heap := h3 } := fun {x c np Q E} hc q => by
      obtain ⟨hg, hdbg, hm | ⟨hm, hv, hnn⟩⟩ := hc
      · exact ld_glob (X := X.suite a ((a, oe3) :: (X.pn ++ pins))) S3 hg hm q hdbg
      · exact ld_blt (X := X.suite a ((a, oe3) :: (X.pn ++ pins))) S3 hg hm hv q hnn hdbg
    have go : ∀ {hds' : List ExceptHandler} {l' : List Cl}, HdsA X hds' l' → wCl X.K Wout D l' cls d σ' H' →
        wpAny (model X.prog X.w) X.A (handleBy (.ref a) X.env hds') (SP X pins D) X.xe { s' with heap := h3 } := by
      intro hds' l' hk
      induction hk with
      | nil =>
        intro w
        refine wpAny_handleBy_nil ?_
        obtain ⟨k1, k2, k3, oe, vs, T, oT, ts', he, hz, hd, h1, hr⟩ := id fl3
        unfold PySem.passOn
        refine wpAny_bind (wpAny_field he hd h1 ?_)
        rw [if_neg (show ¬ ((Value.ref T == Value.none) = true) from by simp)]
        have fin : wpAny (model X.prog X.w) X.A (setFlight (.ref a) X.env.frame) (fun _ s4 => wpAny (model X.prog X.w) X.A (throw (.ref a) : Sem Flow) (SP X pins D) X.xe s4) X.xe { s' with heap := h3 } := by
          rw [hf]
          refine HandSPX.setFlight_upZ fl3 fun h4 hh4 up4 => wpAny_throw (tk _ _ ?_)
          exact ⟨a, B, sI, pins, σ', H', cls, d, rfl, J, nb, (up.trans up3).trans up4, .inr (.inr (by rw [hs]; exact hh4)), na, os, ag, w⟩
        first
          | exact wpAny_bind (wpAny_pure (wpAny_bind fin))
          | exact wpAny_bind fin
      | @as_ x n i c ts b₀ suite np pos' hds2 l2 hN hi hln hc hsu r ih =>
        intro w
        obtain ⟨b, hb1, hyes, hno⟩ := w
        refine wpAny_handleBy_cons (codeAny_handlers_test ?_) (by intro q; cases q)
        refine test hc ((PySem.W.exm_one (M := model X.prog X.w) (J3.kIn) LT hb1).here ?_)
        cases b with
        | true =>
          refine codeAny_handlers_suite_as ?_
          refine HandSPX.lands_againZ fl3 fun h4 fl4 up4 => ?_
          have J4 : Inv X pins σ' H' { s' with heap := h4 } := J.landed nb fl4.1 ((up.trans up3).trans up4) os ag
          obtain ⟨oe4, vs4, he4, hz4, hd4⟩ := fl4.there
          have S4 := J4.suite he4 hd4 na nL nF
          refine store_ok (X := X.suite a ((a, oe4) :: (X.pn ++ pins))) (v := .ref a) S4 hN hi (.inl hln) rfl (fun s5 S5 => ?_) (.inr hln)
          refine wpAny_mono ((hsu a oe4 cls d (X.pn ++ pins) hz4 ⟨_, hd4⟩).run [] s5 _ H' _ S5 (hyes rfl a na)) (fun f s6 hsp => ?_) (fun _ _ z => False.elim z)
          have end_ : ∀ {σ6 : L2.St} {H6 : Hp} {Q : Shared → Prop}, Inv (X.suite a ((a, oe4) :: (X.pn ++ pins))) [] σ6 H6 s6 → (∀ s7, Inv X pins (σ6.set i none) H6 s7 → Q s7) →
              wpAny (model X.prog X.w) X.A (do bindName X.env n .none; unbindBehindTheSuite X.env n pos') (fun _ s7 => Q s7) X.xe s6 := fun {σ6 H6 Q} S6 hq => gone_ok (S6.unsuite ok) hN hi hln hq
          cases f with
          | ret u =>
            obtain ⟨v6, σ6, H6, S6, r6, q6⟩ := hsp
            exact end_ S6 fun s7 J7 => ⟨_, _, _, J7, r6, q6⟩
          | _ =>
            obtain ⟨σ6, H6, S6, q6⟩ := hsp
            exact end_ S6 fun s7 J7 => ⟨_, _, J7, q6⟩
        | false =>
          show wpAny _ X.A (handleBy (.ref a) X.env hds2) _ _ _
          exact ih (hno rfl)
      | @bare x c ts b₀ suite np pos' hds2 l2 hc hsu r ih =>
        intro w
        obtain ⟨b, hb1, hyes, hno⟩ := w
        refine wpAny_handleBy_cons (codeAny_handlers_test ?_) (by intro q; cases q)
        refine test hc ((PySem.W.exm_one (M := model X.prog X.w) (J3.kIn) LT hb1).here ?_)
        cases b with
        | true =>
          refine codeAny_handlers_suite ?_
          refine HandSPX.lands_againZ fl3 fun h4 fl4 up4 => ?_
          have J4 : Inv X pins σ' H' { s' with heap := h4 } := J.landed nb fl4.1 ((up.trans up3).trans up4) os ag
          obtain ⟨oe4, vs4, he4, hz4, hd4⟩ := fl4.there
          have S4 := J4.suite he4 hd4 na nL nF
          refine wpAny_mono ((hsu a oe4 cls d (X.pn ++ pins) hz4 ⟨_, hd4⟩).run [] _ _ H' _ S4 (hyes rfl a na)) (fun f s6 hsp => ?_) (fun _ _ z => False.elim z)
          cases f with
          | ret u =>
            obtain ⟨v6, σ6, H6, S6, r6, q6⟩ := hsp
            exact ⟨_, _, _, S6.unsuite ok, r6, q6⟩
          | _ =>
            obtain ⟨σ6, H6, S6, q6⟩ := hsp
            exact ⟨_, _, S6.unsuite ok, q6⟩
        | false =>
          show wpAny _ X.A (handleBy (.ref a) X.env hds2) _ _ _
          exact ih (hno rfl)
    exact go hh w
  · cases f with
    | next =>
      obtain ⟨σ', H', J', q⟩ := hsp
      exact wpAny_execs_nil ⟨σ', H', J'.ofTry ok, q⟩
    | ret u =>
      obtain ⟨v, σ', H', J', r, q⟩ := hsp
      exact ⟨v, σ', H', J'.ofTry ok, r, q⟩
    | _ =>
      obtain ⟨σ', H', J', q⟩ := hsp
      exact ⟨σ', H', J'.ofTry ok, q⟩
end

/-! ### isinstance of a caught exception of an own class, with or without fields -/
section
open PySem.W
variable {prog : Program} {w : World} {A : Around} {E : Value → Shared → Prop} {s : Shared} {K : Frag} {x D : Addr} {ox : Obj} {od : Option Obj}
theorem find_classX (C : ExcC K D) : findObj K D od "__class__" = some (.bind (.builtin "getset_descriptor.__get__") (.builtin "object.__class__")) := by
  obtain ⟨cd, hc, _⟩ := any_some C.hd
  unfold findObj
  rw [hc, Option.bind_some, C.ha, Option.bind_some]
  simp [C.hn, C.ht]
theorem class_of_exc {Q : Option Value → Shared → Prop} (C : ExcC K D) (X : K.In s.heap) (I : InstAt s.heap x ox D od) (h : Q (some (.ref D)) { s with toks := s.toks + 1 }) :
    wpAny (model prog w) A (getAttr? (.ref x) "__class__") Q E s := by
  obtain ⟨hp, g, d, t, os⟩ := s
  have L0 := I.type (M := model prog w)
  have hx2 : (Value.builtin "BaseException.__getattribute__" == Value.builtin "object.__getattribute__") = false := by decide +kernel
  have hx1 : (onTheHeap (Value.ref D) && Value.builtin "BaseException.__getattribute__" == Value.builtin "object.__getattribute__") = false := by rw [hx2]; rfl
  unfold getAttr? getAttrBy? getAttrBy
  refine wpAny_bind (wpAny_mkText (wpAny_bind (wpAny_attempt (wpAny_holding (wpAny_bind (L0.at (wpAny_bind ((looks_findIn (M := model prog w) X C.hg).at ?_))))))))
  show wpAny _ _ (if (onTheHeap (Value.ref D) && Value.builtin "BaseException.__getattribute__" == Value.builtin "object.__getattribute__") = true then _ else _) _ _ _
  rw [hx1, if_neg Bool.false_ne_true]
  unfold getAttrByItsOwn hookBefore
  refine wpAny_bind ?_
  rw [if_pos (show onTheHeap (Value.ref D) = true from rfl)]
  refine (looks_findIn (M := model prog w) X C.hk).at (wpAny_bind (wpAny_attempt (wpAny_holding ?_)))
  unfold callGetattribute
  rw [show (false && onTheHeap (Value.builtin "BaseException.__getattribute__")) = false from rfl, if_neg Bool.false_ne_true]
  unfold boundAndCalled
  rw [PySem.F.excAttr_ValueError.ga.bind (.ref x)]
  refine wpAny_bind (wpAny_pure ?_)
  show wpAny _ _ (call (.builtin "BaseException.__getattribute__") [.ref x, .str "__class__" t]) _ _ _
  refine wpAny_call (codeAny_call_builtin PySem.F.excAttr_ValueError.ga.plain PySem.F.entry_bexc_ga ?_)
  refine @check_slot (model prog w) _ _ ⟨hp, g, d, t + 1, os⟩ "BaseException.__getattribute__" "BaseException" "__getattribute__" (.ref x) [.str "__class__" t] [] _ (by decide +kernel) (by decide +kernel) (L0.andThen (looks_subIn X C.hs)) (PySem.F.args_bexc_ga (.ref x) (.str "__class__" t)) ?_
  unfold Builtin.«object.__getattribute__»
  refine wpAny_bind (wpAny_of_eq (a := ((Value.ref x : Value), [Value.str "__class__" t])) (by first | rfl | (simp only [slotArgs]; rfl)) ?_)
  refine wpAny_bind (wpAny_pure (wpAny_bind (L0.at (wpAny_bind ((looks_find (M := model prog w) X I (find_classX C)).at ?_)))))
  show wpAny _ _ (holding [Value.builtin "object.__class__"] (call (.builtin "getset_descriptor.__get__") [.builtin "object.__class__", .ref x, .ref D]) >>= ret) _ _ _
  refine wpAny_bind (wpAny_holding (wpAny_call (class_get (s := ⟨hp, g, d, t + 1, os⟩) (ox := ox) (od := od) X I C.hm ?_)))
  refine wpAny_pure ?_
  show wpAny _ _ (handedOut (.ref D)) _ _ _
  rw [handedOut_of (v := .ref D) rfl]
  first
    | exact wpAny_pure (wpAny_pure h)
    | exact wpAny_pure h
    | exact wpAny_pure (wpAny_bind (wpAny_pure (wpAny_pure h)))
theorem kitx_excD (C : ExcC K D) : KitX K (.ref x) (.ref D) (fun h => InstAt h x ox D od) where
  ty := fun _ _ _ I => I.type
  it := fun _ _ X _ => by
    obtain ⟨cdD, hcD, _⟩ := any_some C.hd
    unfold clsIn at hcD
    split at hcD
    · rename_i c' d' cd' sl' ho
      intro A' Q' E' s' k q
      unfold isType loadHead
      exact wpAny_bind (wpAny_loadPart (k _ _ (X _ _ ho)) (wpAny_pure q))
    · cases hcD
  ne := fun h tp dd its n sl X htp => by
    obtain ⟨cdD, hcD, _⟩ := any_some C.hd
    refine Bool.eq_false_iff.mpr fun q => ?_
    have e : D = tp := Value.ref.inj (beq_iff_eq.mp q)
    subst e
    unfold clsIn at hcD
    split at hcD
    · rename_i c' d' cd' sl' ho
      have z := (X _ _ ho).symm.trans htp
      cases z
    · cases hcD
  ca := fun X I k => class_of_exc C X I k
end
/-- isinstance(e, c), e the exception that the suite holds, of class cls = D, its fields at dd -/
def rIsX (K : PySem.W.Frag) (a : Addr) (cls : Value) (d : Option Addr) : List V → Hp → VK → Prop := fun xs H Q => ∃ (D dd : Addr) (fs : List (Str × V)) (c : V) (cv : Value) (b : Bool), xs = [.ref a, c] ∧ cls = .ref D ∧ ExcC K D ∧ d = some dd ∧ H dd = some (.xd fs) ∧
  (∀ u, RelV c u → u = cv) ∧ PySem.W.kitOne K (.ref D) cv = some b ∧ Q (.bl b) H
theorem call_isX {X : Cx} {a : Addr} {oe : Obj} {cls : Value} {d : Option Addr} {pn : List (Addr × Obj)} (hz : Zc cls d oe) (hf : ∃ vs, oe.data = .fields vs) : CallR (X.suite a ((a, oe) :: pn)) (.builtin "isinstance") (rIsX X.K a cls d) := by
  intro pins s σ H xs us Q I r h
  obtain ⟨D, dd, fs, c, cv, b, rfl, rfl, C, rfl, ea, hcv, e, q⟩ := h
  cases r with
  | cons rx rr =>
    cases rr with
    | cons rt rr =>
      cases rr
      cases rx
      have ec := hcv _ rt
      subst ec
      obtain ⟨ha, _⟩ := I.pin (a, oe) (List.mem_append_left _ List.mem_cons_self)
      obtain ⟨vs, hd⟩ := hf
      have hx : ObjOk X.prog X.w H s.heap dd (.xd fs) := I.hok dd _ ea
      obtain ⟨mA, hns, hr⟩ := hx
      obtain ⟨od, ho, hl⟩ := lookIn_ns hns
      have J : PySem.W.InstAt s.heap a oe D (some od) := ⟨ha, hz.1, by unfold PySem.W.notCls; rw [hd] <;> rfl, by rw [hz.2]; exact ho⟩
      exact PySem.W.kia_one (kitx_excD C) I.kIn J e (fun z => nomatch z) fun tk => ⟨.bl b, H, I.kept (t' := tk) fun _ _ z => z, rfl, q⟩
end Tp

set_option Elab.async false
set_option linter.all false
set_option maxRecDepth 100000
set_option maxHeartbeats 4000000
namespace Tp
open PySem PySem.Spec PyProof.Rows L2
/-! ### data with dicts: repr. Sys: sys.modules stands aside, known and locked -/
def Sys (K : PySem.W.Frag) (H : Hp) : Prop := (∃ o es ep, K.lookup sysModules = some o ∧ o.data = .dict es ep) ∨ (K.lookup sysModules = none ∧ ∃ o φ, H sysModules = some (.frz o (.ext φ)))
theorem Sys.same {K : PySem.W.Frag} {H H' : Hp} (h : Sys K H) (S : Same H H') : Sys K H' := h.imp id fun h => ⟨h.1, let ⟨o, φ, e⟩ := h.2; ⟨o, φ, S _ _ e⟩⟩
mutual
inductive Dq (K : PySem.W.Frag) (H : Hp) : V → PyData → Prop
  | non : Dq K H .non .none
  | bl (b : Bool) : Dq K H (.bl b) (.bool b)
  | int (i : Int) : Dq K H (.int i) (.int i)
  | str (x : Str) : Dq K H (.str x) (.str x)
  | lst {a : Addr} {xs : List V} {ds : List PyData} : SqL K H a xs → DqAll K H xs ds → Dq K H (.ref a) (.list ds)
  | tup {a : Addr} {xs : List V} {ds : List PyData} : SqT K H a xs → DqAll K H xs ds → Dq K H (.ref a) (.tuple ds)
  | dic {a : Addr} {kvs : List (Key × V)} {ds : List (PyData × PyData)} : Rd H a (.dK kvs) → DqAll K H (kvs.map fun p => kV p.1) (ds.map (·.1)) → DqAll K H (kvs.map (·.2)) (ds.map (·.2)) → Dq K H (.ref a) (.dict ds)
inductive DqAll (K : PySem.W.Frag) (H : Hp) : List V → List PyData → Prop
  | nil : DqAll K H [] []
  | cons {v : V} {vs : List V} {d : PyData} {ds : List PyData} : Dq K H v d → DqAll K H vs ds → DqAll K H (v :: vs) (d :: ds)
end
section
variable {X : Cx} {pins : List (Addr × Obj)} {σ : L2.St} {H : Hp} {s : Shared}
theorem sq_far {a : Addr} {xs : List V} (I : Inv X pins σ H s) (sy : Sys X.K H) (h : SqL X.K H a xs) : a ≠ sysModules := by
  rintro rfl
  rcases sy with ⟨o, es, ep, k, d⟩ | ⟨k, o, φ, e⟩
  · obtain ⟨its, _, ⟨o', n, ho, _, _, hd⟩, _⟩ := I.list h
    rw [I.kIn _ _ k] at ho
    cases ho
    rw [d] at hd
    cases hd
  · rcases h with (h | ⟨o', h⟩) | ⟨o', its, n, h, _⟩
    · rw [e] at h; cases h
    · rw [e] at h; cases h
    · rw [k] at h; cases h
theorem key_vals {es : List DictEntry} {vs : List (Key × Value)} (p : Pairs (mixKind X.prog X.w) es vs) : ∀ {kvs : List (Key × V)}, KV kvs vs →
    Vals (kvs.map fun p => kV p.1) (es.map (·.key)) ∧ Vals (kvs.map (·.2)) (es.map (·.val)) := by
  induction p with
  | nil =>
    intro kvs r
    cases r
    exact ⟨.nil, .nil⟩
  | cons h1 h2 _ ih =>
    intro kvs r
    cases r with
    | cons r1 r2 =>
      rename_i e kv es' kvs' _ q qs
      obtain ⟨a, b⟩ := ih r2
      obtain ⟨qk, qv⟩ := q
      obtain ⟨ek, ev⟩ := r1
      refine ⟨.cons ?_ a, .cons (by show RelV qv e.val; rw [h2]; exact ev) b⟩
      have ek : qk = kv.1 := ek
      rcases keyIs_shape (show keyIs kv.1 e.key = true from h1) with ⟨i, t, e1, e2⟩ | ⟨x, t, e1, e2⟩
      · show RelV (kV qk) e.key
        rw [ek, e1, e2]
        exact ⟨t, rfl⟩
      · show RelV (kV qk) e.key
        rw [ek, e1, e2]
        exact ⟨t, rfl⟩
def RdsV (H : Hp) (s : Shared) (v : V) (d : PyData) : Prop := ∀ u, RelV v u → ∃ as, Reads s.heap u d as ∧ sysModules ∉ as
def RdsA (H : Hp) (s : Shared) (vs : List V) (ds : List PyData) : Prop := ∀ us, Vals vs us → ∃ as, ReadsAll s.heap us ds as ∧ sysModules ∉ as
theorem Dq.both (I : Inv X pins σ H s) (sy : Sys X.K H) : (∀ {v : V} {d : PyData}, Dq X.K H v d → RdsV H s v d) ∧ (∀ {vs : List V} {ds : List PyData}, DqAll X.K H vs ds → RdsA H s vs ds) := by
  have h1 : RdsV H s .non .none := fun u r => by cases r; exact ⟨_, .none, by simp⟩
  have h2 : ∀ b, RdsV H s (.bl b) (.bool b) := fun b u r => by cases r; exact ⟨_, .bool b, by simp⟩
  have h3 : ∀ i, RdsV H s (.int i) (.int i) := fun i u r => by obtain ⟨t, rfl⟩ := r; exact ⟨_, .int i t, by simp⟩
  have h4 : ∀ x, RdsV H s (.str x) (.str x) := fun x u r => by obtain ⟨t, rfl⟩ := r; exact ⟨_, .str x t, by simp⟩
  have h5 : ∀ {a : Addr} {xs : List V} {ds : List PyData}, SqL X.K H a xs → DqAll X.K H xs ds → RdsA H s xs ds → RdsV H s (.ref a) (.list ds) := fun hs _ ih u r => by
    cases r
    obtain ⟨its, rv, ⟨o, n, ho, hc, _, hd⟩, _⟩ := I.list hs
    obtain ⟨as, hr, na⟩ := ih its rv
    exact ⟨_, .list ho hc hd hr, fun z => (List.mem_cons.mp z).elim (fun e => sq_far I sy hs e.symm) na⟩
  have h6 : ∀ {a : Addr} {xs : List V} {ds : List PyData}, SqT X.K H a xs → DqAll X.K H xs ds → RdsA H s xs ds → RdsV H s (.ref a) (.tuple ds) := fun hs _ ih u r => by
    cases r
    obtain ⟨its, rv, ⟨o, ho, hc, n, hd⟩, _⟩ := I.tuple hs
    obtain ⟨as, hr, na⟩ := ih its rv
    exact ⟨_, .tuple ho hc hd hr, na⟩
  have h7 : ∀ {a : Addr} {kvs : List (Key × V)} {ds : List (PyData × PyData)}, Rd H a (.dK kvs) → DqAll X.K H (kvs.map fun p => kV p.1) (ds.map (·.1)) → DqAll X.K H (kvs.map (·.2)) (ds.map (·.2)) → RdsA H s (kvs.map fun p => kV p.1) (ds.map (·.1)) → RdsA H s (kvs.map (·.2)) (ds.map (·.2)) → RdsV H s (.ref a) (.dict ds) := fun hd _ _ ik iv u r => by
    cases r
    obtain ⟨_, far, vs, kv, o, es, ep, ho, hx, hdat, _, hp, _⟩ := dk_rd I.hok hd
    obtain ⟨v1, v2⟩ := key_vals hp kv
    obtain ⟨as, r1, n1⟩ := ik _ v1
    obtain ⟨bs, r2, n2⟩ := iv _ v2
    refine ⟨_, .dict ho hx.1 hdat r1 r2, fun z => ?_⟩
    rcases List.mem_append.mp z with z | z
    · rcases List.mem_cons.mp z with z | z
      · rw [← z] at far
        exact absurd far (by decide)
      · exact n1 z
    · exact n2 z
  have h8 : RdsA H s [] [] := fun u r => by cases r; exact ⟨_, .nil, by simp⟩
  have h9 : ∀ {v : V} {vs : List V} {d : PyData} {ds : List PyData}, Dq X.K H v d → DqAll X.K H vs ds → RdsV H s v d → RdsA H s vs ds → RdsA H s (v :: vs) (d :: ds) := fun _ _ i1 i2 u r => by
    cases r with
    | cons r1 r2 =>
      obtain ⟨as, q1, n1⟩ := i1 _ r1
      obtain ⟨bs, q2, n2⟩ := i2 _ r2
      exact ⟨_, .cons q1 q2, fun z => (List.mem_append.mp z).elim n1 n2⟩
  constructor
  · intro v d h
    exact Dq.rec (motive_1 := fun v d _ => RdsV H s v d) (motive_2 := fun vs ds _ => RdsA H s vs ds) h1 h2 h3 h4 h5 h6 h7 h8 h9 h
  · intro v d h
    exact DqAll.rec (motive_1 := fun v d _ => RdsV H s v d) (motive_2 := fun vs ds _ => RdsA H s vs ds) h1 h2 h3 h4 h5 h6 h7 h8 h9 h
end

/-! ### repr of data with dicts -/
theorem dq_same {K : PySem.W.Frag} {H H' : Hp} (S : Same H H') : (∀ {v : V} {d : PyData}, Dq K H v d → Dq K H' v d) ∧ (∀ {vs : List V} {ds : List PyData}, DqAll K H vs ds → DqAll K H' vs ds) := by
  have sq : ∀ {a : Addr} {xs : List V}, SqT K H a xs → SqT K H' a xs := by
    rintro a xs ((h | ⟨o, h⟩) | h)
    · exact .inl (.inl (S _ _ h))
    · exact .inl (.inr ⟨o, S _ _ h⟩)
    · exact .inr h
  have rd : ∀ {a : Addr} {u : HO}, Rd H a u → Rd H' a u := fun h => h.imp (S _ _) fun ⟨o, e⟩ => ⟨o, S _ _ e⟩
  constructor
  · intro v d h
    exact Dq.rec (motive_1 := fun v d _ => Dq K H' v d) (motive_2 := fun vs ds _ => DqAll K H' vs ds) .non .bl .int .str (fun s _ ih => .lst (S.seq s) ih) (fun s _ ih => .tup (sq s) ih) (fun r _ _ a b => .dic (rd r) a b) .nil (fun _ _ a b => .cons a b) h
  · intro vs ds h
    exact DqAll.rec (motive_1 := fun v d _ => Dq K H' v d) (motive_2 := fun vs ds _ => DqAll K H' vs ds) .non .bl .int .str (fun s _ ih => .lst (S.seq s) ih) (fun s _ ih => .tup (sq s) ih) (fun r _ _ a b => .dic (rd r) a b) .nil (fun _ _ a b => .cons a b) h
def rReprQ (K : PySem.W.Frag) : List V → Hp → VK → Prop := fun xs H Q => ∃ v d, xs = [v] ∧ Sys K H ∧ Dq K H v d ∧ d.showable = true ∧ d.depth ≤ 60 ∧ d.shown.length ≤ sizeLine ∧ Q (.str d.shown) H
theorem call_reprQ {X : Cx} {k : Nat} (hr : Room k X.A) (hg : X.A.guards = some []) : CallR X (.builtin "repr") (rReprQ X.K) := by
  intro pins s σ H xs us Q I r h
  obtain ⟨v, d, rfl, sy, hd, hs, hp, hz, q⟩ := h
  obtain ⟨u, rfl, ru⟩ := vals1 r
  obtain ⟨as, rd, na⟩ := (Dq.both I sy).1 hd u ru
  have un := hr.un
  have fin : ∀ {z : Str} {s' : Shared} {t : Tok}, Inv X pins σ H s' → d.shown = z → EP X pins σ Q (.str z t) s' := fun J e => ⟨.str d.shown, H, J, ⟨_, by rw [e]⟩, q⟩
  cases hd with
  | non => cases ru; exact PySem.P.repr_of_none (fin (I.tok _) (by simp only [PyData.shown]))
  | bl b => cases ru; exact PySem.P.repr_of_bool (fin (I.tok _) (by simp only [PyData.shown]))
  | int i => obtain ⟨t, rfl⟩ := ru; exact PySem.P.repr_of_int (by simpa [PyData.showable] using hs) (fin (I.tok _) (by simp only [PyData.shown]))
  | str x => obtain ⟨t, rfl⟩ := ru; exact PySem.P.repr_of_str (fin (I.tok _) (by simp only [PyData.shown])) (by simpa only [PyData.shown] using hz)
  | lst _ _ => cases ru; exact repr_of_reads' rd hs (fun _ => na) hg (by omega) (fun _ _ e => e) (fun h' u tk kp => fin (I.kept kp) rfl) hz
  | tup _ _ => cases ru; exact repr_of_reads' rd hs (fun _ => na) hg (by omega) (fun _ _ e => e) (fun h' u tk kp => fin (I.kept kp) rfl) hz
  | dic _ _ _ => cases ru; exact repr_of_reads' rd hs (fun _ => na) hg (by omega) (fun _ _ e => e) (fun h' u tk kp => fin (I.kept kp) rfl) hz
end Tp

set_option Elab.async false
set_option linter.all false
set_option maxRecDepth 100000
set_option maxHeartbeats 4000000
namespace Tp
open PySem PySem.Spec PyProof.Rows L2
/-! ### calls that may let an exception out: the wish may know the slots -/
section
variable {X : Cx} {CX : CXT} {k : Nat} {f C : Addr} {fd : FuncData} {ps : List Str} {sp : Sp} {dvs : List V} {ds : List Value} {E : L2.St → XK} {x m : Str} {p pos apos : Pos} {e o : Expr} {es : List Expr} {ta ti : TE} {t : TA}
theorem pass00 : Passes (L2.CX X.prog X.w) X (fun _ _ _ => False) := fun _ _ _ _ _ _ _ ⟨_, _, _, _, _, _, _, _, _, _, _, _, w⟩ => w.elim
theorem passA0 {X : Cx} (σ : L2.St) : PassesAt (L2.CX X.prog X.w) X σ (fun _ _ _ => False) := fun _ _ _ _ _ _ ⟨_, _, _, _, _, _, _, _, _, _, _, _, w⟩ => w.elim
theorem runE {A : Around} {pins : List (Addr × Obj)} {σ : L2.St} {H : Hp} {s : Shared} {Q : VK} {us : List Value} {vs : List V} {E : XK} (F : FnOk X.prog X.w X.K X.mg X.base CX k f fd ps sp) (hr : Room k A) (e0 : Env0 X.prog X.w X.K X.mg X.base A X.stack s H)
    (hb : Binds X.K fd ps ds) (hd : Vals dvs ds) (hx : PassesAt CX X σ E) (I : Inv X pins σ H s) (r : Vals vs us) (h : sp (vs ++ dvs) H Q E) : wpAny (model X.prog X.w) A (call (.ref f) us) (EP X pins σ Q) X.xe s := by
  have r2 : Vals (vs ++ dvs) (us ++ ds) := r.append hd
  have hl : (us ++ ds).length = ps.length := by rw [← r2.length]; exact F.len _ _ _ _ h
  refine wpAny_call (codeAny_mono (F.run A X.stack s H ⟨us, []⟩ (us ++ ds) (vs ++ dvs) Q E hr e0 (hb s us I.kIn hl) r2 h) fun r s' hq => ?_)
  cases r with
  | error e => exact hx pins H s e s' I hq
  | ok fl =>
    cases fl with
    | ret u => exact I.after hq
    | _ => exact False.elim hq
def tMethE (C : Addr) (m : Str) (sp : Sp) (dvs : List V) (E : L2.St → XK) (ta : TE) (t : TA) : TE := fun σ H Q => ta σ H fun x H1 => ∃ a dx fs, x = .ref a ∧ H1 a = some (.ins C dx fs) ∧ fs.lookup m = none ∧ t σ H1 fun vs H2 => sp (x :: (vs ++ dvs)) H2 Q (E σ)
theorem pe_methE {pl : Sem Bool} (he : PE X o ta) (c : Cls X.K C) (hm : Meth X.K C m f) (F : FnOk X.prog X.w X.K X.mg X.base CX k f fd ps sp) (hr : Room k X.A) (hb : Binds X.K fd ps ds) (hd : Vals dvs ds) (hx : ∀ σ, PassesAt CX X σ (E σ)) (ha : PA X (e :: es) t)
    (hst : starEach (e :: es) X.env = (false, eval e X.env) :: starEach es X.env := by rfl) (hpl : (backTo pos (starEach es X.env)).any (·.1) = false := by rfl)
    (ht : eval (.Call (.Attribute o m apos) (e :: es) [] pos) X.env = (do
      let ov ← eval o X.env
      standAt apos.atName
      let (f, first) ← holding [ov] (getMethod ov m pl)
      callWith pos f first (backTo pos (starEach (e :: es) X.env)) (backToKw pos (keywordEach [] X.env))) := by rfl) :
    PE X (.Call (.Attribute o m apos) (e :: es) [] pos) (tMethE C m sp dvs E ta t) := by
  refine ⟨fun pins s σ H Q I h => ?_⟩
  refine PySem.W.methodCall_KW (pl := pl) (thn (he.run pins s σ H _ I h) fun u s1 ⟨x, H1, I1, rx, a, dx, fs, ex, ea, l, q⟩ => ?_) ht
  subst ex
  obtain rfl : u = Value.ref a := rx
  refine getmeth_ok I1 ea c hm l ?_
  refine PySem.W.callWith_K (first := [.ref a]) (h₀ := X.base) I.ok.mod.kin hm.kp (thn (ha.run pos pins s1 σ H1 _ I1 q) fun us s2 ⟨vs, H2, I2, r, q2⟩ => ⟨I2.kIn, ?_⟩) hst hpl
  exact runE (us := .ref a :: us) (vs := .ref a :: vs) F hr I2.env0 hb hd (hx σ) I2 (.cons rfl r) q2
theorem pe_methE0 {pl : Sem Bool} (he : PE X o ta) (c : Cls X.K C) (hm : Meth X.K C m f) (F : FnOk X.prog X.w X.K X.mg X.base CX k f fd ps sp) (hr : Room k X.A) (hb : Binds X.K fd ps ds) (hd : Vals dvs ds) (hx : ∀ σ, PassesAt CX X σ (E σ))
    (ht : eval (.Call (.Attribute o m apos) [] [] pos) X.env = (do
      let ov ← eval o X.env
      standAt apos.atName
      let (f, first) ← holding [ov] (getMethod ov m pl)
      callWith pos f first (backTo pos (starEach [] X.env)) (backToKw pos (keywordEach [] X.env))) := by rfl) :
    PE X (.Call (.Attribute o m apos) [] [] pos) (tMethE C m sp dvs E ta tNil) := by
  refine ⟨fun pins s σ H Q I h => ?_⟩
  refine PySem.W.methodCall_KW (pl := pl) (thn (he.run pins s σ H _ I h) fun u s1 ⟨x, H1, I1, rx, a, dx, fs, ex, ea, l, q⟩ => ?_) ht
  subst ex
  obtain rfl : u = Value.ref a := rx
  refine getmeth_ok I1 ea c hm l ?_
  exact PySem.W.callWith_K0 (first := [.ref a]) I1.kIn hm.kp (runE (us := [.ref a]) (vs := [.ref a]) F hr I1.env0 hb hd (hx σ) I1 (.cons rfl .nil) q)
theorem run_makeE {pins : List (Addr × Obj)} {σ : L2.St} {H : Hp} {s : Shared} {Q : VK} {us : List Value} {vs : List V} {E : XK} (M : Mk X.K C f) (F : FnOk X.prog X.w X.K X.mg X.base CX k f fd ps sp) (hr : Room (k + 1) X.A) (hb : Binds X.K fd ps ds) (hd : Vals dvs ds)
    (hx : PassesAt CX X σ E) (I : Inv X pins σ H s) (r : Vals vs us)
    (h : ∀ x dx, H x = none → H dx = none → dx ≠ x → sp (.ref x :: (vs ++ dvs)) (upd (upd H dx (.own x)) x (.ins C dx [])) (fun v H2 => v = .non ∧ Q (.ref x) H2) E) :
    wpAny (model X.prog X.w) X.A (call (.ref C) us) (EP X pins σ Q) X.xe s := by
  have hq := h (s.heap.objs.size + 1) s.heap.objs.size (I.hok.fresh (Nat.le_succ _)) (I.hok.fresh (Nat.le_refl _)) (Nat.ne_of_lt (Nat.lt_succ_self _))
  have I2 := Inv.made (C := C) I
  have r2 : Vals (V.ref (s.heap.objs.size + 1) :: (vs ++ dvs)) (Value.ref (s.heap.objs.size + 1) :: (us ++ ds)) := .cons rfl (r.append hd)
  have hl : (Value.ref (s.heap.objs.size + 1) :: us ++ ds).length = ps.length := by
    have e := r2.length
    rw [F.len _ _ _ _ hq] at e
    exact e.symm
  refine wpAny_call (make_map (f := f) I.kIn M.makes M.init (beq_iff_eq.mp M.fn) (codeAny_mono (F.run _ X.stack _ _ ⟨Value.ref (s.heap.objs.size + 1) :: us, []⟩ (Value.ref (s.heap.objs.size + 1) :: (us ++ ds)) _ _ E (hr.make C us [])
    (I2.env0.make C us []) (hb _ (Value.ref (s.heap.objs.size + 1) :: us) I2.kIn hl) r2 hq) fun r s' hq' => ?_))
  cases r with
  | error e => exact hx pins _ _ e s' I2 hq'
  | ok fl =>
    cases fl with
    | ret u =>
      obtain ⟨v, H', I3, rv, ev, q3⟩ := I2.after hq'
      subst ev
      exact ⟨rv, ⟨V.ref (s.heap.objs.size + 1), H', I3, rfl, q3⟩⟩
    | _ => exact False.elim hq'
def tMakeE (C : Addr) (sp : Sp) (dvs : List V) (E : L2.St → XK) (t : TA) : TE := fun σ H Q => t σ H fun vs H1 => ∀ x dx, H1 x = none → H1 dx = none → dx ≠ x →
  sp (.ref x :: (vs ++ dvs)) (upd (upd H1 dx (.own x)) x (.ins C dx [])) (fun v H2 => v = .non ∧ Q (.ref x) H2) (E σ)
theorem pe_makeE (M : Mk X.K C f) (F : FnOk X.prog X.w X.K X.mg X.base CX k f fd ps sp) (hr : Room (k + 1) X.A) (hg : Gl X x) (hm : X.mg x = some (.ref C)) (hb : Binds X.K fd ps ds) (hd : Vals dvs ds) (hx : ∀ σ, PassesAt CX X σ (E σ))
    (ha : PA X (e :: es) t) (hdb : (x == ("__debug__" : Str)) = false := by decide) (he : starEach (e :: es) X.env = (false, eval e X.env) :: starEach es X.env := by rfl) (hpl : (backTo pos (starEach es X.env)).any (·.1) = false := by rfl) :
    PE X (.Call (.Name x p) (e :: es) [] pos) (tMakeE C sp dvs E t) := by
  refine ⟨fun pins s σ H Q I h => ?_⟩
  refine wpAny_Call_Name_kw (ld_glob I hg hm ?_ hdb)
  refine PySem.W.callWith_K (h₀ := X.base) I.ok.mod.kin M.kp (thn (ha.run pos pins s σ H _ I h) fun us s1 ⟨vs, H1, I1, r, q⟩ => ⟨I1.kIn, ?_⟩) he hpl
  exact run_makeE M F hr hb hd (hx σ) I1 r q
/-- o[i] by an own __getitem__ -/
def tSubE (C : Addr) (sp : Sp) (E : L2.St → XK) (ta ti : TE) : TE := fun σ H Q => ta σ H fun x H1 => ti σ H1 fun y H2 => ∃ a dx fs, x = .ref a ∧ H2 a = some (.ins C dx fs) ∧ sp [x, y] H2 Q (E σ)
theorem pe_subE {i : Expr} (ho : PE X o ta) (hi : PE X i ti) (hs : PySem.W.findIn X.K (.ref C) "__getitem__" = some (some (.ref f))) (hf : PySem.W.fnIn X.K f = true) (hfn : PySem.W.isFn X.K (.ref f) = true) (F : FnOk X.prog X.w X.K X.mg X.base CX k f fd ps sp)
    (hr : Room (k + 1) X.A) (hb : Binds X.K fd ps []) (hx : ∀ σ, PassesAt CX X σ (E σ))
    (hsl : ∀ (a : Addr) (u : Value), subscripted i true (.ref a) u = runValue (.builtin "lifetime.subscript" ⟨[.ref a, u], []⟩) := by intro _ _; with_unfolding_all rfl) :
    PE X (.Subscript o i pos) (tSubE C sp E ta ti) := by
  refine ⟨fun pins s σ H Q I h => ?_⟩
  refine Subscript_ (thn (ho.run pins s σ H _ I h) fun u s1 ⟨x, H1, I1, rx, q1⟩ => thn (hi.run pins s1 σ H1 _ I1 q1) fun iv s2 ⟨y, H2, I2, ry, a, dx, fs, ex, ea, q2⟩ => ?_)
  subst ex
  obtain rfl : u = Value.ref a := rx
  obtain ⟨mA, O, _, _, _, _⟩ := ins_get I2.hok ea
  obtain ⟨od, J, _⟩ := O.look
  obtain ⟨m, hF⟩ := I2.fr
  refine PySem.W.sub_K hF I2.ok.mod.kin J hs hf hfn ?_ (hsl a iv)
  exact runE (us := [.ref a, iv]) (vs := [.ref a, y]) F hr.in1 I2.env0.in1 hb .nil (hx σ) I2 (.cons rfl (.cons ry .nil)) q2
end
/-! ### own operators -/
section
variable {X : Cx} {CX : CXT} {k : Nat} {f C : Addr} {fd : FuncData} {ps : List Str} {sp : Sp} {E : XK}
theorem pass_at {σ : L2.St} (hx : Passes CX X E) : PassesAt CX X σ E := fun pins H s e s' I h => hx pins σ H s e s' I h
def rBinE (C : Addr) (sp : Sp) (E : XK) : R2 := fun x y H Q => ∃ a dx fs b dy gs, x = .ref a ∧ y = .ref b ∧ H a = some (.ins C dx fs) ∧ H b = some (.ins C dy gs) ∧ sp [x, y] H Q E
theorem op_binE {op : Operator} (hc : PySem.W.selfFirst X.K C = true) (hs : PySem.W.findIn X.K (.ref C) (PySem.dunder op.info.2) = some (some (.ref f))) (hf : PySem.W.isFn X.K (.ref f) = true) (F : FnOk X.prog X.w X.K X.mg X.base CX k f fd ps sp) (hr : Room k X.A)
    (hb : Binds X.K fd ps []) (hx : Passes CX X E) : OpR X (binaryOp op) (rBinE C sp E) := by
  intro pins s σ H x y v u Q I rx ry h
  obtain ⟨a, dx, fs, b, dy, gs, rfl, rfl, ha, hb', q⟩ := h
  cases (show v = Value.ref a from rx)
  cases (show u = Value.ref b from ry)
  obtain ⟨mA, O, _, _, _, _⟩ := ins_get I.hok ha
  obtain ⟨od, J, _⟩ := O.look
  obtain ⟨mB, O', _, _, _, _⟩ := ins_get I.hok hb'
  obtain ⟨od', J', _⟩ := O'.look
  obtain ⟨m, hF⟩ := I.fr
  refine PySem.W.binop_K hF I.ok.mod.kin J J'.type hc hs hf ?_
  refine wpAny_mono (runE (us := [.ref a, .ref b]) (vs := [.ref a, .ref b]) F hr I.env0 hb .nil (pass_at hx) I (.cons rfl (.cons rfl .nil)) q) (fun w s' z => ?_) fun _ _ x => x
  obtain ⟨z', H', I', rz, qz⟩ := z
  exact SlX.cmpback rz ⟨z', H', I', rz, qz⟩
def rUnE (C : Addr) (sp : Sp) (E : XK) : V → Hp → VK → Prop := fun x H Q => ∃ a dx fs, x = .ref a ∧ H a = some (.ins C dx fs) ∧ sp [x] H Q E
theorem un_negE (hs : PySem.W.findIn X.K (.ref C) "__neg__" = some (some (.ref f))) (hf : PySem.W.isFn X.K (.ref f) = true) (F : FnOk X.prog X.w X.K X.mg X.base CX k f fd ps sp) (hr : Room k X.A) (hb : Binds X.K fd ps []) (hx : Passes CX X E) :
    UnR X (unaryOp .USub) (rUnE C sp E) := by
  intro pins s σ H x v Q I rx h
  obtain ⟨a, dx, fs, rfl, ha, q⟩ := h
  cases (show v = Value.ref a from rx)
  obtain ⟨mA, O, _, _, _, _⟩ := ins_get I.hok ha
  obtain ⟨od, J, _⟩ := O.look
  unfold unaryOp
  refine wpAny_holding ?_
  show wpAny _ _ (if (UnaryOp.USub == UnaryOp.Not) = true then _ else _) _ _ _
  rw [if_neg (by decide)]
  refine wpAny_bind (PySem.W.special_fn I.kIn J hs (beq_iff_eq.mp hf) ?_)
  exact wpAny_mono (runE (us := [.ref a]) (vs := [.ref a]) F hr I.env0 hb .nil (pass_at hx) I (.cons rfl .nil) q) (fun w s' z => wpAny_pure z) fun _ _ x => x
def rAbsE (C : Addr) (sp : Sp) (E : XK) : List V → Hp → VK → Prop := fun xs H Q => ∃ a dx fs, xs = [.ref a] ∧ H a = some (.ins C dx fs) ∧ sp xs H Q E
theorem call_absE (hs : PySem.W.findIn X.K (.ref C) "__abs__" = some (some (.ref f))) (hf : PySem.W.isFn X.K (.ref f) = true) (F : FnOk X.prog X.w X.K X.mg X.base CX k f fd ps sp) (hr : Room (k + 1) X.A) (hb : Binds X.K fd ps []) (hx : Passes CX X E) :
    CallR X (.builtin "abs") (rAbsE C sp E) := by
  intro pins s σ H xs us Q I r h
  obtain ⟨a, dx, fs, rfl, ha, q⟩ := h
  obtain ⟨u, rfl, ru⟩ := vals1 r
  cases (show u = Value.ref a from ru)
  obtain ⟨mA, O, _, _, _, _⟩ := ins_get I.hok ha
  obtain ⟨od, J, _⟩ := O.look
  refine Calls.call_function_entry kind_abs plain_abs entry_abs (args_abs _) ?_
  unfold Builtin.«abs»
  refine wpAny_bind (m := oneArg "abs" _) (wpAny_pure ?_)
  refine wpAny_bind (m := callSpecial? (.ref a) (Str.ofString "__abs__")) (PySem.W.special_fn I.kIn J hs (beq_iff_eq.mp hf) ?_)
  exact wpAny_mono (runE (us := [.ref a]) (vs := [.ref a]) F hr.in1 I.env0.in1 hb .nil (pass_at hx) I (.cons rfl .nil) q) (fun w s' z => wpAny_pure ⟨_, rfl, z⟩) fun _ _ x => x
/-- x == y by an own __eq__, y of any kind that is told -/
def rEqE (K : PySem.W.Frag) (C : Addr) (sp : Sp) (E : XK) : R2 := fun x y H Q => ∃ a dx fs tb, x = .ref a ∧ H a = some (.ins C dx fs) ∧ TyX K H y tb ∧ PySem.W.notFirst K C tb = true ∧ sp [x, y] H Q E
theorem op_eqE (hs : PySem.W.findIn X.K (.ref C) "__eq__" = some (some (.ref f))) (hf : PySem.W.isFn X.K (.ref f) = true) (F : FnOk X.prog X.w X.K X.mg X.base CX k f fd ps sp) (hr : Room k X.A) (hb : Binds X.K fd ps []) (hx : Passes CX X E) :
    OpR X (compareOp .Eq) (rEqE X.K C sp E) := by
  intro pins s σ H x y v u Q I rx ry h
  obtain ⟨a, dx, fs, tb, rfl, ha, ty, hn, q⟩ := h
  cases (show v = Value.ref a from rx)
  obtain ⟨mA, O, _, _, _, _⟩ := ins_get I.hok ha
  obtain ⟨od, J, _⟩ := O.look
  obtain ⟨m, hF⟩ := I.fr
  obtain ⟨P, KX, hP, _⟩ := kit_of I ry ty
  show wpAny _ _ (richCompare .Eq (.ref a) u) _ _ _
  refine PySem.W.cmp_K (op := .Eq) (tb := tb) hr.units0 hF I.ok.mod.kin J (KX.ty _ _ I.kIn hP) hn hs hf ?_
  refine wpAny_mono (runE (us := [.ref a, u]) (vs := [.ref a, y]) F hr I.env0 hb .nil (pass_at hx) I (.cons rfl (.cons ry .nil)) q) (fun w s' z => ?_) fun _ _ x => x
  obtain ⟨z', H', I', rz, qz⟩ := z
  exact SlX.cmpback rz ⟨z', H', I', rz, qz⟩
/-- x != y: object.__ne__ asks the own __eq__ -/
def rNeE (K : PySem.W.Frag) (C : Addr) (sp : Sp) (E : XK) : R2 := fun x y H Q => ∃ a dx fs tb, x = .ref a ∧ H a = some (.ins C dx fs) ∧ TyX K H y tb ∧ PySem.W.notFirst K C tb = true ∧ sp [x, y] H (fun z H' => ∃ b, z = .bl b ∧ Q (.bl (!b)) H') E
theorem bound_ne {M : Model} {A : Around} {E : Value → Shared → Prop} {s : Shared} {K : PySem.W.Frag} {x C : Addr} {ox : Obj} {od : Option Obj} {args : List Value} {Q : Option Value → Shared → Prop} (X : K.In s.heap) (I : PySem.W.InstAt s.heap x ox C od)
    (hs : PySem.W.findIn K (.ref C) "__ne__" = some (some (.builtin "object.__ne__")))
    (h : wpAny M A (call (.builtin "object.__ne__") (.ref x :: args)) (fun v => Q (some v)) E s) : wpAny M A (callSpecialIfBound? (.ref x) "__ne__" args) Q E s := by
  simp only [callSpecialIfBound?, bindSpecialIfBound?]
  refine wpAny_holding (wpAny_bind (wpAny_bind (wpAny_bind (I.type.here ((PySem.W.looks_findIn X hs).here ?_)))))
  refine wpAny_bind (wpAny_askSetting (wpAny_ite ?_))
  have fin : wpAny M A (call (.builtin "object.__ne__") ([.ref x] ++ args) >>= fun v => pure (some v)) Q E s := wpAny_bind (wpAny_mono h (fun v s' h' => wpAny_pure h') fun _ _ h' => h')
  split
  · exact wpAny_bind (wpAny_of_eq (F.cmp_object.ne.bind _) (wpAny_pure (by exact fin)))
  · exact wpAny_tryCatch (wpAny_bind (wpAny_of_eq (F.cmp_object.ne.bind _) (wpAny_pure (by exact fin))))
theorem ne_own {prog : Program} {w : World} {A : Around} {E : Value → Shared → Prop} {s : Shared} {K : PySem.W.Frag} {x C : Addr} {ox : Obj} {od : Option Obj} {b tb : Value} {Q : Value → Shared → Prop} (hu : A.units + 1 < cLine) (X : K.In s.heap) (I : PySem.W.InstAt s.heap x ox C od)
    (hb : PySem.W.Looks (model prog w) s.heap (typeOf b) tb) (hn : PySem.W.notFirst K C tb = true) (hs : PySem.W.findIn K (.ref C) "__eq__" = some (some (.ref f))) (hf : PySem.W.isFn K (.ref f) = true)
    (hne : PySem.W.findIn K (.ref C) "__ne__" = some (some (.builtin "object.__ne__"))) (hm : PySem.W.mroIn K C (.type "object") = some true)
    (h : wpAny (model prog w) A.in1 (call (.ref f) [.ref x, b]) (fun v s' => ∃ r, v = .bool r ∧ Q (.bool (!r)) s') E s) : wpAny (model prog w) A (richCompare .NotEq (.ref x) b) Q E s := by
  have one : wpAny (model prog w) A (tryCompare (.ref x) "__ne__" b) (fun r s' => ∃ v, r = some (Value.bool v) ∧ Q (.bool v) s') E s := by
    unfold tryCompare
    refine wpAny_bind (bound_ne X I hne (wpAny_call (codeAny_call_builtin F.cmp_object.ne.plain F.cmpEntry_ne (PySem.W.check_slot F.cmpKind_ne F.cmpSplit_ne (I.type.andThen (PySem.W.looks_mroIn X hm)) (F.cmpArgs_ne _ _) ?_))))
    unfold Builtin.«object.__ne__»
    refine wpAny_bind (wpAny_of_eq (a := ((Value.ref x : Value), [b])) (by first | rfl | (simp only [slotArgs]; rfl)) ?_)
    refine wpAny_bind (wpAny_cRoomFor (show A.in1.units < cLine from hu) ?_)
    refine wpAny_bind (m := callSpecialIfBound? (.ref x) (Str.ofString "__eq__") [b]) (PySem.W.ifBound_K X I hs hf (wpAny_mono h (fun v s' hv => ?_) fun _ _ e => e))
    obtain ⟨r, rfl, q⟩ := hv
    exact wpAny_bind (wpAny_truthy_bool (wpAny_pure (wpAny_pure ⟨_, rfl, q⟩)))
  unfold richCompare
  simp only [oneThing_ref]
  refine wpAny_holding (wpAny_bind (wpAny_cRoomFor (Nat.lt_of_succ_lt hu) ?_))
  refine wpAny_bind (I.type.here (wpAny_bind (hb.here ?_)))
  split
  · rename_i q
    have e : PySem.W.subIn K tb (.ref C) = some false := by
      rcases Bool.or_eq_true_iff.mp hn with e | e
      · rw [beq_iff_eq.mp e] at q; simp at q
      · exact beq_iff_eq.mp e
    refine wpAny_bind ((PySem.W.looks_subIn X e).here ?_)
    simp only [Bool.false_eq_true, if_false]
    refine wpAny_bind (m := tryCompare (.ref x) _ b) (wpAny_mono one (fun r s' z => ?_) fun _ _ e => e)
    obtain ⟨v, rfl, hq⟩ := z
    exact wpAny_pure hq
  · refine wpAny_bind (wpAny_pure ?_)
    simp only [Bool.false_eq_true, if_false]
    refine wpAny_bind (m := tryCompare (.ref x) _ b) (wpAny_mono one (fun r s' z => ?_) fun _ _ e => e)
    obtain ⟨v, rfl, hq⟩ := z
    exact wpAny_pure hq
theorem op_neE (hs : PySem.W.findIn X.K (.ref C) "__eq__" = some (some (.ref f))) (hf : PySem.W.isFn X.K (.ref f) = true) (hne : PySem.W.findIn X.K (.ref C) "__ne__" = some (some (.builtin "object.__ne__"))) (hm : PySem.W.mroIn X.K C (.type "object") = some true)
    (F : FnOk X.prog X.w X.K X.mg X.base CX k f fd ps sp) (hr : Room (k + 1) X.A) (hb : Binds X.K fd ps []) (hx : Passes CX X E) : OpR X (compareOp .NotEq) (rNeE X.K C sp E) := by
  intro pins s σ H x y v u Q I rx ry h
  obtain ⟨a, dx, fs, tb, rfl, ha, ty, hn, q⟩ := h
  cases (show v = Value.ref a from rx)
  obtain ⟨mA, O, _, _, _, _⟩ := ins_get I.hok ha
  obtain ⟨od, J, _⟩ := O.look
  obtain ⟨P, KX, hP, _⟩ := kit_of I ry ty
  show wpAny _ _ (richCompare .NotEq (.ref a) u) _ _ _
  refine ne_own (Nat.lt_of_le_of_lt (by omega) hr.units) I.kIn J (KX.ty _ _ I.kIn hP) hn hs hf hne hm ?_
  refine wpAny_mono (runE (us := [.ref a, u]) (vs := [.ref a, y]) F hr.in1 I.env0.in1 hb .nil (pass_at hx) I (.cons rfl (.cons ry .nil)) q) (fun w s' z => ?_) fun _ _ x => x
  obtain ⟨z', H', I', rz, r, ez, qz⟩ := z
  subst ez
  exact ⟨r, rz, .bl (!r), H', I', rfl, qz⟩
end
end Tp

set_option Elab.async false
set_option linter.all false
set_option maxRecDepth 100000
set_option maxHeartbeats 4000000
namespace Tp
open PySem PySem.Spec PyProof.Rows L2
/-! ### the end of a law whose promise also knows where sys.modules stands -/
section
variable {P : Program} {w : World} {K : PySem.W.Frag} {mg mb : Str → Option Value} {CX : CXT} {k : Nat} {fa a : Addr} {fd : FuncData} {x : Str} {sp : Sp} {s1 : Shared} {vs : List Value} {ns : List Int}
theorem law_coreS (KX : K.In s1.heap) (hns : s1.heap.Ns mainGlobals mg) (hb : s1.heap.Ns builtinsNs mb) (hbb : ∀ x : Str, x ≠ "__name__" → mb x = bootBuiltins x)
    (hlim : s1.heap.NoLimit) (hg : s1.gens = #[]) (hr : Room k callerA)
    (F : ∀ base : Heap, K.In base → base.Ns mainGlobals mg → FnG P w K mg base CX k fa fd [x] sp) (hbind : ∀ (s : Shared) (u : Value), BindsTo s fd ⟨[u], []⟩ [(x, u)])
    (hCX : ∀ H e s', ¬ CX [] H s1 (fun _ _ _ => False) e s') {H : Hp} (only : OnlyF H) (hsp : sp [.ref a] H (fun v _ => v = .bl true) fun _ _ _ => False)
    (hok : HOk P w H s1.heap) (hA : ∀ b, H b ≠ none → K.lookup b = none ∧ b ≠ mainGlobals ∧ b ≠ builtinsNs ∧ b ≠ cStatics) :
    codeAny (model P w) callerA (.call (.ref fa) ⟨[.ref a], []⟩) (LawEnd s1) s1 := by
  have ns : ∀ {b : Addr} {m : Str → Option Value}, H b = none → s1.heap.Ns b m → (hidT s1.heap H).Ns b m := by
    rintro b m n ⟨o, es, ep, e, d, r⟩
    exact ⟨o, es, ep, hidT_get e n, d, r⟩
  have n1 : H mainGlobals = none := Classical.byContradiction fun q => (hA _ q).2.1 rfl
  have n2 : H builtinsNs = none := Classical.byContradiction fun q => (hA _ q).2.2.1 rfl
  have n3 : H cStatics = none := Classical.byContradiction fun q => (hA _ q).2.2.2 rfl
  have inK : K.In (hidT s1.heap H) := by
    intro b o e
    refine hidT_get (KX b o e) (Classical.byContradiction fun q => ?_)
    rw [(hA b q).1] at e
    cases e
  obtain ⟨mc, l1, l2⟩ := hlim
  have M : Mod K mg (hidT s1.heap H) := ⟨inK, ns n1 hns, ⟨mb, ns n2 hb, hbb⟩, ⟨mc, ns n3 l1, l2⟩⟩
  have none_in : ∀ b : Addr, b ∉ ([] : List Addr) := fun _ z => nomatch z
  have e0 : Env0 P w K mg (hidT s1.heap H) callerA [] s1 H := ⟨rfl, M, fun _ _ e => of_hidT e, Nat.le_of_eq (hidT_size _ _), trivial, fun b z => (none_in b z).elim, hok, .of_eq hg⟩
  refine codeAny_mono ((F _ inK (ns n1 hns)).go callerA [] s1 H ⟨[.ref a], []⟩ [.ref a] [.ref a] _ _ hr rfl e0 (hbind s1 (.ref a)) (.cons rfl .nil) hsp) fun r s' h => ?_
  cases r with
  | error e => exact (hCX H e s' h).elim
  | ok fl =>
    cases fl with
    | ret u =>
      obtain ⟨v, H', os, bare, un, hok', rv, q⟩ := h
      obtain rfl : v = .bl true := q
      obtain rfl : u = Value.bool true := rv
      refine ⟨rfl, OldK.of_keep fun b o e => ?_, os, bare⟩
      rcases only b with z | ⟨ob, xs, z⟩
      · exact un.keep b o e z (none_in b) (none_in b)
      · have e2 := (hok' b _ (un.frzs b ob _ z)).1
        have e1 := (hok b _ z).1
        rw [e] at e1
        cases e1
        exact e2
    | _ => exact h.elim
theorem law_endS (KX : K.In s1.heap) (hns : s1.heap.Ns mainGlobals mg) (hb : s1.heap.Ns builtinsNs mb) (hbb : ∀ x : Str, x ≠ "__name__" → mb x = bootBuiltins x) (hsys : ∃ mm, s1.heap.Ns sysModules mm)
    (hlim : s1.heap.NoLimit) (hg : s1.gens = #[]) (ha : s1.heap.get? a = some { cls := .type "list", data := .seq vs.toArray }) (hi : IntsAre vs ns) (hl : ns.length ≤ sizeLine) (hr : Room k callerA)
    (F : ∀ base : Heap, K.In base → base.Ns mainGlobals mg → FnG P w K mg base CX k fa fd [x] sp) (hbind : ∀ (s : Shared) (u : Value), BindsTo s fd ⟨[u], []⟩ [(x, u)])
    (hCX : ∀ H e s', ¬ CX [] H s1 (fun _ _ _ => False) e s')
    (hsp : ∀ H : Hp, Sys K H → SqL K H a (ns.map V.int) → sp [.ref a] H (fun v _ => v = .bl true) fun _ _ _ => False) :
    codeAny (model P w) callerA (.call (.ref fa) ⟨[.ref a], []⟩) (LawEnd s1) s1 := by
  have rv := vals_ints hi
  obtain ⟨mm, om, es, ep, hm, dm, _⟩ := hsys
  have nd : ∀ {b : Addr} {m : Str → Option Value}, s1.heap.Ns b m → a ≠ b := by
    rintro b m ⟨o, es, ep, e, d, _⟩ rfl
    rw [ha] at e
    cases e
    cases (d : Data.seq vs.toArray _ = Data.dict es ep)
  have nm : a ≠ sysModules := by
    rintro rfl
    rw [ha] at hm
    cases hm
    cases (dm : Data.seq vs.toArray _ = Data.dict es ep)
  have one : ∃ H1 : Hp, (∀ b, H1 b ≠ none → b = sysModules) ∧ Sys K H1 ∧ OnlyF H1 ∧ HOk P w H1 s1.heap ∧ (∀ b, H1 b ≠ none → K.lookup b = none) := by
    cases hk : K.lookup sysModules with
    | some o =>
      have e := KX _ o hk
      rw [hm] at e
      cases e
      exact ⟨fun _ => none, fun b z => (z rfl).elim, .inl ⟨_, _, _, hk, dm⟩, fun _ => .inl rfl, fun b u (z : (none : Option HO) = some u) => (nomatch z), fun b z => (z rfl).elim⟩
    | none =>
      have off : ∀ b, b ≠ sysModules → (upd (fun _ => none) sysModules (.frz om (.ext fun _ => True)) : Hp) b = none := fun b nb => upd_ne nb
      have here : ∀ b, (upd (fun _ => none) sysModules (.frz om (.ext fun _ => True)) : Hp) b ≠ none → b = sysModules := fun b z => Classical.byContradiction fun nb => z (off b nb)
      refine ⟨upd (fun _ => none) sysModules (.frz om (.ext fun _ => True)), here, .inr ⟨hk, _, _, upd_same⟩, fun b => ?_, fun b u z => ?_, fun b z => by rw [here b z]; exact hk⟩
      · by_cases nb : b = sysModules
        · rw [nb]; exact .inr ⟨_, _, upd_same⟩
        · exact .inl (off b nb)
      · by_cases nb : b = sysModules
        · subst nb
          rw [upd_same] at z
          cases z
          exact ⟨hm, trivial, ⟨_, hm⟩, fun _ _ _ _ => trivial⟩
        · rw [off b nb] at z
          cases z
  obtain ⟨H1, at1, sy, on1, ok1, kn1⟩ := one
  have h1a : H1 a = none := Classical.byContradiction fun q => nm (at1 a q)
  have far : ∀ b, b = sysModules → b ≠ mainGlobals ∧ b ≠ builtinsNs ∧ b ≠ cStatics := by
    rintro b rfl
    exact ⟨by decide, by decide, by decide⟩
  have fara : a ≠ mainGlobals ∧ a ≠ builtinsNs ∧ a ≠ cStatics := ⟨nd hns, nd hb, let ⟨_, l1, _⟩ := hlim; nd l1⟩
  cases hk : K.lookup a with
  | some o =>
    have e := KX a o hk
    rw [ha] at e
    cases e
    refine law_coreS KX hns hb hbb hlim hg hr F hbind hCX on1 (hsp _ sy (.inr ⟨_, vs.toArray, _, hk, rfl, rfl, rfl, ?_, by simpa using rv⟩)) ok1 fun b z => ⟨kn1 b z, far b (at1 b z)⟩
    rw [List.size_toArray, hi.length]
    exact hl
  | none =>
    have at_a : (upd H1 a (.frz { cls := .type "list", data := .seq vs.toArray } (.lst (ns.map V.int))) : Hp) a = some (.frz { cls := .type "list", data := .seq vs.toArray } (.lst (ns.map V.int))) := upd_same
    have off : ∀ b, b ≠ a → (upd H1 a (.frz { cls := .type "list", data := .seq vs.toArray } (.lst (ns.map V.int))) : Hp) b = H1 b := fun b nb => upd_ne nb
    have same : Same H1 (upd H1 a (.frz { cls := .type "list", data := .seq vs.toArray } (.lst (ns.map V.int)))) := fun b u e => by
      rw [off b (fun z => by rw [z, h1a] at e; cases e)]
      exact e
    refine law_coreS KX hns hb hbb hlim hg hr F hbind hCX (fun b => ?_) (hsp _ (sy.same same) (.inl (.inr ⟨_, at_a⟩))) (fun b u z => ?_) fun b z => ?_
    · by_cases nb : b = a
      · rw [nb]; exact .inr ⟨_, _, at_a⟩
      · rw [off b nb]; exact on1 b
    · by_cases nb : b = a
      · subst nb
        rw [at_a] at z
        cases z
        exact ⟨ha, by rw [List.length_map]; exact hl, vs, _, rv, ha⟩
      · rw [off b nb] at z
        have o1 := ok1 b u z
        have eb := at1 b (by rw [z]; intro q; cases q)
        subst eb
        rcases on1 sysModules with q | ⟨ob, xs, q⟩
        · rw [q] at z; cases z
        · rw [q] at z
          cases z
          exact o1.stay (fun c w' hc q => q) (fun _ q => same _ _ q) fun _ _ q => same _ _ q
    · by_cases nb : b = a
      · rw [nb]; exact ⟨hk, fara⟩
      · rw [off b nb] at z
        exact ⟨kn1 b z, far b (at1 b z)⟩
end
theorem walkS {l : PySem.W.OpenLaw} {n k : Nat} {q : Program} {loose : List Str} {XP : (Str → Option Value) → Heap → Prop} {YP : World → Heap → Prop} {d : DefRec} {K : Params → PySem.W.Frag} {sp : World → Sp} {x : Str}
    (hn : l.most = some n) (hn2 : n ≤ sizeLine) (hdf : d.params.defaults = []) (himp : importsNone q = true) (hr : Room k callerA) (hY : ∀ (w : World) (h : Heap), YP w h → (K w.params).In h)
    (F : ∀ (w : World) (mg : Str → Option Value) (fa : Addr) (h : Heap), (K w.params).In h → h.Ns mainGlobals mg → mg d.name = some (.ref fa) →
      ∃ fd : FuncData, (∀ (s : Shared) (u : Value), BindsTo s fd ⟨[u], []⟩ [(x, u)]) ∧
        ∀ base : Heap, (K w.params).In base → base.Ns mainGlobals mg → FnG l.prog w (K w.params) mg base CX0 k fa fd [x] (sp w))
    (hsp : ∀ (w : World) (H : Hp) (a : Addr) (ns : List Int), ns.length ≤ n → Sys (K w.params) H → SqL (K w.params) H a (ns.map V.int) → sp w [.ref a] H (fun v _ => v = .bl true) fun _ _ _ => False) :
    PySem.W.WalkO q loose XP YP l.row.toRowW d [] (fun f vs => PySem.call f vs) := by
  refine Att.attach_call hn hdf fun w s₀ s₁ mg mb fa o pm cd doc a vs ns G Y ho hd hcd hmg hobj hints hlen hg => ?_
  obtain ⟨fd, hb, hF⟩ := F w mg fa _ (hY w _ Y) G.T.g hmg
  obtain ⟨mm, hmm, _⟩ := (G.T.seer himp).mods
  exact law_endS (hY w _ Y) G.T.g G.T.b G.T.builtins ⟨mm, hmm⟩ G.T.nolimit hg hobj hints (Nat.le_trans hlen hn2) hr hF hb (fun _ _ _ z => z) fun H hO hS => hsp w H a ns hlen hO hS
end Tp

set_option Elab.async false
set_option linter.all false
set_option maxRecDepth 100000
set_option maxHeartbeats 4000000
namespace Tp
open PySem PySem.Spec PyProof.Rows L2
/-! ### a raise amid a loop over a dict: the lock goes -/
theorem takes_unlock {X : Cx} {W : WX} (tk : Takes X W) : Takes X (fun cls e σ H' => ∃ d od u, H' d = some (.frz od u) ∧ (∀ o' u', X.H_0 d ≠ some (.frz o' u')) ∧ W cls e σ (upd H' d u)) := by
  rintro u s' ⟨a, B, sI, pins, σ, H, cls, e, rfl, I, nb, up, sky, na, os, ag, d, od, u, hd, nf, w⟩
  exact tk _ s' ⟨a, B, sI, pins, σ, _, cls, e, rfl, I.unlock hd nf, nb, up, sky, by rw [upd_ne (fun z => by rw [z, hd] at na; cases na)]; exact na, os, ag, w⟩
/-! ### defs that raise -/
section
variable {P : Program} {w : World} {K : PySem.W.Frag} {mg : Str → Option Value} {base : Heap} {k : Nat} {f : Addr} {fd : FuncData} {ps : List Str} {sp : Sp}
theorem okX {x qual : Str} {st : Stmt} {N : List Str} (F : Fun K x qual st f fd) (S : FnScope N ps (defScope st)) (ar : ∀ vs H Q E, sp vs H Q E → vs.length = ps.length)
    (bd : ∀ (cdv : Value) (A : Around) (outer : List Env) (s : Shared) (H : Hp) (vs : List V) (Q : VK) (E : XK),
      Room k (A.deeper (envOfC qual (defScope st) s.heap.objs.size f cdv)) → sp vs H Q E →
      Takes (cxOf (L2.CX P w) P w K mg base N qual (defScope st) f cdv A outer s H E) (fun cls d _ H => E cls d H) →
      PassesOwn (model P w) (cxOf (L2.CX P w) P w K mg base N qual (defScope st) f cdv A outer s H E).A (cxOf (L2.CX P w) P w K mg base N qual (defScope st) f cdv A outer s H E).env (cxOf (L2.CX P w) P w K mg base N qual (defScope st) f cdv A outer s H E).xe →
      ∃ t, PSs (cxOf (L2.CX P w) P w K mg base N qual (defScope st) f cdv A outer s H E) (defBody st) t ∧ t { nx := fun _ H' => Q .non H', rt := Q } (start N vs) H) :
    FnOk P w K mg base (L2.CX P w) (k + 1) f fd ps sp := by
  obtain ⟨oc, od, kV, doc, pm, an, cdv, ct, osl, rfl, lk, hcd⟩ := F.ex
  refine fn_of lk hcd S ar fun A outer s H vs Q E hr hsp => ?_
  exact bd cdv A outer s H vs Q E hr hsp (takes_of rfl rfl rfl rfl) (passes_of rfl)
theorem okN {x qual : Str} {st : Stmt} {N : List Str} (F : Fun K x qual st f fd) (S : FnScope N ps (defScope st)) (ar : ∀ vs H Q E, sp vs H Q E → vs.length = ps.length)
    (bd : ∀ (cdv : Value) (A : Around) (outer : List Env) (s : Shared) (H : Hp) (vs : List V) (Q : VK) (E : XK),
      Room k (A.deeper (envOfC qual (defScope st) s.heap.objs.size f cdv)) → sp vs H Q E →
      ∃ t, PSs (cxOf CX0 P w K mg base N qual (defScope st) f cdv A outer s H E).nox (defBody st) t ∧ t { nx := fun _ H' => Q .non H', rt := Q } (start N vs) H) :
    FnOk P w K mg base CX0 (k + 1) f fd ps sp := by
  obtain ⟨oc, od, kV, doc, pm, an, cdv, ct, osl, rfl, lk, hcd⟩ := F.ex
  refine fn_of lk hcd S ar fun A outer s H vs Q E hr hsp => ?_
  obtain ⟨t, h, q⟩ := bd cdv A outer s H vs Q E hr hsp
  exact ⟨t, h.nox, q⟩
end
/-! ### a != b of two lists with the very same things in them -/
def Solid (v : V) : Prop := flatB v = true ∨ ∃ a, v = .ref a
def rNeL (K : PySem.W.Frag) : R2 := fun x y H Q => ∃ a b xs, x = .ref a ∧ y = .ref b ∧ SqL K H a xs ∧ SqL K H b xs ∧ (∀ v ∈ xs, Solid v) ∧ Q (.bl false) H
theorem op_neL {X : Cx} (hu : X.A.units + 64 < cLine) : OpR X (compareOp .NotEq) (rNeL X.K) := by
  intro pins s σ H x y v u Q I rx ry h
  obtain ⟨a, b, xs, rfl, rfl, ha, hb, hv, q⟩ := h
  cases (show v = Value.ref a from rx)
  cases (show u = Value.ref b from ry)
  obtain ⟨us, r1, p1, _⟩ := I.list ha
  obtain ⟨ws, r2, p2, _⟩ := I.list hb
  have hsz : us.toArray.size = ws.toArray.size := by
    rw [List.size_toArray, List.size_toArray, ← r1.length, ← r2.length]
  have each : ∀ {xs : List V} {us ws : List Value}, (∀ v ∈ xs, Solid v) → Vals xs us → Vals xs ws → ∀ j (h1 : j < us.length) (h2 : j < ws.length), SeqAt.EqAt X.A.in1 s us[j] ws[j] true := by
    intro xs
    induction xs with
    | nil => intro us ws _ r1 r2 j h1 h2; cases r1; exact absurd h1 (Nat.not_lt_zero j)
    | cons x xs ih =>
      intro us ws hv r1 r2 j h1 h2
      cases r1 with
      | cons a1 b1 =>
        cases r2 with
        | cons a2 b2 =>
          cases j with
          | zero =>
            rcases hv x List.mem_cons_self with f | ⟨c, rfl⟩
            · exact eqAt_same a1 a2 f
            · cases a1
              cases a2
              exact SeqAt.EqAt.same _
          | succ j => exact ih (fun v m => hv v (List.mem_cons_of_mem _ m)) b1 b2 j (Nat.lt_of_succ_lt_succ h1) (Nat.lt_of_succ_lt_succ h2)
  refine SeqAt.RcNeAt.lists (e := fun _ => true) p1.isList p2.isList hsz (by omega) (fun j h1 h2 => ?_) X.prog X.w _ _ ?_
  · have k := each hv r1 r2 j (by simpa using h1) (by simpa using h2)
    simpa using k
  · rw [show ((List.range us.toArray.size).all fun _ => true) = true from List.all_eq_true.mpr fun _ _ => rfl]
    exact ⟨.bl false, H, I, rfl, q⟩
/-! ### classes in except and isinstance -/
theorem kit_ref {K : PySem.W.Frag} {C : Addr} {t : Value} {b : Bool} (ne : (t == Value.ref C) = false) (hd : PySem.W.hasDictIn K C = true) (ht : PySem.W.typeIn K (.ref C) = some (.type "type")) (h : PySem.W.subIn K t (.ref C) = some b) : PySem.W.kitOne K t (.ref C) = some b := by
  obtain ⟨cd, hc, _⟩ := PySem.W.any_some hd
  unfold PySem.W.kitOne PySem.W.kitCls
  rw [if_neg (by rw [ne]; exact Bool.false_ne_true)]
  show (if ((PySem.W.clsIn K C).isSome && PySem.W.typeIn K (.ref C) == some (.type "type")) = true then PySem.W.subIn K t (.ref C) else none) = some b
  rw [if_pos (by rw [hc, ht] <;> rfl)]
  exact h
theorem kit_refT {K : PySem.W.Frag} {C : Addr} {t : Value} (hd : PySem.W.hasDictIn K C = true) (ht : PySem.W.typeIn K (.ref C) = some (.type "type")) (h : PySem.W.subIn K t (.ref C) = some true) : PySem.W.kitOne K t (.ref C) = some true := by
  obtain ⟨cd, hc, _⟩ := PySem.W.any_some hd
  unfold PySem.W.kitOne PySem.W.kitCls
  split
  · rfl
  · show (if ((PySem.W.clsIn K C).isSome && PySem.W.typeIn K (.ref C) == some (.type "type")) = true then PySem.W.subIn K t (.ref C) else none) = some true
    rw [if_pos (by rw [hc, ht] <;> rfl)]
    exact h
theorem kit_self {K : PySem.W.Frag} {t : Value} : PySem.W.kitOne K t t = some true := by
  unfold PySem.W.kitOne
  rw [if_pos (beq_self_eq_true t)]
theorem kit_own {K : PySem.W.Frag} {C : Addr} {n : String} {b : Bool} (h : PySem.W.subIn K (.ref C) (.type n) = some b) (hm : PySem.W.kitMeta n = true) : PySem.W.kitOne K (.ref C) (.type n) = some b := by
  unfold PySem.W.kitOne PySem.W.kitCls
  rw [if_neg (by intro q; cases q)]
  show (if PySem.W.kitMeta n = true then PySem.W.subIn K (.ref C) (.type n) else none) = some b
  rw [if_pos hm]
  exact h
theorem hu1 {k : Nat} {A : Around} (hr : Room k A) : A.units + 1 < cLine := Nat.lt_of_le_of_lt (by omega) hr.units
theorem hu0 {k : Nat} {A : Around} (hr : Room k A) : A.units < cLine := hr.units0
theorem takes0 {X : Cx} : Takes X (fun _ _ _ _ => False) := fun _ _ ⟨_, _, _, _, _, _, _, _, _, _, _, _, _, _, _, _, w⟩ => w.elim
/-! ### for k in e, e a dict that nobody else needs to write: it is locked for good -/
def iKeysL (td : TE) : TI := fun σ H R => td σ H fun x H1 => ∃ d kvs, x = .ref d ∧ H1 d = some (.dK kvs) ∧ ∀ o, R (Itk d o kvs) (upd H1 d (.frz o (.dK kvs)))
theorem pi_keysL {X : Cx} {tg e : Expr} {td : TE} (he : PE X e td) : PI X tg e (iKeysL td) := by
  refine ⟨fun pins s σ H R I h => ?_⟩
  have hk : PI X tg e (iKeys td) := pi_keys he
  refine thn (he.run pins s σ H _ I h) fun u s1 ⟨x, H1, I1, rx, d, kvs, ex, hd, q⟩ => ?_
  subst ex
  obtain rfl : u = Value.ref d := rx
  obtain ⟨od, I2⟩ := I1.lock hd trivial
  have hd2 : (upd H1 d (.frz od (.dK kvs))) d = some (.frz od (.dK kvs)) := upd_same
  obtain ⟨hs, hgd, hx, es, ep, vs, hdt, hsz, kv, hm⟩ := I2.frzK hd2
  refine iter_keys hs hgd hx hdt (pi_one (tk := s1.toks) I2 _ (turn_keys _ hdt) ⟨_, Heap.get?_push_size _ rfl, rfl, ?_⟩ (q od))
  rw [hsz] <;> rfl
/-- a dict comprehension over a walk -/
theorem dc_it {J : It} {n : Nat} {G : Hp → Prop} {Y : Nat → Hp → V → Hp → Prop} (w : Walk J n G Y) {g : TG} {tt : TT} {tk tv : TE} {vs : List Nat} {σ : L2.St} {H1 : Hp} {D : Addr} {Qd : Hp → Prop} (Pv : Nat → Hp → Prop) (h0 : Pv 0 (upd H1 D (.dK []))) (hG : ∀ i H, i ≤ n → Pv i H → G H)
    (hs : ∀ i x H H', i < n → Pv i H → Y i H x H' → g x (wipe σ vs) H' fun σ2 H2 => wipe σ2 vs = wipe σ vs ∧ tt σ2 H2 fun b H3 =>
      if b = true then tk σ2 H3 fun y H4 => tv σ2 H4 fun z H5 => ∃ kvs k, y = kV k ∧ H5 D = some (.dK kvs) ∧ kvs.length < sizeLine ∧ Pv (i + 1) (upd H5 D (.dK (putK kvs k z))) else Pv (i + 1) H3) (hd : ∀ H, Pv n H → Qd H) :
    ∃ W : Nat → Nat → Hp → Prop, (∃ m, W 0 m (upd H1 D (.dK []))) ∧ ∀ i m H, W i m H →
      (J.stop i H ∧ Qd H) ∨ (J.go i H ∧ ∃ Nx : Hp → Prop, (∀ H', Nx H' → ∃ m', m' < m ∧ W (i + 1) m' H') ∧ ∀ x H', J.yld i H x H' → g x (wipe σ vs) H' fun σ2 H2 => wipe σ2 vs = wipe σ vs ∧ tt σ2 H2 fun b H3 =>
        if b = true then tk σ2 H3 fun y H4 => tv σ2 H4 fun z H5 => ∃ kvs k, y = kV k ∧ H5 D = some (.dK kvs) ∧ kvs.length < sizeLine ∧ Nx (upd H5 D (.dK (putK kvs k z))) else Nx H3) := by
  refine ⟨fun i m H => m = n - i ∧ i ≤ n ∧ Pv i H, ⟨n, by simp, Nat.zero_le _, h0⟩, ?_⟩
  rintro i m H ⟨rfl, hi, p⟩
  have q := hG i H hi p
  by_cases hlt : i < n
  · exact .inr ⟨w.goes i H hlt q, Pv (i + 1), fun H' p' => ⟨n - (i + 1), by omega, rfl, hlt, p'⟩, fun x H' y => hs i x H H' hlt p (w.yields i H x H' hlt q y)⟩
  · have e : i = n := by omega
    subst e
    exact .inl ⟨w.stops H q, hd H p⟩
/-- k in d, k not in d, d a dict -/
theorem op_inDk {X : Cx} (hu : X.A.units + 1 < cLine) : OpR X (compareOp .In) (fun x y H Q => ∃ a o, y = .ref a ∧ DGet H a x o ∧ Q (.bl o.isSome) H) := by
  intro pins s σ H x y v u Q I rx ry h
  obtain ⟨a, o, rfl, g, q⟩ := h
  obtain rfl : u = Value.ref a := ry
  exact d_in hu I g rx fun s3 I3 => ⟨.bl o.isSome, H, I3, rfl, q⟩
theorem op_notInDk {X : Cx} (hu : X.A.units + 1 < cLine) : OpR X (compareOp .NotIn) (fun x y H Q => ∃ a o, y = .ref a ∧ DGet H a x o ∧ Q (.bl (!o.isSome)) H) := by
  intro pins s σ H x y v u Q I rx ry h
  obtain ⟨a, o, rfl, g, q⟩ := h
  obtain rfl : u = Value.ref a := ry
  exact d_notIn hu I g rx fun s3 I3 => ⟨.bl (!o.isSome), H, I3, rfl, q⟩
/-- e.f within a comprehension: K is told by name -/
theorem pe_fldK {X : Cx} {K : PySem.W.Frag} {e : Expr} {f : Str} {ta : TE} {pos : Pos} (hK : X.K = K) (he : PE X e ta) (hb : attributeBase e f X.env (eval e X.env) = eval e X.env) : PE X (.Attribute e f pos) (tFld K ta f) := by
  subst hK
  exact pe_fld he hb
end Tp

set_option Elab.async false
set_option linter.all false
set_option maxRecDepth 100000
set_option maxHeartbeats 4000000
namespace Tp
open PySem PySem.Spec PyProof.Rows L2
/-! ### dicts of names and ints as rows -/
abbrev Row := List (Str × Int)
def kvR (r : Row) : List (Key × V) := r.map fun p => (Sum.inr p.1, .int p.2)
def atR (r : Row) (x : Str) : Option Int := (r.find? fun p => decide (p.1 = x)).map (·.2)
def putR (r : Row) (x : Str) (i : Int) : Row := if (r.any fun p => decide (p.1 = x)) = true then r.map (fun p => if p.1 = x then (p.1, i) else p) else r ++ [(x, i)]
def fnR (r : Row) (x : Str) : Int := (atR r x).getD 0
def nzR (r : Row) : Row := r.filter fun p => decide (p.2 ≠ 0)
def eqR (r s : Row) : Bool := r.length == s.length && r.all fun p => atR s p.1 == some p.2
def NdR (r : Row) : Prop := (r.map (·.1)).Nodup
def FullR (r : Row) : Prop := ∀ p ∈ r, p.2 ≠ 0
theorem kvR_length (r : Row) : (kvR r).length = r.length := List.length_map _
theorem atR_nil {x : Str} : atR [] x = none := rfl
theorem atR_cons {p : Str × Int} {r : Row} {x : Str} : atR (p :: r) x = if p.1 = x then some p.2 else atR r x := by
  by_cases e : p.1 = x
  · rw [if_pos e]; simp [atR, List.find?_cons, e]
  · rw [if_neg e]; simp [atR, List.find?_cons, e]
theorem val_kvR (x : Str) : ∀ r : Row, valV (kvR r) (Sum.inr x) = (atR r x).map V.int
  | [] => rfl
  | p :: r => by
    rw [atR_cons]
    by_cases e : p.1 = x
    · rw [if_pos e]
      exact valV_pos (p := (Sum.inr p.1, V.int p.2)) (by rw [e])
    · rw [if_neg e]
      exact (valV_neg (p := (Sum.inr p.1, V.int p.2)) (fun z => e (Sum.inr.inj z))).trans (val_kvR x r)
theorem put_kvR (r : Row) (x : Str) (i : Int) : putK (kvR r) (Sum.inr x) (.int i) = kvR (putR r x i) := by
  unfold putK putR
  have h : ((kvR r).any fun kv => decide (kv.1 = (Sum.inr x : Key))) = r.any fun p => decide (p.1 = x) := by
    unfold kvR
    rw [List.any_map]
    congr 1
    funext p
    simp
  rw [h]
  by_cases c : (r.any fun p => decide (p.1 = x)) = true
  · rw [if_pos c, if_pos c]
    unfold kvR
    rw [List.map_map, List.map_map]
    congr 1
    funext p
    by_cases e : p.1 = x
    · simp [e]
    · simp [e]
  · rw [if_neg c, if_neg c]
    unfold kvR
    rw [List.map_append]
    rfl
theorem atR_map (x : Str) (i : Int) (y : Str) : ∀ r : Row, atR (r.map fun p => if p.1 = x then (p.1, i) else p) y = if y = x then (atR r y).map fun _ => i else atR r y
  | [] => by by_cases e : y = x <;> simp [e, atR]
  | p :: r => by
    rw [List.map_cons, atR_cons, atR_cons, atR_map x i y r]
    by_cases e : p.1 = x
    · by_cases h : y = x
      · subst h; simp [e]
      · have : ¬ p.1 = y := fun z => h (z.symm.trans e)
        have h' : ¬ x = y := fun z => h z.symm
        simp [e, h, h']
    · by_cases h : y = x
      · subst h; simp [e]
      · simp [e, h]
theorem atR_append (r s : Row) (y : Str) : atR (r ++ s) y = (atR r y).or (atR s y) := by
  induction r with
  | nil => simp [atR]
  | cons p r ih =>
    rw [List.cons_append, atR_cons, atR_cons, ih]
    by_cases e : p.1 = y
    · simp [e]
    · simp [e]
theorem any_at (x : Str) : ∀ r : Row, (r.any fun p => decide (p.1 = x)) = (atR r x).isSome
  | [] => rfl
  | p :: r => by
    rw [List.any_cons, atR_cons, any_at x r]
    by_cases e : p.1 = x
    · simp [e]
    · simp [e]
theorem atR_put (r : Row) (x : Str) (i : Int) (y : Str) : atR (putR r x i) y = if y = x then some i else atR r y := by
  unfold putR
  rw [any_at]
  cases h : atR r x with
  | some j =>
    rw [if_pos (show (some j).isSome = true from rfl), atR_map]
    by_cases e : y = x
    · subst e; rw [if_pos rfl, if_pos rfl, h]; rfl
    · rw [if_neg e, if_neg e]
  | none =>
    rw [if_neg (by simp), atR_append, atR_cons]
    by_cases e : y = x
    · subst e; rw [h, if_pos rfl, if_pos rfl]; rfl
    · rw [if_neg e, if_neg (fun z => e z.symm)]; cases atR r y <;> rfl
theorem fnR_put (r : Row) (x : Str) (i : Int) (y : Str) : fnR (putR r x i) y = if y = x then i else fnR r y := by
  unfold fnR
  rw [atR_put]
  split <;> rfl
theorem at_none {x : Str} : ∀ {r : Row}, atR r x = none ↔ x ∉ r.map (·.1)
  | [] => by simp [atR]
  | p :: r => by
    rw [atR_cons, List.map_cons, List.mem_cons]
    by_cases e : p.1 = x
    · rw [if_pos e]; simp [e]
    · rw [if_neg e, at_none (r := r)]
      exact ⟨fun h z => z.elim (fun z => e z.symm) h, fun h z => h (.inr z)⟩
theorem at_mem {x : Str} {i : Int} : ∀ {r : Row}, atR r x = some i → (x, i) ∈ r
  | [], h => by cases h
  | p :: r, h => by
    rw [atR_cons] at h
    by_cases e : p.1 = x
    · rw [if_pos e] at h; cases h; rw [← e]; exact List.mem_cons_self
    · rw [if_neg e] at h; exact List.mem_cons_of_mem _ (at_mem h)
theorem mem_at {p : Str × Int} : ∀ {r : Row}, NdR r → p ∈ r → atR r p.1 = some p.2
  | q :: r, nd, h => by
    rw [atR_cons]
    have nd' := List.nodup_cons.mp (show (q.1 :: r.map (·.1)).Nodup from nd)
    rcases List.mem_cons.mp h with rfl | h
    · rw [if_pos rfl]
    · rw [if_neg (fun z => nd'.1 (by rw [z]; exact List.mem_map_of_mem h))]
      exact mem_at nd'.2 h
theorem nd_put {r : Row} (nd : NdR r) (x : Str) (i : Int) : NdR (putR r x i) := by
  unfold putR
  by_cases c : (r.any fun p => decide (p.1 = x)) = true
  · rw [if_pos c]
    unfold NdR
    rw [List.map_map]
    have : ((fun p : Str × Int => p.1) ∘ fun p : Str × Int => if p.1 = x then (p.1, i) else p) = fun p => p.1 := by
      funext p
      by_cases e : p.1 = x <;> simp [e]
    rw [this]
    exact nd
  · rw [if_neg c]
    unfold NdR
    rw [List.map_append, List.nodup_append]
    refine ⟨nd, by simp, fun a ha b hb e => ?_⟩
    simp at hb
    subst hb
    subst e
    rw [any_at] at c
    have : atR r a = none := by
      cases h : atR r a with
      | none => rfl
      | some j => rw [h] at c; exact absurd rfl c
    exact at_none.mp this ha
theorem put_new {r : Row} {x : Str} (h : x ∉ r.map (·.1)) (i : Int) : putR r x i = r ++ [(x, i)] := by
  unfold putR
  rw [any_at, at_none.mpr h]
  exact if_neg (by simp)
theorem nd_sub {r s : Row} (h : List.Sublist s r) (nd : NdR r) : NdR s := List.Nodup.sublist (h.map _) nd
theorem nz_nd {r : Row} (nd : NdR r) : NdR (nzR r) := nd_sub List.filter_sublist nd
theorem nz_full (r : Row) : FullR (nzR r) := fun p hp => of_decide_eq_true (List.mem_filter.mp hp).2
theorem nz_fn {r : Row} (nd : NdR r) (x : Str) : fnR (nzR r) x = fnR r x := by
  unfold fnR
  cases h : atR r x with
  | none =>
    have : atR (nzR r) x = none := at_none.mpr fun z => by
      obtain ⟨p, hp, e⟩ := List.mem_map.mp z
      exact at_none.mp h (by rw [← e]; exact List.mem_map_of_mem (List.mem_filter.mp hp).1)
    rw [this]
  | some i =>
    by_cases z : i = 0
    · have : atR (nzR r) x = none := at_none.mpr fun q => by
        obtain ⟨p, hp, e⟩ := List.mem_map.mp q
        have e2 := mem_at nd (List.mem_filter.mp hp).1
        rw [e, h] at e2
        cases e2
        exact of_decide_eq_true (List.mem_filter.mp hp).2 z
      rw [this, z]; rfl
    · rw [mem_at (p := (x, i)) (nz_nd nd) (List.mem_filter.mpr ⟨at_mem h, decide_eq_true z⟩)]
theorem fn_at {r : Row} (h : FullR r) {x : Str} : atR r x = if fnR r x = 0 then none else some (fnR r x) := by
  unfold fnR
  cases e : atR r x with
  | none => rfl
  | some i => exact (if_neg (h _ (at_mem e))).symm
theorem sub_len {α : Type} [DecidableEq α] : ∀ {l m : List α}, l.Nodup → (∀ x ∈ l, x ∈ m) → l.length ≤ m.length
  | [], m, _, _ => Nat.zero_le _
  | x :: l, m, nd, h => by
    obtain ⟨n1, n2⟩ := List.nodup_cons.mp nd
    have hx : x ∈ m := h x List.mem_cons_self
    have := sub_len (l := l) (m := m.erase x) n2 fun y hy => (List.mem_erase_of_ne (fun z => n1 (by rw [← z]; exact hy))).mpr (h y (List.mem_cons_of_mem _ hy))
    rw [List.length_erase_of_mem hx] at this
    have : 0 < m.length := List.length_pos_of_mem hx
    simp only [List.length_cons]
    omega
theorem sub_all {α : Type} [DecidableEq α] {l m : List α} (nd : l.Nodup) (h : ∀ x ∈ l, x ∈ m) (hl : m.length ≤ l.length) : ∀ x ∈ m, x ∈ l := fun x hx => by
  refine Classical.byContradiction fun n => ?_
  have := sub_len (l := x :: l) (m := m) (List.nodup_cons.mpr ⟨n, nd⟩) fun y hy => (List.mem_cons.mp hy).elim (fun e => by rw [e]; exact hx) (h y)
  simp only [List.length_cons] at this
  omega
theorem nd_of {r : Row} (nd : NdR r) : r.Nodup := List.Pairwise.of_map (·.1) (fun a b h e => h (by rw [e])) nd
theorem eqR_iff {r s : Row} (nr : NdR r) (ns : NdR s) (fr : FullR r) (fs : FullR s) : eqR r s = true ↔ ∀ x, fnR r x = fnR s x := by
  have keys : (∀ x, fnR r x = fnR s x) → ∀ x, atR r x = atR s x := fun h x => by rw [fn_at fr, fn_at fs, h x]
  constructor
  · intro h x
    obtain ⟨hl, ha⟩ := Bool.and_eq_true_iff.mp h
    have hl : r.length = s.length := beq_iff_eq.mp hl
    have ha : ∀ p ∈ r, atR s p.1 = some p.2 := fun p hp => beq_iff_eq.mp (List.all_eq_true.mp ha p hp)
    have sub : ∀ p ∈ r, p ∈ s := fun p hp => at_mem (ha p hp)
    have back := sub_all (nd_of nr) sub (by omega)
    unfold fnR
    have : atR r x = atR s x := by
      cases e : atR r x with
      | some i => exact (ha _ (at_mem e)).symm
      | none =>
        refine (at_none.mpr fun z => at_none.mp e ?_).symm
        obtain ⟨p, hp, e⟩ := List.mem_map.mp z
        exact List.mem_map.mpr ⟨p, back p hp, e⟩
    rw [this]
  · intro h
    have k := keys h
    have sub1 : ∀ p ∈ r, p ∈ s := fun p hp => at_mem (by rw [← k]; exact mem_at nr hp)
    have sub2 : ∀ p ∈ s, p ∈ r := fun p hp => at_mem (by rw [k]; exact mem_at ns hp)
    have l1 := sub_len (nd_of nr) sub1
    have l2 := sub_len (nd_of ns) sub2
    refine Bool.and_eq_true_iff.mpr ⟨beq_iff_eq.mpr (by omega), List.all_eq_true.mpr fun p hp => beq_iff_eq.mpr ?_⟩
    rw [← k]
    exact mem_at nr hp
theorem kv_names (r : Row) : (kvR r).map (·.1) = (r.map (·.1)).map Sum.inr := by
  unfold kvR
  rw [List.map_map, List.map_map]
  rfl
theorem kv_nd {r : Row} (nd : NdR r) : ((kvR r).map (·.1)).Nodup := by
  rw [kv_names]
  exact List.Pairwise.map _ (fun a b (h : a ≠ b) e => h (Sum.inr.inj e)) nd
theorem at_of_mem {r : Row} {n : Str} (h : n ∈ r.map (·.1)) : atR r n = some (fnR r n) := by
  unfold fnR
  cases e : atR r n with
  | none => exact absurd h (at_none.mp e)
  | some i => rfl
/-- the rows of r at the names ys, without those of 0 -/
def pickR (r : Row) (ys : List Str) : Row := (ys.filter fun n => decide (fnR r n ≠ 0)).map fun n => (n, fnR r n)
theorem pick_names (r : Row) (ys : List Str) : (pickR r ys).map (·.1) = ys.filter fun n => decide (fnR r n ≠ 0) := by
  unfold pickR
  rw [List.map_map]
  exact List.map_id _
theorem pick_nd {r : Row} {ys : List Str} (h : ys.Nodup) : NdR (pickR r ys) := by
  unfold NdR
  rw [pick_names]
  exact h.sublist List.filter_sublist
theorem pick_full (r : Row) (ys : List Str) : FullR (pickR r ys) := fun p hp => by
  obtain ⟨n, hn, rfl⟩ := List.mem_map.mp hp
  exact of_decide_eq_true (List.mem_filter.mp hn).2
theorem fn_mem {r : Row} {n : Str} (h : fnR r n ≠ 0) : (n, fnR r n) ∈ r := by
  unfold fnR at h ⊢
  cases e : atR r n with
  | none => rw [e] at h; exact absurd rfl h
  | some i => exact at_mem e
theorem pick_mem {r : Row} {ys : List Str} : ∀ p ∈ pickR r ys, p ∈ r := fun p hp => by
  obtain ⟨n, hn, rfl⟩ := List.mem_map.mp hp
  exact fn_mem (of_decide_eq_true (List.mem_filter.mp hn).2)
theorem pick_fn {r : Row} {ys : List Str} (h : ys.Nodup) (hm : ∀ p ∈ r, p.1 ∈ ys) (x : Str) : fnR (pickR r ys) x = fnR r x := by
  by_cases z : fnR r x = 0
  · have : atR (pickR r ys) x = none := at_none.mpr fun q => by
      rw [pick_names] at q
      exact of_decide_eq_true (List.mem_filter.mp q).2 z
    rw [z]
    unfold fnR
    rw [this]
    rfl
  · have m : (x, fnR r x) ∈ pickR r ys := List.mem_map.mpr ⟨x, List.mem_filter.mpr ⟨hm _ (fn_mem z), decide_eq_true z⟩, rfl⟩
    have := mem_at (pick_nd h) m
    show (atR (pickR r ys) x).getD 0 = fnR r x
    rw [this]
    rfl
theorem pick_take {r : Row} {ys : List Str} {i : Nat} {n : Str} (hi : ys[i]? = some n) : pickR r (ys.take (i + 1)) = if fnR r n ≠ 0 then pickR r (ys.take i) ++ [(n, fnR r n)] else pickR r (ys.take i) := by
  unfold pickR
  rw [List.take_add_one, hi]
  simp only [Option.toList_some, List.filter_append, List.map_append]
  by_cases z : fnR r n = 0
  · simp [z]
  · simp [z]
theorem pick_put {r : Row} {ys : List Str} (h : ys.Nodup) {i : Nat} {n : Str} (hi : ys[i]? = some n) (z : fnR r n ≠ 0) : putK (kvR (pickR r (ys.take i))) (Sum.inr n) (.int (fnR r n)) = kvR (pickR r (ys.take (i + 1))) := by
  rw [put_kvR, pick_take hi, if_pos z, put_new]
  rw [pick_names]
  intro q
  have q := (List.mem_filter.mp q).1
  obtain ⟨hlt, e⟩ := List.getElem?_eq_some_iff.mp hi
  obtain ⟨j, hj, ej⟩ := List.mem_iff_getElem.mp q
  rw [List.length_take] at hj
  rw [List.getElem_take] at ej
  exact (List.pairwise_iff_getElem.mp h) j i (by omega) hlt (by omega) (ej.trans e.symm)
/-! ### == and != of such dicts -/
theorem hitsI {A : Around} {s : Shared} {b : Row} {vb : List (Key × Value)} (rb : KV (kvR b) vb) : ∀ {r : Row} {va : List (Key × Value)}, KV (kvR r) va → PySem.W.KeqHits A s vb va (r.all fun p => atR b p.1 == some p.2)
  | [], va, h => by cases h; exact .nil
  | p :: r, va, h => by
    cases h with
    | @cons _ q _ qs h1 t =>
      obtain ⟨e1, e2⟩ := h1
      obtain ⟨key, v⟩ := q
      have e1 : (Sum.inr p.1 : Key) = key := e1
      subst e1
      obtain ⟨tk, rfl⟩ := (show ∃ t, v = Value.int p.2 t from e2)
      have ih := hitsI (A := A) (s := s) rb (show KV (kvR r) qs from t)
      have rr : RelO (valV (kvR b) (Sum.inr p.1)) (valueAt vb (Sum.inr p.1)) := rb.val _
      rw [val_kvR] at rr
      rw [List.all_cons]
      cases e : atR b p.1 with
      | none =>
        rw [e] at rr
        exact .miss (RelO.none_of rr)
      | some j =>
        rw [e] at rr
        obtain ⟨y, hy, ry⟩ := RelO.some_of rr
        obtain ⟨t2, rfl⟩ := (show ∃ t, y = Value.int j t from ry)
        have : (some j == some p.2) = (p.2 == j) := by
          by_cases z : p.2 = j
          · subst z; simp
          · rw [beq_eq_false_iff_ne.mpr z, beq_eq_false_iff_ne.mpr fun q => z (Option.some.inj q).symm]
        rw [this]
        exact .hit hy (SeqAt.EqAt.int_int _ _ _ _) ih
def rEqDI : R2 := fun x y H Q => ∃ a b r s, x = .ref a ∧ y = .ref b ∧ H a = some (.dK (kvR r)) ∧ H b = some (.dK (kvR s)) ∧ Q (.bl (eqR r s)) H
def rNeDI : R2 := fun x y H Q => ∃ a b r s, x = .ref a ∧ y = .ref b ∧ H a = some (.dK (kvR r)) ∧ H b = some (.dK (kvR s)) ∧ Q (.bl (!eqR r s)) H
section
variable {X : Cx}
theorem op_eqDI (hu : X.A.units < cLine) : OpR X (compareOp .Eq) rEqDI := by
  intro pins s σ H x y v u Q I rx ry h
  obtain ⟨a, b, r, t, rfl, rfl, ea, eb, q⟩ := h
  obtain rfl : v = Value.ref a := rx
  obtain rfl : u = Value.ref b := ry
  obtain ⟨_, ya, va, ra, da⟩ := (show ObjOk X.prog X.w H s.heap a (.dK (kvR r)) from I.hok a _ ea)
  obtain ⟨_, yb, vb, rb, db⟩ := (show ObjOk X.prog X.w H s.heap b (.dK (kvR t)) from I.hok b _ eb)
  refine PySem.W.keq_eq (knd := mixKind X.prog X.w) ya yb da db hu (fun _ => hitsI rb ra) (fin_bl I q ?_)
  unfold eqR
  rw [← ra.length, ← rb.length, kvR_length, kvR_length]
theorem op_neDI (hu : X.A.units < cLine) : OpR X (compareOp .NotEq) rNeDI := by
  intro pins s σ H x y v u Q I rx ry h
  obtain ⟨a, b, r, t, rfl, rfl, ea, eb, q⟩ := h
  obtain rfl : v = Value.ref a := rx
  obtain rfl : u = Value.ref b := ry
  obtain ⟨_, ya, va, ra, da⟩ := (show ObjOk X.prog X.w H s.heap a (.dK (kvR r)) from I.hok a _ ea)
  obtain ⟨_, yb, vb, rb, db⟩ := (show ObjOk X.prog X.w H s.heap b (.dK (kvR t)) from I.hok b _ eb)
  refine PySem.W.keq_ne (knd := mixKind X.prog X.w) ya yb da db hu (fun _ => hitsI rb ra) (fin_bl I q ?_)
  unfold eqR
  rw [← ra.length, ← rb.length, kvR_length, kvR_length]
end
end Tp

set_option Elab.async false
set_option linter.all false
set_option maxRecDepth 100000
set_option maxHeartbeats 4000000
namespace Tp
open PySem PySem.Spec PyProof.Rows L2
/-! ### sorted texts: there is just one order -/
def leS (a b : Str) : Prop := ¬ b.cps.toList < a.cps.toList
theorem leS_trans {a b c : Str} (h : leS a b) (k : leS b c) : leS a c := by
  have h : a.cps.toList ≤ b.cps.toList := h
  have k : b.cps.toList ≤ c.cps.toList := k
  exact List.le_trans h k
theorem leS_anti {a b : Str} (h : leS a b) (k : leS b a) : a = b := by
  have e : a.cps.toList = b.cps.toList := List.le_antisymm (show a.cps.toList ≤ b.cps.toList from h) k
  obtain ⟨⟨x⟩⟩ := a
  obtain ⟨⟨y⟩⟩ := b
  cases (show x = y from e)
  rfl
theorem rising_pair : ∀ (p : Str) (l : List Str), risingS p l = true → (p :: l).Pairwise leS
  | p, [], _ => by simp
  | p, x :: r, h => by
    obtain ⟨h1, h2⟩ := Bool.and_eq_true_iff.mp (show (!ltCps x.cps.toList p.cps.toList && risingS x r) = true from h)
    have h1 : leS p x := by
      rw [ltCps_eq] at h1
      have : decide (x.cps.toList < p.cps.toList) = false := by simpa using h1
      exact of_decide_eq_false this
    have ih := rising_pair x r h2
    refine List.pairwise_cons.mpr ⟨fun y hy => ?_, ih⟩
    rcases List.mem_cons.mp hy with rfl | hy
    · exact h1
    · exact leS_trans h1 ((List.pairwise_cons.mp ih).1 y hy)
theorem sorted_pair : ∀ (l : List Str), sortedS l = true → l.Pairwise leS
  | [], _ => .nil
  | x :: r, h => rising_pair x r h
theorem sorted_one {l m : List Str} (h : sortedS l = true) (k : sortedS m = true) (p : l.Perm m) : l = m :=
  p.eq_of_pairwise (fun a b _ _ h k => leS_anti h k) (sorted_pair l h) (sorted_pair m k)
theorem nodup_perm {α : Type} {l m : List α} (nl : l.Nodup) (nm : m.Nodup) (h : ∀ x, x ∈ l ↔ x ∈ m) : l.Perm m := by
  exact (List.perm_ext_iff_of_nodup nl nm).mpr h
theorem full_names {r s : Row} (nr : NdR r) (ns : NdR s) (fr : FullR r) (fs : FullR s) (h : ∀ x, fnR r x = fnR s x) : (r.map (·.1)).Perm (s.map (·.1)) := by
  refine nodup_perm nr ns fun x => ?_
  have key : ∀ {t : Row}, FullR t → (x ∈ t.map (·.1) ↔ fnR t x ≠ 0) := fun {t} ft => by
    constructor
    · intro hx
      have e := at_of_mem hx
      rw [fn_at ft] at e
      intro z
      rw [if_pos z] at e
      cases e
    · intro hz
      exact List.mem_map.mpr ⟨_, fn_mem hz, rfl⟩
  rw [key fr, key fs, h x]
end Tp

set_option Elab.async false
set_option linter.all false
set_option maxRecDepth 100000
set_option maxHeartbeats 4000000
namespace Tp
open PySem PySem.Spec PyProof.Rows L2
/-! ### rules whose reading names K, for use within a comprehension -/
section
variable {X : Cx} {K : PySem.W.Frag}
theorem call_dictPK (hK : X.K = K) (hcalm : X.calm = true) : CallR X (.type "dict") (fun xs H Q => ∃ (a : Addr) (ps : List Addr) (kvs : List (Key × V)), xs = [.ref a] ∧ SqL K H a (ps.map V.ref) ∧ Paired (fun p kv => SqT K H p [kV kv.1, kv.2]) ps kvs ∧
    ∀ p, H p = none → Q (.ref p) (upd H p (.dK (mergeK [] kvs)))) := by
  subst hK
  exact call_dictP hcalm
end
end Tp

set_option Elab.async false
set_option linter.all false
set_option maxRecDepth 100000
set_option maxHeartbeats 4000000
namespace Tp
open PySem PySem.Spec PyProof.Rows L2
/-! ### a list or a tuple: b says which (true: a tuple) -/
def SqB (b : Bool) (K : PySem.W.Frag) (H : Hp) (a : Addr) (xs : List V) : Prop := match b with
  | true => SqT K H a xs
  | false => SqL K H a xs
theorem SqT.same {K : PySem.W.Frag} {H H' : Hp} {a : Addr} {xs : List V} (S : Same H H') (h : SqT K H a xs) : SqT K H' a xs := by
  rcases h with (h | ⟨o, h⟩) | h
  · exact .inl (.inl (S _ _ h))
  · exact .inl (.inr ⟨o, S _ _ h⟩)
  · exact .inr h
theorem SqB.same {b : Bool} {K : PySem.W.Frag} {H H' : Hp} {a : Addr} {xs : List V} (S : Same H H') (h : SqB b K H a xs) : SqB b K H' a xs := by
  cases b with
  | true => exact SqT.same S h
  | false => exact Same.seq S h
def ItB (b : Bool) (K : PySem.W.Frag) (a : Addr) : It := match b with
  | true => Itt K a
  | false => Itl K a
theorem walk_B {b : Bool} {K : PySem.W.Frag} {a : Addr} {xs : List V} : Walk (ItB b K a) xs.length (fun H => SqB b K H a xs) (YAt xs) := by
  cases b with
  | true => exact walk_tup
  | false => exact walk_list
def iSeqB (K : PySem.W.Frag) (te : TE) : TI := fun σ H R => te σ H fun x H1 => ∃ (b : Bool) (a : Addr) (xs : List V), x = .ref a ∧ SqB b K H1 a xs ∧ R (ItB b K a) H1
section
variable {X : Cx} {K : PySem.W.Frag} {tg e : Expr} {te : TE}
theorem pi_B (hK : X.K = K) (he : PE X e te) : PI X tg e (iSeqB K te) := by
  subst hK
  refine ⟨fun pins s σ H R I h => ?_⟩
  refine thn (he.run pins s σ H _ I h) fun v s1 ⟨x, H1, I1, r1, b, a, xs, ex, hq, q⟩ => ?_
  subst ex
  cases r1
  cases b with
  | false =>
    obtain ⟨its, rv, p, hz⟩ := I1.list hq
    refine wpAny_pyIter_list p.isList ?_
    refine ⟨s1.heap.objs.size, [s1.heap.objs.size], _, _, H1, rfl, I1.kept (t' := s1.toks) fun b o e => Heap.get?_push_of_some _ e, turn_list a _, ⟨_, Heap.get?_push_size _ rfl, rfl, rfl⟩, fun b hb => ?_, q⟩
    have e : b = s1.heap.objs.size := by simpa using hb
    subst e
    exact I1.fpOk (Nat.le_refl _) (I1.hok.fresh (Nat.le_refl _))
  | true =>
    obtain ⟨its, rv, p, hz⟩ := I1.tuple hq
    refine wpAny_pyIter_tuple (show s1.heap.IsTuple a its.toArray from p) ?_
    refine ⟨s1.heap.objs.size, [s1.heap.objs.size], _, _, H1, rfl, I1.kept (t' := s1.toks) fun b o e => Heap.get?_push_of_some _ e, turn_tuple a _, ⟨_, Heap.get?_push_size _ rfl, rfl, rfl⟩, fun b hb => ?_, q⟩
    have e : b = s1.heap.objs.size := by simpa using hb
    subst e
    exact I1.fpOk (Nat.le_refl _) (I1.hok.fresh (Nat.le_refl _))
end
/-! ### enumerate of a tuple -/
def IteT (K : PySem.W.Frag) (a : Addr) : It :=
  ⟨fun i H => ∃ (xs : List V) (x : V), SqT K H a xs ∧ xs[i]? = some x, fun i H v H' => ∃ T x, v = .ref T ∧ H T = none ∧ H' = upd H T (.tup [.int (i : Nat), x]) ∧ ∀ xs, SqT K H a xs → xs[i]? = some x, fun i H => ∃ xs : List V, SqT K H a xs ∧ xs.length = i⟩
theorem tup_inj {X : Cx} {pins : List (Addr × Obj)} {σ : L2.St} {H : Hp} {s : Shared} {a : Addr} {xs ys : List V} (I : Inv X pins σ H s) (h : SqT X.K H a xs) (k : SqT X.K H a ys) : ys = xs := by
  obtain ⟨its, rv, p, _⟩ := I.tuple h
  obtain ⟨its', rv', p', _⟩ := I.tuple k
  obtain ⟨o, ho, _, n, hd⟩ := p
  obtain ⟨o', ho', _, n', hd'⟩ := p'
  rw [ho] at ho'
  cases ho'
  rw [hd] at hd'
  cases hd'
  exact Vals.inj rv' rv
theorem turn_enumT {P : Program} {w : World} {K : PySem.W.Frag} {elts : List Expr} {kk : Nat} {tpos : Pos} (a e it : Addr) :
    Turn P w K (.Tuple elts kk tpos) (IteT K a) [e, it] e (fun i h => (∃ old, IsEnum h e it ((i : Nat) : Int) old) ∧ h.IsTupleIter it a i ∧ e ≠ it ∧ a ≠ e ∧ a ≠ it) where
  mem := by simp
  obj := fun i h st b hb => by
    obtain ⟨⟨old, he⟩, ⟨o, ho, hc, hd⟩, _⟩ := st
    have e' : b = e ∨ b = it := by simpa using hb
    rcases e' with z | z
    · rw [z]; exact ⟨_, he, fun v q => nomatch q⟩
    · rw [z]; exact ⟨o, ho, fun v q => by rw [hd] at q; cases q⟩
  keep := fun i h h' st k => let ⟨⟨old, he⟩, ⟨o, ho, r⟩, hne⟩ := st; ⟨⟨old, k e (by simp) _ he⟩, ⟨o, k it (by simp) o ho, r⟩, hne⟩
  item := by
    intro X hP hw hK hc i pins s σ H E I hf st hg
    subst hP hw hK
    obtain ⟨⟨old, he⟩, hit, hne, hae, hai⟩ := st
    obtain ⟨xs, x, hq, hx⟩ := hg
    obtain ⟨its, rv, p, hz⟩ := I.tuple hq
    obtain ⟨u, hu, ru⟩ := rv.get hx
    have hel : e < s.heap.objs.size := Heap.lt_size he
    have hil : it < s.heap.objs.size := by obtain ⟨_, q, _⟩ := hit; exact Heap.lt_size q
    have hi : i < its.toArray.size := by
      have := (List.getElem?_eq_some_iff.mp hu).1
      simpa using this
    refine wpAny_pyNext_enum_itemD (Draws.tuple (A := X.A.in1) (show X.A.in1.handled = none from I.ok.hd hc) it a hai its.toArray) he ⟨hit, p⟩ hi hne (by simp [Ne.symm hae, hne]) fun x' h' tk hP ho hst hT hsz hk => ?_
    obtain ⟨hit', _⟩ := hst
    have ex : x' = u := by
      have h1 : its[i]? = some x' := by simpa using hP
      rw [hu] at h1
      exact (Option.some.inj h1).symm
    subst ex
    refine ⟨_, rfl, wpAny_letOwnedTupleGo_enum (s := { s with heap := h', toks := tk + 1 }) ho fun h'' he' sb => ?_⟩
    have hT2 : h''.get? s.heap.objs.size = some { cls := .type "tuple", data := .seq #[.int i tk, x'] } := (sb.2 _ (Nat.ne_of_gt hel)).trans hT
    have new : ObjOk X.prog X.w (upd H s.heap.objs.size (.tup [.int (i : Nat), x])) h'' s.heap.objs.size (.tup [.int (i : Nat), x]) :=
      ⟨by show 2 ≤ sizeLine; decide, [.int i tk, x'], .cons ⟨_, rfl⟩ (.cons ru .nil), ⟨_, hT2, rfl, _, rfl⟩⟩
    have I1 : Inv X pins σ (upd H s.heap.objs.size (.tup [.int (i : Nat), x])) { s with heap := h'', toks := tk + 1 } :=
      I.turnedNew (ch := [e, it]) (fun b ob hb q => (sb.2 b (fun z => hb (by simp [z]))).trans (hk b ob (fun z => hb (by simp [z])) (fun z => hb (by simp [z])) q)) hf (Nat.le_refl _) new
    refine ⟨.ref s.heap.objs.size, _, I1, rfl, ⟨_, x, rfl, I.hok.fresh (Nat.le_refl _), rfl, fun ys hy => by rw [tup_inj I hq hy]; exact hx⟩, ⟨⟨x', ?_⟩, ?_, hne, hae, hai⟩, fun b hb => ?_⟩
    · have e1 : ((i + 1 : Nat) : Int) = (i : Int) + 1 := by omega
      rw [e1]; exact he'
    · obtain ⟨o, ho2, r⟩ := hit'
      exact ⟨o, (sb.2 it (Ne.symm hne)).trans ho2, r⟩
    · have hb' : b < s.heap.objs.size := by
        have e' : b = e ∨ b = it := by simpa using hb
        rcases e' with z | z
        · rw [z]; exact hel
        · rw [z]; exact hil
      rw [upd_ne (Nat.ne_of_lt hb')]
      exact (hf b hb).1
  done := by
    intro X hP hw hK hc i pins s σ H E I hf st hg
    subst hP hw hK
    obtain ⟨⟨old, he⟩, hit, hne, hae, hai⟩ := st
    obtain ⟨xs, hq, hx⟩ := hg
    obtain ⟨its, rv, p, hz⟩ := I.tuple hq
    obtain ⟨f0, f1, f2, f3, f4, f5⟩ := hf it (by simp)
    have hl := rv.length
    have hi : its.toArray.size = i := by simp; omega
    refine wpAny_pyNext_enum_endD (Draws.tuple (A := X.A.in1) (show X.A.in1.handled = none from I.ok.hd hc) it a hai its.toArray) he (by rw [hi]; exact ⟨hit, p⟩) fun h' eb => ⟨rfl, I.turned (t' := s.toks) (fun b o hb q => eb b o hb q) f0 f1 f3 f4 f5⟩
  self := fun A i s Q E st h => let ⟨⟨_, he⟩, _⟩ := st; wpAny_pyIter_enum he h
theorem call_enumerate_tuple {prog : Program} {w : World} {A : Around} {E : Value → Shared → Prop} {s : Shared} {t : Addr} {items : Array Value} {Q : Value → Shared → Prop} (hL : s.heap.IsTuple t items)
    (h : ∀ h', IsEnum h' (s.heap.objs.size + 1) s.heap.objs.size 0 .none → h'.IsTupleIter s.heap.objs.size t 0 → h'.objs.size = s.heap.objs.size + 2 →
      (∀ b o, s.heap.get? b = some o → h'.get? b = some o) → Q (.ref (s.heap.objs.size + 1)) { s with heap := h' }) :
    wpAny (model prog w) A (call (.type "enumerate") [.ref t]) Q E s := by
  have B := begins_tuple t items
  have mt : Meets (Builtin.«enumerate.__new__» ⟨[.type "enumerate", .ref t], []⟩) (fun _ R s => s.heap.IsTuple t items ∧
      R (.ok (.ret (.ref (s.heap.push { cls := .type "tuple_iterator", data := .fields #[.ref t, .int 0 0] }).objs.size)))
        { s with heap := (s.heap.push { cls := .type "tuple_iterator", data := .fields #[.ref t, .int 0 0] }).push { cls := .type "enumerate", data := .fields #[.none, .bool false, .ref s.heap.objs.size, rawInt 0, .none, .none] } }) :=
    .of_wp fun prog w A R s h => by
      obtain ⟨hp, g, d, tk, os⟩ := s; obtain ⟨h1, h⟩ := h
      have hsub := sub_enumerate
      have q1 : ∀ {A' : Around} {E : Value → Shared → Prop} {Q : Value → Shared → Prop}, Q (.ref hp.objs.size) ⟨hp.push { cls := .type "tuple_iterator", data := .fields #[.ref t, .int 0 0] }, g, d, tk, os⟩ → wpAny (model prog w) A' (pyIter (.ref t)) Q E ⟨hp, g, d, tk, os⟩ :=
        fun q => B.iter prog w _ _ ⟨hp, g, d, tk, os⟩ _ h1 q
      wp_walk using q1
      refine wpAny_stack_any fun st => wpAny_pure ?_
      split
      · rename_i c _ _ _ _ _
        cases (c == Value.type "enumerate")
        · wp_walk using q1
          exact ⟨_, rfl, h⟩
        · wp_walk using q1
          exact ⟨_, rfl, h⟩
      · wp_walk using q1
        exact ⟨_, rfl, h⟩
  refine callType_new F.called_enumerate (by decide) (F.typeCall_enumerate_1 _) (F.newCall_enumerate_1 _) (fun obj => F.args_object_init_2 obj _) F.entry_enumerate_new mt ⟨hL, ?_⟩
  have hz : (s.heap.push { cls := .type "tuple_iterator", data := .fields #[.ref t, .int 0 0] }).objs.size = s.heap.objs.size + 1 := Heap.size_push ..
  show _ ∧ _
  rw [hz]
  have he : IsEnum ((s.heap.push { cls := .type "tuple_iterator", data := .fields #[.ref t, .int 0 0] }).push
      { cls := .type "enumerate", data := .fields #[.none, .bool false, .ref s.heap.objs.size, rawInt 0, .none, .none] }) (s.heap.objs.size + 1) s.heap.objs.size 0 .none := by
    have := Heap.get?_push_size (s.heap.push { cls := .type "tuple_iterator", data := .fields #[.ref t, .int 0 0] })
      (o := { cls := .type "enumerate", data := .fields #[.none, .bool false, .ref s.heap.objs.size, rawInt 0, .none, .none] }) rfl
    rw [hz] at this; exact this
  refine ⟨⟨_, he, rfl⟩, h _ he ⟨_, Heap.get?_push_of_some _ (Heap.get?_push_size _ rfl), rfl, rfl⟩ (by rw [Heap.size_push, hz]) fun b o x => Heap.get?_push_of_some _ (Heap.get?_push_of_some _ x)⟩
def ItE (b : Bool) (K : PySem.W.Frag) (a : Addr) : It := match b with
  | true => IteT K a
  | false => Ite K a
theorem walk_enumB {b : Bool} {K : PySem.W.Frag} {a : Addr} {xs : List V} : Walk (ItE b K a) xs.length (fun H => SqB b K H a xs) (YPair (fun i => some (.int (i : Nat))) (fun i => xs[i]?)) := by
  cases b with
  | false => exact walk_enum
  | true =>
    refine ⟨fun i _ hi q => ⟨xs, xs[i], q, by simp [hi]⟩, fun _ q => ⟨xs, q, rfl⟩, fun i H v H' _ q y => ?_⟩
    obtain ⟨T, x, h1, h2, h3, h4⟩ := y
    exact ⟨T, .int (i : Nat), x, h1, h2, h3, rfl, h4 xs q⟩
def iEnumB (K : PySem.W.Frag) (ta : TA) : TI := fun σ H R => ta σ H fun vs H1 => ∃ (b : Bool) (a : Addr) (xs : List V), vs = [.ref a] ∧ SqB b K H1 a xs ∧ R (ItE b K a) H1
theorem pi_enumB {X : Cx} {K : PySem.W.Frag} {e : Expr} {ta : TA} {p pos tpos : Pos} {elts : List Expr} {kk : Nat} (hK : X.K = K) (hg : Gl X "enumerate") (hm : X.mg "enumerate" = none) (ha : PA X [e] ta) (hs : starEach [e] X.env = [(false, eval e X.env)] := by rfl) :
    PI X (.Tuple elts kk tpos) (.Call (.Name "enumerate" p) [e] [] pos) (iEnumB K ta) := by
  subst hK
  refine ⟨fun pins s σ H R I h => ?_⟩
  refine Call_ (ld_blt I hg hm boot_enumerate (PyProof.Rows.callWith_type1 (thn (ha.run pos pins s σ H _ I h) fun us s1 ⟨vs, H1, I1, r1, q1⟩ => ?_) hs rfl))
  obtain ⟨b, a, xs, ex, hq, q⟩ := q1
  subst ex
  cases r1 with
  | cons r rr =>
    cases rr
    cases r
    have fin : ∀ b', b' ∈ [s1.heap.objs.size + 1, s1.heap.objs.size] → FpOk X pins H1 b' := fun b' hb => by
      have e' : b' = s1.heap.objs.size + 1 ∨ b' = s1.heap.objs.size := by simpa using hb
      have hle : s1.heap.objs.size ≤ b' := by
        rcases e' with z | z
        · rw [z]; exact Nat.le_add_right _ _
        · rw [z]; exact Nat.le_refl _
      exact I1.fpOk hle (I1.hok.fresh hle)
    cases b with
    | false =>
      obtain ⟨its, rv, p', hz⟩ := I1.list hq
      refine call_enumerate_list p'.isList fun h' he hit hsz hk => wpAny_pyIter_enum he ?_
      have I2 : Inv X pins σ H1 { s1 with heap := h' } := I1.kept (t' := s1.toks) hk
      exact ⟨s1.heap.objs.size + 1, [s1.heap.objs.size + 1, s1.heap.objs.size], _, _, H1, rfl, I2, turn_enum a (s1.heap.objs.size + 1) s1.heap.objs.size, ⟨⟨.none, he⟩, hit, Nat.succ_ne_self _⟩, fun b hb => fin b hb, q⟩
    | true =>
      obtain ⟨its, rv, p', hz⟩ := I1.tuple hq
      have hlt : a < s1.heap.objs.size := by
        obtain ⟨o, ho, _⟩ := p'
        exact Heap.lt_size ho
      refine call_enumerate_tuple (show s1.heap.IsTuple a its.toArray from p') fun h' he hit hsz hk => wpAny_pyIter_enum he ?_
      have I2 : Inv X pins σ H1 { s1 with heap := h' } := I1.kept (t' := s1.toks) hk
      exact ⟨s1.heap.objs.size + 1, [s1.heap.objs.size + 1, s1.heap.objs.size], _, _, H1, rfl, I2, turn_enumT a (s1.heap.objs.size + 1) s1.heap.objs.size, ⟨⟨.none, he⟩, hit, Nat.succ_ne_self _, Nat.ne_of_lt (Nat.lt_succ_of_lt hlt), Nat.ne_of_lt hlt⟩, fun b hb => fin b hb, q⟩
/-! ### what is never reached -/
def tNev : TE := fun _ _ _ => False
theorem pe_never {X : Cx} {e : Expr} : PE X e tNev := ⟨fun _ _ _ _ _ _ h => h.elim⟩
def iNev : TI := fun _ _ _ => False
theorem pi_never {X : Cx} {tg e : Expr} : PI X tg e iNev := ⟨fun _ _ _ _ _ _ h => h.elim⟩
def gNev : TG := fun _ _ _ _ => False
theorem pg_never {X : Cx} {e : Expr} : PG X e gNev := ⟨fun _ _ _ _ _ _ _ _ _ h => h.elim⟩
def tNevT : TT := fun _ _ _ => False
theorem pts_never {X : Cx} {es : List Expr} : PTs X es tNevT := ⟨fun _ _ _ _ _ _ h => h.elim⟩
def sNev : TS := fun _ _ _ => False
theorem pss_never {X : Cx} {ss : List Stmt} : PSs X ss sNev := ⟨fun _ _ _ _ _ _ h => h.elim⟩
end Tp

set_option Elab.async false
set_option linter.all false
set_option maxRecDepth 100000
set_option maxHeartbeats 4000000
namespace Tp
open PySem PySem.Spec PyProof.Rows L2
/-! ### an own exception as a value -/
def tExV (C : Addr) (f : Str) (te : TE) : TE := fun σ H Q => te σ H fun v H1 => ∀ a d, H1 a = none → H1 d = none → d ≠ a → Q (.ref a) (upd (upd H1 d (exd d [(f, v)])) a (exo a C (some d)))
theorem exv_heap {H1 : Hp} {a dx C : Addr} {f : Str} {v : V} (ne : dx ≠ a) : upd (upd (upd H1 a (exo a C none)) dx (exd dx [(f, v)])) a (exo a C (some dx)) = upd (upd H1 dx (exd dx [(f, v)])) a (exo a C (some dx)) := by
  funext b
  by_cases h1 : b = a
  · rw [h1, upd_same, upd_same]
  · rw [upd_ne h1, upd_ne h1]
    by_cases h2 : b = dx
    · rw [h2, upd_same, upd_same]
    · rw [upd_ne h2, upd_ne h2, upd_ne h1]
section
variable {X : Cx} {x f : Str} {C fI : Addr} {fd : FuncData} {e : Expr} {te : TE} {p pos : Pos}
theorem pe_exv {k : Nat} (T : ExT X.prog X.w X.K X.mg X.base C fI fd f) (hr : Room (k + 2) X.A) (hg : Gl X x) (hm : X.mg x = some (.ref C)) (he : PE X e te)
    (hdb : (x == ("__debug__" : Str)) = false := by decide) (hs : starEach (e :: []) X.env = (false, eval e X.env) :: starEach [] X.env := by rfl) (hpl : (backTo pos (starEach [] X.env)).any (·.1) = false := by rfl) :
    PE X (.Call (.Name x p) [e] [] pos) (tExV C f te) := by
  refine ⟨fun pins s σ H Q I h => ?_⟩
  obtain ⟨nm, q, N, bs, bm, sn, sub, ab, col, dd, k0, k1, k2, k3, k5, hC, hbm⟩ := T.ox.cls
  refine wpAny_Call_Name_kw (ld_glob I hg hm ?_ hdb)
  have h2 : tMono te σ H (fun vs H1 => ∃ v, vs = [v] ∧ ∀ a d, H1 a = none → H1 d = none → d ≠ a → Q (.ref a) (upd (upd H1 d (exd d [(f, v)])) a (exo a C (some d)))) := ⟨_, h, fun v H1 q => ⟨v, rfl, q⟩⟩
  refine PySem.W.callWith_K (h₀ := X.base) I.ok.mod.kin T.ox.kC (thn ((pa_mono he hs).run pos pins s σ H _ I h2) fun us s1 ⟨vs, H1, I1, r1, v, ev, q1⟩ => ⟨I1.kIn, ?_⟩) hs hpl
  subst ev
  show wpAny _ _ (call (.ref C) us) _ _ _
  obtain ⟨hp, g, dr, tk, os⟩ := s1
  have hsz : hp.objs.size ≤ hp.objs.size + 1 := Nat.le_succ _
  have hn : H1 (hp.objs.size + 1) = none := I1.hok.fresh hsz
  have kk : ∀ b o, hp.get? b = some o → ((hp.push (PySem.W.kdv_tup us)).push (PySem.HandSPX.excO C hp.objs.size)).get? b = some o := fun b o e => Heap.get?_push_of_some _ (Heap.get?_push_of_some _ e)
  have hget : ((hp.push (PySem.W.kdv_tup us)).push (PySem.HandSPX.excO C hp.objs.size)).get? (hp.objs.size + 1) = some (PySem.HandSPX.excO C hp.objs.size) := by heap_get
  have I2 : Inv X pins σ (upd H1 (hp.objs.size + 1) (exo (hp.objs.size + 1) C none)) ⟨(hp.push (PySem.W.kdv_tup us)).push (PySem.HandSPX.excO C hp.objs.size), g, dr, tk, os⟩ :=
    I1.laid (t' := tk) (a := hp.objs.size + 1) (o := exo (hp.objs.size + 1) C none) (h' := (hp.push (PySem.W.kdv_tup us)).push (PySem.HandSPX.excO C hp.objs.size)) kk hsz (exo_ok hget)
  have r2 : Vals (V.ref (hp.objs.size + 1) :: ([v] ++ [])) (Value.ref (hp.objs.size + 1) :: (us ++ [])) := .cons rfl (r1.append .nil)
  have hq : spXI C f (V.ref (hp.objs.size + 1) :: ([v] ++ [])) (upd H1 (hp.objs.size + 1) (exo (hp.objs.size + 1) C none)) (fun v' H2 => v' = .non ∧ Q (.ref (hp.objs.size + 1)) H2) (fun _ _ _ => False) := by
    refine ⟨_, v, rfl, upd_same, fun dx hd ne => ⟨rfl, ?_⟩⟩
    rw [exv_heap ne]
    rw [upd_ne ne] at hd
    exact q1 _ dx hn hd ne
  have hl : (Value.ref (hp.objs.size + 1) :: us ++ []).length = (["self", f] : List Str).length := by
    have e := r2.length
    rw [T.ok.len _ _ _ _ hq] at e
    exact e.symm
  have hbn := T.bn _ (Value.ref (hp.objs.size + 1) :: us) I2.kIn hl
  rw [List.cons_append] at hbn
  have hus : us.length ≤ sizeLine := by
    rw [← Paired.length r1, sizeLine_eq]
    show 1 ≤ _
    omega
  refine wpAny_call (PySem.HandSPX.call_own F.excBase_ValueError (fun Y => PySem.HandSPX.refsVE_contains Y bm hbm) (I1.kIn _ _ hC) (PySem.W.looks_findIn I1.kIn T.iC) (fun self => PySem.W.bind_fn I1.kIn self T.tI) hus
    (codeAny_mono (T.ok.run _ X.stack _ _ ⟨Value.ref (hp.objs.size + 1) :: us, []⟩ (Value.ref (hp.objs.size + 1) :: (us ++ [])) _ _ (fun _ _ _ => False) ((hr.mono (j := 2) (by omega)).make C us []) (I2.env0.make C us []) hbn r2 hq) fun r s' hq' => ?_))
  cases r with
  | error er => exact False.elim hq'
  | ok fl =>
    cases fl with
    | ret u =>
      obtain ⟨v', H', I3, rv, ev, q3⟩ := I2.after hq'
      subst ev
      exact ⟨rv, ⟨V.ref (hp.objs.size + 1), H', I3, rfl, q3⟩⟩
    | next => exact False.elim hq'
    | brk => exact False.elim hq'
    | cont => exact False.elim hq'
end
/-! ### the type of a value, exceptions too -/
inductive TyA (K : PySem.W.Frag) (H : Hp) : V → Value → Prop
  | x {v : V} {t : Value} (h : TyX K H v t) : TyA K H v t
  | exc {a D dd : Addr} {fs : List (Str × V)} (e : H a = some (exo a D (some dd))) (ed : H dd = some (exd dd fs)) (C : ExcC K D) : TyA K H (.ref a) (.ref D)
theorem TyA.same {K : PySem.W.Frag} {H H' : Hp} (S : Same H H') {v : V} {t : Value} (h : TyA K H v t) : TyA K H' v t := by
  cases h with
  | x h => exact .x (ty_same S h)
  | exc e ed C => exact .exc (S _ _ e) (S _ _ ed) C
theorem kitA_of {X : Cx} {pins : List (Addr × Obj)} {σ : L2.St} {H : Hp} {s : Shared} {x : V} {u t : Value} (I : Inv X pins σ H s) (rx : RelV x u) (ty : TyA X.K H x t) : ∃ P : Heap → Prop, PySem.W.KitX X.K u t P ∧ P s.heap ∧ u ≠ .builtin "__main__.__loader__#opaque" := by
  cases ty with
  | x h => exact kit_of I rx h
  | @exc a D dd fs e ed C =>
    cases rx
    obtain ⟨t1, he⟩ := exo_at I.hok e
    obtain ⟨mA, hns, hr⟩ := exd_at I.hok ed
    obtain ⟨od, ho, hl⟩ := lookIn_ns hns
    refine ⟨_, kitx_excD (x := a) (ox := _) (od := some od) C, ⟨he, rfl, rfl, ho⟩, fun z => nomatch z⟩
def rIsA (K : PySem.W.Frag) : List V → Hp → VK → Prop := fun xs H Q => ∃ (x c : V) (t u : Value) (b : Bool), xs = [x, c] ∧ ClsV c u ∧ TyA K H x t ∧ PySem.W.kitOne K t u = some b ∧ Q (.bl b) H
theorem call_isA {X : Cx} {K : PySem.W.Frag} (hK : X.K = K) : CallR X (.builtin "isinstance") (rIsA K) := by
  subst hK
  intro pins s σ H xs us Q I r h
  obtain ⟨x, c, t, u, b, rfl, k, ty, e, q⟩ := h
  obtain ⟨u1, u2, rfl, r1, r2⟩ := vals2 r
  have e2 := k.eq r2
  subst e2
  obtain ⟨P, Z, p, hx⟩ := kitA_of I r1 ty
  exact PySem.W.kia_one Z I.kIn p e hx fun tk => ⟨.bl b, H, I.tok tk, rfl, q⟩
theorem ty_sqL {K : PySem.W.Frag} {H : Hp} {a : Addr} {xs : List V} (h : SqL K H a xs) : TyX K H (.ref a) (.type "list") := by
  rcases h with (h | ⟨o, h⟩) | ⟨o, its, n, e, c, _⟩
  · exact .base (.lst h)
  · exact .base (.frz h)
  · exact .kList e c
theorem ty_sqT {K : PySem.W.Frag} {H : Hp} {a : Addr} {xs : List V} (h : SqT K H a xs) : TyX K H (.ref a) (.type "tuple") := by
  rcases h with (h | ⟨o, h⟩) | ⟨o, its, n, e, c, _⟩
  · exact .base (.tup h)
  · exact .fTuple h
  · exact .kTuple e c
end Tp

set_option Elab.async false
set_option linter.all false
set_option maxRecDepth 100000
set_option maxHeartbeats 4000000
namespace Tp
open PySem PySem.Spec PyProof.Rows L2
/-! ### data by their kinds -/
def tyD : PyData → Value
  | .none => .type "NoneType"
  | .bool _ => .type "bool"
  | .int _ => .type "int"
  | .str _ => .type "str"
  | .list _ => .type "list"
  | .tuple _ => .type "tuple"
  | .dict _ => .type "dict"
theorem dq_ty {K : PySem.W.Frag} {H : Hp} {v : V} {d : PyData} (h : Dq K H v d) : TyX K H v (tyD d) := by
  cases h with
  | non => exact .base .non
  | bl b => exact .base (.bl b)
  | int i => exact .base (.int i)
  | str x => exact .base (.str x)
  | lst s _ => exact ty_sqL s
  | tup s _ => exact ty_sqT s
  | dic r _ _ =>
    rcases r with r | ⟨o, r⟩
    · exact .base (.dK r)
    · exact .fDict r
def isLT : PyData → Bool
  | .list _ => true
  | .tuple _ => true
  | _ => false
def isS : PyData → Bool
  | .str _ => true
  | _ => false
def isI : PyData → Bool
  | .int _ => true
  | .bool _ => true
  | _ => false
def isB : PyData → Bool
  | .bool _ => true
  | _ => false
def isDc : PyData → Bool
  | .dict _ => true
  | _ => false
section
variable {K : PySem.W.Frag} (d : PyData)
theorem kit_str : PySem.W.kitOne K (tyD d) (.type "str") = some (isS d) := by
  cases d <;> (refine kit_ty ?_; first | (show _ = some true; decide +kernel) | (show _ = some false; decide +kernel))
theorem kit_int : PySem.W.kitOne K (tyD d) (.type "int") = some (isI d) := by
  cases d <;> (refine kit_ty ?_; first | (show _ = some true; decide +kernel) | (show _ = some false; decide +kernel))
theorem kit_bool : PySem.W.kitOne K (tyD d) (.type "bool") = some (isB d) := by
  cases d <;> (refine kit_ty ?_; first | (show _ = some true; decide +kernel) | (show _ = some false; decide +kernel))
theorem kit_dict : PySem.W.kitOne K (tyD d) (.type "dict") = some (isDc d) := by
  cases d <;> (refine kit_ty ?_; first | (show _ = some true; decide +kernel) | (show _ = some false; decide +kernel))
theorem kit_list : PySem.W.kitOne K (tyD d) (.type "list") = some (match d with | .list _ => true | _ => false) := by
  cases d <;> (refine kit_ty ?_; first | (show _ = some true; decide +kernel) | (show _ = some false; decide +kernel))
theorem kit_tuple : PySem.W.kitOne K (tyD d) (.type "tuple") = some (match d with | .tuple _ => true | _ => false) := by
  cases d <;> (refine kit_ty ?_; first | (show _ = some true; decide +kernel) | (show _ = some false; decide +kernel))
theorem kit_lt : PySem.W.kitAny K (tyD d) [.type "list", .type "tuple"] = some (isLT d) := by
  have h1 := kit_list (K := K) d
  have h2 := kit_tuple (K := K) d
  unfold PySem.W.kitAny
  rw [h1]
  cases d with
  | list _ => rfl
  | tuple _ => show PySem.W.kitAny K _ [.type "tuple"] = _; unfold PySem.W.kitAny; rw [h2]; rfl
  | _ => show PySem.W.kitAny K _ [.type "tuple"] = _; unfold PySem.W.kitAny; rw [h2]; show PySem.W.kitAny K _ [] = _; unfold PySem.W.kitAny; rfl
end
theorem cls_lt : Paired ClsV [.ty "list", .ty "tuple"] [.type "list", .type "tuple"] := .cons (.ty _) (.cons (.ty _) .nil)
/-! ### sequences of data -/
theorem dqAll_len {K : PySem.W.Frag} {H : Hp} : ∀ {vs : List V} {ds : List PyData}, DqAll K H vs ds → vs.length = ds.length
  | _, _, .nil => rfl
  | _, _, .cons _ t => congrArg Nat.succ (dqAll_len t)
theorem dqAll_get {K : PySem.W.Frag} {H : Hp} : ∀ {vs : List V} {ds : List PyData}, DqAll K H vs ds → ∀ {i : Nat} {v : V}, vs[i]? = some v → ∃ d, ds[i]? = some d ∧ Dq K H v d
  | _, _, .cons a t, 0, v, h => ⟨_, rfl, by cases h; exact a⟩
  | _, _, .cons a t, i + 1, v, h => dqAll_get t h
theorem dqAll_get' {K : PySem.W.Frag} {H : Hp} : ∀ {vs : List V} {ds : List PyData}, DqAll K H vs ds → ∀ {i : Nat} {d : PyData}, ds[i]? = some d → ∃ v, vs[i]? = some v ∧ Dq K H v d
  | _, _, .cons a t, 0, v, h => ⟨_, rfl, by cases h; exact a⟩
  | _, _, .cons a t, i + 1, v, h => dqAll_get' t h
def itemsD : PyData → List PyData
  | .list xs => xs
  | .tuple xs => xs
  | _ => []
def isTup : PyData → Bool
  | .tuple _ => true
  | _ => false
theorem dq_seq {K : PySem.W.Frag} {H : Hp} {v : V} {d : PyData} (h : Dq K H v d) (l : isLT d = true) : ∃ a xs, v = .ref a ∧ SqB (isTup d) K H a xs ∧ DqAll K H xs (itemsD d) := by
  cases h with
  | lst s r => exact ⟨_, _, rfl, s, r⟩
  | tup s r => exact ⟨_, _, rfl, s, r⟩
  | _ => cases l
theorem dqAll_app {K : PySem.W.Frag} {H : Hp} : ∀ {vs ws : List V} {ds es : List PyData}, DqAll K H vs ds → DqAll K H ws es → DqAll K H (vs ++ ws) (ds ++ es)
  | _, _, _, _, .nil, h => h
  | _, _, _, _, .cons a t, h => .cons a (dqAll_app t h)
theorem dp_dq {K : PySem.W.Frag} {H : Hp} : (∀ {v : V} {d : PyData}, Dp K H v d → Dq K H v d) ∧ (∀ {vs : List V} {ds : List PyData}, DpAll K H vs ds → DqAll K H vs ds) := by
  constructor
  · intro v d h
    exact Dp.rec (motive_1 := fun v d _ => Dq K H v d) (motive_2 := fun vs ds _ => DqAll K H vs ds) .non .bl .int .str (fun s _ ih => .lst s ih) (fun s _ ih => .tup s ih) .nil (fun _ _ a b => .cons a b) h
  · intro vs ds h
    exact DpAll.rec (motive_1 := fun v d _ => Dq K H v d) (motive_2 := fun vs ds _ => DqAll K H vs ds) .non .bl .int .str (fun s _ ih => .lst s ih) (fun s _ ih => .tup s ih) .nil (fun _ _ a b => .cons a b) h
theorem sqB_len {b : Bool} {K : PySem.W.Frag} {H : Hp} {a : Addr} {xs : List V} (h : SqB b K H a xs) : SqL K H a xs ∨ SqT K H a xs := by
  cases b with
  | true => exact .inr h
  | false => exact .inl h
/-! ### how long a repr is, dicts too -/
def FitQ (n w : Nat) (d : PyData) : Prop := d.showable = true ∧ d.depth ≤ n ∧ d.shown.length ≤ w
theorem FitQ.up {n w m v : Nat} {d : PyData} (h : FitQ n w d) (h1 : n ≤ m) (h2 : w ≤ v) : FitQ m v d := ⟨h.1, Nat.le_trans h.2.1 h1, Nat.le_trans h.2.2 h2⟩
theorem fitq_of {n : Nat} {d : PyData} (h : Fit n d) : FitQ n (wt d) d := let ⟨a, _, b, c⟩ := fit_ok n d h; ⟨a, b, c⟩
theorem fitq_int {n : Nat} {i : Int} (h : i.natAbs < 10 ^ 40) : FitQ n 50 (.int i) := by
  have := fitq_of (n := n) (d := .int i) (.int h)
  simpa [wt] using this
theorem fitq_str {n m : Nat} {z : Str} (h : Sm m z) : FitQ n (10 * m + 2) (.str z) := by
  have := fitq_of (n := n) (d := .str z) (h.fit)
  refine this.up (Nat.le_refl _) ?_
  simp only [wt]
  have := h.1
  omega
theorem fitq_bool {n : Nat} (b : Bool) : FitQ n 5 (.bool b) := by
  have := fitq_of (n := n) (d := .bool b) (.bl b)
  simpa [wt] using this
theorem fitq_none {n : Nat} : FitQ n 4 .none := by
  have := fitq_of (n := n) (d := .none) .non
  simpa [wt] using this
theorem fitq_all {n w : Nat} : ∀ xs : List PyData, (∀ x ∈ xs, FitQ n w x) → PyData.showableAll xs = true ∧ PyData.depthAll xs ≤ n ∧ ((PyData.shownAll xs).map (·.length)).sum + 2 * (PyData.shownAll xs).length ≤ xs.length * (w + 2)
  | [], _ => ⟨by simp only [PyData.showableAll], by simp only [PyData.depthAll]; omega, by simp [PyData.shownAll]⟩
  | x :: xs, h => by
    obtain ⟨a1, a3, a4⟩ := h x (List.mem_cons_self ..)
    obtain ⟨b1, b3, b4⟩ := fitq_all xs fun y hy => h y (List.mem_cons_of_mem _ hy)
    refine ⟨by simp only [PyData.showableAll, a1, b1, Bool.and_self], by simp only [PyData.depthAll]; omega, ?_⟩
    simp only [PyData.shownAll, List.map_cons, List.sum_cons, List.length_cons]
    rw [Nat.add_mul xs.length 1 (w + 2), Nat.one_mul]
    omega
theorem fitq_list {n w : Nat} {xs : List PyData} (h : ∀ x ∈ xs, FitQ n w x) : FitQ (n + 1) (xs.length * (w + 2) + 3) (.list xs) := by
  obtain ⟨b1, b3, b4⟩ := fitq_all xs h
  refine ⟨by simp only [PyData.showable, b1], by simp only [PyData.depth]; omega, ?_⟩
  simp only [PyData.shown]
  exact Nat.le_trans (listText_len_le _) (by omega)
theorem fitq_tuple {n w : Nat} {xs : List PyData} (h : ∀ x ∈ xs, FitQ n w x) : FitQ (n + 1) (xs.length * (w + 2) + 3) (.tuple xs) := by
  obtain ⟨b1, b3, b4⟩ := fitq_all xs h
  refine ⟨by simp only [PyData.showable, b1], by simp only [PyData.depth]; omega, ?_⟩
  simp only [PyData.shown]
  exact Nat.le_trans (tupleText_len_le _) (by omega)
/-- what repr asks -/
theorem FitQ.ok {n w : Nat} {d : PyData} (h : FitQ n w d) (hn : n ≤ 60) (hw : w ≤ 16000000) : d.showable = true ∧ d.depth ≤ 60 ∧ d.shown.length ≤ sizeLine := ⟨h.1, Nat.le_trans h.2.1 hn, Nat.le_trans h.2.2 (Nat.le_trans hw (by decide))⟩
end Tp

set_option Elab.async false
set_option linter.all false
set_option maxRecDepth 100000
set_option maxHeartbeats 4000000
namespace Tp
open PySem PySem.Spec PyProof.Rows L2
/-! ### unpacking a list or a tuple -/
def gSeqB (K : PySem.W.Frag) (n : Nat) (t : TGs) : TG := fun v σ H Q => ∃ (b : Bool) (a : Addr) (xs : List V), v = .ref a ∧ SqB b K H a xs ∧ xs.length = n ∧ t xs σ H Q
section
variable {X : Cx} {K : PySem.W.Frag} {es : List Expr} {k : Nat} {t : TGs} {n : Nat} {pos : Pos}
theorem pg_B (hK : X.K = K) (hc : X.calm = true) (h : PGs X es t) (hn : (assignEach es X.env).length = n := by rfl) (hst : (assignEach es X.env).findIdx? (·.1) = none := by rfl) : PG X (.Tuple es k pos) (gSeqB K n t) := by
  subst hK
  refine ⟨fun pins s σ H v u Q I r hw => ?_⟩
  obtain ⟨b, a, xs, e1, hq, hl, hw⟩ := hw
  cases b with
  | true => exact (pg_tup hc h hn hst).run pins s σ H v u Q I r ⟨a, xs, e1, hq, hl, hw⟩
  | false => exact (pg_unl hc h hn hst).run pins s σ H v u Q I r ⟨a, xs, e1, hq, hl, hw⟩
end
/-! ### plain defs called by keywords alone -/
section
variable {X : Cx} {CX : CXT} {k : Nat} {f : Addr} {fd : FuncData} {ps ks : List Str} {sp : Sp} {E : XK} {x : Str} {p pos : Pos} {tk : TA} {kws : List Keyword} {g : List Value → List Value → List Value} {gV : List V → List V → List V}
theorem pe_callFN0 (F : FnOk X.prog X.w X.K X.mg X.base CX k f fd ps sp) (hr : Room k X.A) (hg : Gl X x) (hm : X.mg x = some (.ref f)) (hk : PySem.W.keepIn X.K (.ref f) = true)
    (hb : KBn X.K fd ps 0 ks g gV) (hx : Passes CX X E) (hkw : PK X kws tk)
    (hall : (backToKw pos (keywordEach kws X.env)).all (·.1.isSome) = true := by rfl) (hks : (backToKw pos (keywordEach kws X.env)).filterMap (·.1) = ks := by rfl)
    (hdb : (x == ("__debug__" : Str)) = false := by decide)
    (hpl : ((backTo pos (starEach [] X.env)).any (·.1) || (backToKw pos (keywordEach kws X.env)).any (·.1.isNone)) = false := by rfl) :
    PE X (.Call (.Name x p) [] kws pos) (tCallN0 ks.length sp gV E tk) :=
  ⟨fun pins s σ H Q I h => wpAny_Call_Name_kw (ld_glob I hg hm (PySem.W.callWith_KW0 (h₀ := X.base) I.ok.mod.kin hk hall
    (thn (hkw.run pos pins s σ H _ I h) fun ws s2 ⟨zs, H2, I2, rz, l2, q2⟩ => ⟨I2.kIn, by
      rw [hks]
      exact run_fnN (us := []) (vs := []) F hr hb hx I2 .nil rz rfl l2 q2⟩) hpl) hdb)⟩
end
theorem kbP {K : PySem.W.Frag} {x qual : Str} {st : Stmt} {f : Addr} {fd : FuncData} {ps : List Str} (F : Fun K x qual st f fd) (ks : List Str) (g : {α : Type} → List α → List α) (hrel : ∀ {zs : List V} {ws : List Value}, Vals zs ws → Vals (g zs) (g ws))
    (h : ∀ (kV doc pm : Value) (an : Option Addr) (cdv ct : Value) (ws : List Value), ws.length = ks.length → bindArgs (PySem.W.fnOf x qual (defArgs st) (defBody st) (defScope st) .none kV doc pm an cdv ct) ⟨[], ks.zip ws⟩ = pure (ps.zip (g ws))) :
    KBn K fd ps 0 ks (fun _ ws => g ws) (fun _ zs => g zs) := by
  obtain ⟨oc, od, kV, doc, pm, an, cdv, ct, osl, rfl, lk, hcd⟩ := F.ex
  refine ⟨fun s us ws X l1 l2 => ?_, fun _ r2 => hrel r2⟩
  have : us = [] := List.eq_nil_of_length_eq_zero l1
  subst this
  exact .of_eq (h kV doc pm an cdv ct ws l2)
/-! ### o.f as one of several targets -/
section
variable {M : Model} {A : Around} {E : Value → Shared → Prop} {s : Shared} {env : Env}
theorem wpAny_assign_Attr {o : Expr} {attr : Str} {pos : Pos} {v : Value} {Q : Unit → Shared → Prop} (h : wpAny M A (eval o env) (fun ov s₂ => wpAny M A (setAttr ov attr v) (fun _ => Q ()) E s₂) E s) :
    wpAny M A (assign (.Attribute o attr pos) env v) Q E s := fun Γ p hΓ => by
  simp only [assign_Attribute, Sem.wp_bind', Sem.wp_holding, Sem.wp_cmd_standAt, Sem.wp_release, Sem.wp_pure']
  exact Sem.wp_mono M Γ _ (fun ov _ s₂ h₂ => h₂ Γ _ hΓ) (fun _ _ _ h' => h') _ _ (h Γ _ hΓ)
end
def gFld (K : PySem.W.Frag) (f : Str) (to : TE) : TG := fun v σ H Q => to σ H fun x H1 => ∃ a C dx fs, x = .ref a ∧ H1 a = some (.ins C dx fs) ∧ Cls K C ∧ NoAttr K C f ∧ fs.length < 1000 ∧ Q σ (upd H1 a (.ins C dx (putF f v fs)))
theorem pg_fld {X : Cx} {o : Expr} {f : Str} {to : TE} {pos : Pos} (ho : PE X o to) : PG X (.Attribute o f pos) (gFld X.K f to) := by
  refine ⟨fun pins s σ H v u Q I r hw => ?_⟩
  refine wpAny_assign_Attr (thn (ho.run pins s σ H _ I hw) fun ov s1 ⟨x, H1, I1, rx, a, C, dx, fs, ex, ea, c, n, l, q⟩ => ?_)
  subst ex
  obtain rfl : ov = Value.ref a := rx
  exact setattr_ok I1 ea c n l r fun s3 I3 => ⟨σ, _, I3, q⟩
/-! ### y = {k: v for ..}, y a local name -/
section
variable {X : Cx}
theorem ps_setDc {i : Nat} {y : Str} {py : Pos} {kx vx tg iter : Expr} {ifs : List Expr} {scope : Scope} {own : List (Str × Nat)} {pos spos : Pos} {wi : TI} {g : TG} {tt : TT} {tk tv : TE} (hc : X.calm = true) (hN : X.N.Nodup) (hy : X.N[i]? = some y) (hyl : X.env.scope.names.lookup y = some .local)
    (hsw : swapsWith (.DictComp kx vx [⟨tg, iter, ifs, 0⟩] scope pos) (some (.Name y py)) spos.line X.env = pure true) (hi : PI X tg iter wi) (ok : BlkOk X.N X.env.scope scope own)
    (hg : ∀ (s : Shared) (H : Hp) (C : Addr) (cl : List (Str × Addr)) (fp : List Addr), PG (X.blk s H scope (compEnvC scope cl C X.env) fp) tg g) (ht : ∀ (s : Shared) (H : Hp) (C : Addr) (cl : List (Str × Addr)) (fp : List Addr), PTs (X.blk s H scope (compEnvC scope cl C X.env) fp) ifs tt)
    (hk : ∀ (s : Shared) (H : Hp) (C : Addr) (cl : List (Str × Addr)) (fp : List Addr), PE (X.blk s H scope (compEnvC scope cl C X.env) fp) kx tk)
    (he : ∀ (s : Shared) (H : Hp) (C : Addr) (cl : List (Str × Addr)) (fp : List Addr), PE (X.blk s H scope (compEnvC scope cl C X.env) fp) vx tv) (hs : ∀ x, foldedSetIterable iter X.env x = pure x := by intro _; rfl) :
    PS X (.Assign [.Name y py] (.DictComp kx vx [⟨tg, iter, ifs, 0⟩] scope pos) spos) (tAsg (tDc wi g tt tk tv (own.map (·.2))) (gName i)) := by
  refine ⟨fun pins s σ H D I h => ?_⟩
  rw [exec_Assign_Name_used _ _ _ _ hsw]
  refine wpAny_bind (wpAny_standAt (wpAny_bind ?_))
  show wpAny _ X.A (do let _ ← comprehension (.DictComp kx vx [⟨tg, iter, ifs, 0⟩] scope pos) scope X.env (firstIterPos [⟨tg, iter, ifs, 0⟩] pos) newDict false (eval iter X.env) (some (assign (.Name y py) X.env))) _ _ s
  have h : tDc wi g tt tk tv (own.map (·.2)) σ H (fun x H1 => gName i x σ H1 D.nx) := h
  refine wpAny_bind (thn (dc_core (Qf := fun _ s' => SP X pins D .next s') hc hN I hi ok hg ht hk he hs h fun L C s' m H' I' q hn f => ?_) fun _ s' hq => wpAny_pure (wpAny_pure hq))
  show wpAny _ _ (assign (.Name y py) X.env (.ref L)) _ _ _
  refine wpAny_assign_Name (store_ok2 (v := V.ref L) I' hN hy (.inl hyl) rfl (fun s2 I2 ⟨a, sb, ha⟩ => ?_) (.inr hyl))
  obtain ⟨f0, f1, f2, f3, f4, f5⟩ := f
  have haC : C ≠ a := by
    rcases ha with z | z
    · rw [z]; exact f1
    · exact fun e => f4 y a z e.symm
  refine ⟨m, hn.sameBut sb haC, fun h3 sb3 => ?_⟩
  exact ⟨_, H', I2.turned (t' := s2.toks) (fun b o hb e => (sb3.2 b hb).trans e) f0 f1 f3 f4 f5, q⟩
theorem sw_trueD {kx vx : Expr} {gs : List Comprehension} {scope : Scope} {pos py : Pos} {y : Str} {l : Nat} {env : Env} (hk : env.scope.kind = .function) (hy : env.scope.names.lookup y = some .local) (hl : (py.line == pos.line) = true)
    (ha : (scope.names.any fun (n, k) => n == y && (k == .local || k == .cell)) = false) : swapsWith (.DictComp kx vx gs scope pos) (some (.Name y py)) l env = pure true := by
  have ky : env.kindOf y = some .local := hy
  have hb : env.blockKind = .function := by unfold Env.blockKind; rw [hk]; rfl
  unfold swapsWith
  simp only [hb, ky, ha, Expr.pos, hl]
  rfl
end
end Tp

set_option Elab.async false
set_option linter.all false
set_option maxRecDepth 100000
set_option maxHeartbeats 4000000
namespace Tp
open PySem PySem.Spec PyProof.Rows L2
/-! ### names -/
/-- a name -/
def lowC (c : Nat) : Bool := decide (97 ≤ c) && decide (c ≤ 122)
def digC (c : Nat) : Bool := decide (48 ≤ c) && decide (c ≤ 57)
def nmB (z : Str) : Bool := match z.cps.toList with
  | [] => false
  | c :: cs => decide (cs.length + 1 ≤ 8) && (lowC c && (c :: cs).all fun x => lowC x || digC x)
theorem mem_low (c : Nat) : c ∈ ("abcdefghijklmnopqrstuvwxyz" : Str).cps.toList ↔ lowC c = true := by
  have e : ("abcdefghijklmnopqrstuvwxyz" : Str).cps.toList = [97, 98, 99, 100, 101, 102, 103, 104, 105, 106, 107, 108, 109, 110, 111, 112, 113, 114, 115, 116, 117, 118, 119, 120, 121, 122] := by decide +kernel
  rw [e]
  simp only [List.mem_cons, List.not_mem_nil, or_false, lowC, Bool.and_eq_true, decide_eq_true_eq]
  omega
theorem mem_sign (c : Nat) : c ∈ (("abcdefghijklmnopqrstuvwxyz" : Str) ++ ("0123456789" : Str)).cps.toList ↔ (lowC c || digC c) = true := by
  have e : (("abcdefghijklmnopqrstuvwxyz" : Str) ++ ("0123456789" : Str)).cps.toList = [97, 98, 99, 100, 101, 102, 103, 104, 105, 106, 107, 108, 109, 110, 111, 112, 113, 114, 115, 116, 117, 118, 119, 120, 121, 122, 48, 49, 50, 51, 52, 53, 54, 55, 56, 57] := by decide +kernel
  rw [e]
  simp only [List.mem_cons, List.not_mem_nil, or_false, lowC, digC, Bool.and_eq_true, Bool.or_eq_true, decide_eq_true_eq]
  omega
theorem nm_nil {z : Str} (h : ¬ (0 : Int) < z.length) : nmB z = false := by
  unfold nmB
  have e : z.cps.toList = [] := List.eq_nil_of_length_eq_zero (by rw [len_list]; omega)
  rw [e]
theorem nm_long {z : Str} (h : ¬ (z.length : Int) ≤ 8) : nmB z = false := by
  unfold nmB
  have l := len_list z
  cases e : z.cps.toList with
  | nil => rfl
  | cons c cs =>
    rw [e] at l
    simp only [List.length_cons] at l
    have : decide (cs.length + 1 ≤ 8) = false := decide_eq_false (by omega)
    show (decide (cs.length + 1 ≤ 8) && _) = false
    rw [this, Bool.false_and]
theorem nm_cons {z : Str} {c : Nat} {cs : List Nat} (e : z.cps.toList = c :: cs) (h : (z.length : Int) ≤ 8) : nmB z = (lowC c && (c :: cs).all fun x => lowC x || digC x) := by
  unfold nmB
  have l := len_list z
  rw [e] at l ⊢
  simp only [List.length_cons] at l
  have : decide (cs.length + 1 ≤ 8) = true := decide_eq_true (by omega)
  show (decide (cs.length + 1 ≤ 8) && _) = _
  rw [this, Bool.true_and]
theorem nm_len {n : Str} (h : nmB n = true) : n.length ≤ 8 := by
  refine Classical.byContradiction fun k => ?_
  rw [nm_long (by omega)] at h
  cases h
theorem nm_sm {n : Str} (h : nmB n = true) : Sm 8 n := by
  refine ⟨nm_len h, fun c hc => ?_⟩
  unfold nmB at h
  cases e : n.cps.toList with
  | nil => rw [e] at hc; cases hc
  | cons x xs =>
    rw [e] at h hc
    have h := (Bool.and_eq_true_iff.mp (Bool.and_eq_true_iff.mp (show (decide (xs.length + 1 ≤ 8) && (lowC x && (x :: xs).all fun y => lowC y || digC y)) = true from h)).2).2
    have := List.all_eq_true.mp h c hc
    simp only [lowC, digC, Bool.or_eq_true, Bool.and_eq_true, decide_eq_true_eq] at this
    omega
def nmD : PyData → Bool
  | .str z => nmB z
  | _ => false
def NoS (K : PySem.W.Frag) (H : Hp) (v : V) : Prop := ∃ t, TyA K H v t ∧ PySem.W.kitOne K t (.type "str") = some false
def NameIs (K : PySem.W.Frag) (H : Hp) (v : V) (b : Bool) : Prop := (∃ z : Str, v = .str z ∧ z.length ≤ 10000 ∧ b = nmB z) ∨ (NoS K H v ∧ b = false)
def spName (K : PySem.W.Frag) : Sp := fun vs H Q _ => ∃ (v : V) (b : Bool), vs = [v] ∧ NameIs K H v b ∧ Q (.bl b) H
/-- what is_name says of data -/
theorem name_dq {K : PySem.W.Frag} {H : Hp} {v : V} {d : PyData} (h : Dq K H v d) (l : ∀ z, d = .str z → z.length ≤ 10000) : NameIs K H v (nmD d) := by
  cases e : isS d with
  | true =>
    cases h with
    | str z => exact .inl ⟨z, rfl, l z rfl, rfl⟩
    | _ => cases e
  | false =>
    refine .inr ⟨⟨_, .x (dq_ty h), by rw [kit_str, e]⟩, ?_⟩
    cases d <;> first | rfl | cases e
end Tp

set_option Elab.async false
set_option linter.all false
set_option maxRecDepth 100000
set_option maxHeartbeats 2000000
/-! the head of a larger program: one kernel run of the top (HandS.Head0-2), its facts read by a Hook: defs by DefD, all else by a list of Bools -/
namespace Tp
open PySem PySem.Spec PyProof.Rows L2 He
def obsK (fn : List DefD) (ex : List (PySem.W.Frag → Bool)) (K : PySem.W.Frag) : AlD := ((ex.all fun f => f K) && fn.all fun d => d.ok K, fn.map fun d => fnW K d.at_)
def SaysB (fn : List DefD) (ex : List (PySem.W.Frag → Bool)) (K : PySem.W.Frag) : Prop := obsK fn ex K = valD fn
/-! a part of the heap, by names: the classes, what stands over them, the defs, their codes and defaults; each list made whole before it is used -/
def frL {α : Type} : List Addr → (List Addr → α) → α
  | [], k => k []
  | a :: r, k => HandSHeadRun.frNat a fun a => frL r fun r => k (a :: r)
theorem frL_eq {α : Type} : ∀ (l : List Addr) (k : List Addr → α), frL l k = k l
  | [], _ => rfl
  | a :: r, k => by
    show HandSHeadRun.frNat a (fun a => frL r fun r => k (a :: r)) = _
    rw [HandSHeadRun.frNat_eq, frL_eq r]
def frF {α : Type} (g : Addr → Option Obj) : List Addr → (PySem.W.Frag → α) → α
  | [], k => k []
  | a :: r, k => match g a with
    | some ⟨c, d, dt, sl⟩ => HandSHeadRun.frNat a fun a => frF g r fun K => k ((a, ⟨c, d, dt, sl⟩) :: K)
    | none => frF g r k
theorem frF_eq {α : Type} (g : Addr → Option Obj) : ∀ (l : List Addr) (k : PySem.W.Frag → α), frF g l k = k (frG g l)
  | [], _ => rfl
  | a :: r, k => by
    unfold frF frG
    cases e : g a with
    | none =>
      rw [List.filterMap_cons, e]
      exact frF_eq g r k
    | some o =>
      rw [List.filterMap_cons, e]
      show HandSHeadRun.frNat a (fun a => frF g r fun K => k ((a, o) :: K)) = _
      rw [HandSHeadRun.frNat_eq, frF_eq g r] <;> rfl
def upG (g : Addr → Option Obj) (a : Addr) : List Addr := match g a with
  | some ⟨_, _, .cls cd, _⟩ => cd.ns :: cd.mro.flatMap refV
  | _ => []
def outG (g : Addr → Option Obj) (a : Addr) : List Addr := match g a with
  | some o => refsD o
  | none => []
def withAs {α : Type} (g : Addr → Option Obj) (cs : List Str) (ds : List (Str × Option Str)) (k : List Addr → α) : α :=
  frF g [mainGlobals] fun K0 => frL (cs.map (ga K0)) fun as1 => frL (as1.flatMap (upG g)) fun as2 => frL (as2.flatMap (upG g)) fun as3 => frL (mainGlobals :: cStatics :: (as1 ++ (as2 ++ as3))).eraseDups fun as4 =>
  frF g as4 fun K1 => frL (ds.map (fAd K1)) fun fs => frL (fs.flatMap (outG g)) fun c1 => frL (c1.flatMap (outG g)) fun c2 => frL (as4 ++ (fs ++ (c1 ++ c2))).eraseDups k
theorem withAs_eq {α : Type} {g : Addr → Option Obj} {cs : List Str} {ds : List (Str × Option Str)} (k : List Addr → α) : withAs g cs ds k = k (withAs g cs ds id) := by
  unfold withAs
  simp only [frF_eq, frL_eq, id]
def withK {α : Type} (g : Addr → Option Obj) (cs : List Str) (ds : List (Str × Option Str)) (k : PySem.W.Frag → α) : α := withAs g cs ds fun as => frF g as k
def KK (g : Addr → Option Obj) (cs : List Str) (ds : List (Str × Option Str)) : PySem.W.Frag := frG g (withAs g cs ds id)
theorem withK_eq {α : Type} {g : Addr → Option Obj} {cs : List Str} {ds : List (Str × Option Str)} (k : PySem.W.Frag → α) : withK g cs ds k = k (KK g cs ds) := by
  unfold withK
  rw [withAs_eq, frF_eq] <;> rfl
def obsB (cs : List Str) (fn : List DefD) (ex : List (PySem.W.Frag → Bool)) (g : Addr → Option Obj) : AlD := obsK fn ex (KK g cs (fn.map DefD.at_))
def hookB (cs : List Str) (fn : List DefD) (ex : List (PySem.W.Frag → Bool)) : PySem.W.Hook where
  α := AlD
  obs := fun s => obsB cs fn ex s.heap.get?
  val := fun _ => valD fn
  says := fun _ h => ∃ K : PySem.W.Frag, K.In h ∧ SaysB fn ex K
  of := fun _ _ e => ⟨_, frG_in, e⟩
  keeps := fun _ _ _ ⟨K, hK, c⟩ k => ⟨K, PySem.W.Frag.In.keeps hK k, c⟩
theorem obsB_eq {cs : List Str} {fn : List DefD} {ex : List (PySem.W.Frag → Bool)} {g : Addr → Option Obj} {s : Shared} (h : ∀ a, g a = s.heap.get? a) : obsB cs fn ex g = (hookB cs fn ex).obs s := by
  have e : g = s.heap.get? := funext h
  rw [e] <;> rfl
def AllP {α : Type} (p : α → Prop) : List α → Prop
  | [] => True
  | e :: r => p e ∧ AllP p r
/-- the run, one look at a time -/
theorem run_join {α β : Type} {x : Option PySem.W.SharedT} {A : PySem.W.SharedT → α} {a : α} {B : PySem.W.SharedT → β} {b : β} {cs : List Str} {fn : List DefD} {exs : List (List (PySem.W.Frag → Bool))} (hA : x.map A = some a) (hB : x.map B = some b)
    (hE : AllP (fun e : List (PySem.W.Frag → Bool) => x.map (fun s => withK (HandSHeadRun.getT s) cs (fn.map DefD.at_) fun K => e.all fun f => f K) = some true) exs)
    (hF : x.map (fun s => withK (HandSHeadRun.getT s) cs (fn.map DefD.at_) fun K => fn.all fun d => d.ok K) = some true)
    (hV : x.map (fun s => withK (HandSHeadRun.getT s) cs (fn.map DefD.at_) fun K => fn.map fun d => fnW K d.at_) = some (fn.map DefD.val)) :
    x.map (fun s => (A s, B s, obsB cs fn exs.flatten (HandSHeadRun.getT s))) = some (a, b, valD fn) := by
  simp only [withK_eq] at hE hF hV
  cases x with
  | none => cases hA
  | some s =>
    have e1 : A s = a := Option.some.inj hA
    have e2 : B s = b := Option.some.inj hB
    have e3 : (fn.all fun d => d.ok (KK (HandSHeadRun.getT s) cs (fn.map DefD.at_))) = true := Option.some.inj hF
    have e4 : (fn.map fun d => fnW (KK (HandSHeadRun.getT s) cs (fn.map DefD.at_)) d.at_) = fn.map DefD.val := Option.some.inj hV
    have e5 : ∀ exs : List (List (PySem.W.Frag → Bool)), AllP (fun e : List (PySem.W.Frag → Bool) => (some s).map (fun s => e.all fun f => f (KK (HandSHeadRun.getT s) cs (fn.map DefD.at_))) = some true) exs → (exs.flatten.all fun f => f (KK (HandSHeadRun.getT s) cs (fn.map DefD.at_))) = true := by
      intro exs
      induction exs with
      | nil => intro _; rfl
      | cons e r ih =>
        intro ⟨h1, h2⟩
        rw [List.flatten_cons, List.all_append, ih h2, show (e.all fun f => f (KK (HandSHeadRun.getT s) cs (fn.map DefD.at_))) = true from Option.some.inj h1] <;> rfl
    show some (A s, B s, obsK fn exs.flatten (KK (HandSHeadRun.getT s) cs (fn.map DefD.at_))) = _
    unfold obsK valD
    rw [e1, e2, e3, e4, e5 exs hE] <;> rfl
section
variable {fn : List DefD} {ex : List (PySem.W.Frag → Bool)} {K : PySem.W.Frag}
theorem SaysB.fact (c : SaysB fn ex K) (i : Nat) {f : PySem.W.Frag → Bool} (h : ex[i]? = some f) : f K = true := by
  have c1 := (ba (show ((ex.all fun f => f K) && fn.all fun d => d.ok K) = true from congrArg (fun z : AlD => z.1) c)).1
  exact List.all_eq_true.mp c1 f (List.mem_of_getElem? h)
theorem SaysB.factP {exs : List (List (PySem.W.Frag → Bool))} (c : SaysB fn exs.flatten K) (i j : Nat) {e : List (PySem.W.Frag → Bool)} {f : PySem.W.Frag → Bool} (h1 : exs[i]? = some e) (h2 : e[j]? = some f) : f K = true := by
  have c1 := (ba (show ((exs.flatten.all fun f => f K) && fn.all fun d => d.ok K) = true from congrArg (fun z : AlD => z.1) c)).1
  exact List.all_eq_true.mp c1 f (List.mem_flatten.mpr ⟨e, List.mem_of_getElem? h1, List.mem_of_getElem? h2⟩)
theorem SaysB.def_ (c : SaysB fn ex K) (i : Nat) {d : DefD} (h : fn[i]? = some d) : ∃ fd, FunD K d.name d.qual d.params d.body d.scope (d.dvs K) (d.kws K) (fAd K d.at_) fd := by
  have c2 := (ba (show ((ex.all fun f => f K) && fn.all fun d => d.ok K) = true from congrArg (fun z : AlD => z.1) c)).2
  have e : fn.map (fun d => fnW K d.at_) = fn.map DefD.val := congrArg (fun z : AlD => z.2) c
  have e2 : (fn.map fun d => fnW K d.at_)[i]? = (fn.map DefD.val)[i]? := by rw [e]
  rw [List.getElem?_map, List.getElem?_map, h] at e2
  exact DefD.funD (Option.some.inj e2) (List.all_eq_true.mp c2 d (List.mem_of_getElem? h))
theorem fun_of {x qual : Str} {st : Stmt} {f : Addr} {fd : FuncData} {kws : List (Str × V)} (F : FunD K x qual (defArgs st) (defBody st) (defScope st) [] kws f fd) : Fun K x qual st f fd := by
  obtain ⟨⟨oc, od, dV, kV, doc, pm, an, cdv, ct, osl, rfl, lk, hc, hd, _⟩, kp⟩ := F
  rcases hd with ⟨_, rfl⟩ | ⟨ne, _⟩
  · exact fun_mk lk hc kp
  · exact (ne rfl).elim
/-! ### the classes -/
def excB (K : PySem.W.Frag) (C : Addr) : Bool := match K.lookup C with
  | some ⟨.type t, _, .cls cd, sl⟩ => decide (t = "type") && (match cd.mro, sl.toList with
    | .ref C' :: bm, [_, _, _, _, some (.builtin n), _] => decide (C' = C) && (decide (n = "ValueError.__new__") && (!cd.hasDel && (cd.hasDict && HandSPX.refsVE bm)))
    | _, _ => false)
  | _ => false
theorem excB_ok {C : Addr} (h : excB K C = true) : ∃ nm q N bs bm sn sub ab col dd k0 k1 k2 k3 k5, K.lookup C = some (excClassObj nm q C N bs bm true sn sub ab col dd k0 k1 k2 k3 k5 "ValueError.__new__") ∧ PySem.HandSPX.refsVE bm = true := by
  unfold excB at h
  cases q : K.lookup C with
  | none => rw [q] at h; cases h
  | some o =>
    obtain ⟨oc, od, dt, sl⟩ := o
    rw [q] at h
    cases oc with
    | type t =>
      cases dt with
      | cls cd =>
        obtain ⟨h1, h2⟩ := ba h
        have e1 : t = "type" := of_decide_eq_true h1
        subst e1
        obtain ⟨nm, bs, mro, N, qn, hd, sn, sub, ab, col, del⟩ := cd
        obtain ⟨sl⟩ := sl
        dsimp only at h2
        split at h2
        · rename_i C' bm k0 k1 k2 k3 n k5
          obtain ⟨h3, h4⟩ := ba h2
          obtain ⟨h5, h6⟩ := ba h4
          obtain ⟨h7, h8⟩ := ba h6
          obtain ⟨h9, h10⟩ := ba h8
          have e4 : C' = C := of_decide_eq_true h3
          have e5 : n = "ValueError.__new__" := of_decide_eq_true h5
          subst e4 e5
          cases del
          · cases hd
            · cases h9
            · exact ⟨_, _, _, _, _, _, _, _, _, _, _, _, _, _, _, rfl, h10⟩
          · cases h7
        · cases h2
      | _ => cases h
    | _ => cases dt <;> cases h
def clsB (K : PySem.W.Frag) (C : Addr) (f : Str) (id : String) : Bool := match PySem.W.findCls K (.ref C) (.type "type") f with
  | some (.val (.builtin n)) => decide (n = id)
  | _ => false
theorem clsB_ok {C : Addr} {f : Str} {id : String} (h : clsB K C f id = true) : PySem.W.findCls K (.ref C) (.type "type") f = some (.val (.builtin id)) := by
  unfold clsB at h
  split at h
  · rename_i n e
    rw [e, of_decide_eq_true h]
  · cases h
def tup0B (K : PySem.W.Frag) (a : Addr) : Bool := match K.lookup a with
  | some ⟨.type c, _, .seq its _, _⟩ => decide (c = "tuple") && its.isEmpty
  | _ => false
theorem tup0B_ok {a : Addr} (h : tup0B K a = true) : ∃ dd n sl, K.lookup a = some ⟨.type "tuple", dd, .seq #[] n, sl⟩ := by
  unfold tup0B at h
  cases q : K.lookup a with
  | none => rw [q] at h; cases h
  | some o =>
    obtain ⟨oc, od, dt, sl⟩ := o
    rw [q] at h
    cases oc with
    | type t =>
      cases dt with
      | seq its n =>
        obtain ⟨h1, h2⟩ := ba h
        rw [of_decide_eq_true h1, Array.isEmpty_iff.mp h2]
        exact ⟨_, _, _, rfl⟩
      | _ => cases h
    | _ => cases dt <;> cases h
end
/-! ### the end -/
theorem walkSE {l : PySem.W.OpenLaw} {n k : Nat} {q : Program} {loose : List Str} {XP : (Str → Option Value) → Heap → Prop} {YP : World → Heap → Prop} {d : DefRec} {sp : PySem.W.Frag → Sp} {x : Str}
    (hn : l.most = some n) (hn2 : n ≤ sizeLine) (hdf : d.params.defaults = []) (himp : importsNone q = true) (hr : Room k callerA)
    (F : ∀ (w : World) (mg : Str → Option Value) (fa : Addr) (h : Heap), YP w h → h.Ns mainGlobals mg → mg d.name = some (.ref fa) →
      ∃ (K : PySem.W.Frag) (fd : FuncData), K.In h ∧ (∀ (s : Shared) (u : Value), BindsTo s fd ⟨[u], []⟩ [(x, u)]) ∧
        ∀ base : Heap, K.In base → base.Ns mainGlobals mg → FnG l.prog w K mg base CX0 k fa fd [x] (sp K))
    (hsp : ∀ (K : PySem.W.Frag) (H : Hp) (a : Addr) (ns : List Int), ns.length ≤ n → Sys K H → SqL K H a (ns.map V.int) → sp K [.ref a] H (fun v _ => v = .bl true) fun _ _ _ => False) :
    PySem.W.WalkO q loose XP YP l.row.toRowW d [] (fun f vs => PySem.call f vs) := by
  refine Att.attach_call hn hdf fun w s₀ s₁ mg mb fa o pm cd doc a vs ns G Y ho hd hcd hmg hobj hints hlen hg => ?_
  obtain ⟨K, fd, KX, hb, hF⟩ := F w mg fa _ Y G.T.g hmg
  obtain ⟨mm, hmm, _⟩ := (G.T.seer himp).mods
  exact law_endS KX G.T.g G.T.b G.T.builtins ⟨mm, hmm⟩ G.T.nolimit hg hobj hints (Nat.le_trans hlen hn2) hr hF hb (fun _ _ _ z => z) fun H hO hS => hsp K H a ns hlen hO hS
end Tp

set_option Elab.async false
set_option linter.all false
set_option maxRecDepth 100000
set_option maxHeartbeats 4000000
namespace L02
open PySem L2 Tp
def top (i : Nat) : Stmt := PySem.Challenge.pw_toldpast_k02_names_integers_and_lists_of.main.body.getD i (.Pass ⟨0, 0, 0, 0⟩)
abbrev scXName_st : Stmt := inClass (top 19) 0
abbrev scXName_N : List Str := ["self", "value"]
theorem scXName : FnScope scXName_N ["self", "value"] (defScope scXName_st) := ⟨rfl, rfl, rfl, by decide +kernel, rfl, by decide +kernel, by decide +kernel⟩
abbrev scIsInt_st : Stmt := top 7
abbrev scIsInt_N : List Str := ["value", "low", "high"]
theorem scIsInt : FnScope scIsInt_N ["value", "low", "high"] (defScope scIsInt_st) := ⟨rfl, rfl, rfl, by decide +kernel, rfl, by decide +kernel, by decide +kernel⟩
abbrev scIsName_st : Stmt := top 8
abbrev scIsName_N : List Str := ["value"]
theorem scIsName : FnScope scIsName_N ["value"] (defScope scIsName_st) := ⟨rfl, rfl, rfl, by decide +kernel, rfl, by decide +kernel, by decide +kernel⟩
abbrev scIsList_st : Stmt := top 9
abbrev scIsList_N : List Str := ["value"]
theorem scIsList : FnScope scIsList_N ["value"] (defScope scIsList_st) := ⟨rfl, rfl, rfl, by decide +kernel, rfl, by decide +kernel, by decide +kernel⟩
abbrev scIsPair_st : Stmt := top 10
abbrev scIsPair_N : List Str := ["value"]
theorem scIsPair : FnScope scIsPair_N ["value"] (defScope scIsPair_st) := ⟨rfl, rfl, rfl, by decide +kernel, rfl, by decide +kernel, by decide +kernel⟩
abbrev scIsTRow_st : Stmt := top 11
abbrev scIsTRow_N : List Str := ["value", "many", "number"]
theorem scIsTRow : FnScope scIsTRow_N ["value", "many"] (defScope scIsTRow_st) := ⟨rfl, rfl, rfl, by decide +kernel, rfl, by decide +kernel, by decide +kernel⟩
abbrev scIsTerms_st : Stmt := top 12
abbrev scIsTerms_N : List Str := ["value", "index", "row"]
theorem scIsTerms : FnScope scIsTerms_N ["value"] (defScope scIsTerms_st) := ⟨rfl, rfl, rfl, by decide +kernel, rfl, by decide +kernel, by decide +kernel⟩
abbrev scBookInit_st : Stmt := inClass (top 40) 0
abbrev scBookInit_N : List Str := ["self", "rows", "item"]
theorem scBookInit : FnScope scBookInit_N ["self", "rows"] (defScope scBookInit_st) := ⟨rfl, rfl, rfl, by decide +kernel, rfl, by decide +kernel, by decide +kernel⟩
abbrev scTableInit_st : Stmt := inClass (top 43) 0
abbrev scTableInit_N : List Str := ["self"]
theorem scTableInit : FnScope scTableInit_N ["self"] (defScope scTableInit_st) := ⟨rfl, rfl, rfl, by decide +kernel, rfl, by decide +kernel, by decide +kernel⟩
abbrev scPutRows_st : Stmt := inClass (top 43) 2
abbrev scPutRows_N : List Str := ["self", "rows", "found", "symbol", "numbers", "number"]
theorem scPutRows : FnScope scPutRows_N ["self", "rows"] (defScope scPutRows_st) := ⟨rfl, rfl, rfl, by decide +kernel, rfl, by decide +kernel, by decide +kernel⟩
abbrev scTableRows_st : Stmt := inClass (top 43) 4
abbrev scTableRows_N : List Str := ["self"]
theorem scTableRows : FnScope scTableRows_N ["self"] (defScope scTableRows_st) := ⟨rfl, rfl, rfl, by decide +kernel, rfl, by decide +kernel, by decide +kernel⟩
abbrev scUseOrder_st : Stmt := top 46
abbrev scUseOrder_N : List Str := ["rows", "roots", "order", "seen", "root", "stack", "number", "slot", "numbers"]
theorem scUseOrder : FnScope scUseOrder_N ["rows", "roots"] (defScope scUseOrder_st) := ⟨rfl, rfl, rfl, by decide +kernel, rfl, by decide +kernel, by decide +kernel⟩
abbrev scExtract_st : Stmt := top 47
abbrev scExtract_N : List Str := ["rows", "roots", "order", "places", "found", "number", "head", "rest", "at", "root", "one"]
theorem scExtract : FnScope scExtract_N ["rows", "roots"] (defScope scExtract_st) := ⟨rfl, rfl, rfl, by decide +kernel, rfl, by decide +kernel, by decide +kernel⟩
abbrev scStandard_st : Stmt := top 48
abbrev scStandard_N : List Str := ["rows", "roots", "table", "numbers", "root"]
theorem scStandard : FnScope scStandard_N ["rows", "roots"] (defScope scStandard_st) := ⟨rfl, rfl, rfl, by decide +kernel, rfl, by decide +kernel, by decide +kernel⟩
abbrev scNeedLists_st : Stmt := top 51
abbrev scNeedLists_N : List Str := ["parts", "part"]
theorem scNeedLists : FnScope scNeedLists_N ["parts"] (defScope scNeedLists_st) := ⟨rfl, rfl, rfl, by decide +kernel, rfl, by decide +kernel, by decide +kernel⟩
abbrev scNeedGates_st : Stmt := top 53
abbrev scNeedGates_N : List Str := ["gates", "known", "gate", "name", "symbol", "edges"]
theorem scNeedGates : FnScope scNeedGates_N ["gates", "known"] (defScope scNeedGates_st) := ⟨rfl, rfl, rfl, by decide +kernel, rfl, by decide +kernel, by decide +kernel⟩
abbrev scNeedTerms_st : Stmt := top 54
abbrev scNeedTerms_N : List Str := ["terms", "at", "row", "number"]
theorem scNeedTerms : FnScope scNeedTerms_N ["terms"] (defScope scNeedTerms_st) := ⟨rfl, rfl, rfl, by decide +kernel, rfl, by decide +kernel, by decide +kernel⟩
abbrev scTurnOrder_st : Stmt := top 56
abbrev scTurnOrder_N : List Str := ["gates", "order", "done", "waiting", "changed", "name", "symbol", "edges", "source", "starts"]
theorem scTurnOrder : FnScope scTurnOrder_N ["gates"] (defScope scTurnOrder_st) := ⟨rfl, rfl, rfl, by decide +kernel, rfl, by decide +kernel, by decide +kernel⟩
abbrev scReached_st : Stmt := top 58
abbrev scReached_N : List Str := ["pairs", "begins", "found", "changed", "one", "other", "name"]
theorem scReached : FnScope scReached_N ["pairs", "begins"] (defScope scReached_st) := ⟨rfl, rfl, rfl, by decide +kernel, rfl, by decide +kernel, by decide +kernel⟩
abbrev scNeedShape_st : Stmt := top 59
abbrev scNeedShape_N : List Str := ["inputs", "gates", "outs", "order", "pairs", "fed", "used", "name", "symbol", "edges", "source", "starts"]
theorem scNeedShape : FnScope scNeedShape_N ["inputs", "gates", "outs"] (defScope scNeedShape_st) := ⟨rfl, rfl, rfl, by decide +kernel, rfl, by decide +kernel, by decide +kernel⟩
abbrev scNetInit_st : Stmt := inClass (top 60) 0
abbrev scNetInit_N : List Str := ["self", "inputs", "gates", "outs", "terms", "known", "name", "edges", "edge", "roots", "rows", "numbers", "kept", "at", "source", "starts", "symbol", "row", "number"]
theorem scNetInit : FnScope scNetInit_N ["self", "inputs", "gates", "outs", "terms"] (defScope scNetInit_st) := ⟨rfl, rfl, rfl, by decide +kernel, rfl, by decide +kernel, by decide +kernel⟩
abbrev scCell_st : Stmt := top 62
abbrev scCell_N : List Str := ["_law_script", "_law_k"]
theorem scCell : FnScope scCell_N ["_law_script", "_law_k"] (defScope scCell_st) := ⟨rfl, rfl, rfl, by decide +kernel, rfl, by decide +kernel, by decide +kernel⟩
abbrev scBox_st : Stmt := top 63
abbrev scBox_N : List Str := ["_law_cell_here"]
theorem scBox : FnScope scBox_N ["_law_cell_here"] (defScope scBox_st) := ⟨rfl, rfl, rfl, by decide +kernel, rfl, by decide +kernel, by decide +kernel⟩
abbrev scTake_st : Stmt := top 64
abbrev scTake_N : List Str := ["_law_box_here", "_law_many", "_law_digit", "_law_mixed"]
theorem scTake : FnScope scTake_N ["_law_box_here", "_law_many"] (defScope scTake_st) := ⟨rfl, rfl, rfl, by decide +kernel, rfl, by decide +kernel, by decide +kernel⟩
abbrev scWord_st : Stmt := top 65
abbrev scWord_N : List Str := ["_law_box_here", "_law_longest", "_law_signs", "_law_word_here", "_law_others", "_law_spot", "_law_k"]
theorem scWord : FnScope scWord_N ["_law_box_here", "_law_longest"] (defScope scWord_st) := ⟨rfl, rfl, rfl, by decide +kernel, rfl, by decide +kernel, by decide +kernel⟩
abbrev scNamed_st : Stmt := top 66
abbrev scNamed_N : List Str := ["_law_word_here", "_law_small", "_law_sign"]
theorem scNamed : FnScope scNamed_N ["_law_word_here"] (defScope scNamed_st) := ⟨rfl, rfl, rfl, by decide +kernel, rfl, by decide +kernel, by decide +kernel⟩
abbrev scNamesR_st : Stmt := top 67
abbrev scNamesR_N : List Str := ["_law_box_here", "_law_word_here", "_law_due", "_law_things", "_law_thing"]
theorem scNamesR : FnScope scNamesR_N ["_law_box_here"] (defScope scNamesR_st) := ⟨rfl, rfl, rfl, by decide +kernel, rfl, by decide +kernel, by decide +kernel⟩
abbrev scIntsR_st : Stmt := top 68
abbrev scIntsR_N : List Str := ["_law_box_here", "_law_scale", "_law_floor", "_law_roof", "_law_amount", "_law_due", "_law_found", "_law_things", "_law_thing"]
theorem scIntsR : FnScope scIntsR_N ["_law_box_here"] (defScope scIntsR_st) := ⟨rfl, rfl, rfl, by decide +kernel, rfl, by decide +kernel, by decide +kernel⟩
abbrev scRows_st : Stmt := top 69
abbrev scRows_N : List Str := ["_law_box_here", "_law_found", "_law_k", "_law_numbers", "_law_name", "_law_j"]
theorem scRows : FnScope scRows_N ["_law_box_here"] (defScope scRows_st) := ⟨rfl, rfl, rfl, by decide +kernel, rfl, by decide +kernel, by decide +kernel⟩
abbrev scBent_st : Stmt := top 70
abbrev scBent_N : List Str := ["_law_box_here", "_law_rows_here", "_law_found", "_law_at", "_law_name", "_law_numbers", "_law_many", "_law_some"]
theorem scBent : FnScope scBent_N ["_law_box_here", "_law_rows_here"] (defScope scBent_st) := ⟨rfl, rfl, rfl, by decide +kernel, rfl, by decide +kernel, by decide +kernel⟩
abbrev scAreRows_st : Stmt := top 71
abbrev scAreRows_N : List Str := ["_law_rows_here", "_law_at", "_law_row", "_law_one"]
theorem scAreRows : FnScope scAreRows_N ["_law_rows_here"] (defScope scAreRows_st) := ⟨rfl, rfl, rfl, by decide +kernel, rfl, by decide +kernel, by decide +kernel⟩
abbrev scTermsR_st : Stmt := top 72
abbrev scTermsR_N : List Str := ["_law_box_here", "_law_rows_here", "_law_bent_here", "_law_some", "_law_held", "_law_due", "_law_found", "_law_things", "_law_one"]
theorem scTermsR : FnScope scTermsR_N ["_law_box_here"] (defScope scTermsR_st) := ⟨rfl, rfl, rfl, by decide +kernel, rfl, by decide +kernel, by decide +kernel⟩
abbrev scLaw_st : Stmt := top 73
abbrev scLaw_N : List Str := ["_law_script", "_law_k", "_law_box_here"]
theorem scLaw : FnScope scLaw_N ["_law_script"] (defScope scLaw_st) := ⟨rfl, rfl, rfl, by decide +kernel, rfl, by decide +kernel, by decide +kernel⟩
structure Ad where
  xName : Addr
  isInt : Addr
  isName : Addr
  isList : Addr
  isPair : Addr
  isTRow : Addr
  isTerms : Addr
  bookInit : Addr
  tableInit : Addr
  putRows : Addr
  tableRows : Addr
  useOrder : Addr
  extract : Addr
  standard : Addr
  needLists : Addr
  needGates : Addr
  needTerms : Addr
  turnOrder : Addr
  reached : Addr
  needShape : Addr
  netInit : Addr
  cell : Addr
  box : Addr
  take : Addr
  word : Addr
  named : Addr
  namesR : Addr
  intsR : Addr
  rows : Addr
  bent : Addr
  areRows : Addr
  termsR : Addr
  law : Addr
  CNetError : Addr
  CInvalidName : Addr
  CBook : Addr
  CTable : Addr
  CNet : Addr
  bkE : Addr
  ntE : Addr
structure Fd where
  xName : FuncData
  isInt : FuncData
  isName : FuncData
  isList : FuncData
  isPair : FuncData
  isTRow : FuncData
  isTerms : FuncData
  bookInit : FuncData
  tableInit : FuncData
  putRows : FuncData
  tableRows : FuncData
  useOrder : FuncData
  extract : FuncData
  standard : FuncData
  needLists : FuncData
  needGates : FuncData
  needTerms : FuncData
  turnOrder : FuncData
  reached : FuncData
  needShape : FuncData
  netInit : FuncData
  cell : FuncData
  box : FuncData
  take : FuncData
  word : FuncData
  named : FuncData
  namesR : FuncData
  intsR : FuncData
  rows : FuncData
  bent : FuncData
  areRows : FuncData
  termsR : FuncData
  law : FuncData
structure Txt (K : PySem.W.Frag) (mg : Str → Option Value) (a : Ad) (d : Fd) : Prop where
  F_xName : Fun K "__init__" "InvalidName.__init__" scXName_st a.xName d.xName
  b_xName : Binds K d.xName ["self", "value"] []
  F_isInt : Fun K "is_integer" "is_integer" scIsInt_st a.isInt d.isInt
  b_isInt : Binds K d.isInt ["value", "low", "high"] []
  mg_isInt : mg "is_integer" = some (.ref a.isInt)
  F_isName : Fun K "is_name" "is_name" scIsName_st a.isName d.isName
  b_isName : Binds K d.isName ["value"] []
  mg_isName : mg "is_name" = some (.ref a.isName)
  F_isList : Fun K "is_list" "is_list" scIsList_st a.isList d.isList
  b_isList : Binds K d.isList ["value"] []
  mg_isList : mg "is_list" = some (.ref a.isList)
  F_isPair : Fun K "is_pair" "is_pair" scIsPair_st a.isPair d.isPair
  b_isPair : Binds K d.isPair ["value"] []
  mg_isPair : mg "is_pair" = some (.ref a.isPair)
  F_isTRow : Fun K "is_term_row" "is_term_row" scIsTRow_st a.isTRow d.isTRow
  b_isTRow : Binds K d.isTRow ["value", "many"] []
  mg_isTRow : mg "is_term_row" = some (.ref a.isTRow)
  F_isTerms : Fun K "is_terms" "is_terms" scIsTerms_st a.isTerms d.isTerms
  b_isTerms : Binds K d.isTerms ["value"] []
  mg_isTerms : mg "is_terms" = some (.ref a.isTerms)
  F_bookInit : FunD K "__init__" "Book.__init__" (defArgs scBookInit_st) (defBody scBookInit_st) (defScope scBookInit_st) [V.ref a.bkE] [] a.bookInit d.bookInit
  F_tableInit : Fun K "__init__" "Table.__init__" scTableInit_st a.tableInit d.tableInit
  b_tableInit : Binds K d.tableInit ["self"] []
  F_putRows : Fun K "put_rows" "Table.put_rows" scPutRows_st a.putRows d.putRows
  b_putRows : Binds K d.putRows ["self", "rows"] []
  F_tableRows : Fun K "table_rows" "Table.table_rows" scTableRows_st a.tableRows d.tableRows
  b_tableRows : Binds K d.tableRows ["self"] []
  F_useOrder : Fun K "use_order" "use_order" scUseOrder_st a.useOrder d.useOrder
  b_useOrder : Binds K d.useOrder ["rows", "roots"] []
  mg_useOrder : mg "use_order" = some (.ref a.useOrder)
  F_extract : Fun K "extract" "extract" scExtract_st a.extract d.extract
  b_extract : Binds K d.extract ["rows", "roots"] []
  mg_extract : mg "extract" = some (.ref a.extract)
  F_standard : Fun K "standard" "standard" scStandard_st a.standard d.standard
  b_standard : Binds K d.standard ["rows", "roots"] []
  mg_standard : mg "standard" = some (.ref a.standard)
  F_needLists : Fun K "need_lists" "need_lists" scNeedLists_st a.needLists d.needLists
  b_needLists : Binds K d.needLists ["parts"] []
  mg_needLists : mg "need_lists" = some (.ref a.needLists)
  F_needGates : Fun K "need_gates" "need_gates" scNeedGates_st a.needGates d.needGates
  b_needGates : Binds K d.needGates ["gates", "known"] []
  mg_needGates : mg "need_gates" = some (.ref a.needGates)
  F_needTerms : Fun K "need_terms" "need_terms" scNeedTerms_st a.needTerms d.needTerms
  b_needTerms : Binds K d.needTerms ["terms"] []
  mg_needTerms : mg "need_terms" = some (.ref a.needTerms)
  F_turnOrder : Fun K "turn_order" "turn_order" scTurnOrder_st a.turnOrder d.turnOrder
  b_turnOrder : Binds K d.turnOrder ["gates"] []
  mg_turnOrder : mg "turn_order" = some (.ref a.turnOrder)
  F_reached : Fun K "reached" "reached" scReached_st a.reached d.reached
  b_reached : Binds K d.reached ["pairs", "begins"] []
  mg_reached : mg "reached" = some (.ref a.reached)
  F_needShape : Fun K "need_shape" "need_shape" scNeedShape_st a.needShape d.needShape
  b_needShape : Binds K d.needShape ["inputs", "gates", "outs"] []
  mg_needShape : mg "need_shape" = some (.ref a.needShape)
  F_netInit : FunD K "__init__" "Net.__init__" (defArgs scNetInit_st) (defBody scNetInit_st) (defScope scNetInit_st) [V.ref a.ntE] [] a.netInit d.netInit
  F_cell : Fun K "_law_cell" "_law_cell" scCell_st a.cell d.cell
  b_cell : Binds K d.cell ["_law_script", "_law_k"] []
  mg_cell : mg "_law_cell" = some (.ref a.cell)
  F_box : Fun K "_law_box" "_law_box" scBox_st a.box d.box
  b_box : Binds K d.box ["_law_cell_here"] []
  mg_box : mg "_law_box" = some (.ref a.box)
  F_take : Fun K "_law_take" "_law_take" scTake_st a.take d.take
  b_take : Binds K d.take ["_law_box_here", "_law_many"] []
  mg_take : mg "_law_take" = some (.ref a.take)
  F_word : Fun K "_law_word" "_law_word" scWord_st a.word d.word
  b_word : Binds K d.word ["_law_box_here", "_law_longest"] []
  mg_word : mg "_law_word" = some (.ref a.word)
  F_named : Fun K "_law_is_named" "_law_is_named" scNamed_st a.named d.named
  b_named : Binds K d.named ["_law_word_here"] []
  mg_named : mg "_law_is_named" = some (.ref a.named)
  F_namesR : Fun K "_law_names_right" "_law_names_right" scNamesR_st a.namesR d.namesR
  b_namesR : Binds K d.namesR ["_law_box_here"] []
  mg_namesR : mg "_law_names_right" = some (.ref a.namesR)
  F_intsR : Fun K "_law_integers_right" "_law_integers_right" scIntsR_st a.intsR d.intsR
  b_intsR : Binds K d.intsR ["_law_box_here"] []
  mg_intsR : mg "_law_integers_right" = some (.ref a.intsR)
  F_rows : Fun K "_law_rows" "_law_rows" scRows_st a.rows d.rows
  b_rows : Binds K d.rows ["_law_box_here"] []
  mg_rows : mg "_law_rows" = some (.ref a.rows)
  F_bent : Fun K "_law_bent" "_law_bent" scBent_st a.bent d.bent
  b_bent : Binds K d.bent ["_law_box_here", "_law_rows_here"] []
  mg_bent : mg "_law_bent" = some (.ref a.bent)
  F_areRows : Fun K "_law_are_rows" "_law_are_rows" scAreRows_st a.areRows d.areRows
  b_areRows : Binds K d.areRows ["_law_rows_here"] []
  mg_areRows : mg "_law_are_rows" = some (.ref a.areRows)
  F_termsR : Fun K "_law_terms_right" "_law_terms_right" scTermsR_st a.termsR d.termsR
  b_termsR : Binds K d.termsR ["_law_box_here"] []
  mg_termsR : mg "_law_terms_right" = some (.ref a.termsR)
  F_law : Fun K "law" "law" scLaw_st a.law d.law
  b_law : Binds K d.law ["_law_script"] []
  mg_law : mg "law" = some (.ref a.law)
  mg_LETTERS : ∃ t, mg "LETTERS" = some (.str "abcdefghijklmnopqrstuvwxyz" t)
  mg_DIGITS : ∃ t, mg "DIGITS" = some (.str "0123456789" t)
  mg_LONGEST_NAME : ∃ t, mg "LONGEST_NAME" = some (.int 8 t)
  mg_MOST_ARGUMENTS : ∃ t, mg "MOST_ARGUMENTS" = some (.int 3 t)
  len_ : mg "len" = none
  max_ : mg "max" = none
  min_ : mg "min" = none
  isinstance_ : mg "isinstance" = none
  str_ : mg "str" = none
  int_ : mg "int" = none
  all_ : mg "all" = none
  range_ : mg "range" = none
  repr_ : mg "repr" = none
  list_ : mg "list" = none
  tuple_ : mg "tuple" = none
  bool_ : mg "bool" = none
  enumerate_ : mg "enumerate" = none
  mg_NetError : mg "NetError" = some (.ref a.CNetError)
  ba_NetError : Tp.BaseT K a.CNetError
  mg_InvalidName : mg "InvalidName" = some (.ref a.CInvalidName)
  ox_InvalidName : OexC K a.CInvalidName
  ec_InvalidName : ExcC K a.CInvalidName
  xf_InvalidName : XfC K a.CInvalidName
  no_InvalidName : PySem.W.findIn K (.ref a.CInvalidName) "value" = some none
  iC_InvalidName : PySem.W.findIn K (.ref a.CInvalidName) "__init__" = some (some (.ref a.xName))
  tI_InvalidName : PySem.W.typeIn K (.ref a.xName) = some (.type "function")
  mg_Book : mg "Book" = some (.ref a.CBook)
  cl_Book : Cls K a.CBook
  mk_Book : Mk K a.CBook a.bookInit
  ca_Book : PySem.W.findIn K (.ref a.CBook) "__class__" = some (some (.builtin "object.__class__"))
  cm_Book : PySem.W.mroIn K a.CBook (.type "object") = some true
  hd_Book : PySem.W.hasDictIn K a.CBook = true
  ty_Book : PySem.W.typeIn K (.ref a.CBook) = some (.type "type")
  n_Book_held : NoAttr K a.CBook "held"
  n_Book_numbers : NoAttr K a.CBook "numbers"
  ki_Book_str : PySem.W.kitOne K (.ref a.CBook) (.type "str") = some false
  ki_Book_int : PySem.W.kitOne K (.ref a.CBook) (.type "int") = some false
  ki_Book_list : PySem.W.kitOne K (.ref a.CBook) (.type "list") = some false
  ki_Book_tuple : PySem.W.kitOne K (.ref a.CBook) (.type "tuple") = some false
  ki_Book_dict : PySem.W.kitOne K (.ref a.CBook) (.type "dict") = some false
  ki_Book_bool : PySem.W.kitOne K (.ref a.CBook) (.type "bool") = some false
  mg_Table : mg "Table" = some (.ref a.CTable)
  cl_Table : Cls K a.CTable
  mk_Table : Mk K a.CTable a.tableInit
  ca_Table : PySem.W.findIn K (.ref a.CTable) "__class__" = some (some (.builtin "object.__class__"))
  cm_Table : PySem.W.mroIn K a.CTable (.type "object") = some true
  hd_Table : PySem.W.hasDictIn K a.CTable = true
  ty_Table : PySem.W.typeIn K (.ref a.CTable) = some (.type "type")
  n_Table_own_rows : NoAttr K a.CTable "own_rows"
  n_Table_own_numbers : NoAttr K a.CTable "own_numbers"
  ki_Table_str : PySem.W.kitOne K (.ref a.CTable) (.type "str") = some false
  ki_Table_int : PySem.W.kitOne K (.ref a.CTable) (.type "int") = some false
  ki_Table_list : PySem.W.kitOne K (.ref a.CTable) (.type "list") = some false
  ki_Table_tuple : PySem.W.kitOne K (.ref a.CTable) (.type "tuple") = some false
  ki_Table_dict : PySem.W.kitOne K (.ref a.CTable) (.type "dict") = some false
  ki_Table_bool : PySem.W.kitOne K (.ref a.CTable) (.type "bool") = some false
  me_putRows : Meth K a.CTable "put_rows" a.putRows
  me_tableRows : Meth K a.CTable "table_rows" a.tableRows
  mg_Net : mg "Net" = some (.ref a.CNet)
  cl_Net : Cls K a.CNet
  mk_Net : Mk K a.CNet a.netInit
  ca_Net : PySem.W.findIn K (.ref a.CNet) "__class__" = some (some (.builtin "object.__class__"))
  cm_Net : PySem.W.mroIn K a.CNet (.type "object") = some true
  hd_Net : PySem.W.hasDictIn K a.CNet = true
  ty_Net : PySem.W.typeIn K (.ref a.CNet) = some (.type "type")
  n_Net_own_terms : NoAttr K a.CNet "own_terms"
  n_Net_own_inputs : NoAttr K a.CNet "own_inputs"
  n_Net_own_gates : NoAttr K a.CNet "own_gates"
  n_Net_own_outs : NoAttr K a.CNet "own_outs"
  n_Net_own_rows : NoAttr K a.CNet "own_rows"
  n_Net_own_order : NoAttr K a.CNet "own_order"
  ki_Net_str : PySem.W.kitOne K (.ref a.CNet) (.type "str") = some false
  ki_Net_int : PySem.W.kitOne K (.ref a.CNet) (.type "int") = some false
  ki_Net_list : PySem.W.kitOne K (.ref a.CNet) (.type "list") = some false
  ki_Net_tuple : PySem.W.kitOne K (.ref a.CNet) (.type "tuple") = some false
  ki_Net_dict : PySem.W.kitOne K (.ref a.CNet) (.type "dict") = some false
  ki_Net_bool : PySem.W.kitOne K (.ref a.CNet) (.type "bool") = some false
  kx_InvalidName : PySem.W.kitOne K (.ref a.CInvalidName) (.type "str") = some false
  cn_ : PySem.W.specialIn K (.builtin "object.__class__") "__get__" = some (some (.builtin "getset_descriptor.__get__"))
  ct_ : PySem.W.takesIn K (.builtin "object.__class__") = some true
  lkE : ∃ o n, K.lookup a.bkE = some o ∧ o.cls = .type "tuple" ∧ o.data = .seq #[] n
  lkN : ∃ o n, K.lookup a.ntE = some o ∧ o.cls = .type "tuple" ∧ o.data = .seq #[] n

section
variable {P : Program} {w : World} {K : PySem.W.Frag} {mg : Str → Option Value} {base : Heap} {a : Ad} {d : Fd}
theorem ok_cell (T : Txt K mg a d) : FnG P w K mg base CX0 1 a.cell d.cell ["_law_script", "_law_k"] (Tp.spCell K) := by
  refine okG T.F_cell scCell (fun vs H Q E h => ?_) (fun cdv A outer s H vs Q E hr hg h => ?_)
  · obtain ⟨s, ns, k, rfl, _⟩ := h
    rfl
  · obtain ⟨s, ns, k, rfl, hS, h0, h1, q⟩ := h
    refine ⟨_, (pss_cons (ps_if (pt_cmpR op_lt (pv 1) (pe_callB call_len_seq (by rfl) T.len_ Tp.bt_len (pa_cons (pv 0) pa_nil)) (nomark _)) (pss_one (ps_ret (pe_ix ix_list (pv 0) (pv 1) (fun _ _ => rfl)))) pss_nil)
      (pss_one (ps_ret (pe_op op_add (pe_op op_mul pe_int (pv 1)) pe_int)))), ?_⟩
    refine ⟨_, rfl, _, rfl, s, _, rfl, .inl hS, _, _, rfl, rfl, _, rfl, ?_⟩
    refine ite2 (fun c => ?_) (fun c => ?_)
    · have c' := of_decide_eq_true c
      rw [List.length_map] at c'
      obtain ⟨j, rfl⟩ := Int.eq_ofNat_of_zero_le h0
      have hj : j < ns.length := by omega
      exact ⟨_, rfl, _, rfl, s, _, _, _, rfl, rfl, hS, atI_nat (by rw [List.getElem?_map, List.getElem?_eq_getElem hj]; rfl), q _⟩
    · exact ⟨_, rfl, _, _, rfl, rfl, .inl ⟨by decide, by decide⟩, _, _, rfl, rfl, q _⟩
theorem ok_box (T : Txt K mg a d) : FnG P w K mg base CX0 1 a.box d.box ["_law_cell_here"] Tp.spBox := by
  refine okG T.F_box scBox (fun vs H Q E h => ?_) (fun cdv A outer s H vs Q E hr hg h => ?_)
  · obtain ⟨c, rfl, _⟩ := h
    rfl
  · obtain ⟨c, rfl, q⟩ := h
    refine ⟨_, (pss_one (ps_ret (pe_lst (pa_cons (pe_callB (call_max2 rfl) (by rfl) T.max_ Tp.bt_max (pa_cons pe_int (pa_cons (pe_op op_sub (pv 0) (pe_op op_pow pe_int pe_int)) pa_nil))) (pa_cons (pe_op op_modN (pv 0) pe_int) (pa_cons pe_int pa_nil)))))), ?_⟩
    refine ⟨_, rfl, _, _, rfl, rfl, ⟨by decide, by decide, by decide⟩, _, _, rfl, rfl, _, _, rfl, _, rfl, _, _, rfl, rfl, (show (_ : Int) ≠ 0 from by decide), (show 3 ≤ sizeLine from by decide), fun p hp => q p _ _ hp ?_ ?_ ?_⟩
    · split <;> omega
    · rw [Int.fmod_eq_emod_of_nonneg _ (by decide)]; exact Int.emod_nonneg _ (by decide)
    · rw [Int.fmod_eq_emod_of_nonneg _ (by decide)]; exact Int.emod_lt_of_pos _ (by decide)
theorem ok_take (T : Txt K mg a d) : FnG P w K mg base CX0 1 a.take d.take ["_law_box_here", "_law_many"] Tp.spTake := by
  refine okG T.F_take scTake (fun vs H Q E h => ?_) (fun cdv A outer s H vs Q E hr hg h => ?_)
  · obtain ⟨b, m, n, rfl, _⟩ := h
    rfl
  · obtain ⟨b, m, n, rfl, ⟨x, y, z, hb, x0, y0, y1, z0, z1⟩, hn, m0, m1, q⟩ := h
    refine ⟨_, (pss_cons (ps_if (pt_cmpR op_gt (pe_ix ix_list (pv 0) pe_int (fun _ _ => rfl)) pe_int (nomark _)) (pss_cons (ps_set (i := 2) scTake.nd rfl (Or.inl rfl) (pe_op op_modN (pe_ix ix_list (pv 0) pe_int (fun _ _ => rfl)) (pv 1)))
      (pss_cons (ps_asg (pe_op op_fdivN (pe_ix ix_list (pv 0) pe_int (fun _ _ => rfl)) (pv 1)) (pg_sub (pv 0) pe_int set_list))
      (pss_one (ps_ret (pv 2))))) pss_nil)
      (pss_cons (ps_asg (pe_op op_add (pe_ix ix_list (pv 0) pe_int (fun _ _ => rfl)) pe_int) (pg_sub (pv 0) pe_int set_list))
      (pss_cons (ps_set (i := 3) scTake.nd rfl (Or.inl rfl) (pe_op op_modN (pe_op op_pow (pe_op op_add (pe_op op_add (pe_ix ix_list (pv 0) pe_int (fun _ _ => rfl)) (pe_op op_mul pe_int (pe_ix ix_list (pv 0) pe_int (fun _ _ => rfl)))) pe_int) pe_int) pe_int))
      (pss_cons (ps_set (i := 3) scTake.nd rfl (Or.inl rfl) (pe_op op_modN (pe_op op_pow (pe_op op_add (pv 3) (pe_op op_mul pe_int (pe_ix ix_list (pv 0) pe_int (fun _ _ => rfl)))) pe_int) pe_int))
      (pss_one (ps_ret (pe_op op_modN (pe_op op_fdivN (pv 3) pe_int) (pv 1)))))))), ?_⟩
    refine ⟨_, rfl, b, _, _, _, rfl, rfl, SqL.of hb, rfl, _, _, rfl, rfl, _, rfl, ?_⟩
    refine ite2 (fun c => ?_) (fun c => ?_)
    · have c' := of_decide_eq_true c
      refine ⟨_, rfl, b, _, _, _, rfl, rfl, SqL.of hb, rfl, _, rfl, _, _, rfl, rfl, (by show m ≠ 0; omega), ?_⟩
      refine ⟨_, rfl, b, _, _, _, rfl, rfl, SqL.of hb, rfl, _, rfl, _, _, rfl, rfl, ⟨by omega, by omega⟩, _, rfl, b, _, _, _, rfl, rfl, hb, rfl, _, rfl, ?_⟩
      show Q (V.int (x.fmod m)) _
      rw [Int.fmod_eq_emod_of_nonneg _ (by omega)]
      refine q _ _ (Int.emod_nonneg _ (by omega)) (Int.emod_lt_of_pos _ m0) Kp.box ⟨x.fdiv m, y, z, upd_same, ?_, y0, y1, z0, by omega⟩
      rw [Int.fdiv_eq_ediv_of_nonneg _ (by omega)]
      exact Int.ediv_nonneg x0 (by omega)
    · refine ⟨_, rfl, b, _, _, _, rfl, rfl, SqL.of hb, rfl, _, _, rfl, rfl, _, rfl, b, _, _, _, rfl, rfl, hb, rfl, ?_⟩
      have h2 : (upd H b (.lst [V.int x, V.int y, V.int (z + 1)])) b = some (.lst [V.int x, V.int y, V.int (z + 1)]) := upd_same
      refine ⟨_, rfl, b, _, _, _, rfl, rfl, SqL.of h2, rfl, _, rfl, b, _, _, _, rfl, rfl, SqL.of h2, rfl, _, _, rfl, rfl, .inl ⟨by decide, by decide⟩, _, _, rfl, rfl, _, _, rfl, rfl, _, _, rfl, rfl, ⟨by decide, by decide, mixA y0 y1 z0 (by omega) (by decide) (by decide)⟩, _, _, rfl, rfl, (show (_ : Int) ≠ 0 from by decide), ?_⟩
      refine ⟨_, rfl, _, rfl, b, _, _, _, rfl, rfl, SqL.of h2, rfl, _, _, rfl, rfl, .inl ⟨by decide, by decide⟩, _, _, rfl, rfl, _, _, rfl, rfl, ⟨by decide, by decide, mixB z0 (by omega) (by decide)⟩, _, _, rfl, rfl, (show (_ : Int) ≠ 0 from by decide), ?_⟩
      refine ⟨_, rfl, _, _, rfl, rfl, ⟨by decide, by decide⟩, _, rfl, _, _, rfl, rfl, (by show m ≠ 0; omega), ?_⟩
      show Q (V.int (Int.fmod _ m)) _
      rw [Int.fmod_eq_emod_of_nonneg _ (by omega : (0 : Int) ≤ m)]
      exact q _ _ (Int.emod_nonneg _ (by omega)) (Int.emod_lt_of_pos _ m0) Kp.box ⟨x, y, z + 1, h2, x0, y0, y1, by omega, by omega⟩
end
end L02


set_option Elab.async false
set_option linter.all false
set_option maxRecDepth 100000
set_option maxHeartbeats 4000000
set_option pp.deepTerms false
set_option pp.deepTerms.threshold 4
set_option pp.maxSteps 1000
namespace L02
open PySem L2 Tp
section
variable {P : Program} {w : World} {K : PySem.W.Frag} {mg : Str → Option Value} {base : Heap} {a : Ad} {d : Fd}
theorem ok_isName (T : Txt K mg a d) : FnOk P w K mg base CX0 1 a.isName d.isName ["value"] (spName K) := by
  refine okN T.F_isName scIsName (fun vs H Q E h => ?_) (fun cdv A outer s H vs Q E hr h => ?_)
  · obtain ⟨v, b, rfl, _⟩ := h
    rfl
  · obtain ⟨v, b, rfl, h, q⟩ := h
    refine ⟨_, (pss_cons (ps_if (PW.pt (pw_or (pt_not (pt_val (pe_callB (Tp.call_isA (K := K) rfl) (by rfl) T.isinstance_ Tp.bt_isinstance (pa_cons (pv 0) (pa_cons (pe_bltn (v := .ty "str") (by rfl) T.str_ Tp.bt_str rfl) pa_nil))))) (pw_or1 (pt_not (pt_chain op_lt op_le pe_int (pe_callB call_len_str (by rfl) T.len_ Tp.bt_len (pa_cons (pv 0) pa_nil)) (Tp.pe_glI (by rfl) T.mg_LONGEST_NAME)))))) (pss_one (ps_ret pe_bl)) pss_nil)
      (pss_one (ps_ret (pe_and (pe_cmpR op_in_sign (pe_ix ix_str (pv 0) pe_int (fun _ _ => rfl)) (Tp.pe_glS (by rfl) T.mg_LETTERS) (by rfl)) (pe_one (pe_cmpR op_eq (pe_bm PySem.F.plainAttrs_str PySem.F.slot_str_strip PySem.F.type_str_strip mt_stripChars (pv 0) (pa_cons (pe_op op_add_str (Tp.pe_glS (by rfl) T.mg_LETTERS) (Tp.pe_glS (by rfl) T.mg_DIGITS)) pa_nil)) pe_str (nomark _))))))), ?_⟩
    rcases h with ⟨z, rfl, hz, rfl⟩ | ⟨⟨t, ty, kt⟩, rfl⟩
    · have hz' : z.length ≤ sizeLine := Nat.le_trans hz (by decide)
      refine ⟨_, rfl, _, _, _, _, true, rfl, .ty _, .x (.base (.str z)), kit_ty (by decide +kernel), _, rfl, iteF ?_⟩
      refine ⟨_, rfl, z, rfl, hz', _, _, rfl, rfl, _, rfl, if2 (fun l0 => ?_) (fun l0 => ?_)⟩
      rotate_left
      · rw [nm_nil l0] at q
        exact ⟨_, rfl, iteT q⟩
      refine ⟨_, _, rfl, rfl, _, rfl, ifn2 (fun l1 => ?_) (fun l1 => ?_)⟩
      rotate_left
      · rw [nm_long l1] at q
        exact q
      obtain ⟨c, cs, e⟩ : ∃ c cs, z.cps.toList = c :: cs := by
        cases e : z.cps.toList with
        | nil => have l := len_list z; rw [e] at l; simp at l; omega
        | cons c cs => exact ⟨c, cs, rfl⟩
      rw [nm_cons e l1] at q
      have at0 : atI z.cps.toList 0 = some c := by rw [e]; exact atI_nat (j := 0) rfl
      refine ⟨_, rfl, z, _, c, rfl, rfl, hz', at0, c, _, rfl, rfl, ?_⟩
      rw [show decide (c ∈ (Str.ofString "abcdefghijklmnopqrstuvwxyz").cps.toList) = lowC c from by
        by_cases h : c ∈ ("abcdefghijklmnopqrstuvwxyz" : Str).cps.toList
        · exact (decide_eq_true h).trans ((mem_low c).mp h).symm
        · exact (decide_eq_false h).trans (Bool.eq_false_iff.mpr fun k => h ((mem_low c).mpr k)).symm]
      refine ⟨_, rfl, ?_⟩
      cases hl : lowC c with
      | false =>
        rw [hl, Bool.false_and] at q
        exact iteF q
      | true =>
        rw [hl, Bool.true_and] at q
        refine iteT ⟨_, rfl, rfl, _, _, rfl, rfl, (by decide), z, _, rfl, rfl, hz', rfl, ?_⟩
        have e2 : decide (V.str (Txt.stripChars z (Str.ofString "abcdefghijklmnopqrstuvwxyz" ++ Str.ofString "0123456789")) = V.str (Str.ofString "")) = (c :: cs).all fun x => lowC x || digC x := by
          cases hb : (c :: cs).all fun x => lowC x || digC x with
          | true => exact decide_eq_true (congrArg V.str ((strip_empty _ _).mpr fun x hx => (mem_sign x).mpr (List.all_eq_true.mp hb x (by rw [← e]; exact hx))))
          | false =>
            refine decide_eq_false fun k => Bool.eq_false_iff.mp hb (List.all_eq_true.mpr fun x hx => ?_)
            exact (mem_sign x).mp ((strip_empty _ _).mp (V.str.inj k) x (by rw [e]; exact hx))
        show Q (V.bl (decide _)) H
        rw [e2]
        exact q
    · exact ⟨_, rfl, _, _, _, _, false, rfl, .ty _, ty, kt, _, rfl, iteT q⟩
theorem ok_xName (T : Txt K mg a d) : FnOk P w K mg base CX0 1 a.xName d.xName ["self", "value"] (spXI a.CInvalidName "value") := by
  refine okN T.F_xName scXName (fun vs H Q E h => ?_) (fun cdv A outer s H vs Q E hr h => ?_)
  · obtain ⟨x, v, rfl, _⟩ := h
    rfl
  · obtain ⟨x, v, rfl, hx, q⟩ := h
    refine ⟨_, (pss_cons (ps_expr (Tp.pe_ownInit (by rfl) T.mg_NetError T.ba_NetError (pa_cons (pv 0) (pa_cons pe_str pa_nil))))
      (pss_one (ps_ost (pv 0) (pv 1)))), ?_⟩
    exact ⟨_, rfl, x, _, _, rfl, by decide, T.ox_InvalidName, hx, _, rfl, _, rfl, x, _, rfl, T.ox_InvalidName, T.no_InvalidName, .inl ⟨hx, fun dx h1 h2 => q dx h1 h2⟩⟩
theorem x_Name (T : Txt K mg a d) : ExT P w K mg base a.CInvalidName a.xName d.xName "value" := ⟨T.ox_InvalidName, T.iC_InvalidName, T.tI_InvalidName, ok_xName T, T.b_xName⟩
/-! ### is_integer -/
def intD (d : PyData) (lo hi : Int) : Bool := match d with
  | .int i => decide (lo ≤ i) && decide (i ≤ hi)
  | _ => false
def IntIs (K : PySem.W.Frag) (H : Hp) (v : V) (lo hi : Int) (b : Bool) : Prop := (∃ d, Dq K H v d ∧ b = intD d lo hi) ∨ ((∃ t, TyX K H v t ∧ PySem.W.kitOne K t (.type "int") = some false) ∧ b = false)
def spIsInt (K : PySem.W.Frag) : Sp := fun vs H Q _ => ∃ (v : V) (lo hi : Int) (b : Bool), vs = [v, .int lo, .int hi] ∧ IntIs K H v lo hi b ∧ Q (.bl b) H
theorem ok_isInt (T : Txt K mg a d) : FnOk P w K mg base CX0 1 a.isInt d.isInt ["value", "low", "high"] (spIsInt K) := by
  refine okN T.F_isInt scIsInt (fun vs H Q E h => ?_) (fun cdv A outer s H vs Q E hr h => ?_)
  · obtain ⟨v, lo, hi, b, rfl, _⟩ := h
    rfl
  · obtain ⟨v, lo, hi, b, rfl, h, q⟩ := h
    refine ⟨_, (pss_one (ps_ret (pe_and (pe_callB call_isi (by rfl) T.isinstance_ Tp.bt_isinstance (pa_cons (pv 0) (pa_cons (pe_bltn (v := .ty "int") (by rfl) T.int_ Tp.bt_int rfl) pa_nil))) (pe_and (pe_not (pe_callB call_isi (by rfl) T.isinstance_ Tp.bt_isinstance (pa_cons (pv 0) (pa_cons (pe_bltn (v := .ty "bool") (by rfl) T.bool_ Tp.bt_bool rfl) pa_nil)))) (pe_one (pe_chain op_le op_le (pv 1) (pv 0) (pv 2))))))), ?_⟩
    rcases h with ⟨dd, dq, rfl⟩ | ⟨⟨t, ty, kt⟩, rfl⟩
    · refine ⟨_, rfl, _, _, _, _, isI dd, rfl, .ty _, dq_ty dq, kit_int dd, _, rfl, ?_⟩
      cases dq with
      | int i =>
        refine iteT ⟨_, rfl, _, _, _, _, false, rfl, .ty _, .base (.int i), kit_ty (by decide +kernel), _, rfl, _, rfl, iteT ?_⟩
        refine ⟨_, rfl, _, rfl, _, _, rfl, rfl, _, rfl, if2 (fun c => ?_) (fun c => ?_)⟩
        · refine ⟨_, rfl, _, _, rfl, rfl, ?_⟩
          show Q (.bl (decide (i ≤ hi))) H
          have e : intD (.int i) lo hi = decide (i ≤ hi) := by
            show (decide (lo ≤ i) && decide (i ≤ hi)) = _
            rw [decide_eq_true c, Bool.true_and]
          rw [e] at q
          exact q
        · have e : intD (.int i) lo hi = false := by
            show (decide (lo ≤ i) && decide (i ≤ hi)) = _
            rw [decide_eq_false c, Bool.false_and]
          rw [e] at q
          exact q
      | bl b => exact iteT ⟨_, rfl, _, _, _, _, true, rfl, .ty _, .base (.bl b), kit_ty (by decide +kernel), _, rfl, _, rfl, iteF q⟩
      | _ => exact iteF q
    · exact ⟨_, rfl, _, _, _, _, false, rfl, .ty _, ty, kt, _, rfl, iteF q⟩
/-! ### is_list, is_pair -/
def spIsList (K : PySem.W.Frag) : Sp := fun vs H Q _ => ∃ (v : V) (t : Value) (b : Bool), vs = [v] ∧ TyX K H v t ∧ PySem.W.kitAny K t [.type "list", .type "tuple"] = some b ∧ ∀ H', Same H H' → Q (.bl b) H'
theorem ok_isList (T : Txt K mg a d) : FnOk P w K mg base CX0 1 a.isList d.isList ["value"] (spIsList K) := by
  refine okN T.F_isList scIsList (fun vs H Q E h => ?_) (fun cdv A outer s H vs Q E hr h => ?_)
  · obtain ⟨v, t, b, rfl, _⟩ := h
    rfl
  · obtain ⟨v, t, b, rfl, ty, kt, q⟩ := h
    refine ⟨_, (pss_one (ps_ret (pe_callB call_isiT (by rfl) T.isinstance_ Tp.bt_isinstance (pa_cons (pv 0) (pa_cons (pe_tup (pa_cons (pe_bltn (v := .ty "list") (by rfl) T.list_ Tp.bt_list rfl) (pa_cons (pe_bltn (v := .ty "tuple") (by rfl) T.tuple_ Tp.bt_tuple rfl) pa_nil))) pa_nil))))), ?_⟩
    refine ⟨_, rfl, (show 2 ≤ sizeLine from by decide), fun tp ntp => ?_⟩
    exact ⟨v, tp, _, t, _, b, rfl, upd_same, cls_lt, ty_same (same_new ntp) ty, kt, q _ (same_new ntp)⟩
def NoLT (K : PySem.W.Frag) (H : Hp) (v : V) : Prop := ∃ t, TyX K H v t ∧ PySem.W.kitAny K t [.type "list", .type "tuple"] = some false
def pairD (d : PyData) : Bool := isLT d && decide ((itemsD d).length = 2)
def PairIs (K : PySem.W.Frag) (H : Hp) (v : V) (b : Bool) : Prop := (∃ d, Dq K H v d ∧ b = pairD d) ∨ (NoLT K H v ∧ b = false)
def spIsPair (K : PySem.W.Frag) : Sp := fun vs H Q _ => ∃ (v : V) (b : Bool), vs = [v] ∧ PairIs K H v b ∧ ∀ H', Same H H' → Q (.bl b) H'
theorem ok_isPair (T : Txt K mg a d) : FnOk P w K mg base CX0 2 a.isPair d.isPair ["value"] (spIsPair K) := by
  have G_isList := ok_isList (P := P) (w := w) (base := base) T
  refine okN T.F_isPair scIsPair (fun vs H Q E h => ?_) (fun cdv A outer s H vs Q E hr h => ?_)
  · obtain ⟨v, b, rfl, _⟩ := h
    rfl
  · obtain ⟨v, b, rfl, h, q⟩ := h
    refine ⟨_, (pss_one (ps_ret (pe_and (pe_call G_isList (hr.mono (by decide)) (by rfl) T.mg_isList T.F_isList.kp T.b_isList .nil pass0 (pa_cons (pv 0) pa_nil)) (pe_one (pe_cmpR op_eq (pe_callB call_len_seq (by rfl) T.len_ Tp.bt_len (pa_cons (pv 0) pa_nil)) pe_int (nomark _)))))), ?_⟩
    rcases h with ⟨dd, dq, rfl⟩ | ⟨⟨t, ty, kt⟩, rfl⟩
    · refine ⟨_, rfl, v, _, _, rfl, dq_ty dq, kit_lt dd, fun H1 S1 => ⟨_, rfl, ?_⟩⟩
      cases e : isLT dd with
      | false =>
        have q := q H1 S1
        unfold pairD at q
        rw [e, Bool.false_and] at q
        exact iteF q
      | true =>
        obtain ⟨l, xs, rfl, sq, da⟩ := dq_seq dq e
        refine iteT ⟨_, rfl, l, xs, rfl, sqB_len (sq.same S1), rfl, ?_⟩
        have q := q H1 S1
        have e2 : decide (V.int (xs.length : Int) = V.int 2) = decide ((itemsD dd).length = 2) := by
          rw [← dqAll_len da]
          by_cases h : xs.length = 2
          · rw [decide_eq_true h]; exact decide_eq_true (by rw [h]; rfl)
          · rw [decide_eq_false h]; exact decide_eq_false (fun k => h (by have := V.int.inj k; omega))
        unfold pairD at q
        rw [e, Bool.true_and, ← e2] at q
        exact q
    · exact ⟨_, rfl, v, _, _, rfl, ty, kt, fun H1 S1 => ⟨_, rfl, iteF (q _ S1)⟩⟩
/-! ### is_term_row, is_terms -/
def SD (d : PyData) : Prop := ∀ z, d = .str z → z.length ≤ 10000
def rowD (d : PyData) (n : Int) : Bool := match itemsD d with
  | [x, y] => isLT d && (nmD x && (isLT y && (decide ((itemsD y).length ≤ 3) && (itemsD y).all fun e => intD e 0 (n - 1))))
  | _ => false
def spTRow (K : PySem.W.Frag) : Sp := fun vs H Q _ => ∃ (v : V) (d : PyData) (n : Int), vs = [v, .int n] ∧ Dq K H v d ∧ (∀ x ∈ itemsD d, SD x) ∧ ∀ H', Same H H' → Q (.bl (rowD d n)) H'
theorem row_nopair {d : PyData} {n : Int} (h : pairD d = false) : rowD d n = false := by
  unfold rowD
  split
  · rename_i x y e
    unfold pairD at h
    rw [e] at h
    have : isLT d = false := by simpa using h
    rw [this, Bool.false_and]
  · rfl
theorem ok_isTRow (T : Txt K mg a d) : FnOk P w K mg base CX0 3 a.isTRow d.isTRow ["value", "many"] (spTRow K) := by
  have G_isList := ok_isList (P := P) (w := w) (base := base) T
  have G_isPair := ok_isPair (P := P) (w := w) (base := base) T
  have G_isName := ok_isName (P := P) (w := w) (base := base) T
  have G_isInt := ok_isInt (P := P) (w := w) (base := base) T
  refine okN T.F_isTRow scIsTRow (fun vs H Q E h => ?_) (fun cdv A outer s H vs Q E hr h => ?_)
  · obtain ⟨v, dd, n, rfl, _⟩ := h
    rfl
  · obtain ⟨v, dd, n, rfl, dq, sd, q⟩ := h
    refine ⟨_, (pss_cons (ps_if (PW.pt (pw_or (pt_not (pt_val (pe_call G_isPair (hr.mono (by decide)) (by rfl) T.mg_isPair T.F_isPair.kp T.b_isPair .nil pass0 (pa_cons (pv 0) pa_nil)))) (pw_or (pt_not (pt_val (pe_call G_isName (hr.mono (by decide)) (by rfl) T.mg_isName T.F_isName.kp T.b_isName .nil pass0 (pa_cons (pe_ix ix_seq (pv 0) pe_int (fun _ _ => rfl)) pa_nil)))) (pw_or (pt_not (pt_val (pe_call G_isList (hr.mono (by decide)) (by rfl) T.mg_isList T.F_isList.kp T.b_isList .nil pass0 (pa_cons (pe_ix ix_seq (pv 0) pe_int (fun _ _ => rfl)) pa_nil)))) (pw_or1 (pt_cmpR op_gt (pe_callB call_len_seq (by rfl) T.len_ Tp.bt_len (pa_cons (pe_ix ix_seq (pv 0) pe_int (fun _ _ => rfl)) pa_nil)) (Tp.pe_glI (by rfl) T.mg_MOST_ARGUMENTS) (nomark _))))))) (pss_one (ps_ret pe_bl)) pss_nil)
      (pss_one (ps_ret (pe_callB (cr_all rfl) (by rfl) T.all_ Tp.bt_all (pa_cons (pe_lc (own := [("number", 2)]) (by rfl) scIsTRow.nd (Tp.pi_B (K := K) rfl (pe_ix ix_seq (pv 0) pe_int (fun _ _ => rfl))) (blkOk_by (own := [("number", 2)]) (N := scIsTRow_N) (sc := defScope scIsTRow_st) (by decide +kernel)) (fun _ _ _ _ _ => (pg_name (i := 2) scIsTRow.nd rfl (Or.inl rfl))) (fun _ _ _ _ _ => pts_nil) (fun _ _ _ _ _ => (pe_call G_isInt (hr.mono (by decide)) (by rfl) T.mg_isInt T.F_isInt.kp T.b_isInt .nil pass0 (pa_cons (pv 2) (pa_cons pe_int (pa_cons (pe_op op_sub (pv 1) pe_int) pa_nil)))))) pa_nil))))), ?_⟩
    refine ⟨_, rfl, v, pairD dd, rfl, .inl ⟨dd, dq, rfl⟩, fun H1 S1 => ⟨_, rfl, ?_⟩⟩
    cases ep : pairD dd with
    | false =>
      have q := q H1 S1
      rw [row_nopair ep] at q
      exact iteT q
    | true =>
      refine iteF ?_
      have ep2 := Bool.and_eq_true_iff.mp ep
      obtain ⟨l, xs, rfl, sq, da⟩ := dq_seq dq ep2.1
      have e2 : (itemsD dd).length = 2 := of_decide_eq_true ep2.2
      obtain ⟨x, y, ei⟩ : ∃ x y, itemsD dd = [x, y] := by
        match h : itemsD dd with
        | [x, y] => exact ⟨x, y, rfl⟩
        | [] => rw [h] at e2; cases e2
        | [_] => rw [h] at e2; cases e2
        | _ :: _ :: _ :: _ => rw [h] at e2; simp at e2
      rw [ei] at da sd
      cases da with
      | cons dx r =>
        cases r with
        | cons dy r2 =>
          cases r2
          rename_i vx vy
          have er : rowD dd n = (nmD x && (isLT y && (decide ((itemsD y).length ≤ 3) && (itemsD y).all fun e => intD e 0 (n - 1)))) := by
            unfold rowD
            rw [ei, ep2.1]
            exact Bool.true_and _
          have ixB : ∀ {H' : Hp} {i : Int} {u : V} {Q' : VK}, Same H H' → atI [vx, vy] i = some u → Q' u H' → rIx K (.ref l) (.int i) H' Q' := by
            intro H' i u Q' S hu hq
            cases hb : isTup dd with
            | true => rw [hb] at sq; exact .inr (.inl ⟨l, _, i, u, rfl, rfl, SqB.same (b := true) S sq, hu, hq⟩)
            | false => rw [hb] at sq; exact .inl ⟨l, _, i, u, rfl, rfl, SqB.same (b := false) S sq, hu, hq⟩
          refine ⟨_, rfl, ixB S1 (i := 0) (u := vx) rfl ?_⟩
          refine ⟨vx, nmD x, rfl, name_dq ((dq_same S1).1 dx) (sd x List.mem_cons_self), _, rfl, ?_⟩
          cases en : nmD x with
          | false =>
            have q := q H1 S1
            rw [er, en, Bool.false_and] at q
            exact iteT q
          | true =>
            refine iteF ⟨_, rfl, ixB S1 (i := 1) (u := vy) rfl ?_⟩
            refine ⟨vy, _, _, rfl, dq_ty ((dq_same S1).1 dy), kit_lt y, fun H2 S2 => ⟨_, rfl, ?_⟩⟩
            have S12 := S1.trans S2
            cases el : isLT y with
            | false =>
              have q := q H2 S12
              rw [er, en, el, Bool.true_and, Bool.false_and] at q
              exact iteT q
            | true =>
              refine iteF ⟨_, rfl, ixB S12 (i := 1) (u := vy) rfl ?_⟩
              obtain ⟨l2, ys, rfl, sq2, da2⟩ := dq_seq dy el
              have ly := dqAll_len da2
              refine ⟨l2, ys, rfl, sqB_len (sq2.same S12), _, _, rfl, rfl, _, rfl, if2 (fun c => ?_) (fun c => ?_)⟩
              · have q := q H2 S12
                have : decide ((itemsD y).length ≤ 3) = false := decide_eq_false (by omega)
                rw [er, en, el, this, Bool.true_and, Bool.true_and, Bool.false_and] at q
                exact q
              · have l3 : (itemsD y).length ≤ 3 := by omega
                refine ⟨_, rfl, ixB S12 (i := 1) (u := .ref l2) rfl ?_⟩
                refine ⟨isTup y, l2, ys, rfl, sq2.same S12, fun D hD => ?_⟩
                refine lc_it (walk_B (xs := ys)) (fun i H' => Same H2 H' ∧ H' D = some (.lst ((((itemsD y).take i).map fun e => intD e 0 (n - 1)).map V.bl))) ⟨same_new hD, upd_same⟩ ?_ ?_ ?_
                · rintro i H' _ ⟨S, _⟩
                  exact sq2.same (S12.trans S)
                · rintro i u _ H' hi ⟨S, hD'⟩ ⟨rfl, hu⟩
                  obtain ⟨e, he, de⟩ := dqAll_get da2 hu
                  refine ⟨rfl, _, rfl, _, rfl, _, _, rfl, rfl, u, 0, n - 1, intD e 0 (n - 1), rfl, .inl ⟨e, (dq_same (S12.trans S)).1 de, rfl⟩, _, hD', ?_, Tp.Same.mut S hD, ?_⟩
                  · rw [List.length_map, List.length_map, List.length_take]
                    exact Nat.lt_of_le_of_lt (show _ ≤ 3 by omega) (by decide)
                  · rw [upd_same, List.take_add_one, he, List.map_append, List.map_append]
                    rfl
                · rintro H3 ⟨S3, hD'⟩
                  rw [ly, List.take_length] at hD'
                  refine ⟨D, _, rfl, SqL.of hD', ?_⟩
                  have q := q H3 (S12.trans S3)
                  have e3 : (((itemsD y).map fun e => intD e 0 (n - 1)).all id) = (itemsD y).all fun e => intD e 0 (n - 1) := by rw [List.all_map]; rfl
                  rw [er, en, el, decide_eq_true l3, Bool.true_and, Bool.true_and, Bool.true_and, ← e3] at q
                  exact q
def termsD (d : PyData) : Bool := isLT d && (List.range (itemsD d).length).all fun (i : Nat) => rowD ((itemsD d).getD i .none) i
def TermsIs (K : PySem.W.Frag) (H : Hp) (v : V) (b : Bool) : Prop := (∃ d, Dq K H v d ∧ (itemsD d).length ≤ 1000 ∧ (∀ r ∈ itemsD d, ∀ x ∈ itemsD r, SD x) ∧ b = termsD d) ∨ (NoLT K H v ∧ b = false)
def spTerms (K : PySem.W.Frag) : Sp := fun vs H Q _ => ∃ (v : V) (b : Bool), vs = [v] ∧ TermsIs K H v b ∧ ∀ H', Same H H' → Q (.bl b) H'
theorem ok_isTerms (T : Txt K mg a d) : FnOk P w K mg base CX0 4 a.isTerms d.isTerms ["value"] (spTerms K) := by
  have G_isList := ok_isList (P := P) (w := w) (base := base) T
  have G_isTRow := ok_isTRow (P := P) (w := w) (base := base) T
  refine okN T.F_isTerms scIsTerms (fun vs H Q E h => ?_) (fun cdv A outer s H vs Q E hr h => ?_)
  · obtain ⟨v, b, rfl, _⟩ := h
    rfl
  · obtain ⟨v, b, rfl, h, q⟩ := h
    refine ⟨_, (pss_one (ps_ret (pe_and (pe_call G_isList (hr.mono (by decide)) (by rfl) T.mg_isList T.F_isList.kp T.b_isList .nil pass0 (pa_cons (pv 0) pa_nil)) (pe_one (pe_callB (cr_all rfl) (by rfl) T.all_ Tp.bt_all (pa_cons (pe_lc (own := [("index", 1), ("row", 2)]) (by rfl) scIsTerms.nd (Tp.pi_enumB (K := K) rfl (by rfl) T.enumerate_ (pa_cons (pv 0) pa_nil)) (blkOk_by (own := [("index", 1), ("row", 2)]) (N := scIsTerms_N) (sc := defScope scIsTerms_st) (by decide +kernel)) (fun _ _ _ _ _ => (Tp.pg_B (n := 2) (K := K) rfl rfl (pgs_cons (pg_name (i := 1) scIsTerms.nd rfl (Or.inl rfl)) (pgs_cons (pg_name (i := 2) scIsTerms.nd rfl (Or.inl rfl)) pgs_nil)))) (fun _ _ _ _ _ => pts_nil) (fun _ _ _ _ _ => (pe_call G_isTRow (hr.mono (by decide)) (by rfl) T.mg_isTRow T.F_isTRow.kp T.b_isTRow .nil pass0 (pa_cons (pv 2) (pa_cons (pv 1) pa_nil))))) pa_nil)))))), ?_⟩
    rcases h with ⟨dd, dq, l1000, sd, rfl⟩ | ⟨⟨t, ty, kt⟩, rfl⟩
    · refine ⟨_, rfl, v, _, _, rfl, dq_ty dq, kit_lt dd, fun H1 S1 => ⟨_, rfl, ?_⟩⟩
      cases e : isLT dd with
      | false =>
        have q := q H1 S1
        unfold termsD at q
        rw [e, Bool.false_and] at q
        exact iteF q
      | true =>
        obtain ⟨l, xs, rfl, sq, da⟩ := dq_seq dq e
        have ly := dqAll_len da
        refine iteT ⟨_, rfl, isTup dd, l, xs, rfl, sq.same S1, fun D hD => ?_⟩
        refine lc_it (walk_enumB (xs := xs)) (fun i H' => Same H1 H' ∧ H' D = some (.lst (((List.range i).map fun (j : Nat) => rowD ((itemsD dd).getD j .none) j).map V.bl))) ⟨same_new hD, upd_same⟩ ?_ ?_ ?_
        · rintro i H' _ ⟨S, _⟩
          exact sq.same (S1.trans S)
        · rintro i u H' _ hi ⟨S, hD'⟩ ⟨TT, x, y, rfl, hT, rfl, hx, hy⟩
          cases hx
          obtain ⟨e', he, de⟩ := dqAll_get da hy
          have ST : Same H' (upd H' TT (.tup [.int (i : Nat), y])) := same_new hT
          have gT : (upd H' TT (.tup [.int (i : Nat), y])) TT = some (.tup [.int (i : Nat), y]) := upd_same
          generalize upd H' TT (.tup [.int (i : Nat), y]) = H2 at ST gT ⊢
          refine ⟨true, TT, _, rfl, SqT.of gT, rfl, _, _, rfl, _, _, rfl, rfl, rfl, _, rfl, _, rfl, y, e', (i : Nat), rfl, (dq_same (S1.trans (S.trans ST))).1 de, sd e' (List.mem_of_getElem? he), fun H3 S3 => ?_⟩
          refine ⟨_, S3 _ _ (ST _ _ hD'), ?_, Tp.Same.mut (S.trans (ST.trans S3)) hD, ?_⟩
          · rw [List.length_map, List.length_map, List.length_range]
            exact Nat.lt_of_le_of_lt (show _ ≤ 1000 by omega) (by decide)
          · rw [upd_same, List.range_succ, List.map_append, List.map_append]
            simp [List.getD, he]
        · rintro H2 ⟨S2, hD'⟩
          rw [ly] at hD'
          refine ⟨D, _, rfl, SqL.of hD', ?_⟩
          have q := q H2 (S1.trans S2)
          unfold termsD at q
          rw [e, Bool.true_and] at q
          rw [List.all_map]
          exact q
    · exact ⟨_, rfl, v, _, _, rfl, ty, kt, fun H1 S1 => ⟨_, rfl, iteF (q _ S1)⟩⟩
theorem kb_isName (T : Txt K mg a d) : KBn K d.isName ["value"] 0 ["value"] (fun _ ws => ws) (fun _ zs => zs) :=
  kbP T.F_isName ["value"] (fun l => l) (fun r => r) fun kV doc pm an cdv ct ws hl => match ws, hl with
    | [_], _ => rfl
theorem kb_isList (T : Txt K mg a d) : KBn K d.isList ["value"] 0 ["value"] (fun _ ws => ws) (fun _ zs => zs) :=
  kbP T.F_isList ["value"] (fun l => l) (fun r => r) fun kV doc pm an cdv ct ws hl => match ws, hl with
    | [_], _ => rfl
theorem kb_isTerms (T : Txt K mg a d) : KBn K d.isTerms ["value"] 0 ["value"] (fun _ ws => ws) (fun _ zs => zs) :=
  kbP T.F_isTerms ["value"] (fun l => l) (fun r => r) fun kV doc pm an cdv ct ws hl => match ws, hl with
    | [_], _ => rfl
def rot3 {α : Type} : List α → List α
  | [h, v, l] => [v, l, h]
  | l => l
theorem rot3_rel {zs : List V} {ws : List Value} (r : Vals zs ws) : Vals (rot3 zs) (rot3 ws) := by
  match r with
  | .nil => exact .nil
  | .cons a .nil => exact .cons a .nil
  | .cons a (.cons b .nil) => exact .cons a (.cons b .nil)
  | .cons a (.cons b (.cons c .nil)) => exact .cons b (.cons c (.cons a .nil))
  | .cons a (.cons b (.cons c (.cons e t))) => exact .cons a (.cons b (.cons c (.cons e t)))
theorem kb_isInt (T : Txt K mg a d) : KBn K d.isInt ["value", "low", "high"] 0 ["high", "value", "low"] (fun _ ws => rot3 ws) (fun _ zs => rot3 zs) :=
  kbP T.F_isInt ["high", "value", "low"] rot3 rot3_rel fun kV doc pm an cdv ct ws hl => match ws, hl with
    | [_, _, _], _ => rfl
end
end L02


set_option Elab.async false
set_option linter.all false
set_option maxRecDepth 100000
set_option maxHeartbeats 4000000
set_option pp.deepTerms false
set_option pp.deepTerms.threshold 9
set_option pp.maxSteps 4000
namespace L02
open PySem L2 Tp
section
variable {P : Program} {w : World} {K : PySem.W.Frag} {mg : Str → Option Value} {base : Heap} {a : Ad} {d : Fd}
theorem okD {k : Nat} {f : Addr} {fd : FuncData} {ps : List Str} {sp : Sp} {x qual : Str} {st : Stmt} {dvs : List V} {kws : List (Str × V)} {N : List Str} (F : FunD K x qual (defArgs st) (defBody st) (defScope st) dvs kws f fd) (S : FnScope N ps (defScope st))
    (ar : ∀ vs H Q E, sp vs H Q E → vs.length = ps.length)
    (bd : ∀ (cdv : Value) (A : Around) (outer : List Env) (s : Shared) (H : Hp) (vs : List V) (Q : VK) (E : XK), Room k (A.deeper (PyProof.Rows.envOfC qual (defScope st) s.heap.objs.size f cdv)) → sp vs H Q E →
      ∃ t, PSs (cxOf CX0 P w K mg base N qual (defScope st) f cdv A outer s H E).nox (defBody st) t ∧ t { nx := fun _ H' => Q .non H', rt := Q } (start N vs) H) :
    FnOk P w K mg base CX0 (k + 1) f fd ps sp := F.ok S ar fun cdv A outer s H vs Q E hr h => let ⟨t, p, q⟩ := bd cdv A outer s H vs Q E hr h; ⟨t, p.nox, q⟩
theorem emp_T {e : Addr} {H : Hp} (h : ∃ o n, K.lookup e = some o ∧ o.cls = .type "tuple" ∧ o.data = .seq #[] n) : SqT K H e [] := by
  obtain ⟨o, n, h1, h2, h3⟩ := h
  exact .inr ⟨o, #[], n, h1, h2, h3, Nat.zero_le _, .nil⟩
/-- a loop over an empty thing -/
theorem for_none {J : It} {G : Hp → Prop} {Y : Nat → Hp → V → Hp → Prop} (w : Walk J 0 G Y) {g : TG} {tb : TS} {D : Ends} {σ : L2.St} {H : Hp} (hG : G H) (hd : D.nx σ H) :
    ∃ W : Nat → Nat → L2.St → Hp → Prop, (∃ m, W 0 m σ H) ∧ ∀ i m σ H, W i m σ H →
      (J.stop i H ∧ D.nx σ H) ∨ (J.go i H ∧ ∃ N : L2.St → Hp → Prop, (∀ σ' H', N σ' H' → ∃ m', m' < m ∧ W (i + 1) m' σ' H') ∧ ∀ x H', J.yld i H x H' → g x σ H' fun σ2 H2 => tb { D with nx := N, ct := N, bk := D.nx } σ2 H2) :=
  for_it w (fun i σ' H' => i = 0 ∧ σ' = σ ∧ H' = H) ⟨rfl, rfl, rfl⟩ (fun _ _ _ _ h => by obtain ⟨_, _, rfl⟩ := h; exact hG) (fun _ _ _ _ _ hi => absurd hi (Nat.not_lt_zero _)) (fun _ _ h => by obtain ⟨_, rfl, rfl⟩ := h; exact hd)
def spBookInit (C E : Addr) : Sp := fun vs H Q _ => ∃ (p dx : Addr), vs = [.ref p, .ref E] ∧ H p = some (.ins C dx []) ∧ ∀ H' fs, Kp p H H' → H' p = some (.ins C dx fs) → Q .non H'
theorem ok_bookInit (T : Txt K mg a d) : FnOk P w K mg base CX0 2 a.bookInit d.bookInit ["self", "rows"] (spBookInit a.CBook a.bkE) := by
  have G_isList := ok_isList (P := P) (w := w) (base := base) T
  refine okD T.F_bookInit scBookInit (fun vs H Q E h => ?_) (fun cdv A outer s H vs Q E hr h => ?_)
  · obtain ⟨p, dx, rfl, _⟩ := h
    rfl
  · obtain ⟨p, dx, rfl, hp, q⟩ := h
    refine ⟨_, (pss_cons (ps_if (pt_not (pt_val (pe_call G_isList (hr.mono (by decide)) (by rfl) T.mg_isList T.F_isList.kp T.b_isList .nil pass0 (pa_cons (pv 1) pa_nil)))) (pss_one ps_never) pss_nil)
      (pss_cons (ps_fld (pv 0) (pe_lst pa_nil) rfl)
      (pss_cons (ps_fld (pv 0) pe_dnewK rfl)
      (pss_one (ps_for PassesOwn.never rfl (pi_tup (pv 1)) Tp.pg_never Tp.pss_never))))), ?_⟩
    refine ⟨_, rfl, _, _, true, rfl, ty_sqT (emp_T T.lkE), kit_lt (.tuple []), fun H1 S1 => ⟨_, rfl, iteF ?_⟩⟩
    have hp1 := S1 _ _ hp
    refine ⟨Nat.zero_le _, fun l hl => ?_⟩
    have npl : p ≠ l := ne_of_none hp1 hl
    refine ⟨_, rfl, p, a.CBook, dx, [], rfl, (by rw [upd_ne npl]; exact hp1), T.cl_Book, T.n_Book_held, (by show 0 < 1000; decide), fun m hm => ?_⟩
    have npm : p ≠ m := fun z => by
      rw [z, upd_same] at hm
      cases hm
    refine ⟨_, rfl, p, a.CBook, dx, _, rfl, (by rw [upd_ne npm]; exact upd_same), T.cl_Book, T.n_Book_numbers, (by show 1 < 1000; decide), ?_⟩
    refine ⟨_, rfl, _, rfl, ⟨[], emp_T T.lkE⟩, for_none (walk_tup (xs := [])) (emp_T T.lkE) ?_⟩
    refine q _ _ ?_ upd_same
    have k1 : Kp p H H1 := fun b u _ e => S1 _ _ e
    have k2 : Kp p H1 (upd (upd H1 l (.lst [])) p (.ins a.CBook dx (putF "held" (.ref l) []))) := (Kp.new hl).trans Kp.box
    exact ((k1.trans k2).trans (Kp.new hm)).trans Kp.box
theorem bk0 (T : Txt K mg a d) : ∃ ds, Vals [V.ref a.bkE] ds ∧ Binds K d.bookInit ["self", "rows"] ds :=
  T.F_bookInit.binds1 1 0 (by simp) rfl fun TT kV doc pm an cdv ct us its hu hi => match us, hu, its, hi with
    | [_], _, [_], _ => ⟨_, rfl, rfl⟩
theorem nt0 (T : Txt K mg a d) : ∃ ds, Vals [V.ref a.ntE] ds ∧ Binds K d.netInit ["self", "inputs", "gates", "outs", "terms"] ds :=
  T.F_netInit.binds1 4 0 (by simp) rfl fun TT kV doc pm an cdv ct us its hu hi => match us, hu, its, hi with
    | [_, _, _, _], _, [_], _ => ⟨_, rfl, rfl⟩
/-! ### the parts of Net([], [], []) -/
def spNeedLists (K : PySem.W.Frag) : Sp := fun vs H Q _ => ∃ (l : Addr) (xs : List V), vs = [.ref l] ∧ SqL K H l xs ∧ (∀ v ∈ xs, ∃ t, TyX K H v t ∧ PySem.W.kitAny K t [.type "list", .type "tuple"] = some true) ∧ ∀ H', Same H H' → Q .non H'
theorem ok_needLists (T : Txt K mg a d) : FnOk P w K mg base CX0 2 a.needLists d.needLists ["parts"] (spNeedLists K) := by
  have G_isList := ok_isList (P := P) (w := w) (base := base) T
  refine okN T.F_needLists scNeedLists (fun vs H Q E h => ?_) (fun cdv A outer s H vs Q E hr h => ?_)
  · obtain ⟨l, xs, rfl, _⟩ := h
    rfl
  · obtain ⟨l, xs, rfl, hl, hx, q⟩ := h
    refine ⟨_, (pss_one (ps_for PassesOwn.never rfl (pi_list (pv 0)) (pg_name (i := 1) scNeedLists.nd rfl (Or.inl rfl)) (pss_one (ps_if (pt_not (pt_val (pe_call G_isList (hr.mono (by decide)) (by rfl) T.mg_isList T.F_isList.kp T.b_isList .nil pass0 (pa_cons (pv 1) pa_nil)))) (pss_one ps_never) pss_nil)))), ?_⟩
    refine ⟨_, rfl, l, rfl, ⟨_, hl⟩, for_it (walk_list (xs := xs)) (fun i σ H' => Same H H' ∧ ∃ v, σ = [some (.ref l), v]) ⟨Same.refl H, _, rfl⟩ ?_ ?_ ?_⟩
    · rintro i σ H' _ ⟨S, _⟩
      exact S.seq hl
    · rintro i y σ _ H' hi ⟨S, v, rfl⟩ ⟨rfl, hy⟩
      obtain ⟨t, ty, kt⟩ := hx y (List.mem_of_getElem? hy)
      exact ⟨_, rfl, y, t, true, rfl, ty_same S ty, kt, fun H1 S1 => ⟨_, rfl, iteF ⟨S.trans S1, _, rfl⟩⟩⟩
    · rintro σ H' ⟨S, _⟩
      exact q _ S
def spNeedGates (K : PySem.W.Frag) : Sp := fun vs H Q _ => ∃ (g k : Addr), vs = [.ref g, .ref k] ∧ SqL K H g [] ∧ Q .non H
theorem ok_needGates (T : Txt K mg a d) : FnOk P w K mg base CX0 1 a.needGates d.needGates ["gates", "known"] (spNeedGates K) := by
  refine okN T.F_needGates scNeedGates (fun vs H Q E h => ?_) (fun cdv A outer s H vs Q E hr h => ?_)
  · obtain ⟨g, k, rfl, _⟩ := h
    rfl
  · obtain ⟨g, k, rfl, hg, q⟩ := h
    refine ⟨_, (pss_one (ps_for PassesOwn.never rfl (pi_list (pv 0)) Tp.pg_never Tp.pss_never)), ?_⟩
    exact ⟨_, rfl, g, rfl, ⟨_, hg⟩, for_none (walk_list (xs := [])) hg q⟩
def spNeedTerms (K : PySem.W.Frag) : Sp := fun vs H Q _ => ∃ t : Addr, vs = [.ref t] ∧ SqT K H t [] ∧ Q .non H
theorem ok_needTerms (T : Txt K mg a d) : FnOk P w K mg base CX0 1 a.needTerms d.needTerms ["terms"] (spNeedTerms K) := by
  refine okN T.F_needTerms scNeedTerms (fun vs H Q E h => ?_) (fun cdv A outer s H vs Q E hr h => ?_)
  · obtain ⟨t, rfl, _⟩ := h
    rfl
  · obtain ⟨t, rfl, ht, q⟩ := h
    refine ⟨_, (pss_one (ps_for PassesOwn.never rfl (Tp.pi_enumB (K := K) rfl (by rfl) T.enumerate_ (pa_cons (pv 0) pa_nil)) Tp.pg_never Tp.pss_never)), ?_⟩
    exact ⟨_, rfl, true, t, [], rfl, ht, for_none (walk_enumB (b := true) (xs := [])) ht q⟩
def spTableInit (C : Addr) : Sp := fun vs H Q _ => ∃ (p dx : Addr), vs = [.ref p] ∧ H p = some (.ins C dx []) ∧ ∀ l m, H l = none → H m = none → l ≠ m → l ≠ p → Q .non (upd (upd (upd H l (.lst [])) m (.dK [])) p (.ins C dx [("own_rows", .ref l), ("own_numbers", .ref m)]))
theorem ok_tableInit (T : Txt K mg a d) : FnOk P w K mg base CX0 1 a.tableInit d.tableInit ["self"] (spTableInit a.CTable) := by
  refine okN T.F_tableInit scTableInit (fun vs H Q E h => ?_) (fun cdv A outer s H vs Q E hr h => ?_)
  · obtain ⟨p, dx, rfl, _⟩ := h
    rfl
  · obtain ⟨p, dx, rfl, hp, q⟩ := h
    refine ⟨_, (pss_cons (ps_fld (pv 0) (pe_lst pa_nil) rfl)
      (pss_one (ps_fld (pv 0) pe_dnewK rfl))), ?_⟩
    refine ⟨Nat.zero_le _, fun l hl => ?_⟩
    have npl : p ≠ l := ne_of_none hp hl
    refine ⟨_, rfl, p, a.CTable, dx, [], rfl, (by rw [upd_ne npl]; exact hp), T.cl_Table, T.n_Table_own_rows, (by show 0 < 1000; decide), fun m hm => ?_⟩
    have npm : p ≠ m := fun z => by
      rw [z, upd_same] at hm
      cases hm
    have nlm : l ≠ m := fun z => by
      rw [← z, upd_ne (Ne.symm npl), upd_same] at hm
      cases hm
    refine ⟨_, rfl, p, a.CTable, dx, _, rfl, (by rw [upd_ne npm]; exact upd_same), T.cl_Table, T.n_Table_own_numbers, (by show 1 < 1000; decide), ?_⟩
    have hm' : H m = none := by
      rw [upd_ne (Ne.symm npm), upd_ne (Ne.symm nlm)] at hm
      exact hm
    have e : upd (upd (upd (upd H l (.lst [])) p (.ins a.CTable dx (putF "own_rows" (.ref l) []))) m (.dK [])) p (.ins a.CTable dx (putF "own_numbers" (.ref m) (putF "own_rows" (.ref l) []))) = upd (upd (upd H l (.lst [])) m (.dK [])) p (.ins a.CTable dx [("own_rows", .ref l), ("own_numbers", .ref m)]) := by
      funext b
      by_cases h1 : b = p
      · rw [h1, upd_same, upd_same]
        rfl
      · rw [upd_ne h1, upd_ne h1]
        by_cases h2 : b = m
        · rw [h2, upd_same, upd_same]
        · rw [upd_ne h2, upd_ne h2, upd_ne h1]
    show Q .non _
    rw [e]
    exact q l m hl hm' nlm (Ne.symm npl)
def spPutRows (K : PySem.W.Frag) : Sp := fun vs H Q _ => ∃ (p r : Addr), vs = [.ref p, .ref r] ∧ SqL K H r [] ∧ ∀ l, H l = none → Q (.ref l) (upd H l (.lst []))
theorem ok_putRows (T : Txt K mg a d) : FnOk P w K mg base CX0 1 a.putRows d.putRows ["self", "rows"] (spPutRows K) := by
  refine okN T.F_putRows scPutRows (fun vs H Q E h => ?_) (fun cdv A outer s H vs Q E hr h => ?_)
  · obtain ⟨p, r, rfl, _⟩ := h
    rfl
  · obtain ⟨p, r, rfl, hr', q⟩ := h
    refine ⟨_, (pss_cons (ps_set (i := 2) scPutRows.nd rfl (Or.inr rfl) (pe_lst pa_nil))
      (pss_cons (ps_for PassesOwn.never rfl (pi_list (pv 1)) Tp.pg_never Tp.pss_never)
      (pss_one (ps_ret (pv 2))))), ?_⟩
    refine ⟨Nat.zero_le _, fun l hl => ?_⟩
    exact ⟨_, rfl, r, rfl, ⟨_, (same_new hl).seq hr'⟩, for_none (walk_list (xs := [])) ((same_new hl).seq hr') ⟨_, rfl, q l hl⟩⟩
def spTableRows (K : PySem.W.Frag) (C : Addr) : Sp := fun vs H Q _ => ∃ (p dx l m : Addr), vs = [.ref p] ∧ H p = some (.ins C dx [("own_rows", .ref l), ("own_numbers", .ref m)]) ∧ SqL K H l [] ∧ ∀ q, H q = none → Q (.ref q) (upd H q (.lst []))
theorem ok_tableRows (T : Txt K mg a d) : FnOk P w K mg base CX0 1 a.tableRows d.tableRows ["self"] (spTableRows K a.CTable) := by
  refine okN T.F_tableRows scTableRows (fun vs H Q E h => ?_) (fun cdv A outer s H vs Q E hr h => ?_)
  · obtain ⟨p, dx, l, m, rfl, _⟩ := h
    rfl
  · obtain ⟨p, dx, l, m, rfl, hp, hl, q⟩ := h
    refine ⟨_, (pss_one (ps_ret (pe_callTy call_list_of (by rfl) T.list_ Tp.bt_list (pa_cons (pe_fld (pv 0) (by rfl)) pa_nil)))), ?_⟩
    exact ⟨_, rfl, p, _, _, _, _, rfl, hp, T.cl_Table, T.n_Table_own_rows, rfl, l, _, rfl, .inl hl, q⟩
def spUseOrder (K : PySem.W.Frag) : Sp := fun vs H Q _ => ∃ (r o : Addr), vs = [.ref r, .ref o] ∧ SqL K H o [] ∧ ∀ H' l, Same H H' → H' l = some (.lst []) → Q (.ref l) H'
theorem ok_useOrder (T : Txt K mg a d) : FnOk P w K mg base CX0 1 a.useOrder d.useOrder ["rows", "roots"] (spUseOrder K) := by
  refine okN T.F_useOrder scUseOrder (fun vs H Q E h => ?_) (fun cdv A outer s H vs Q E hr h => ?_)
  · obtain ⟨r, o, rfl, _⟩ := h
    rfl
  · obtain ⟨r, o, rfl, ho, q⟩ := h
    refine ⟨_, (pss_cons (ps_par (i := 2) (j := 3) (by rfl) scUseOrder.nd rfl rfl (by decide) rfl rfl (pa_cons (pe_lst pa_nil) (pa_cons pe_dnewK pa_nil)) (by rfl))
      (pss_cons (ps_for PassesOwn.never rfl (pi_list (pv 1)) Tp.pg_never Tp.pss_never)
      (pss_one (ps_ret (pv 2))))), ?_⟩
    refine ⟨Nat.zero_le _, fun l hl => fun m hm => ⟨_, _, rfl, ?_⟩⟩
    have S := (same_new (o := .lst []) hl).trans (same_new (o := .dK []) hm)
    exact ⟨_, rfl, o, rfl, ⟨_, S.seq ho⟩, for_none (walk_list (xs := [])) (S.seq ho) ⟨_, rfl, q _ l S (same_new hm _ _ upd_same)⟩⟩
/-- a comprehension over an empty thing -/
theorem lc_none {J : It} {G : Hp → Prop} {Y : Nat → Hp → V → Hp → Prop} (w : Walk J 0 G Y) {g : TG} {tt : TT} {te : TE} {vs : List Nat} {σ : L2.St} {H1 : Hp} {D : Addr} {Qd : Hp → Prop} (hG : G (upd H1 D (.lst []))) (hd : Qd (upd H1 D (.lst []))) :
    ∃ W : Nat → Nat → Hp → Prop, (∃ m, W 0 m (upd H1 D (.lst []))) ∧ ∀ i m H, W i m H →
      (J.stop i H ∧ Qd H) ∨ (J.go i H ∧ ∃ Nx : Hp → Prop, (∀ H', Nx H' → ∃ m', m' < m ∧ W (i + 1) m' H') ∧ ∀ x H', J.yld i H x H' → g x (wipe σ vs) H' fun σ2 H2 => wipe σ2 vs = wipe σ vs ∧ tt σ2 H2 fun b H3 =>
        if b = true then te σ2 H3 fun y H4 => ∃ acc, H4 D = some (.lst acc) ∧ acc.length < sizeLine ∧ Nx (upd H4 D (.lst (acc ++ [y]))) else Nx H3) :=
  lc_it w (fun i H' => i = 0 ∧ H' = upd H1 D (.lst [])) ⟨rfl, rfl⟩ (fun _ _ _ h => by obtain ⟨_, rfl⟩ := h; exact hG) (fun _ _ _ _ hi => absurd hi (Nat.not_lt_zero _)) (fun _ h => by obtain ⟨_, rfl⟩ := h; exact hd)
/-- a dict comprehension over an empty thing -/
theorem dc_none {J : It} {G : Hp → Prop} {Y : Nat → Hp → V → Hp → Prop} (w : Walk J 0 G Y) {g : TG} {tt : TT} {tk tv : TE} {vs : List Nat} {σ : L2.St} {H1 : Hp} {D : Addr} {Qd : Hp → Prop} (hG : G (upd H1 D (.dK []))) (hd : Qd (upd H1 D (.dK []))) :
    ∃ W : Nat → Nat → Hp → Prop, (∃ m, W 0 m (upd H1 D (.dK []))) ∧ ∀ i m H, W i m H →
      (J.stop i H ∧ Qd H) ∨ (J.go i H ∧ ∃ Nx : Hp → Prop, (∀ H', Nx H' → ∃ m', m' < m ∧ W (i + 1) m' H') ∧ ∀ x H', J.yld i H x H' → g x (wipe σ vs) H' fun σ2 H2 => wipe σ2 vs = wipe σ vs ∧ tt σ2 H2 fun b H3 =>
        if b = true then tk σ2 H3 fun y H4 => tv σ2 H4 fun z H5 => ∃ kvs k, y = kV k ∧ H5 D = some (.dK kvs) ∧ kvs.length < sizeLine ∧ Nx (upd H5 D (.dK (putK kvs k z))) else Nx H3) :=
  dc_it w (fun i H' => i = 0 ∧ H' = upd H1 D (.dK [])) ⟨rfl, rfl⟩ (fun _ _ _ h => by obtain ⟨_, rfl⟩ := h; exact hG) (fun _ _ _ _ hi => absurd hi (Nat.not_lt_zero _)) (fun _ h => by obtain ⟨_, rfl⟩ := h; exact hd)
def spStandard (K : PySem.W.Frag) : Sp := fun vs H Q _ => ∃ (r o : Addr), vs = [.ref r, .ref o] ∧ SqL K H r [] ∧ SqL K H o [] ∧ ∀ H' t f q, Same H H' → H' t = some (.tup [.ref f, .ref q]) → H' f = some (.lst []) → H' q = some (.lst []) → Q (.ref t) H'
theorem lc_none2 {J : It} {G : Hp → Prop} {Y : Nat → Hp → V → Hp → Prop} (w : Walk J 0 G Y) {R : Nat → (Hp → Prop) → V → Hp → Prop} {H1 : Hp} {D : Addr} {Qd : Hp → Prop} (hG : G (upd H1 D (.lst []))) (hd : Qd (upd H1 D (.lst []))) :
    ∃ W : Nat → Nat → Hp → Prop, (∃ m, W 0 m (upd H1 D (.lst []))) ∧ ∀ i m H, W i m H →
      (J.stop i H ∧ Qd H) ∨ (J.go i H ∧ ∃ Nx : Hp → Prop, (∀ H', Nx H' → ∃ m', m' < m ∧ W (i + 1) m' H') ∧ ∀ x H', J.yld i H x H' → R i Nx x H') := by
  refine ⟨fun i m H => i = 0 ∧ H = upd H1 D (.lst []), ⟨0, rfl, rfl⟩, ?_⟩
  rintro i m H ⟨rfl, rfl⟩
  exact .inl ⟨w.stops _ hG, hd⟩
def spExtract (K : PySem.W.Frag) : Sp := fun vs H Q _ => ∃ (r o : Addr), vs = [.ref r, .ref o] ∧ SqL K H o [] ∧ ∀ H' t f q, Same H H' → H' t = some (.tup [.ref f, .ref q]) → H' f = some (.lst []) → H' q = some (.lst []) → Q (.ref t) H'
theorem ok_extract (T : Txt K mg a d) : FnOk P w K mg base CX0 2 a.extract d.extract ["rows", "roots"] (spExtract K) := by
  have G_useOrder := ok_useOrder (P := P) (w := w) (base := base) T
  refine okN T.F_extract scExtract (fun vs H Q E h => ?_) (fun cdv A outer s H vs Q E hr h => ?_)
  · obtain ⟨r, o, rfl, _⟩ := h
    rfl
  · obtain ⟨r, o, rfl, ho, q⟩ := h
    refine ⟨_, (pss_cons (ps_set (i := 2) scExtract.nd rfl (Or.inl rfl) (pe_call G_useOrder (hr.mono (by decide)) (by rfl) T.mg_useOrder T.F_useOrder.kp T.b_useOrder .nil pass0 (pa_cons (pv 0) (pa_cons (pv 1) pa_nil))))
      (pss_cons (ps_set (i := 3) scExtract.nd rfl (Or.inr rfl) (pe_dc (own := [("at", 8), ("number", 5)]) (by rfl) scExtract.nd (pi_enum (by rfl) T.enumerate_ (pa_cons (pv 2) pa_nil)) (blkOk_by (own := [("at", 8), ("number", 5)]) (N := scExtract_N) (sc := defScope scExtract_st) (by decide +kernel)) (fun _ _ _ _ _ => Tp.pg_never) (fun _ _ _ _ _ => Tp.pts_never) (fun _ _ _ _ _ => Tp.pe_never) (fun _ _ _ _ _ => Tp.pe_never)))
      (pss_cons (ps_set (i := 4) scExtract.nd rfl (Or.inl rfl) (pe_lst pa_nil))
      (pss_cons (ps_for PassesOwn.never rfl (pi_list (pv 2)) Tp.pg_never Tp.pss_never)
      (pss_one (ps_ret (pe_tup (pa_cons (pv 4) (pa_cons (pe_lc (own := [("root", 9)]) (by rfl) scExtract.nd (pi_list (pv 1)) (blkOk_by (own := [("root", 9)]) (N := scExtract_N) (sc := defScope scExtract_st) (by decide +kernel)) (fun _ _ _ _ _ => Tp.pg_never) (fun _ _ _ _ _ => Tp.pts_never) (fun _ _ _ _ _ => Tp.pe_never)) pa_nil))))))))), ?_⟩
    refine ⟨_, rfl, _, rfl, r, o, rfl, ho, fun H1 l S1 hl => ?_⟩
    refine ⟨_, rfl, l, _, rfl, SqL.of hl, fun D hD => dc_none (walk_enum (xs := [])) (SqL.of (same_new hD _ _ hl)) ?_⟩
    have S2 : Same H1 (upd H1 D (.dK [])) := same_new hD
    generalize upd H1 D (.dK []) = H2 at S2
    refine ⟨Nat.zero_le _, fun f hf => ?_⟩
    have S3 : Same H2 (upd H2 f (.lst [])) := same_new hf
    have h3 : (upd H2 f (.lst [])) f = some (.lst []) := upd_same
    generalize upd H2 f (.lst []) = H3 at S3 h3
    have hl3 := S3 _ _ (S2 _ _ hl)
    refine ⟨_, rfl, l, rfl, ⟨_, SqL.of hl3⟩, for_none (walk_list (xs := [])) (SqL.of hl3) ?_⟩
    have S13 : Same H H3 := S1.trans (S2.trans S3)
    refine ⟨_, rfl, _, rfl, o, rfl, ⟨_, S13.seq ho⟩, fun D2 hD2 => lc_none (walk_list (xs := [])) ((S13.trans (same_new hD2)).seq ho) ?_⟩
    refine ⟨(show 2 ≤ sizeLine from by decide), fun t ht => q _ t f D2 (S13.trans ((same_new hD2).trans (same_new ht))) upd_same (same_new ht _ _ (same_new hD2 _ _ h3)) (same_new ht _ _ upd_same)⟩
theorem ok_standard (T : Txt K mg a d) : FnOk P w K mg base CX0 4 a.standard d.standard ["rows", "roots"] (spStandard K) := by
  have G_extract := ok_extract (P := P) (w := w) (base := base) T
  have G_tableInit := ok_tableInit (P := P) (w := w) (base := base) T
  have G_putRows := ok_putRows (P := P) (w := w) (base := base) T
  have G_tableRows := ok_tableRows (P := P) (w := w) (base := base) T
  refine okN T.F_standard scStandard (fun vs H Q E h => ?_) (fun cdv A outer s H vs Q E hr h => ?_)
  · obtain ⟨r, o, rfl, _⟩ := h
    rfl
  · obtain ⟨r, o, rfl, hr', ho, q⟩ := h
    refine ⟨_, (pss_cons (ps_set (i := 2) scStandard.nd rfl (Or.inl rfl) (pe_make0 T.mk_Table G_tableInit (hr.mono (by decide)) (by rfl) T.mg_Table T.b_tableInit .nil pass0))
      (pss_cons (ps_set (i := 3) scStandard.nd rfl (Or.inr rfl) (pe_meth (pv 2) T.cl_Table T.me_putRows G_putRows (hr.mono (by decide)) T.b_putRows .nil pass0 (pa_cons (pv 0) pa_nil)))
      (pss_one (ps_ret (pe_call G_extract (hr.mono (by decide)) (by rfl) T.mg_extract T.F_extract.kp T.b_extract .nil pass0 (pa_cons (pe_meth0 (pv 2) T.cl_Table T.me_tableRows G_tableRows (hr.mono (by decide)) T.b_tableRows .nil pass0) (pa_cons (pe_lc (own := [("root", 4)]) (by rfl) scStandard.nd (pi_list (pv 1)) (blkOk_by (own := [("root", 4)]) (N := scStandard_N) (sc := defScope scStandard_st) (by decide +kernel)) (fun _ _ _ _ _ => Tp.pg_never) (fun _ _ _ _ _ => Tp.pts_never) (fun _ _ _ _ _ => Tp.pe_never)) pa_nil))))))), ?_⟩
    refine fun p dx np ndx ne => ?_
    refine ⟨p, dx, rfl, upd_same, fun l m nl nm nlm nlp => ⟨rfl, ?_⟩⟩
    have npl : H l = none := by
      rw [upd_ne nlp] at nl
      by_cases z : l = dx
      · rw [z, upd_same] at nl; cases nl
      · rw [upd_ne z] at nl; exact nl
    have nmp : m ≠ p := fun z => by rw [z, upd_same] at nm; cases nm
    have npm : H m = none := by
      rw [upd_ne nmp] at nm
      by_cases z : m = dx
      · rw [z, upd_same] at nm; cases nm
      · rw [upd_ne z] at nm; exact nm
    generalize hH1 : upd (upd (upd (upd (upd H dx (.own p)) p (.ins a.CTable dx [])) l (.lst [])) m (.dK [])) p (.ins a.CTable dx [("own_rows", .ref l), ("own_numbers", .ref m)]) = H1
    have S1 : Same H H1 := fun b u hb => by
      rw [← hH1, upd_ne (ne_of_none hb np), upd_ne (ne_of_none hb npm), upd_ne (ne_of_none hb npl), upd_ne (ne_of_none hb np), upd_ne (ne_of_none hb ndx)]
      exact hb
    have h1 : H1 p = some (.ins a.CTable dx [("own_rows", .ref l), ("own_numbers", .ref m)]) := by rw [← hH1]; exact upd_same
    have hl1 : H1 l = some (.lst []) := by rw [← hH1, upd_ne nlp, upd_ne nlm]; exact upd_same
    clear hH1 nl nm
    refine ⟨_, rfl, p, _, _, rfl, h1, rfl, _, rfl, p, r, rfl, S1.seq hr', fun l2 nl2 => ?_⟩
    have S2 : Same H1 (upd H1 l2 (.lst [])) := same_new nl2
    generalize upd H1 l2 (.lst []) = H2 at S2
    refine ⟨_, rfl, p, _, _, rfl, S2 _ _ h1, rfl, p, dx, l, m, rfl, S2 _ _ h1, SqL.of (S2 _ _ hl1), fun l3 nl3 => ?_⟩
    have S3 : Same H2 (upd H2 l3 (.lst [])) := same_new nl3
    generalize upd H2 l3 (.lst []) = H3 at S3
    have S13 : Same H H3 := S1.trans (S2.trans S3)
    refine ⟨_, rfl, o, rfl, ⟨_, S13.seq ho⟩, fun D hD => lc_none (walk_list (xs := [])) ((S13.trans (same_new hD)).seq ho) ?_⟩
    have S4 : Same H3 (upd H3 D (.lst [])) := same_new hD
    have h4 : (upd H3 D (.lst [])) D = some (.lst []) := upd_same
    generalize upd H3 D (.lst []) = H4 at S4 h4
    exact ⟨l3, D, rfl, SqL.of h4, fun H5 t f q' S5 e1 e2 e3 => q _ t f q' (S13.trans (S4.trans S5)) e1 e2 e3⟩
def spOrder (K : PySem.W.Frag) : Sp := fun vs H Q _ => ∃ g : Addr, vs = [.ref g] ∧ SqT K H g [] ∧ ∀ H' l, Same H H' → H' l = some (.lst []) → Q (.ref l) H'
theorem ok_turnOrder (T : Txt K mg a d) : FnOk P w K mg base CX0 1 a.turnOrder d.turnOrder ["gates"] (spOrder K) := by
  refine okN T.F_turnOrder scTurnOrder (fun vs H Q E h => ?_) (fun cdv A outer s H vs Q E hr h => ?_)
  · obtain ⟨g, rfl, _⟩ := h
    rfl
  · obtain ⟨g, rfl, hg, q⟩ := h
    refine ⟨_, (pss_cons (ps_asg (pe_tup (pa_cons (pe_lst pa_nil) (pa_cons pe_dnewK (pa_cons (pe_dc (own := [("name", 5), ("symbol", 6), ("edges", 7)]) (by rfl) scTurnOrder.nd (pi_tup (pv 0)) (blkOk_by (own := [("name", 5), ("symbol", 6), ("edges", 7)]) (N := scTurnOrder_N) (sc := defScope scTurnOrder_st) (by decide +kernel)) (fun _ _ _ _ _ => Tp.pg_never) (fun _ _ _ _ _ => Tp.pts_never) (fun _ _ _ _ _ => Tp.pe_never) (fun _ _ _ _ _ => Tp.pe_never)) pa_nil)))) (pg_tup (by rfl) (pgs_cons (pg_name (i := 1) scTurnOrder.nd rfl (Or.inl rfl)) (pgs_cons (pg_name (i := 2) scTurnOrder.nd rfl (Or.inl rfl)) (pgs_cons (pg_name (i := 3) scTurnOrder.nd rfl (Or.inr rfl)) pgs_nil)))))
      (pss_cons (ps_set (i := 4) scTurnOrder.nd rfl (Or.inl rfl) pe_bl)
      (pss_cons (ps_while PassesOwn.never (pt_val (pv 4)) (pss_cons (ps_set (i := 4) scTurnOrder.nd rfl (Or.inl rfl) pe_bl)
      (pss_one (ps_for PassesOwn.never rfl (pi_tup (pv 0)) Tp.pg_never Tp.pss_never))))
      (pss_one (ps_ret (pv 1)))))), ?_⟩
    refine ⟨Nat.zero_le _, fun l hl => fun m hm => ?_⟩
    have S1 := (same_new (o := .lst []) hl).trans (same_new (o := .dK []) hm)
    have h1 := same_new (o := .dK []) hm _ _ (upd_same (H := H) (a := l) (o := .lst []))
    generalize upd (upd H l (.lst [])) m (.dK []) = H1 at S1 h1
    refine ⟨_, rfl, g, rfl, ⟨_, SqT.same S1 hg⟩, fun D hD => dc_none (walk_tup (xs := [])) (SqT.same (S1.trans (same_new hD)) hg) ?_⟩
    have S2 : Same H1 (upd H1 D (.dK [])) := same_new hD
    generalize upd H1 D (.dK []) = H2 at S2
    refine ⟨(show 3 ≤ sizeLine from by decide), fun t ht => ⟨t, _, rfl, SqT.of upd_same, rfl, _, _, rfl, _, _, rfl, _, _, rfl, rfl, ?_⟩⟩
    have S3 : Same H2 (upd H2 t (.tup [.ref l, .ref m, .ref D])) := same_new ht
    generalize upd H2 t (.tup [.ref l, .ref m, .ref D]) = H3 at S3
    have S13 : Same H H3 := S1.trans (S2.trans S3)
    have hg3 := SqT.same S13 hg
    refine ⟨fun k σ H' => H' = H3 ∧ ∃ b : Bool, k = b.toNat ∧ σ = [some (.ref g), some (.ref l), some (.ref m), some (.ref D), some (.bl b), none, none, none, none, none], ⟨1, rfl, true, rfl, rfl⟩, ?_⟩
    rintro k σ H' ⟨rfl, b, rfl, rfl⟩
    refine ⟨_, rfl, _, rfl, ?_⟩
    cases b with
    | true =>
      refine iteT ⟨fun σ' H'' => H'' = H' ∧ σ' = [some (.ref g), some (.ref l), some (.ref m), some (.ref D), some (.bl false), none, none, none, none, none], ?_, ?_⟩
      · rintro σ' H'' ⟨rfl, rfl⟩
        exact ⟨0, by decide, rfl, false, rfl, rfl⟩
      · exact ⟨_, rfl, g, rfl, ⟨_, hg3⟩, for_none (walk_tup (xs := [])) hg3 ⟨rfl, rfl⟩⟩
    | false => exact iteF ⟨_, rfl, q _ l S13 (S3 _ _ (S2 _ _ h1))⟩
def spReached (K : PySem.W.Frag) : Sp := fun vs H Q _ => ∃ (p b : Addr) (t : Bool), vs = [.ref p, .ref b] ∧ SqL K H p [] ∧ SqB t K H b [] ∧ ∀ H' r, Same H H' → Q (.ref r) H'
theorem ok_reached (T : Txt K mg a d) : FnOk P w K mg base CX0 1 a.reached d.reached ["pairs", "begins"] (spReached K) := by
  refine okN T.F_reached scReached (fun vs H Q E h => ?_) (fun cdv A outer s H vs Q E hr h => ?_)
  · obtain ⟨p, b, t, rfl, _⟩ := h
    rfl
  · obtain ⟨p, b, t, rfl, hp, hb, q⟩ := h
    refine ⟨_, (pss_cons (Tp.ps_setDc (i := 2) (own := [("name", 6)]) (by rfl) scReached.nd rfl rfl (Tp.sw_trueD rfl rfl rfl (by decide +kernel)) (Tp.pi_B (K := K) rfl (pv 1)) (blkOk_by (own := [("name", 6)]) (N := scReached_N) (sc := defScope scReached_st) (by decide +kernel)) (fun _ _ _ _ _ => Tp.pg_never) (fun _ _ _ _ _ => Tp.pts_never) (fun _ _ _ _ _ => Tp.pe_never) (fun _ _ _ _ _ => Tp.pe_never))
      (pss_cons (ps_set (i := 3) scReached.nd rfl (Or.inl rfl) pe_bl)
      (pss_cons (ps_while PassesOwn.never (pt_val (pv 3)) (pss_cons (ps_set (i := 3) scReached.nd rfl (Or.inl rfl) pe_bl)
      (pss_one (ps_for PassesOwn.never rfl (pi_list (pv 0)) Tp.pg_never Tp.pss_never))))
      (pss_one (ps_ret (pv 2)))))), ?_⟩
    refine ⟨_, rfl, t, b, _, rfl, hb, fun D hD => dc_none (walk_B (b := t) (xs := [])) (hb.same (same_new hD)) ?_⟩
    have S2 : Same H (upd H D (.dK [])) := same_new hD
    generalize upd H D (.dK []) = H2 at S2
    have hp2 := S2.seq hp
    refine ⟨fun k σ H' => H' = H2 ∧ ∃ c : Bool, k = c.toNat ∧ σ = [some (.ref p), some (.ref b), some (.ref D), some (.bl c), none, none, none], ⟨1, rfl, true, rfl, rfl⟩, ?_⟩
    rintro k σ H' ⟨rfl, c, rfl, rfl⟩
    refine ⟨_, rfl, _, rfl, ?_⟩
    cases c with
    | true =>
      refine iteT ⟨fun σ' H'' => H'' = H' ∧ σ' = [some (.ref p), some (.ref b), some (.ref D), some (.bl false), none, none, none], ?_, ?_⟩
      · rintro σ' H'' ⟨rfl, rfl⟩
        exact ⟨0, by decide, rfl, false, rfl, rfl⟩
      · exact ⟨_, rfl, p, rfl, ⟨_, hp2⟩, for_none (walk_list (xs := [])) hp2 ⟨rfl, rfl⟩⟩
    | false => exact iteF ⟨_, rfl, q _ D S2⟩
def spShape (K : PySem.W.Frag) : Sp := fun vs H Q _ => ∃ (i g o : Addr), vs = [.ref i, .ref g, .ref o] ∧ SqT K H i [] ∧ SqT K H g [] ∧ SqT K H o [] ∧ ∀ H' r, Same H H' → Q (.ref r) H'
theorem ok_needShape (T : Txt K mg a d) : FnOk P w K mg base CX0 2 a.needShape d.needShape ["inputs", "gates", "outs"] (spShape K) := by
  have G_turnOrder := ok_turnOrder (P := P) (w := w) (base := base) T
  have G_reached := ok_reached (P := P) (w := w) (base := base) T
  refine okN T.F_needShape scNeedShape (fun vs H Q E h => ?_) (fun cdv A outer s H vs Q E hr h => ?_)
  · obtain ⟨i, g, o, rfl, _⟩ := h
    rfl
  · obtain ⟨i, g, o, rfl, hi, hg, ho, q⟩ := h
    refine ⟨_, (pss_cons (ps_set (i := 3) scNeedShape.nd rfl (Or.inl rfl) (pe_call G_turnOrder (hr.mono (by decide)) (by rfl) T.mg_turnOrder T.F_turnOrder.kp T.b_turnOrder .nil pass0 (pa_cons (pv 1) pa_nil)))
      (pss_cons (ps_if (pt_cmpR op_lt (pe_callB call_len_seq (by rfl) T.len_ Tp.bt_len (pa_cons (pv 3) pa_nil)) (pe_callB call_len_seq (by rfl) T.len_ Tp.bt_len (pa_cons (pv 1) pa_nil)) (nomark _)) (pss_one ps_never) pss_nil)
      (pss_cons (ps_setLc2 (i := 4) (own := [("name", 7), ("symbol", 8), ("edges", 9), ("source", 10), ("starts", 11)]) (vs1 := [10, 11]) (by rfl) scNeedShape.nd rfl rfl (sw_true rfl rfl rfl (by decide +kernel)) (pi_tup (pv 1)) (blkOk_by (own := [("name", 7), ("symbol", 8), ("edges", 9), ("source", 10), ("starts", 11)]) (N := scNeedShape_N) (sc := defScope scNeedShape_st) (by decide +kernel)) (by decide) (fun _ _ _ _ _ => Tp.pg_never) (fun _ _ _ _ _ => Tp.pts_never) (fun _ _ _ _ _ => Tp.pi_never) (fun _ _ _ _ _ => Tp.pg_never) (fun _ _ _ _ _ => Tp.pts_never) (fun _ _ _ _ _ => Tp.pe_never))
      (pss_cons (ps_set (i := 5) scNeedShape.nd rfl (Or.inl rfl) (pe_call G_reached (hr.mono (by decide)) (by rfl) T.mg_reached T.F_reached.kp T.b_reached .nil pass0 (pa_cons (pv 4) (pa_cons (pv 0) pa_nil))))
      (pss_cons (ps_set (i := 6) scNeedShape.nd rfl (Or.inl rfl) (pe_call G_reached (hr.mono (by decide)) (by rfl) T.mg_reached T.F_reached.kp T.b_reached .nil pass0 (pa_cons (pe_lc (own := [("source", 10), ("name", 7)]) (by rfl) scNeedShape.nd (pi_list (pv 4)) (blkOk_by (own := [("source", 10), ("name", 7)]) (N := scNeedShape_N) (sc := defScope scNeedShape_st) (by decide +kernel)) (fun _ _ _ _ _ => Tp.pg_never) (fun _ _ _ _ _ => Tp.pts_never) (fun _ _ _ _ _ => Tp.pe_never)) (pa_cons (pe_lc (own := [("source", 10), ("starts", 11)]) (by rfl) scNeedShape.nd (pi_tup (pv 2)) (blkOk_by (own := [("source", 10), ("starts", 11)]) (N := scNeedShape_N) (sc := defScope scNeedShape_st) (by decide +kernel)) (fun _ _ _ _ _ => Tp.pg_never) (fun _ _ _ _ _ => Tp.pts_never) (fun _ _ _ _ _ => Tp.pe_never)) pa_nil))))
      (pss_cons (ps_for PassesOwn.never rfl (pi_tup (pv 1)) Tp.pg_never Tp.pss_never)
      (pss_cons (ps_for PassesOwn.never rfl (pi_tup (pv 1)) Tp.pg_never Tp.pss_never)
      (pss_one (ps_ret (pv 3)))))))))), ?_⟩
    refine ⟨_, rfl, g, rfl, hg, fun H1 l S1 hl => ?_⟩
    refine ⟨_, rfl, l, _, rfl, .inl (SqL.of hl), _, rfl, g, _, rfl, .inr (SqT.same S1 hg), _, _, rfl, rfl, _, rfl, iteF ?_⟩
    refine ⟨_, rfl, g, rfl, ⟨_, SqT.same S1 hg⟩, fun D hD => ⟨fun i m H => i = 0 ∧ H = upd H1 D (.lst []), ⟨0, rfl, rfl⟩, ?_⟩⟩
    rintro i' m' H' ⟨rfl, rfl⟩
    refine .inl ⟨(walk_tup (K := K) (a := g) (xs := [])).stops _ (SqT.same (S1.trans (same_new hD)) hg), ?_⟩
    have S2 : Same H1 (upd H1 D (.lst [])) := same_new hD
    have h2 : (upd H1 D (.lst [])) D = some (.lst []) := upd_same
    generalize upd H1 D (.lst []) = H2 at S2 h2
    have S12 := S1.trans S2
    refine ⟨_, rfl, _, rfl, D, i, true, rfl, SqL.of h2, SqT.same S12 hi, fun H3 r3 S3 => ?_⟩
    have S13 := S12.trans S3
    refine ⟨_, rfl, D, rfl, ⟨_, SqL.of (S3 _ _ h2)⟩, fun D2 hD2 => lc_none (walk_list (xs := [])) (SqL.of (same_new hD2 _ _ (S3 _ _ h2))) ?_⟩
    have S4 : Same H3 (upd H3 D2 (.lst [])) := same_new hD2
    have h4 : (upd H3 D2 (.lst [])) D2 = some (.lst []) := upd_same
    generalize upd H3 D2 (.lst []) = H4 at S4 h4
    have S14 := S13.trans S4
    refine ⟨_, rfl, o, rfl, ⟨_, SqT.same S14 ho⟩, fun D3 hD3 => lc_none (walk_tup (xs := [])) (SqT.same (S14.trans (same_new hD3)) ho) ?_⟩
    have S5 : Same H4 (upd H4 D3 (.lst [])) := same_new hD3
    have h5 : (upd H4 D3 (.lst [])) D3 = some (.lst []) := upd_same
    generalize upd H4 D3 (.lst []) = H5 at S5 h5
    refine ⟨D2, D3, false, rfl, SqL.of (S5 _ _ h4), SqL.of h5, fun H6 r6 S6 => ?_⟩
    have S16 := S14.trans (S5.trans S6)
    have hg6 := SqT.same S16 hg
    exact ⟨_, rfl, g, rfl, ⟨_, hg6⟩, for_none (walk_tup (xs := [])) hg6 ⟨_, rfl, g, rfl, ⟨_, hg6⟩, for_none (walk_tup (xs := [])) hg6 ⟨_, rfl, q _ l S16⟩⟩⟩
end
end L02


set_option Elab.async false
set_option linter.all false
set_option maxRecDepth 100000
set_option maxHeartbeats 4000000
set_option pp.deepTerms false
set_option pp.deepTerms.threshold 4
set_option pp.maxSteps 1000
namespace L02
open PySem L2 Tp
section
variable {P : Program} {w : World} {K : PySem.W.Frag} {mg : Str → Option Value} {base : Heap} {a : Ad} {d : Fd}
theorem sqL_kp {p C dx : Addr} {fs : List (Str × V)} {H H' : Hp} {b : Addr} {xs : List V} (hp : H p = some (.ins C dx fs)) (k : Kp p H H') (h : SqL K H b xs) : SqL K H' b xs := by
  rcases h with (h | ⟨o, h⟩) | h
  · exact .inl (.inl (k _ _ (fun z => by rw [z, hp] at h; cases h) h))
  · exact .inl (.inr ⟨o, k _ _ (fun z => by rw [z, hp] at h; cases h) h⟩)
  · exact .inr h
theorem sqT_kp {p C dx : Addr} {fs : List (Str × V)} {H H' : Hp} {b : Addr} {xs : List V} (hp : H p = some (.ins C dx fs)) (k : Kp p H H') (h : SqT K H b xs) : SqT K H' b xs := by
  rcases h with (h | ⟨o, h⟩) | h
  · exact .inl (.inl (k _ _ (fun z => by rw [z, hp] at h; cases h) h))
  · exact .inl (.inr ⟨o, k _ _ (fun z => by rw [z, hp] at h; cases h) h⟩)
  · exact .inr h
def spNetInit (K : PySem.W.Frag) (C : Addr) : Sp := fun vs H Q _ => ∃ (p dx i g o t : Addr), vs = [.ref p, .ref i, .ref g, .ref o, .ref t] ∧ H p = some (.ins C dx []) ∧ SqL K H i [] ∧ SqL K H g [] ∧ SqL K H o [] ∧ SqT K H t [] ∧ ∀ H' fs, Kp p H H' → H' p = some (.ins C dx fs) → Q .non H'
theorem ok_netInit (T : Txt K mg a d) : FnOk P w K mg base CX0 6 a.netInit d.netInit ["self", "inputs", "gates", "outs", "terms"] (spNetInit K a.CNet) := by
  have G_needLists := ok_needLists (P := P) (w := w) (base := base) T
  have G_needGates := ok_needGates (P := P) (w := w) (base := base) T
  have G_needTerms := ok_needTerms (P := P) (w := w) (base := base) T
  have G_standard := ok_standard (P := P) (w := w) (base := base) T
  have G_needShape := ok_needShape (P := P) (w := w) (base := base) T
  refine okD T.F_netInit scNetInit (fun vs H Q E h => ?_) (fun cdv A outer s H vs Q E hr h => ?_)
  · obtain ⟨p, dx, i, g, o, t, rfl, _⟩ := h
    rfl
  · obtain ⟨p, dx, i, g, o, t, rfl, hp, hi, hg, ho, ht, q⟩ := h
    refine ⟨_, (pss_cons (ps_expr (pe_call G_needLists (hr.mono (by decide)) (by rfl) T.mg_needLists T.F_needLists.kp T.b_needLists .nil pass0 (pa_cons (pe_lst (pa_cons (pv 1) (pa_cons (pv 2) (pa_cons (pv 3) (pa_cons (pv 4) pa_nil))))) pa_nil)))
      (pss_cons (ps_set (i := 5) scNetInit.nd rfl (Or.inl rfl) pe_dnewK)
      (pss_cons (ps_for PassesOwn.never rfl (pi_list (pv 1)) Tp.pg_never Tp.pss_never)
      (pss_cons (ps_expr (pe_call G_needGates (hr.mono (by decide)) (by rfl) T.mg_needGates T.F_needGates.kp T.b_needGates .nil pass0 (pa_cons (pv 2) (pa_cons (pv 5) pa_nil))))
      (pss_cons (ps_expr (pe_call G_needTerms (hr.mono (by decide)) (by rfl) T.mg_needTerms T.F_needTerms.kp T.b_needTerms .nil pass0 (pa_cons (pv 4) pa_nil)))
      (pss_cons (ps_set (i := 7) scNetInit.nd rfl (Or.inl rfl) (pe_op op_cat (pe_lc2 (own := [("name", 6), ("symbol", 16), ("row", 17), ("edge", 8)]) (vs1 := [8]) (by rfl) scNetInit.nd (pi_list (pv 2)) (blkOk_by (own := [("name", 6), ("symbol", 16), ("row", 17), ("edge", 8)]) (N := scNetInit_N) (sc := defScope scNetInit_st) (by decide +kernel)) (by decide) (fun _ _ _ _ _ => Tp.pg_never) (fun _ _ _ _ _ => Tp.pts_never) (fun _ _ _ _ _ => Tp.pi_never) (fun _ _ _ _ _ => Tp.pg_never) (fun _ _ _ _ _ => Tp.pts_never) (fun _ _ _ _ _ => Tp.pe_never)) (pe_callTy call_list_of (by rfl) T.list_ Tp.bt_list (pa_cons (pv 3) pa_nil))))
      (pss_cons (ps_for PassesOwn.never rfl (pi_list (pv 7)) Tp.pg_never Tp.pss_never)
      (pss_cons (ps_setLc2 (i := 9) (own := [("source", 14), ("starts", 15), ("number", 18)]) (vs1 := [18]) (by rfl) scNetInit.nd rfl rfl (sw_true rfl rfl rfl (by decide +kernel)) (pi_list (pv 7)) (blkOk_by (own := [("source", 14), ("starts", 15), ("number", 18)]) (N := scNetInit_N) (sc := defScope scNetInit_st) (by decide +kernel)) (by decide) (fun _ _ _ _ _ => Tp.pg_never) (fun _ _ _ _ _ => Tp.pts_never) (fun _ _ _ _ _ => Tp.pi_never) (fun _ _ _ _ _ => Tp.pg_never) (fun _ _ _ _ _ => Tp.pts_never) (fun _ _ _ _ _ => Tp.pe_never))
      (pss_cons (ps_asg (pe_call G_standard (hr.mono (by decide)) (by rfl) T.mg_standard T.F_standard.kp T.b_standard .nil pass0 (pa_cons (pe_lc (own := [("symbol", 16), ("row", 17)]) (by rfl) scNetInit.nd (pi_tup (pv 4)) (blkOk_by (own := [("symbol", 16), ("row", 17)]) (N := scNetInit_N) (sc := defScope scNetInit_st) (by decide +kernel)) (fun _ _ _ _ _ => Tp.pg_never) (fun _ _ _ _ _ => Tp.pts_never) (fun _ _ _ _ _ => Tp.pe_never)) (pa_cons (pv 9) pa_nil))) (pg_tup (by rfl) (pgs_cons (pg_name (i := 10) scNetInit.nd rfl (Or.inl rfl)) (pgs_cons (pg_name (i := 11) scNetInit.nd rfl (Or.inl rfl)) pgs_nil))))
      (pss_cons (ps_par (i := 12) (j := 13) (by rfl) scNetInit.nd rfl rfl (by decide) rfl rfl (pa_cons (pe_lst pa_nil) (pa_cons pe_int pa_nil)) (by rfl))
      (pss_cons (ps_for PassesOwn.never rfl (pi_list (pv 7)) Tp.pg_never Tp.pss_never)
      (pss_cons (ps_fld (pv 0) (pe_callTy call_tuple_of (by rfl) T.tuple_ Tp.bt_tuple (pa_cons (pv 10) pa_nil)) rfl)
      (pss_cons (ps_fld (pv 0) (pe_callTy call_tuple_of (by rfl) T.tuple_ Tp.bt_tuple (pa_cons (pv 1) pa_nil)) rfl)
      (pss_cons (ps_asg (pe_tup (pa_cons (pe_tup pa_nil) (pa_cons pe_int pa_nil))) (pg_tup (by rfl) (pgs_cons (Tp.pg_fld (pv 0)) (pgs_cons (pg_name (i := 13) scNetInit.nd rfl (Or.inl rfl)) pgs_nil))))
      (pss_cons (ps_for PassesOwn.never rfl (pi_list (pv 2)) Tp.pg_never Tp.pss_never)
      (pss_cons (ps_fld (pv 0) (pe_callTy call_tuple_of (by rfl) T.tuple_ Tp.bt_tuple (pa_cons (pe_slice sl_list (pv 12) (po_some (pv 13)) po_none) pa_nil)) rfl)
      (pss_cons (ps_fld (pv 0) (pe_tup (pa_cons (pe_fld (pv 0) (by rfl)) (pa_cons (pe_fld (pv 0) (by rfl)) (pa_cons (pe_fld (pv 0) (by rfl)) (pa_cons (pe_fld (pv 0) (by rfl)) pa_nil))))) rfl)
      (pss_one (ps_fld (pv 0) (pe_call G_needShape (hr.mono (by decide)) (by rfl) T.mg_needShape T.F_needShape.kp T.b_needShape .nil pass0 (pa_cons (pe_fld (pv 0) (by rfl)) (pa_cons (pe_fld (pv 0) (by rfl)) (pa_cons (pe_fld (pv 0) (by rfl)) pa_nil)))) rfl))))))))))))))))))), ?_⟩
    have ty : ∀ {H' : Hp}, Same H H' → ∀ v ∈ [V.ref i, V.ref g, V.ref o, V.ref t], ∃ tt, TyX K H' v tt ∧ PySem.W.kitAny K tt [.type "list", .type "tuple"] = some true := fun {H'} S v hv => by
      simp only [List.mem_cons, List.not_mem_nil, or_false] at hv
      rcases hv with rfl | rfl | rfl | rfl
      · exact ⟨_, ty_sqL (S.seq hi), kit_lt (.list [])⟩
      · exact ⟨_, ty_sqL (S.seq hg), kit_lt (.list [])⟩
      · exact ⟨_, ty_sqL (S.seq ho), kit_lt (.list [])⟩
      · exact ⟨_, ty_sqT (SqT.same S ht), kit_lt (.tuple [])⟩
    refine ⟨_, rfl, _, rfl, _, rfl, _, rfl, (show 4 ≤ sizeLine from by decide), fun l0 n0 => ?_⟩
    refine ⟨l0, _, rfl, SqL.of upd_same, ty (same_new n0), fun H1 S1' => ?_⟩
    have S1 : Same H H1 := (same_new n0).trans S1'
    clear S1'
    refine fun k nk => ?_
    have S2 : Same H (upd H1 k (.dK [])) := S1.trans (same_new nk)
    generalize upd H1 k (.dK []) = H2 at S2
    refine ⟨_, rfl, i, rfl, ⟨_, S2.seq hi⟩, for_none (walk_list (xs := [])) (S2.seq hi) ?_⟩
    refine ⟨_, rfl, _, rfl, g, k, rfl, S2.seq hg, ?_⟩
    refine ⟨_, rfl, t, rfl, SqT.same S2 ht, ?_⟩
    refine ⟨_, rfl, g, rfl, ⟨_, S2.seq hg⟩, fun D hD => ⟨fun i' m' H' => i' = 0 ∧ H' = upd H2 D (.lst []), ⟨0, rfl, rfl⟩, ?_⟩⟩
    rintro i' m' H' ⟨rfl, rfl⟩
    refine .inl ⟨(walk_list (K := K) (a := g) (xs := [])).stops _ ((S2.trans (same_new hD)).seq hg), ?_⟩
    have S3 : Same H (upd H2 D (.lst [])) := S2.trans (same_new hD)
    have h3 : (upd H2 D (.lst [])) D = some (.lst []) := upd_same
    generalize upd H2 D (.lst []) = H3 at S3 h3
    refine ⟨_, rfl, o, _, rfl, .inl (S3.seq ho), fun l2 n2 => ?_⟩
    have S4' : Same H3 (upd H3 l2 (.lst [])) := same_new n2
    have h4 : (upd H3 l2 (.lst [])) l2 = some (.lst []) := upd_same
    generalize upd H3 l2 (.lst []) = H4 at S4' h4
    refine ⟨D, l2, [], [], rfl, rfl, S4' _ _ h3, h4, Nat.zero_le _, fun ed ned => ?_⟩
    have S5 : Same H (upd H4 ed (.lst ([] ++ []))) := (S3.trans S4').trans (same_new ned)
    have h5 : (upd H4 ed (.lst ([] ++ []))) ed = some (.lst []) := upd_same
    generalize upd H4 ed (.lst ([] ++ [])) = H5 at S5 h5
    refine ⟨_, rfl, ed, rfl, ⟨_, SqL.of h5⟩, for_none (walk_list (xs := [])) (SqL.of h5) ?_⟩
    refine ⟨_, rfl, ed, rfl, ⟨_, SqL.of h5⟩, fun D2 hD2 => ⟨fun i' m' H' => i' = 0 ∧ H' = upd H5 D2 (.lst []), ⟨0, rfl, rfl⟩, ?_⟩⟩
    rintro i' m' H' ⟨rfl, rfl⟩
    refine .inl ⟨(walk_list (K := K) (a := ed) (xs := [])).stops _ (SqL.of (same_new hD2 _ _ h5)), ?_⟩
    have S6' : Same H5 (upd H5 D2 (.lst [])) := same_new hD2
    have h6 : (upd H5 D2 (.lst [])) D2 = some (.lst []) := upd_same
    generalize upd H5 D2 (.lst []) = H6 at S6' h6
    have S6 := S5.trans S6'
    refine ⟨_, rfl, t, rfl, ⟨_, SqT.same S6 ht⟩, fun D4 hD4 => lc_none (walk_tup (xs := [])) (SqT.same (S6.trans (same_new hD4)) ht) ?_⟩
    have S7' : Same H6 (upd H6 D4 (.lst [])) := same_new hD4
    have h7 : (upd H6 D4 (.lst [])) D4 = some (.lst []) := upd_same
    generalize upd H6 D4 (.lst []) = H7 at S7' h7
    refine ⟨_, rfl, D4, D2, rfl, SqL.of h7, SqL.of (S7' _ _ h6), fun H8 tt f nq S8' e1 e2 e3 => ⟨tt, _, rfl, SqT.of e1, rfl, _, _, rfl, _, _, rfl, rfl, ?_⟩⟩
    have S8 := S6.trans (S7'.trans S8')
    have h8 := S8' _ _ (S7' _ _ (S6' _ _ h5))
    refine ⟨Nat.zero_le _, fun kp nkp => ⟨_, _, rfl, ?_⟩⟩
    have S9' : Same H8 (upd H8 kp (.lst [])) := same_new nkp
    have h9 : (upd H8 kp (.lst [])) kp = some (.lst []) := upd_same
    generalize upd H8 kp (.lst []) = H9 at S9' h9
    have S9 := S8.trans S9'
    refine ⟨_, rfl, ed, rfl, ⟨_, SqL.of (S9' _ _ h8)⟩, for_none (walk_list (xs := [])) (SqL.of (S9' _ _ h8)) ?_⟩
    -- own_terms
    refine ⟨_, rfl, f, _, rfl, .inl ⟨SqL.of (S9' _ _ e2), fun t1 nt1 => ?_⟩⟩
    have SA : Same H9 (upd H9 t1 (.tup [])) := same_new nt1
    have gA : (upd H9 t1 (.tup [])) t1 = some (.tup []) := upd_same
    generalize upd H9 t1 (.tup []) = HA at SA gA
    have pA := SA _ _ (S9 _ _ hp)
    refine ⟨_, rfl, p, a.CNet, dx, [], rfl, pA, T.cl_Net, T.n_Net_own_terms, (by show 0 < 1000; decide), ?_⟩
    have kA : Kp p HA (upd HA p (.ins a.CNet dx (putF "own_terms" (.ref t1) []))) := Kp.box
    have pB : (upd HA p (.ins a.CNet dx (putF "own_terms" (.ref t1) []))) p = some (.ins a.CNet dx [("own_terms", .ref t1)]) := upd_same
    generalize upd HA p (.ins a.CNet dx (putF "own_terms" (.ref t1) [])) = HB at kA pB
    have kB : Kp p H HB := fun b u nb hb => kA _ _ nb (SA _ _ (S9 _ _ hb))
    have gB := kA _ _ (fun z => by rw [z, pA] at gA; cases gA) gA
    -- own_inputs
    refine ⟨_, rfl, i, _, rfl, .inl ⟨sqL_kp hp kB hi, fun t2 nt2 => ?_⟩⟩
    have SC : Same HB (upd HB t2 (.tup [])) := same_new nt2
    have gC : (upd HB t2 (.tup [])) t2 = some (.tup []) := upd_same
    generalize upd HB t2 (.tup []) = HC at SC gC
    have pC := SC _ _ pB
    refine ⟨_, rfl, p, a.CNet, dx, _, rfl, pC, T.cl_Net, T.n_Net_own_inputs, (by show 1 < 1000; decide), ?_⟩
    have kC : Kp p HC (upd HC p (.ins a.CNet dx (putF "own_inputs" (.ref t2) [("own_terms", .ref t1)]))) := Kp.box
    have pD : (upd HC p (.ins a.CNet dx (putF "own_inputs" (.ref t2) [("own_terms", .ref t1)]))) p = some (.ins a.CNet dx [("own_terms", .ref t1), ("own_inputs", .ref t2)]) := upd_same
    generalize upd HC p (.ins a.CNet dx (putF "own_inputs" (.ref t2) [("own_terms", .ref t1)])) = HD at kC pD
    have nt1p : t1 ≠ p := fun z => by rw [z, pA] at gA; cases gA
    have nt2p : t2 ≠ p := fun z => by rw [z, pC] at gC; cases gC
    have gD1 := kC _ _ nt1p (SC _ _ gB)
    have gD2 := kC _ _ nt2p gC
    have kD : Kp p H HD := fun b u nb hb => kC _ _ nb (SC _ _ (kB _ _ nb hb))
    have kpD : HD kp = some (.lst []) := by
      have n1 : kp ≠ p := fun z => by rw [z, S9 _ _ hp] at h9; cases h9
      exact kC _ _ n1 (SC _ _ (kA _ _ n1 (SA _ _ h9)))
    -- own_gates, at
    refine ⟨Nat.zero_le _, fun t3 nt3 => ⟨(show 2 ≤ sizeLine from by decide), fun t4 nt4 => ⟨t4, _, rfl, SqT.of upd_same, rfl, _, _, rfl, ?_⟩⟩⟩
    have SE : Same HD (upd (upd HD t3 (.tup [])) t4 (.tup [.ref t3, .int 0])) := (same_new nt3).trans (same_new nt4)
    have gE : (upd (upd HD t3 (.tup [])) t4 (.tup [.ref t3, .int 0])) t3 = some (.tup []) := same_new nt4 _ _ upd_same
    generalize upd (upd HD t3 (.tup [])) t4 (.tup [.ref t3, .int 0]) = HE at SE gE
    have pE := SE _ _ pD
    refine ⟨_, rfl, p, a.CNet, dx, _, rfl, pE, T.cl_Net, T.n_Net_own_gates, (by show 2 < 1000; decide), _, _, rfl, rfl, ?_⟩
    have kE : Kp p HE (upd HE p (.ins a.CNet dx (putF "own_gates" (.ref t3) [("own_terms", .ref t1), ("own_inputs", .ref t2)]))) := Kp.box
    have pF : (upd HE p (.ins a.CNet dx (putF "own_gates" (.ref t3) [("own_terms", .ref t1), ("own_inputs", .ref t2)]))) p = some (.ins a.CNet dx [("own_terms", .ref t1), ("own_inputs", .ref t2), ("own_gates", .ref t3)]) := upd_same
    generalize upd HE p (.ins a.CNet dx (putF "own_gates" (.ref t3) [("own_terms", .ref t1), ("own_inputs", .ref t2)])) = HF at kE pF
    have nt3p : t3 ≠ p := fun z => by rw [z, pE] at gE; cases gE
    have kF : Kp p HD HF := fun b u nb hb => kE _ _ nb (SE _ _ hb)
    have kF' : Kp p H HF := fun b u nb hb => kF _ _ nb (kD _ _ nb hb)
    have gF3 := kE _ _ nt3p gE
    have gF1 := kF _ _ nt1p gD1
    have gF2 := kF _ _ nt2p gD2
    have kpF := kF _ _ (fun z => by rw [z, pD] at kpD; cases kpD) kpD
    refine ⟨_, rfl, g, rfl, ⟨_, sqL_kp hp kF' hg⟩, for_none (walk_list (xs := [])) (sqL_kp hp kF' hg) ?_⟩
    -- own_outs
    refine ⟨_, rfl, ⟨_, rfl, _, rfl, kp, _, rfl, SqL.of kpF, fun l6 nl6 => ?_⟩⟩
    have eC : cutV ([] : List V) (some 0) none = [] := rfl
    have SG : Same HF (upd HF l6 (.lst (cutV [] (some 0) none))) := same_new nl6
    have gG : (upd HF l6 (.lst (cutV [] (some 0) none))) l6 = some (.lst []) := upd_same
    generalize upd HF l6 (.lst (cutV [] (some 0) none)) = HG at SG gG
    refine ⟨l6, _, rfl, .inl ⟨SqL.of gG, fun t5 nt5 => ?_⟩⟩
    have SH : Same HF (upd HG t5 (.tup [])) := SG.trans (same_new nt5)
    have gH : (upd HG t5 (.tup [])) t5 = some (.tup []) := upd_same
    generalize upd HG t5 (.tup []) = HH at SH gH
    have pH := SH _ _ pF
    refine ⟨_, rfl, p, a.CNet, dx, _, rfl, pH, T.cl_Net, T.n_Net_own_outs, (by show 3 < 1000; decide), ?_⟩
    have kH : Kp p HH (upd HH p (.ins a.CNet dx (putF "own_outs" (.ref t5) [("own_terms", .ref t1), ("own_inputs", .ref t2), ("own_gates", .ref t3)]))) := Kp.box
    have pI : (upd HH p (.ins a.CNet dx (putF "own_outs" (.ref t5) [("own_terms", .ref t1), ("own_inputs", .ref t2), ("own_gates", .ref t3)]))) p = some (.ins a.CNet dx [("own_terms", .ref t1), ("own_inputs", .ref t2), ("own_gates", .ref t3), ("own_outs", .ref t5)]) := upd_same
    generalize upd HH p (.ins a.CNet dx (putF "own_outs" (.ref t5) [("own_terms", .ref t1), ("own_inputs", .ref t2), ("own_gates", .ref t3)])) = HI at kH pI
    have nt5p : t5 ≠ p := fun z => by rw [z, pH] at gH; cases gH
    have kI : Kp p HF HI := fun b u nb hb => kH _ _ nb (SH _ _ hb)
    have gI5 := kH _ _ nt5p gH
    have gI3 := kI _ _ nt3p gF3
    have gI2 := kI _ _ nt2p gF2
    -- own_rows
    refine ⟨_, rfl, p, _, _, _, _, rfl, pI, T.cl_Net, T.n_Net_own_inputs, rfl, _, rfl, p, _, _, _, _, rfl, pI, T.cl_Net, T.n_Net_own_gates, rfl, _, rfl, p, _, _, _, _, rfl, pI, T.cl_Net, T.n_Net_own_outs, rfl, _, rfl, p, _, _, _, _, rfl, pI, T.cl_Net, T.n_Net_own_terms, rfl, (show 4 ≤ sizeLine from by decide), fun t6 nt6 => ?_⟩
    have SJ : Same HI (upd HI t6 (.tup [.ref t2, .ref t3, .ref t5, .ref t1])) := same_new nt6
    generalize upd HI t6 (.tup [.ref t2, .ref t3, .ref t5, .ref t1]) = HJ at SJ
    have pJ := SJ _ _ pI
    refine ⟨_, rfl, p, a.CNet, dx, _, rfl, pJ, T.cl_Net, T.n_Net_own_rows, (by show 4 < 1000; decide), ?_⟩
    have kJ : Kp p HJ (upd HJ p (.ins a.CNet dx (putF "own_rows" (.ref t6) [("own_terms", .ref t1), ("own_inputs", .ref t2), ("own_gates", .ref t3), ("own_outs", .ref t5)]))) := Kp.box
    have pK : (upd HJ p (.ins a.CNet dx (putF "own_rows" (.ref t6) [("own_terms", .ref t1), ("own_inputs", .ref t2), ("own_gates", .ref t3), ("own_outs", .ref t5)]))) p = some (.ins a.CNet dx [("own_terms", .ref t1), ("own_inputs", .ref t2), ("own_gates", .ref t3), ("own_outs", .ref t5), ("own_rows", .ref t6)]) := upd_same
    generalize upd HJ p (.ins a.CNet dx (putF "own_rows" (.ref t6) [("own_terms", .ref t1), ("own_inputs", .ref t2), ("own_gates", .ref t3), ("own_outs", .ref t5)])) = HK at kJ pK
    have kK : Kp p HI HK := fun b u nb hb => kJ _ _ nb (SJ _ _ hb)
    -- own_order
    refine ⟨_, rfl, p, _, _, _, _, rfl, pK, T.cl_Net, T.n_Net_own_inputs, rfl, _, rfl, p, _, _, _, _, rfl, pK, T.cl_Net, T.n_Net_own_gates, rfl, _, rfl, p, _, _, _, _, rfl, pK, T.cl_Net, T.n_Net_own_outs, rfl, ?_⟩
    refine ⟨t2, t3, t5, rfl, SqT.of (kK _ _ nt2p gI2), SqT.of (kK _ _ nt3p gI3), SqT.of (kK _ _ nt5p gI5), fun HL r SL => ?_⟩
    refine ⟨_, rfl, p, a.CNet, dx, _, rfl, SL _ _ pK, T.cl_Net, T.n_Net_own_order, (by show 5 < 1000; decide), ?_⟩
    refine q _ _ (fun b u nb hb => ?_) upd_same
    rw [upd_ne nb]
    exact SL _ _ (kK _ _ nb (kI _ _ nb (kF' _ _ nb hb)))
end
end L02


set_option Elab.async false
set_option linter.all false
set_option maxRecDepth 100000
set_option maxHeartbeats 4000000
set_option pp.deepTerms false
set_option pp.deepTerms.threshold 4
set_option pp.maxSteps 1000
namespace L02
open PySem L2 Tp
section
variable {P : Program} {w : World} {K : PySem.W.Frag} {mg : Str → Option Value} {base : Heap} {a : Ad} {d : Fd}
def spWord : Sp := fun vs H Q _ => ∃ (b : Addr) (n : Nat) (m : Int), vs = [.ref b, .int m] ∧ BoxAt b n H ∧ n < 900000 ∧ 0 ≤ m ∧ m ≤ 10 ∧ ∀ z H', Sm 30 z → Kp b H H' → BoxAt b (n + 20) H' → Q (.str z) H'
theorem ok_word (T : Txt K mg a d) : FnG P w K mg base CX0 2 a.word d.word ["_law_box_here", "_law_longest"] spWord := by
  have G_take := ok_take (P := P) (w := w) (base := base) T
  refine okG T.F_word scWord (fun vs H Q E h => ?_) (fun cdv A outer s H vs Q E hr hg h => ?_)
  · obtain ⟨b, n, m, rfl, _⟩ := h
    rfl
  · obtain ⟨b, n, m, rfl, hB, hn, m0, m1, q⟩ := h
    refine ⟨_, (pss_cons (ps_set (i := 2) scWord.nd rfl (Or.inr rfl) pe_str)
      (pss_cons (ps_set (i := 3) scWord.nd rfl (Or.inl rfl) (pe_join pe_str (pe_lc (own := [("_law_k", 6)]) (by rfl) scWord.nd (pi_range1 (by rfl) T.range_ (pa_cons (Tp.pe_callG G_take (hr.mono (by decide)) hg (by rfl) T.mg_take T.F_take.kp T.b_take .nil pass0 (pa_cons (pv 0) (pa_cons (pe_op op_add (pv 1) pe_int) pa_nil))) pa_nil)) (blkOk_by (own := [("_law_k", 6)]) (N := scWord_N) (sc := defScope scWord_st) (by decide +kernel)) (fun _ _ _ _ _ => (pg_name (i := 6) scWord.nd rfl (Or.inl rfl))) (fun _ _ _ _ _ => pts_nil) (fun _ _ _ _ _ => (pe_ix ix_str (pv 2) (Tp.pe_callG G_take (hr.mono (by decide)) hg (by rfl) T.mg_take T.F_take.kp T.b_take .nil pass0 (pa_cons (pv 0) (pa_cons pe_int pa_nil))) (fun _ _ => rfl))))))
      (pss_cons (ps_if (PW.pt (pw_or (pt_cmpR op_eq (pv 3) pe_str (nomark _)) (pw_or1 (pt_cmpR op_gt (Tp.pe_callG G_take (hr.mono (by decide)) hg (by rfl) T.mg_take T.F_take.kp T.b_take .nil pass0 (pa_cons (pv 0) (pa_cons pe_int pa_nil))) pe_int (nomark _))))) (pss_one (ps_ret (pv 3))) pss_nil)
      (pss_cons (ps_set (i := 4) scWord.nd rfl (Or.inl rfl) (pe_op op_add_str pe_str pe_str))
      (pss_cons (ps_set (i := 5) scWord.nd rfl (Or.inl rfl) (Tp.pe_callG G_take (hr.mono (by decide)) hg (by rfl) T.mg_take T.F_take.kp T.b_take .nil pass0 (pa_cons (pv 0) (pa_cons (pe_callB call_len_str (by rfl) T.len_ Tp.bt_len (pa_cons (pv 3) pa_nil)) pa_nil))))
      (pss_one (ps_ret (pe_op op_add_str (pe_op op_add_str (pe_slice sl_str (pv 3) po_none (po_some (pv 5))) (pe_ix ix_str (pv 4) (Tp.pe_callG G_take (hr.mono (by decide)) hg (by rfl) T.mg_take T.F_take.kp T.b_take .nil pass0 (pa_cons (pv 0) (pa_cons (pe_callB call_len_str (by rfl) T.len_ Tp.bt_len (pa_cons (pv 4) pa_nil)) pa_nil))) (fun _ _ => rfl))) (pe_slice sl_str (pv 3) (po_some (pe_op op_add (pv 5) pe_int)) po_none))))))))), ?_⟩
    refine ⟨⟨_, rfl⟩, _, rfl, _, rfl, _, _, rfl, rfl, b, m + 1, n, rfl, hB, by omega, by omega, by omega, fun r1 H1 a1 b1 k1 B1 => ?_⟩
    refine ⟨r1, rfl, by omega, by omega, fun D hD => lc_range (lo := 0) (n := r1.toNat) (fun i H' => BoxAt b (n + 1 + i) H' ∧ Kp b H1 H' ∧ ∃ ys : List Str, H' D = some (.lst (ys.map V.str)) ∧ ys.length = i ∧ ∀ y ∈ ys, Sm 1 y)
      ⟨B1.same (same_new hD), Kp.new hD, [], upd_same, rfl, (by simp)⟩ ?_ ?_⟩
    · rintro i H4 hi ⟨B4, k4, ys, hy, ly, l1⟩
      have nDb : D ≠ b := B1.ne hD
      refine ⟨rfl, _, rfl, _, rfl, b, 36, _, rfl, B4, by omega, by decide, by decide, fun r H5 a5 b5 k5 B5 => ?_⟩
      obtain ⟨c, hc, c1⟩ := at_some (xs := ("abcdefghijklmnopqrstuvwxyz0123456789" : Str).cps.toList) (r := r) (P := fun c => c < 1000) (by decide +kernel) a5 b5
      refine ⟨_, _, c, rfl, rfl, by decide, hc, _, k5 _ _ nDb hy, ?_, B5.off nDb, (k4.trans k5).mut hD, ys ++ [⟨#[c]⟩], ?_, by simp [ly], ?_⟩
      · rw [List.length_map]
        exact Nat.lt_of_lt_of_le (show ys.length < 100 by omega) (by decide)
      · rw [upd_same, List.map_append]
        rfl
      · intro y hy
        rcases List.mem_append.mp hy with hy | hy
        · exact l1 y hy
        · rw [List.mem_singleton.mp hy]
          exact Sm.one c1
    · rintro H4 ⟨B4, k4, ys, hy, ly, l1⟩
      have sl := sum_len (fun y hy => (l1 y hy).1)
      have e0 : ("" : Str).length = 0 := by decide
      have js := Sm.join (a := "") (n := 0) ⟨by rw [e0]; exact Nat.le_refl 0, by decide⟩ l1
      refine ⟨_, D, ys, rfl, rfl, .inl (SqL.of hy), by rw [e0]; omega, ?_⟩
      generalize Txt.join "" ys = z at js
      have zs : Sm 10 z := js.up (by omega)
      have zl : z.length ≤ sizeLine := Nat.le_trans zs.1 (by decide)
      have B4' : BoxAt b (n + 15) H4 := B4.up (by omega)
      have K4 := k1.trans k4
      refine ⟨_, rfl, rfl, _, rfl, if2 (fun c => ?_) (fun c => ?_)⟩
      · exact ⟨_, rfl, q z _ (zs.up (by decide)) K4 (B4'.up (by omega))⟩
      refine ⟨_, rfl, b, 3, _, rfl, B4', by omega, by decide, by decide, fun r2 H5 a5 b5 k5 B5 => ⟨_, _, rfl, rfl, _, rfl, if2 (fun c => ?_) (fun c => ?_)⟩⟩
      · exact ⟨_, rfl, q z _ (zs.up (by decide)) (K4.trans k5) (B5.up (by omega))⟩
      refine ⟨_, _, rfl, rfl, (by decide), ?_⟩
      generalize hz : (_ ++ _ : Str) = oth
      have so : Sm 100 oth := by
        rw [← hz]
        exact ⟨by decide, by decide +kernel⟩
      have lo : 0 < oth.length := by
        rw [← hz]
        decide
      clear hz
      have z0 : 0 < z.length := by
        rcases Nat.eq_zero_or_pos z.length with h | h
        · exact absurd (by
            have : z = "" := by
              obtain ⟨⟨l⟩⟩ := z
              have : l = [] := List.eq_nil_of_length_eq_zero h
              rw [this]
              rfl
            rw [this]) ‹¬ (V.str z = V.str _)›
        · exact h
      refine ⟨_, rfl, _, rfl, z, rfl, zl, b, _, _, rfl, B5, by omega, by omega, (by have := zs.1; omega), fun sp H6 a6 b6 k6 B6 => ?_⟩
      have c1 := zs.cut none (some sp)
      have c2 := zs.cut (some (sp + 1)) none
      refine ⟨_, rfl, ⟨_, rfl, _, rfl, z, rfl, zl, _, rfl, _, rfl, _, rfl, oth, rfl, Nat.le_trans so.1 (by decide), b, _, _, rfl, B6, by omega, by omega, (by have := so.1; omega), fun r H7 a7 b7 k7 B7 => ?_⟩⟩
      obtain ⟨c, hc, c3⟩ := at_some (xs := oth.cps.toList) (r := r) (P := fun c => c < 1000) so.2 a7 (by rw [len_list]; exact b7)
      have s1 := c1.app (Sm.one c3)
      have s2 := s1.app c2
      refine ⟨_, _, c, rfl, rfl, Nat.le_trans so.1 (by decide), hc, _, _, rfl, rfl, Nat.le_trans (Nat.add_le_add c1.1 (Nat.le_refl 1)) (by decide), _, rfl, _, rfl, _, _, rfl, rfl, _, rfl, z, rfl, zl, ?_⟩
      refine ⟨_, _, rfl, rfl, Nat.le_trans (Nat.add_le_add s1.1 c2.1) (by decide), q _ _ (s2.up (by decide)) (((K4.trans k5).trans k6).trans k7) (B7.up (by omega))⟩
theorem str_ok {m : Nat} {z : Str} (h : Sm m z) : PyData.strOk z = true := by
  unfold PyData.strOk
  rw [Array.all_eq_true']
  intro c hc
  exact decide_eq_true (Nat.lt_of_lt_of_le (h.2 c (Array.mem_toList_iff.mpr hc)) (by decide))
theorem shaped_strs {m : Nat} {ws : List Str} (h : ∀ y ∈ ws, Sm m y) : SeqAt.shaped (.list (ws.map PyData.str)) = true := by
  have key : ∀ ws : List Str, (∀ y ∈ ws, Sm m y) → PyData.canLayAll0 (ws.map PyData.str) = true ∧ PyData.depthAll (ws.map PyData.str) = 0 := by
    intro ws
    induction ws with
    | nil => intro _; exact ⟨by simp [PyData.canLayAll0], by simp [PyData.depthAll]⟩
    | cons y ys ih =>
      intro h
      obtain ⟨i1, i2⟩ := ih fun z hz => h z (List.mem_cons_of_mem _ hz)
      have k := str_ok (h y List.mem_cons_self)
      exact ⟨by simp [PyData.canLayAll0, PyData.canLay0, k, i1], by simp [PyData.depthAll, PyData.depth, i2]⟩
  obtain ⟨k1, k2⟩ := key ws h
  unfold SeqAt.shaped
  simp [PyData.canLay0, PyData.depth, k1, k2]
theorem eqv_nil (ws : List Str) : PyData.eqv (.list (ws.map PyData.str)) (.list []) = ws.isEmpty := by
  cases ws with
  | nil => simp [PyData.eqv, PyData.eqvAll]
  | cons w ws => simp [PyData.eqv, PyData.eqvAll]
def SmD (d : PyData) : Prop := ∀ z, d = .str z → Sm 100 z
def spNamed (K : PySem.W.Frag) : Sp := fun vs H Q _ => ∃ (v : V) (d : PyData), vs = [v] ∧ Dq K H v d ∧ SmD d ∧ ∀ H', Same H H' → Q (.bl (nmD d)) H'
theorem dec_mem {c : Nat} {l : List Nat} {b : Bool} (h : c ∈ l ↔ b = true) : decide (c ∈ l) = b := by
  cases b with
  | true => exact decide_eq_true (h.mpr rfl)
  | false => exact decide_eq_false fun k => Bool.noConfusion (h.mp k)
theorem ok_named (T : Txt K mg a d) : FnG P w K mg base CX0 2 a.named d.named ["_law_word_here"] (spNamed K) := by
  refine okG T.F_named scNamed (fun vs H Q E h => ?_) (fun cdv A outer s H vs Q E hr hg h => ?_)
  · obtain ⟨v, dd, rfl, _⟩ := h
    rfl
  · obtain ⟨v, dd, rfl, dq, sm, q⟩ := h
    refine ⟨_, (pss_cons (ps_set (i := 1) scNamed.nd rfl (Or.inr rfl) pe_str)
      (pss_cons (ps_if (PW.pt (pw_or (pt_not (pt_val (pe_callB call_isi (by rfl) T.isinstance_ Tp.bt_isinstance (pa_cons (pv 0) (pa_cons (pe_bltn (v := .ty "str") (by rfl) T.str_ Tp.bt_str rfl) pa_nil))))) (pw_or (pt_cmpR op_eq (pv 0) pe_str (nomark _)) (pw_or (pt_cmpR op_gt (pe_callB call_len_str (by rfl) T.len_ Tp.bt_len (pa_cons (pv 0) pa_nil)) pe_int (nomark _)) (pw_or1 (pt_cmpR op_notIn_sign (pe_ix ix_str (pv 0) pe_int (fun _ _ => rfl)) (pv 1) (by rfl))))))) (pss_one (ps_ret pe_bl)) pss_nil)
      (pss_one (ps_ret (pe_cmpR (op_eqD hr.units) (pe_lc (own := [("_law_sign", 2)]) (by rfl) scNamed.nd (pi_str (pv 0)) (blkOk_by (own := [("_law_sign", 2)]) (N := scNamed_N) (sc := defScope scNamed_st) (by decide +kernel)) (fun _ _ _ _ _ => (pg_name (i := 2) scNamed.nd rfl (Or.inl rfl))) (fun _ _ _ _ _ => (pts_one (pt_cmpR op_notIn_sign (pv 2) (pe_op op_add_str (pv 1) pe_str) (by rfl)))) (fun _ _ _ _ _ => (pv 2))) (pe_lst pa_nil) (nomark _)))))), ?_⟩
    refine ⟨_, rfl, _, _, _, _, isS dd, rfl, .ty _, dq_ty dq, kit_str dd, _, rfl, ?_⟩
    cases e : isS dd with
    | false =>
      have en : nmD dd = false := by cases dd <;> first | rfl | cases e
      have q := q H (Same.refl H)
      rw [en] at q
      exact iteT q
    | true =>
      cases dq with
      | str z =>
        have sz := sm z rfl
        have hz' : z.length ≤ sizeLine := Nat.le_trans sz.1 (by decide)
        have q : ∀ H', Same H H' → Q (.bl (nmB z)) H' := q
        refine iteF ⟨_, rfl, rfl, _, rfl, if2 (fun c => ?_) (fun c => ?_)⟩
        · have q := q H (Same.refl H)
          have : nmB z = false := by
            have e := V.str.inj c
            rw [e]
            rfl
          rw [this] at q
          exact q
        refine ⟨_, rfl, z, rfl, hz', _, _, rfl, rfl, _, rfl, if2 (fun l1 => ?_) (fun l1 => ?_)⟩
        · have q := q H (Same.refl H)
          rw [nm_long (by omega)] at q
          exact q
        obtain ⟨c0, cs, e0⟩ : ∃ c cs, z.cps.toList = c :: cs := by
          cases e : z.cps.toList with
          | nil =>
            refine absurd ?_ c
            have : z = "" := by
              obtain ⟨⟨l⟩⟩ := z
              rw [show l = [] from e]
              rfl
            rw [this]
          | cons c cs => exact ⟨c, cs, rfl⟩
        have at0 : atI z.cps.toList 0 = some c0 := by rw [e0]; exact atI_nat (j := 0) rfl
        refine ⟨_, rfl, z, _, c0, rfl, rfl, hz', at0, _, rfl, c0, _, rfl, rfl, _, rfl, ?_⟩
        rw [dec_mem (mem_low c0)]
        have nb := nm_cons e0 (by omega)
        cases hl : lowC c0 with
        | false =>
          have q := q H (Same.refl H)
          rw [nb, hl, Bool.false_and] at q
          exact iteT q
        | true =>
          refine iteF ?_
          rw [hl, Bool.true_and] at nb
          refine ⟨_, rfl, z, rfl, fun D hD => lc_it (walk_str (z := z)) (fun i H' => Same H H' ∧ H' D = some (.lst ((((z.cps.toList.take i).filter fun c => !(lowC c || digC c)).map fun c => (⟨#[c]⟩ : Str)).map V.str))) ⟨same_new hD, upd_same⟩ (fun _ _ _ _ => trivial) ?_ ?_⟩
          · rintro i u _ H' hi ⟨S, hD'⟩ ⟨rfl, c, hc, rfl⟩
            have hc' : z.cps.toList[i]? = some c := by rw [← hc]; simp
            refine ⟨rfl, _, rfl, _, rfl, _, _, rfl, rfl, (by decide), c, _, rfl, rfl, _, rfl, ?_⟩
            rw [dec_mem (mem_sign c)]
            have tk : z.cps.toList.take (i + 1) = z.cps.toList.take i ++ [c] := by rw [List.take_add_one, hc']; rfl
            cases hb : lowC c || digC c with
            | true =>
              refine iteF ⟨S, ?_⟩
              rw [tk, List.filter_append, List.filter_cons_of_neg (by simp [hb]), List.filter_nil, List.append_nil]
              exact hD'
            | false =>
              refine iteT ⟨_, rfl, _, hD', ?_, Tp.Same.mut S hD, ?_⟩
              · rw [List.length_map, List.length_map]
                refine Nat.lt_of_le_of_lt (List.length_filter_le _ _) ?_
                rw [List.length_take]
                have := sz.1
                have e : z.cps.toList.length = z.length := len_list z
                exact Nat.lt_of_le_of_lt (show _ ≤ 100 by omega) (by decide)
              · rw [upd_same, tk, List.filter_append, List.map_append, List.map_append, List.filter_cons_of_pos (p := fun c => !(lowC c || digC c)) (by simp [hb])]
                rfl
          · rintro H1 ⟨S1, hD'⟩
            rw [show z.cps.size = z.cps.toList.length by simp, List.take_length] at hD'
            refine ⟨(show 0 ≤ sizeLine from by decide), fun e9 n9 => ?_⟩
            have S2 : Same H1 (upd H1 e9 (.lst [])) := same_new n9
            have h2 : (upd H1 e9 (.lst [])) e9 = some (.lst []) := upd_same
            generalize upd H1 e9 (.lst []) = H2 at S2 h2
            refine ⟨.list _, .list [], .lst (SqL.of (S2 _ _ hD')) (dp_strs _), .lst (SqL.of h2) .nil, shaped_strs (m := 1) (fun y hy => ?_), by decide, ?_⟩
            · obtain ⟨c, hc, rfl⟩ := List.mem_map.mp hy
              exact Sm.one (sz.2 c (List.mem_filter.mp hc).1)
            · rw [eqv_nil]
              have q := q H2 (S1.trans S2)
              have e5 : (((z.cps.toList.filter fun c => !(lowC c || digC c)).map fun c => (⟨#[c]⟩ : Str)).isEmpty) = (c0 :: cs).all fun x => lowC x || digC x := by
                rw [← e0, Bool.eq_iff_iff, List.isEmpty_iff, List.map_eq_nil_iff, List.filter_eq_nil_iff, List.all_eq_true]
                constructor
                · intro h x hx
                  have := h x hx
                  cases h1 : lowC x with
                  | true => rfl
                  | false =>
                    cases h2 : digC x with
                    | true => rfl
                    | false => rw [h1, h2] at this; exact absurd rfl this
                · intro h x hx
                  have := h x hx
                  simp [this]
              rw [nb, ← e5] at q
              exact q
      | _ => cases e
end
end L02


set_option Elab.async false
set_option linter.all false
set_option maxRecDepth 100000
set_option maxHeartbeats 4000000
set_option pp.deepTerms false
set_option pp.deepTerms.threshold 4
set_option pp.maxSteps 1000
namespace L02
open PySem L2 Tp
section
variable {P : Program} {w : World} {K : PySem.W.Frag} {mg : Str → Option Value} {base : Heap} {a : Ad} {d : Fd}
theorem rb2 {H : Hp} {l : Addr} {x y : Bool} (h : H l = some (.lst [.bl x, .bl y])) : Dp K H (.ref l) (.list [.bool x, .bool y]) := .lst (SqL.of h) (.cons (.bl x) (.cons (.bl y) .nil))
theorem fb2 (x y : Bool) : (PyData.list [.bool x, .bool y]).showable = true ∧ (PyData.list [.bool x, .bool y]).hasDict = false ∧ (PyData.list [.bool x, .bool y]).depth ≤ 60 ∧ (PyData.list [.bool x, .bool y]).shown.length ≤ sizeLine := by
  cases x <;> cases y <;> decide +kernel
/-- a list of ten (or so) times False -/
theorem dp_falses {H : Hp} {l : Addr} (n : Nat) (h : H l = some (.lst (List.replicate n (.bl false)))) : Dp K H (.ref l) (.list (List.replicate n (.bool false))) := by
  refine .lst (SqL.of h) ?_
  clear h
  induction n with
  | zero => exact .nil
  | succ n ih => exact .cons (.bl false) ih
theorem fit_falses (n : Nat) (hn : n ≤ 100) : (PyData.list (List.replicate n (.bool false))).showable = true ∧ (PyData.list (List.replicate n (.bool false))).hasDict = false ∧ (PyData.list (List.replicate n (.bool false))).depth ≤ 60 ∧ (PyData.list (List.replicate n (.bool false))).shown.length ≤ sizeLine := by
  have f : Fit 1 (.list (List.replicate n (.bool false))) := .lst fun x hx => by rw [List.eq_of_mem_replicate hx]; exact .bl false
  refine fit4 f (by decide) ?_
  have key : ∀ m, wtAll (List.replicate m (PyData.bool false)) = m * 7 := by
    intro m
    induction m with
    | zero => simp [wtAll]
    | succ m ih => rw [List.replicate_succ, wtAll, ih, wt]; omega
  simp only [wt, key]
  omega
theorem mk_book (T : Txt K mg a d) {H : Hp} {Q : VK} {E : XK} (q : ∀ H' p dx fs, Same H H' → H' p = some (.ins a.CBook dx fs) → Q (.ref p) H') : ∀ x dx, H x = none → H dx = none → dx ≠ x →
    spBookInit a.CBook a.bkE (.ref x :: [V.ref a.bkE]) (upd (upd H dx (.own x)) x (.ins a.CBook dx [])) (fun v H2 => v = .non ∧ Q (.ref x) H2) E := by
  intro x dx n1 n2 ne
  refine ⟨x, dx, rfl, upd_same, fun H' fs k e => ⟨rfl, q H' x dx fs (fun b u hb => ?_) e⟩⟩
  refine k _ _ (ne_of_none hb n1) ?_
  rw [upd_ne (ne_of_none hb n1), upd_ne (ne_of_none hb n2)]
  exact hb
def spNamesR : Sp := fun vs H Q _ => ∃ (b : Addr) (n : Nat), vs = [.ref b] ∧ BoxAt b n H ∧ n < 800000 ∧ ∀ H', Kp b H H' → BoxAt b (n + 100) H' → Q (.bl true) H'
theorem ok_namesR (T : Txt K mg a d) : FnG P w K mg base CX0 8 a.namesR d.namesR ["_law_box_here"] spNamesR := by
  have G_word := ok_word (P := P) (w := w) (base := base) T
  have G_named := ok_named (P := P) (w := w) (base := base) T
  have G_isName := ok_isName (P := P) (w := w) (base := base) T
  have G_bookInit := ok_bookInit (P := P) (w := w) (base := base) T
  have G_netInit := ok_netInit (P := P) (w := w) (base := base) T
  have X_InvalidName := x_Name (P := P) (w := w) (base := base) T
  obtain ⟨dsB, vBook, bBook⟩ := bk0 T
  obtain ⟨dsN, vNet, bNet⟩ := nt0 T
  refine okG T.F_namesR scNamesR (fun vs H Q E h => ?_) (fun cdv A outer s H vs Q E hr hg h => ?_)
  · obtain ⟨b, n, rfl, _⟩ := h
    rfl
  · obtain ⟨b, n, rfl, hB, hn, q⟩ := h
    refine ⟨_, (pss_cons (ps_for PassesOwn.never rfl (pi_list (pe_lst (pa_cons (Tp.pe_callG G_word (hr.mono (by decide)) hg (by rfl) T.mg_word T.F_word.kp T.b_word .nil pass0 (pa_cons (pv 0) (pa_cons pe_int pa_nil))) (pa_cons (pe_op op_add_str pe_str (Tp.pe_callG G_word (hr.mono (by decide)) hg (by rfl) T.mg_word T.F_word.kp T.b_word .nil pass0 (pa_cons (pv 0) (pa_cons pe_int pa_nil)))) (pa_cons (pe_op op_add_str pe_str (Tp.pe_callG G_word (hr.mono (by decide)) hg (by rfl) T.mg_word T.F_word.kp T.b_word .nil pass0 (pa_cons (pv 0) (pa_cons pe_int pa_nil)))) (pa_cons (Tp.pe_callG G_word (hr.mono (by decide)) hg (by rfl) T.mg_word T.F_word.kp T.b_word .nil pass0 (pa_cons (pv 0) (pa_cons pe_int pa_nil))) pa_nil)))))) (pg_name (i := 1) scNamesR.nd rfl (Or.inl rfl)) (pss_cons (ps_set (i := 2) scNamesR.nd rfl (Or.inl rfl) (Tp.pe_callG G_named (hr.mono (by decide)) hg (by rfl) T.mg_named T.F_named.kp T.b_named .nil pass0 (pa_cons (pv 1) pa_nil)))
      (pss_one (ps_if (pt_cmpR op_ne (pe_callB (Tp.call_reprD hr hg) (by rfl) T.repr_ Tp.bt_repr (pa_cons (pe_lst (pa_cons (pe_call G_isName (hr.mono (by decide)) (by rfl) T.mg_isName T.F_isName.kp T.b_isName .nil pass0 (pa_cons (pv 1) pa_nil)) (pa_cons (Tp.pe_callFN0 G_isName (hr.mono (by decide)) (by rfl) T.mg_isName T.F_isName.kp (kb_isName T) pass0 (pk_cons (pv 1) pk_nil)) pa_nil))) pa_nil)) (pe_callB (Tp.call_reprD hr hg) (by rfl) T.repr_ Tp.bt_repr (pa_cons (pe_lst (pa_cons (pv 2) (pa_cons (pv 2) pa_nil))) pa_nil)) (nomark _)) (pss_one (ps_ret pe_bl)) pss_nil))))
      (pss_cons (ps_set (i := 3) scNamesR.nd rfl (Or.inl rfl) (pe_lst (pa_cons pe_non (pa_cons pe_int (pa_cons pe_bl (pa_cons (pe_lst (pa_cons pe_str pa_nil)) (pa_cons (pe_tup (pa_cons pe_str pa_nil)) (pa_cons (pe_disp (pps_cons pe_str pe_int pps_nil) (by rfl) (by rfl) (fun z => by cases z) (by decide)) (pa_cons (pe_lst pa_nil) (pa_cons (pe_make0 T.mk_Book G_bookInit (hr.mono (by decide)) (by rfl) T.mg_Book bBook vBook pass0) (pa_cons (pe_make T.mk_Net G_netInit (hr.mono (by decide)) (by rfl) T.mg_Net bNet vNet pass0 (pa_cons (pe_lst pa_nil) (pa_cons (pe_lst pa_nil) (pa_cons (pe_lst pa_nil) pa_nil)))) (pa_cons (Tp.pe_exv (k := 0) X_InvalidName (hr.mono (by decide)) (by rfl) T.mg_InvalidName pe_str) pa_nil))))))))))))
      (pss_one (ps_ret (pe_cmpR op_eq (pe_callB (Tp.call_reprD hr hg) (by rfl) T.repr_ Tp.bt_repr (pa_cons (pe_lc (own := [("_law_thing", 4)]) (by rfl) scNamesR.nd (pi_list (pv 3)) (blkOk_by (own := [("_law_thing", 4)]) (N := scNamesR_N) (sc := defScope scNamesR_st) (by decide +kernel)) (fun _ _ _ _ _ => (pg_name (i := 4) scNamesR.nd rfl (Or.inl rfl))) (fun _ _ _ _ _ => pts_nil) (fun _ _ _ _ _ => (pe_call G_isName (hr.mono (by decide)) (by rfl) T.mg_isName T.F_isName.kp T.b_isName .nil pass0 (pa_cons (pv 4) pa_nil)))) pa_nil)) (pe_callB (Tp.call_reprD hr hg) (by rfl) T.repr_ Tp.bt_repr (pa_cons (pe_op op_rep (pe_lst (pa_cons pe_bl pa_nil)) pe_int) pa_nil)) (nomark _)))))), ?_⟩
    refine ⟨_, rfl, b, n, 10, rfl, hB, by omega, by decide, by decide, fun z1 H1 s1 k1 B1 => ?_⟩
    refine ⟨_, rfl, b, _, 7, rfl, B1, by omega, by decide, by decide, fun z2 H2 s2 k2 B2 => ?_⟩
    refine ⟨_, _, rfl, rfl, Nat.le_trans (Nat.add_le_add (Nat.le_refl 1) s2.1) (by decide), _, rfl, b, _, 8, rfl, B2, by omega, by decide, by decide, fun z3 H3 s3 k3 B3 => ?_⟩
    refine ⟨_, _, rfl, rfl, Nat.le_trans (Nat.add_le_add (Nat.le_refl 1) s3.1) (by decide), _, rfl, b, _, 1, rfl, B3, by omega, by decide, by decide, fun z4 H4 s4 k4 B4 => ?_⟩
    refine ⟨(show 4 ≤ sizeLine from by decide), fun l hl => ?_⟩
    have w2 : Sm 100 ((Str.ofString "a" : Str) ++ z2) := (Sm.app (m := 1) ⟨by decide, by decide⟩ s2).up (by decide)
    have w3 : Sm 100 ((Str.ofString "z" : Str) ++ z3) := (Sm.app (m := 1) ⟨by decide, by decide⟩ s3).up (by decide)
    generalize hws : ([z1, (Str.ofString "a" : Str) ++ z2, (Str.ofString "z" : Str) ++ z3, z4] : List Str) = ws
    have ew : ([V.str z1, V.str ((Str.ofString "a" : Str) ++ z2), V.str ((Str.ofString "z" : Str) ++ z3), V.str z4] : List V) = ws.map V.str := by rw [← hws]; rfl
    have sws : ∀ y ∈ ws, Sm 100 y := by
      intro y hy
      rw [← hws] at hy
      simp only [List.mem_cons, List.not_mem_nil, or_false] at hy
      rcases hy with rfl | rfl | rfl | rfl
      · exact s1.up (by decide)
      · exact w2
      · exact w3
      · exact s4.up (by decide)
    have nlb : l ≠ b := B4.ne hl
    have k5 : Kp b H (upd H4 l (.lst (ws.map V.str))) := (((k1.trans k2).trans k3).trans k4).trans (Kp.new hl)
    have B5 : BoxAt b (n + 80) (upd H4 l (.lst (ws.map V.str))) := (B4.same (same_new hl)).up (by omega)
    have h5 : (upd H4 l (.lst (ws.map V.str))) l = some (.lst (ws.map V.str)) := upd_same
    show ∃ a_1, _
    rw [ew]
    generalize upd H4 l (.lst (ws.map V.str)) = H5 at k5 B5 h5
    refine ⟨l, rfl, ⟨_, SqL.of h5⟩, for_it (walk_list (xs := ws.map V.str)) (fun i σ H' => Same H5 H' ∧ ∃ v1 v2, σ = [some (.ref b), v1, v2, none, none]) ⟨Same.refl _, _, _, rfl⟩ ?_ ?_ ?_⟩
    · rintro i σ H' _ ⟨S, _⟩
      exact SqL.of (S _ _ h5)
    · rintro i y σ _ H' hi ⟨S, v1, v2, rfl⟩ ⟨rfl, hy⟩
      rw [List.getElem?_map] at hy
      obtain ⟨z, hz, rfl⟩ := Option.map_eq_some_iff.mp hy
      have sz := sws z (List.mem_of_getElem? hz)
      have zl : z.length ≤ 10000 := Nat.le_trans sz.1 (by decide)
      refine ⟨_, rfl, .str z, .str z, rfl, .str z, (fun z' e => by cases e; exact sz), fun H6 S6 => ?_⟩
      have fb := fb2 (nmB z) (nmB z)
      refine ⟨_, rfl, _, nmB z, rfl, .inl ⟨z, rfl, zl, rfl⟩, _, rfl, rfl, _, nmB z, rfl, .inl ⟨z, rfl, zl, rfl⟩, (show 2 ≤ sizeLine from by decide), fun l1 n1 => ?_⟩
      refine ⟨_, .list [.bool (nmB z), .bool (nmB z)], rfl, rb2 upd_same, fb.1, fb.2.1, fb.2.2.1, fb.2.2.2, ?_⟩
      refine ⟨_, rfl, _, rfl, (show 2 ≤ sizeLine from by decide), fun l2 n2 => ?_⟩
      refine ⟨_, .list [.bool (nmB z), .bool (nmB z)], rfl, rb2 upd_same, fb.1, fb.2.1, fb.2.2.1, fb.2.2.2, ?_⟩
      exact ⟨rfl, _, rfl, ifnY rfl ⟨S.trans (S6.trans ((same_new n1).trans (same_new n2))), _, _, rfl⟩⟩
    · rintro σ H6 ⟨S6, v1, v2, rfl⟩
      have k6 : Kp b H H6 := k5.same S6
      have B6 : BoxAt b (n + 80) H6 := B5.same S6
      refine ⟨(show 1 ≤ sizeLine from by decide), fun e1 n1 => ⟨(show 1 ≤ sizeLine from by decide), fun e2 n2 => fun e3 n3 => ⟨upd_same, [(Sum.inr "a", .int 1)], rfl, (by decide), (show 0 ≤ sizeLine from by decide), fun e4 n4 => ?_⟩⟩⟩
      have S7 : Same H6 (upd (upd H6 e1 (.lst [.str "a"])) e2 (.tup [.str "a"])) := (same_new n1).trans (same_new n2)
      have g1 : (upd (upd H6 e1 (.lst [.str "a"])) e2 (.tup [.str "a"])) e1 = some (.lst [.str "a"]) := same_new n2 _ _ upd_same
      have g2 : (upd (upd H6 e1 (.lst [.str "a"])) e2 (.tup [.str "a"])) e2 = some (.tup [.str "a"]) := upd_same
      generalize upd (upd H6 e1 (.lst [.str "a"])) e2 (.tup [.str "a"]) = H7 at S7 g1 g2 n3 n4 ⊢
      have S8 : Same H7 (upd (upd H7 e3 (.dK [])) e3 (.dK (mergeK [] [(Sum.inr "a", .int 1)]))) := by rw [upd_upd]; exact same_new n3
      have g3 : (upd (upd H7 e3 (.dK [])) e3 (.dK (mergeK [] [(Sum.inr "a", .int 1)]))) e3 = some (.dK [(Sum.inr "a", .int 1)]) := upd_same
      generalize upd (upd H7 e3 (.dK [])) e3 (.dK (mergeK [] [(Sum.inr "a", .int 1)])) = H8 at S8 g3 n4 ⊢
      have S9 : Same H8 (upd H8 e4 (.lst [])) := same_new n4
      have g4 : (upd H8 e4 (.lst [])) e4 = some (.lst []) := upd_same
      generalize upd H8 e4 (.lst []) = H9 at S9 g4 ⊢
      refine fun xb dxb nb1 nb2 nb3 => ?_
      refine ⟨xb, dxb, rfl, upd_same, fun HA fsb kA gb => ⟨rfl, ?_⟩⟩
      have SA : Same H9 HA := fun b' u hb => kA _ _ (ne_of_none hb nb1) (by rw [upd_ne (ne_of_none hb nb1), upd_ne (ne_of_none hb nb2)]; exact hb)
      refine ⟨Nat.zero_le _, fun i1 m1 => ⟨Nat.zero_le _, fun i2 m2 => ⟨Nat.zero_le _, fun i3 m3 => ?_⟩⟩⟩
      have SB : Same HA (upd (upd (upd HA i1 (.lst [])) i2 (.lst [])) i3 (.lst [])) := (same_new m1).trans ((same_new m2).trans (same_new m3))
      have q1 : (upd (upd (upd HA i1 (.lst [])) i2 (.lst [])) i3 (.lst [])) i1 = some (.lst []) := same_new m3 _ _ (same_new m2 _ _ upd_same)
      have q2 : (upd (upd (upd HA i1 (.lst [])) i2 (.lst [])) i3 (.lst [])) i2 = some (.lst []) := same_new m3 _ _ upd_same
      have q3 : (upd (upd (upd HA i1 (.lst [])) i2 (.lst [])) i3 (.lst [])) i3 = some (.lst []) := upd_same
      generalize upd (upd (upd HA i1 (.lst [])) i2 (.lst [])) i3 (.lst []) = HB at SB q1 q2 q3
      refine fun xn dxn nn1 nn2 nn3 => ?_
      have SN : Same HB (upd (upd HB dxn (.own xn)) xn (.ins a.CNet dxn [])) := fun b' u hb => by
        rw [upd_ne (ne_of_none hb nn1), upd_ne (ne_of_none hb nn2)]
        exact hb
      refine ⟨xn, dxn, i1, i2, i3, a.ntE, rfl, upd_same, SqL.of (SN _ _ q1), SqL.of (SN _ _ q2), SqL.of (SN _ _ q3), emp_T T.lkN, fun HC fsn kC gn => ⟨rfl, ?_⟩⟩
      have SC : Same HB HC := fun b' u hb => kC _ _ (ne_of_none hb nn1) (SN _ _ hb)
      refine fun xe de ne1 ne2 ne3 => ?_
      have SD' : Same HC (upd (upd HC de (exd de [("value", .str "a")])) xe (exo xe a.CInvalidName (some de))) := fun b' u hb => by
        rw [upd_ne (ne_of_none hb ne1), upd_ne (ne_of_none hb ne2)]
        exact hb
      have ge : (upd (upd HC de (exd de [("value", .str "a")])) xe (exo xe a.CInvalidName (some de))) xe = some (exo xe a.CInvalidName (some de)) := upd_same
      have gd : (upd (upd HC de (exd de [("value", .str "a")])) xe (exo xe a.CInvalidName (some de))) de = some (exd de [("value", .str "a")]) := by rw [upd_ne ne3]; exact upd_same
      generalize upd (upd HC de (exd de [("value", .str "a")])) xe (exo xe a.CInvalidName (some de)) = HD at SD' ge gd
      refine ⟨(show 10 ≤ sizeLine from by decide), fun lt nlt => ?_⟩
      generalize hxs : ([.non, .int 3, .bl true, .ref e1, .ref e2, .ref e3, .ref e4, .ref xb, .ref xn, .ref xe] : List V) = xs at nlt ⊢
      have lx : xs.length = 10 := by rw [← hxs]; rfl
      have SL : Same HD (upd HD lt (.lst xs)) := same_new nlt
      have gl : (upd HD lt (.lst xs)) lt = some (.lst xs) := upd_same
      generalize upd HD lt (.lst xs) = HL at SL gl ⊢
      have U8 : Same H8 HL := S9.trans (SA.trans (SB.trans (SC.trans (SD'.trans SL))))
      have nos : ∀ v ∈ xs, NoS K HL v := by
        intro v hv
        rw [← hxs] at hv
        simp only [List.mem_cons, List.not_mem_nil, or_false] at hv
        rcases hv with rfl | rfl | rfl | rfl | rfl | rfl | rfl | rfl | rfl | rfl
        · exact ⟨_, .x (.base .non), kit_ty (by decide +kernel)⟩
        · exact ⟨_, .x (.base (.int 3)), kit_ty (by decide +kernel)⟩
        · exact ⟨_, .x (.base (.bl true)), kit_ty (by decide +kernel)⟩
        · exact ⟨_, .x (.base (.lst (U8 _ _ (S8 _ _ g1)))), kit_ty (by decide +kernel)⟩
        · exact ⟨_, .x (.base (.tup (U8 _ _ (S8 _ _ g2)))), kit_ty (by decide +kernel)⟩
        · exact ⟨_, .x (.base (.dK (U8 _ _ g3))), kit_ty (by decide +kernel)⟩
        · exact ⟨_, .x (.base (.lst (SL _ _ (SD' _ _ (SC _ _ (SB _ _ (SA _ _ g4))))))), kit_ty (by decide +kernel)⟩
        · exact ⟨_, .x (.base (.ins (SL _ _ (SD' _ _ (SC _ _ (SB _ _ gb)))) T.cl_Book T.ca_Book T.cn_ T.ct_ T.cm_Book)), T.ki_Book_str⟩
        · exact ⟨_, .x (.base (.ins (SL _ _ (SD' _ _ gn)) T.cl_Net T.ca_Net T.cn_ T.ct_ T.cm_Net)), T.ki_Net_str⟩
        · exact ⟨_, .exc (SL _ _ ge) (SL _ _ gd) T.ec_InvalidName, T.kx_InvalidName⟩
      have kL : Kp b H HL := k6.same (S7.trans (S8.trans U8))
      have BL : BoxAt b (n + 80) HL := B6.same (S7.trans (S8.trans U8))
      clear hxs
      refine ⟨_, rfl, lt, rfl, ⟨_, SqL.of gl⟩, fun D hD => lc_it (walk_list (xs := xs)) (fun i H' => Same HL H' ∧ H' D = some (.lst (List.replicate i (.bl false)))) ⟨same_new hD, upd_same⟩ ?_ ?_ ?_⟩
      · rintro i H' _ ⟨S, _⟩
        exact SqL.of (S _ _ gl)
      · rintro i y _ H' hi ⟨S, hD'⟩ ⟨rfl, hy⟩
        obtain ⟨t, ty, kt⟩ := nos y (List.mem_of_getElem? hy)
        refine ⟨rfl, _, rfl, y, false, rfl, .inr ⟨⟨t, ty.same S, kt⟩, rfl⟩, _, hD', ?_, Tp.Same.mut S hD, ?_⟩
        · rw [List.length_replicate]
          exact Nat.lt_of_le_of_lt (show i ≤ 10 by omega) (by decide)
        · rw [upd_same, ← List.replicate_succ']
      · rintro HM ⟨SM, hD'⟩
        rw [lx] at hD'
        have ff := fit_falses 10 (by decide)
        refine ⟨_, _, rfl, dp_falses 10 hD', ff.1, ff.2.1, ff.2.2.1, ff.2.2.2, ?_⟩
        refine ⟨(show 1 ≤ sizeLine from by decide), fun r1 nr1 => ⟨r1, 10, _, rfl, rfl, upd_same, by decide, by decide, by decide, fun r2 nr2 => ?_⟩⟩
        have er : (List.replicate (10 : Int).toNat [V.bl false]).flatten = List.replicate 10 (.bl false) := rfl
        rw [er]
        refine ⟨_, _, rfl, dp_falses 10 upd_same, ff.1, ff.2.1, ff.2.2.1, ff.2.2.2, rfl, ?_⟩
        show Q (.bl (decide _)) _
        rw [decide_eq_true rfl]
        have SZ := SM.trans ((same_new (o := .lst [.bl false]) nr1).trans (same_new (o := .lst (List.replicate 10 (.bl false))) nr2))
        exact q _ (kL.same SZ) ((BL.same SZ).up (by omega))
def spIntsR : Sp := fun vs H Q _ => ∃ (b : Addr) (n : Nat), vs = [.ref b] ∧ BoxAt b n H ∧ n < 800000 ∧ ∀ H', Kp b H H' → BoxAt b (n + 100) H' → Q (.bl true) H'
theorem ok_intsR (T : Txt K mg a d) : FnG P w K mg base CX0 8 a.intsR d.intsR ["_law_box_here"] spIntsR := by
  have G_take := ok_take (P := P) (w := w) (base := base) T
  have G_isInt := ok_isInt (P := P) (w := w) (base := base) T
  have G_bookInit := ok_bookInit (P := P) (w := w) (base := base) T
  obtain ⟨dsB, vBook, bBook⟩ := bk0 T
  refine okG T.F_intsR scIntsR (fun vs H Q E h => ?_) (fun cdv A outer s H vs Q E hr hg h => ?_)
  · obtain ⟨b, n, rfl, _⟩ := h
    rfl
  · obtain ⟨b, n, rfl, hB, hn, q⟩ := h
    refine ⟨_, (pss_cons (ps_set (i := 1) scIntsR.nd rfl (Or.inl rfl) (pe_ix ix_list (pe_lst (pa_cons pe_int (pa_cons (pe_op op_pow pe_int pe_int) (pa_cons (pe_op op_pow pe_int pe_int) (pa_cons (pe_op op_pow pe_int pe_int) (pa_cons (pe_op op_pow pe_int pe_int) pa_nil)))))) (Tp.pe_callG G_take (hr.mono (by decide)) hg (by rfl) T.mg_take T.F_take.kp T.b_take .nil pass0 (pa_cons (pv 0) (pa_cons pe_int pa_nil))) (fun _ _ => rfl)))
      (pss_cons (ps_set (i := 2) scIntsR.nd rfl (Or.inl rfl) (pe_op op_add (pe_op op_mul (pe_op op_sub (Tp.pe_callG G_take (hr.mono (by decide)) hg (by rfl) T.mg_take T.F_take.kp T.b_take .nil pass0 (pa_cons (pv 0) (pa_cons pe_int pa_nil))) pe_int) (pv 1)) (Tp.pe_callG G_take (hr.mono (by decide)) hg (by rfl) T.mg_take T.F_take.kp T.b_take .nil pass0 (pa_cons (pv 0) (pa_cons pe_int pa_nil)))))
      (pss_cons (ps_set (i := 3) scIntsR.nd rfl (Or.inl rfl) (pe_op op_add (pv 2) (pe_op op_mul (pe_op op_sub (Tp.pe_callG G_take (hr.mono (by decide)) hg (by rfl) T.mg_take T.F_take.kp T.b_take .nil pass0 (pa_cons (pv 0) (pa_cons pe_int pa_nil))) pe_int) (pe_ix ix_list (pe_lst (pa_cons pe_int (pa_cons (pv 1) pa_nil))) (Tp.pe_callG G_take (hr.mono (by decide)) hg (by rfl) T.mg_take T.F_take.kp T.b_take .nil pass0 (pa_cons (pv 0) (pa_cons pe_int pa_nil))) (fun _ _ => rfl)))))
      (pss_cons (ps_for PassesOwn.never rfl (pi_list (pe_lst (pa_cons (pv 2) (pa_cons (pv 3) (pa_cons (pe_op op_sub (pv 2) pe_int) (pa_cons (pe_op op_add (pv 3) pe_int) (pa_cons (pe_op op_fdivN (pe_op op_add (pv 2) (pv 3)) pe_int) (pa_cons pe_int (pa_cons pe_int (pa_cons (pe_op op_sub pe_int (pv 2)) pa_nil)))))))))) (pg_name (i := 4) scIntsR.nd rfl (Or.inl rfl)) (pss_cons (ps_set (i := 5) scIntsR.nd rfl (Or.inl rfl) (pe_chain op_le op_le (pv 2) (pv 4) (pv 3)))
      (pss_cons (ps_set (i := 6) scIntsR.nd rfl (Or.inl rfl) (pe_lst (pa_cons (pe_call G_isInt (hr.mono (by decide)) (by rfl) T.mg_isInt T.F_isInt.kp T.b_isInt .nil pass0 (pa_cons (pv 4) (pa_cons (pv 2) (pa_cons (pv 3) pa_nil)))) (pa_cons (Tp.pe_callFN0 G_isInt (hr.mono (by decide)) (by rfl) T.mg_isInt T.F_isInt.kp (kb_isInt T) pass0 (pk_cons (pv 3) (pk_cons (pv 4) (pk_cons (pv 2) pk_nil)))) pa_nil))))
      (pss_one (ps_if (pt_cmpR op_ne (pe_callB (Tp.call_reprD hr hg) (by rfl) T.repr_ Tp.bt_repr (pa_cons (pv 6) pa_nil)) (pe_callB (Tp.call_reprD hr hg) (by rfl) T.repr_ Tp.bt_repr (pa_cons (pe_lst (pa_cons (pv 5) (pa_cons (pv 5) pa_nil))) pa_nil)) (nomark _)) (pss_one (ps_ret pe_bl)) pss_nil)))))
      (pss_cons (ps_set (i := 7) scIntsR.nd rfl (Or.inl rfl) (pe_lst (pa_cons pe_bl (pa_cons pe_bl (pa_cons pe_non (pa_cons pe_str (pa_cons (pe_lst (pa_cons pe_int pa_nil)) (pa_cons (pe_tup (pa_cons pe_int pa_nil)) (pa_cons (pe_disp (pps_cons pe_int pe_int pps_nil) (by rfl) (by rfl) (fun z => by cases z) (by decide)) (pa_cons (pe_make0 T.mk_Book G_bookInit (hr.mono (by decide)) (by rfl) T.mg_Book bBook vBook pass0) pa_nil))))))))))
      (pss_one (ps_ret (pe_cmpR op_eq (pe_callB (Tp.call_reprD hr hg) (by rfl) T.repr_ Tp.bt_repr (pa_cons (pe_lc (own := [("_law_thing", 8)]) (by rfl) scIntsR.nd (pi_list (pv 7)) (blkOk_by (own := [("_law_thing", 8)]) (N := scIntsR_N) (sc := defScope scIntsR_st) (by decide +kernel)) (fun _ _ _ _ _ => (pg_name (i := 8) scIntsR.nd rfl (Or.inl rfl))) (fun _ _ _ _ _ => pts_nil) (fun _ _ _ _ _ => (pe_call G_isInt (hr.mono (by decide)) (by rfl) T.mg_isInt T.F_isInt.kp T.b_isInt .nil pass0 (pa_cons (pv 8) (pa_cons (pe_op op_sub pe_int pe_int) (pa_cons pe_int pa_nil)))))) pa_nil)) (pe_callB (Tp.call_reprD hr hg) (by rfl) T.repr_ Tp.bt_repr (pa_cons (pe_op op_rep (pe_lst (pa_cons pe_bl pa_nil)) pe_int) pa_nil)) (nomark _))))))))), ?_⟩
    refine ⟨_, _, rfl, rfl, ⟨by decide, by decide, by decide⟩, _, _, rfl, rfl, ⟨by decide, by decide, by decide⟩, _, _, rfl, rfl, ⟨by decide, by decide, by decide⟩, _, _, rfl, rfl, ⟨by decide, by decide, by decide⟩, (show 5 ≤ sizeLine from by decide), fun l0 n0 => ?_⟩
    have n0b : l0 ≠ b := hB.ne n0
    generalize hls : ([_, _, _, _, _] : List V) = ls
    have pl : ∀ v ∈ ls, ∃ m : Int, v = V.int m := by
      intro x hx
      rw [← hls] at hx
      simp only [List.mem_cons, List.not_mem_nil, or_false] at hx
      rcases hx with rfl | rfl | rfl | rfl | rfl
      all_goals exact ⟨_, rfl⟩
    have ll : ls.length = 5 := by rw [← hls]; rfl
    clear hls
    refine ⟨_, rfl, b, 5, n, rfl, hB.same (same_new n0), by omega, by decide, by decide, fun r1 H1 a1 b1 k1 B1 => ?_⟩
    have g1 := k1 _ _ n0b upd_same
    obtain ⟨v, hv, sc, rfl⟩ := at_some (xs := ls) (r := r1) (P := fun v => ∃ m : Int, v = .int m) pl a1 (by rw [ll]; exact b1)
    refine ⟨l0, _, _, _, rfl, rfl, SqL.of g1, hv, ?_⟩
    refine ⟨_, rfl, b, 2001, _, rfl, B1, by omega, by decide, by decide, fun r2 H2 a2 b2 k2 B2 => ⟨_, _, rfl, rfl, _, rfl, _, _, rfl, rfl, .inl ⟨by omega, by omega⟩, _, rfl, b, 9, _, rfl, B2, by omega, by decide, by decide, fun r3 H3 a3 b3 k3 B3 => ⟨_, _, rfl, rfl, ?_⟩⟩⟩
    let fl : Int := (r2 - 1000) * sc + r3
    refine ⟨_, rfl, _, rfl, b, 2001, _, rfl, B3, by omega, by decide, by decide, fun r4 H4 a4 b4 k4 B4 => ⟨_, _, rfl, rfl, _, rfl, (show 2 ≤ sizeLine from by decide), fun l5 n5 => ?_⟩⟩
    have n5b : l5 ≠ b := B4.ne n5
    refine ⟨_, rfl, b, 2, _, rfl, B4.same (same_new n5), by omega, by decide, by decide, fun r5 H5 a5 b5 k5 B5 => ?_⟩
    have g5 := k5 _ _ n5b upd_same
    obtain ⟨v, hv5, m5, rfl⟩ := at_some (xs := [V.int 1, V.int sc]) (r := r5) (P := fun v => ∃ m : Int, v = .int m) (by
      intro x hx
      simp only [List.mem_cons, List.not_mem_nil, or_false] at hx
      rcases hx with rfl | rfl
      all_goals exact ⟨_, rfl⟩) a5 b5
    refine ⟨l5, _, _, _, rfl, rfl, SqL.of g5, hv5, _, _, rfl, rfl, .inl ⟨by omega, by omega⟩, _, _, rfl, rfl, ?_⟩
    let ro : Int := fl + (r4 - 400) * m5
    have K5 : Kp b H H5 := ((((((Kp.new n0).trans k1).trans k2).trans k3).trans k4).trans (Kp.new n5)).trans k5
    have B5' : BoxAt b (n + 90) H5 := B5.up (by omega)
    refine ⟨_, rfl, _, rfl, _, rfl, _, _, rfl, rfl, _, rfl, _, _, rfl, rfl, _, rfl, _, rfl, _, _, rfl, rfl, _, _, rfl, rfl, ⟨by decide, by decide⟩, _, rfl, _, _, rfl, rfl, (show 8 ≤ sizeLine from by decide), fun l n6 => ?_⟩
    generalize hns : ([_, _, _, _, _, _, _, _] : List V) = xs
    have ixs : ∀ v ∈ xs, ∃ i : Int, v = .int i := by
      intro v hv
      rw [← hns] at hv
      simp only [List.mem_cons, List.not_mem_nil, or_false] at hv
      rcases hv with rfl | rfl | rfl | rfl | rfl | rfl | rfl | rfl
      all_goals exact ⟨_, rfl⟩
    have S6 : Same H5 (upd H5 l (.lst xs)) := same_new n6
    have g6 : (upd H5 l (.lst xs)) l = some (.lst xs) := upd_same
    generalize upd H5 l (.lst xs) = H6 at S6 g6 ⊢
    refine ⟨l, rfl, ⟨_, SqL.of g6⟩, for_it (walk_list (xs := xs)) (fun i σ H' => Same H6 H' ∧ ∃ v4 v5 v6, σ = [some (.ref b), some (.int sc), some (.int fl), some (.int ro), v4, v5, v6, none, none]) ⟨Same.refl _, _, _, _, rfl⟩ ?_ ?_ ?_⟩
    · rintro i σ H' _ ⟨S, _⟩
      exact SqL.of (S _ _ g6)
    · rintro i y σ _ H' hi ⟨S, v4, v5, v6, rfl⟩ ⟨rfl, hy⟩
      obtain ⟨am, rfl⟩ := ixs y (List.mem_of_getElem? hy)
      refine ⟨_, rfl, _, rfl, _, _, rfl, rfl, _, rfl, if2 (fun c1 => ⟨_, rfl, _, _, rfl, rfl, ?_⟩) (fun c1 => ?_)⟩
      · have e : intD (.int am) fl ro = decide (am ≤ ro) := by
          show (decide (fl ≤ am) && decide (am ≤ ro)) = _
          rw [decide_eq_true c1, Bool.true_and]
        have fb := fb2 (decide (am ≤ ro)) (decide (am ≤ ro))
        refine ⟨_, rfl, _, rfl, _, rfl, _, _, _, _, rfl, .inl ⟨.int am, .int am, e.symm⟩, _, rfl, _, rfl, _, rfl, rfl, _, _, _, _, rfl, .inl ⟨.int am, .int am, e.symm⟩, (show 2 ≤ sizeLine from by decide), fun l1 n1 => ?_⟩
        refine ⟨_, rfl, _, _, rfl, rb2 upd_same, fb.1, fb.2.1, fb.2.2.1, fb.2.2.2, _, rfl, _, rfl, (show 2 ≤ sizeLine from by decide), fun l2 n2 => ?_⟩
        exact ⟨_, _, rfl, rb2 upd_same, fb.1, fb.2.1, fb.2.2.1, fb.2.2.2, rfl, _, rfl, ifnY rfl ⟨S.trans ((same_new n1).trans (same_new n2)), _, _, _, rfl⟩⟩
      · have e : intD (.int am) fl ro = false := by
          show (decide (fl ≤ am) && decide (am ≤ ro)) = _
          rw [decide_eq_false c1, Bool.false_and]
        have fb := fb2 false false
        refine ⟨_, rfl, _, rfl, _, rfl, _, _, _, _, rfl, .inl ⟨.int am, .int am, e.symm⟩, _, rfl, _, rfl, _, rfl, rfl, _, _, _, _, rfl, .inl ⟨.int am, .int am, e.symm⟩, (show 2 ≤ sizeLine from by decide), fun l1 n1 => ?_⟩
        refine ⟨_, rfl, _, _, rfl, rb2 upd_same, fb.1, fb.2.1, fb.2.2.1, fb.2.2.2, _, rfl, _, rfl, (show 2 ≤ sizeLine from by decide), fun l2 n2 => ?_⟩
        exact ⟨_, _, rfl, rb2 upd_same, fb.1, fb.2.1, fb.2.2.1, fb.2.2.2, rfl, _, rfl, ifnY rfl ⟨S.trans ((same_new n1).trans (same_new n2)), _, _, _, rfl⟩⟩
    · rintro σ H7 ⟨S7, v4, v5, v6, rfl⟩
      refine ⟨(show 1 ≤ sizeLine from by decide), fun e1 n1 => ⟨(show 1 ≤ sizeLine from by decide), fun e2 n2 => fun e3 n3 => ⟨upd_same, [(Sum.inl 1, .int 1)], rfl, (by decide), ?_⟩⟩⟩
      have S8 : Same H7 (upd (upd H7 e1 (.lst [.int 1])) e2 (.tup [.int 1])) := (same_new n1).trans (same_new n2)
      have g1 : (upd (upd H7 e1 (.lst [.int 1])) e2 (.tup [.int 1])) e1 = some (.lst [.int 1]) := same_new n2 _ _ upd_same
      have g2 : (upd (upd H7 e1 (.lst [.int 1])) e2 (.tup [.int 1])) e2 = some (.tup [.int 1]) := upd_same
      generalize upd (upd H7 e1 (.lst [.int 1])) e2 (.tup [.int 1]) = H8 at S8 g1 g2 n3 ⊢
      have S9 : Same H8 (upd (upd H8 e3 (.dK [])) e3 (.dK (mergeK [] [(Sum.inl 1, .int 1)]))) := by rw [upd_upd]; exact same_new n3
      have g3 : (upd (upd H8 e3 (.dK [])) e3 (.dK (mergeK [] [(Sum.inl 1, .int 1)]))) e3 = some (.dK [(Sum.inl 1, .int 1)]) := upd_same
      generalize upd (upd H8 e3 (.dK [])) e3 (.dK (mergeK [] [(Sum.inl 1, .int 1)])) = H9 at S9 g3 ⊢
      refine fun xb dxb nb1 nb2 nb3 => ?_
      refine ⟨xb, dxb, rfl, upd_same, fun HA fsb kA gb => ⟨rfl, (show 8 ≤ sizeLine from by decide), fun lt nlt => ?_⟩⟩
      have SA : Same H9 HA := fun b' u hb => kA _ _ (ne_of_none hb nb1) (by rw [upd_ne (ne_of_none hb nb1), upd_ne (ne_of_none hb nb2)]; exact hb)
      generalize hxs : ([.bl true, .bl false, .non, .str "1", .ref e1, .ref e2, .ref e3, .ref xb] : List V) = ys at nlt ⊢
      have lx : ys.length = 8 := by rw [← hxs]; rfl
      have SL : Same HA (upd HA lt (.lst ys)) := same_new nlt
      have gl : (upd HA lt (.lst ys)) lt = some (.lst ys) := upd_same
      generalize upd HA lt (.lst ys) = HL at SL gl ⊢
      have U9 : Same H9 HL := SA.trans SL
      have noi : ∀ v ∈ ys, IntIs K HL v (0 - 5) 5 false := by
        intro v hv
        rw [← hxs] at hv
        simp only [List.mem_cons, List.not_mem_nil, or_false] at hv
        rcases hv with rfl | rfl | rfl | rfl | rfl | rfl | rfl | rfl
        · exact .inl ⟨_, .bl true, rfl⟩
        · exact .inl ⟨_, .bl false, rfl⟩
        · exact .inl ⟨_, .non, rfl⟩
        · exact .inl ⟨_, .str _, rfl⟩
        · exact .inr ⟨⟨_, .base (.lst (U9 _ _ (S9 _ _ g1))), kit_ty (by decide +kernel)⟩, rfl⟩
        · exact .inr ⟨⟨_, .base (.tup (U9 _ _ (S9 _ _ g2))), kit_ty (by decide +kernel)⟩, rfl⟩
        · exact .inr ⟨⟨_, .base (.dK (U9 _ _ g3)), kit_ty (by decide +kernel)⟩, rfl⟩
        · exact .inr ⟨⟨_, .base (.ins (SL _ _ gb) T.cl_Book T.ca_Book T.cn_ T.ct_ T.cm_Book), T.ki_Book_int⟩, rfl⟩
      have SX : Same H5 HL := S6.trans (S7.trans (S8.trans (S9.trans U9)))
      have kL : Kp b H HL := K5.same SX
      have BL : BoxAt b (n + 90) HL := B5'.same SX
      clear hxs
      refine ⟨_, rfl, lt, rfl, ⟨_, SqL.of gl⟩, fun D hD => lc_it (walk_list (xs := ys)) (fun i H' => Same HL H' ∧ H' D = some (.lst (List.replicate i (.bl false)))) ⟨same_new hD, upd_same⟩ ?_ ?_ ?_⟩
      · rintro i H' _ ⟨S, _⟩
        exact SqL.of (S _ _ gl)
      · rintro i y _ H' hi ⟨S, hD'⟩ ⟨rfl, hy⟩
        have no := noi y (List.mem_of_getElem? hy)
        have no' : IntIs K H' y (0 - 5) 5 false := by
          rcases no with ⟨d', dq, e⟩ | ⟨⟨t, ty, kt⟩, e⟩
          · exact .inl ⟨d', (dq_same S).1 dq, e⟩
          · exact .inr ⟨⟨t, ty_same S ty, kt⟩, e⟩
        refine ⟨rfl, _, rfl, _, _, rfl, rfl, y, _, _, false, rfl, no', _, hD', ?_, Tp.Same.mut S hD, ?_⟩
        · rw [List.length_replicate]
          exact Nat.lt_of_le_of_lt (show i ≤ 10 by omega) (by decide)
        · rw [upd_same, ← List.replicate_succ']
      · rintro HM ⟨SM, hD'⟩
        rw [lx] at hD'
        have ff := fit_falses 8 (by decide)
        refine ⟨_, _, rfl, dp_falses 8 hD', ff.1, ff.2.1, ff.2.2.1, ff.2.2.2, ?_⟩
        refine ⟨(show 1 ≤ sizeLine from by decide), fun r1 nr1 => ⟨r1, 8, _, rfl, rfl, upd_same, by decide, by decide, by decide, fun r2 nr2 => ?_⟩⟩
        have er : (List.replicate (8 : Int).toNat [V.bl false]).flatten = List.replicate 8 (.bl false) := rfl
        rw [er]
        refine ⟨_, _, rfl, dp_falses 8 upd_same, ff.1, ff.2.1, ff.2.2.1, ff.2.2.2, rfl, ?_⟩
        show Q (.bl (decide _)) _
        rw [decide_eq_true rfl]
        have SZ := SM.trans ((same_new (o := .lst [.bl false]) nr1).trans (same_new (o := .lst (List.replicate 8 (.bl false))) nr2))
        exact q _ (kL.same SZ) ((BL.same SZ).up (by omega))
end
end L02


set_option Elab.async false
set_option linter.all false
set_option maxRecDepth 100000
set_option maxHeartbeats 4000000
set_option pp.deepTerms false
set_option pp.deepTerms.threshold 4
set_option pp.maxSteps 1000
namespace L02
open PySem L2 Tp
section
variable {P : Program} {w : World} {K : PySem.W.Frag} {mg : Str → Option Value} {base : Heap} {a : Ad} {d : Fd}
theorem terms_no {d : PyData} {i : Nat} (hi : i < (itemsD d).length) (h : rowD ((itemsD d).getD i .none) i = false) : termsD d = false := by
  unfold termsD
  rw [Bool.and_eq_false_iff]
  refine .inr (Bool.eq_false_iff.mpr fun k => ?_)
  have := List.all_eq_true.mp k i (List.mem_range.mpr hi)
  rw [h] at this
  cases this
theorem terms_yes {d : PyData} (l : isLT d = true) (h : ∀ i : Nat, i < (itemsD d).length → rowD ((itemsD d).getD i .none) i = true) : termsD d = true := by
  unfold termsD
  rw [l, Bool.true_and]
  exact List.all_eq_true.mpr fun i hi => h i (List.mem_range.mp hi)
theorem smd_sd {d : PyData} (h : SmD d) : SD d := fun z e => Nat.le_trans (h z e).1 (by decide)
def spAreRows (K : PySem.W.Frag) : Sp := fun vs H Q _ => ∃ (v : V) (d : PyData), vs = [v] ∧ Dq K H v d ∧ isLT d = true ∧ (∀ r ∈ itemsD d, ∀ x ∈ itemsD r, SmD x) ∧ ∀ H', Same H H' → Q (.bl (termsD d)) H'
theorem ok_areRows (T : Txt K mg a d) : FnG P w K mg base CX0 3 a.areRows d.areRows ["_law_rows_here"] (spAreRows K) := by
  have G_named := ok_named (P := P) (w := w) (base := base) T
  refine okG T.F_areRows scAreRows (fun vs H Q E h => ?_) (fun cdv A outer s H vs Q E hr hg h => ?_)
  · obtain ⟨v, dd, rfl, _⟩ := h
    rfl
  · obtain ⟨v, dd, rfl, dq, lt, sm, q⟩ := h
    refine ⟨_, (pss_cons (ps_for PassesOwn.never rfl (Tp.pi_enumB (K := K) rfl (by rfl) T.enumerate_ (pa_cons (pv 0) pa_nil)) (pg_tup (by rfl) (pgs_cons (pg_name (i := 1) scAreRows.nd rfl (Or.inl rfl)) (pgs_cons (pg_name (i := 2) scAreRows.nd rfl (Or.inl rfl)) pgs_nil))) (pss_cons (ps_if (PW.pt (pw_or (pt_not (pt_val (pe_callB call_isiT (by rfl) T.isinstance_ Tp.bt_isinstance (pa_cons (pv 2) (pa_cons (pe_tup (pa_cons (pe_bltn (v := .ty "list") (by rfl) T.list_ Tp.bt_list rfl) (pa_cons (pe_bltn (v := .ty "tuple") (by rfl) T.tuple_ Tp.bt_tuple rfl) pa_nil))) pa_nil))))) (pw_or (pt_cmpR op_ne (pe_callB call_len_seq (by rfl) T.len_ Tp.bt_len (pa_cons (pv 2) pa_nil)) pe_int (nomark _)) (pw_or1 (pt_not (pt_val (Tp.pe_callG G_named (hr.mono (by decide)) hg (by rfl) T.mg_named T.F_named.kp T.b_named .nil pass0 (pa_cons (pe_ix ix_seq (pv 2) pe_int (fun _ _ => rfl)) pa_nil)))))))) (pss_one (ps_ret pe_bl)) pss_nil)
      (pss_cons (ps_if (PW.pt (pw_or (pt_not (pt_val (pe_callB call_isiT (by rfl) T.isinstance_ Tp.bt_isinstance (pa_cons (pe_ix ix_seq (pv 2) pe_int (fun _ _ => rfl)) (pa_cons (pe_tup (pa_cons (pe_bltn (v := .ty "list") (by rfl) T.list_ Tp.bt_list rfl) (pa_cons (pe_bltn (v := .ty "tuple") (by rfl) T.tuple_ Tp.bt_tuple rfl) pa_nil))) pa_nil))))) (pw_or1 (pt_cmpR op_gt (pe_callB call_len_seq (by rfl) T.len_ Tp.bt_len (pa_cons (pe_ix ix_seq (pv 2) pe_int (fun _ _ => rfl)) pa_nil)) pe_int (nomark _))))) (pss_one (ps_ret pe_bl)) pss_nil)
      (pss_one (ps_for PassesOwn.never rfl (Tp.pi_B (K := K) rfl (pe_ix ix_seq (pv 2) pe_int (fun _ _ => rfl))) (pg_name (i := 3) scAreRows.nd rfl (Or.inl rfl)) (pss_one (ps_if (PW.pt (pw_or (pt_not (pt_val (pe_callB call_isi (by rfl) T.isinstance_ Tp.bt_isinstance (pa_cons (pv 3) (pa_cons (pe_bltn (v := .ty "int") (by rfl) T.int_ Tp.bt_int rfl) pa_nil))))) (pw_or (pt_val (pe_callB call_isi (by rfl) T.isinstance_ Tp.bt_isinstance (pa_cons (pv 3) (pa_cons (pe_bltn (v := .ty "bool") (by rfl) T.bool_ Tp.bt_bool rfl) pa_nil)))) (pw_or1 (pt_not (pt_chain op_le op_lt pe_int (pv 3) (pv 1))))))) (pss_one (ps_ret pe_bl)) pss_nil)))))))
      (pss_one (ps_ret pe_bl))), ?_⟩
    obtain ⟨l, xs, rfl, sq, da⟩ := dq_seq dq lt
    have ly := dqAll_len da
    refine ⟨_, rfl, isTup dd, l, xs, rfl, sq, for_it (walk_enumB (xs := xs)) (fun i σ H' => Same H H' ∧ (∀ j : Nat, j < i → rowD ((itemsD dd).getD j .none) j = true) ∧ ∃ v1 v2 v3, σ = [some (.ref l), v1, v2, v3]) ⟨Same.refl H, fun j hj => absurd hj (Nat.not_lt_zero j), _, _, _, rfl⟩ ?_ ?_ ?_⟩
    · rintro i σ H' _ ⟨S, _⟩
      exact sq.same S
    · rintro i u σ H' _ hi ⟨S, hj, v1, v2, v3, rfl⟩ ⟨TT, x, y, rfl, hT, rfl, hx, hy⟩
      cases hx
      obtain ⟨r, he, dr⟩ := dqAll_get da hy
      have her : (itemsD dd).getD i .none = r := by simp [List.getD, he]
      have hir : i < (itemsD dd).length := by omega
      have smr := sm r (List.mem_of_getElem? he)
      have ST : Same H' (upd H' TT (.tup [.int (i : Nat), y])) := same_new hT
      have gT : (upd H' TT (.tup [.int (i : Nat), y])) TT = some (.tup [.int (i : Nat), y]) := upd_same
      generalize upd H' TT (.tup [.int (i : Nat), y]) = H2 at ST gT ⊢
      have S2 : Same H H2 := S.trans ST
      have bad : rowD r (i : Nat) = false → ∀ H9, Same H H9 → Q (.bl false) H9 := fun h H9 S9 => by
        have := q H9 S9
        rw [terms_no hir (by rw [her]; exact h)] at this
        exact this
      refine ⟨TT, _, rfl, SqT.of gT, rfl, _, _, rfl, _, _, rfl, rfl, ?_⟩
      refine ⟨_, rfl, (show 2 ≤ sizeLine from by decide), fun tp ntp => ?_⟩
      have S3 : Same H (upd H2 tp (.tup [.ty "list", .ty "tuple"])) := S2.trans (same_new ntp)
      refine ⟨y, tp, _, _, _, isLT r, rfl, upd_same, cls_lt, dq_ty ((dq_same S3).1 dr), kit_lt r, _, rfl, ?_⟩
      generalize upd H2 tp (.tup [.ty "list", .ty "tuple"]) = H3 at S3
      cases el : isLT r with
      | false =>
        refine iteT (bad (row_nopair ?_) _ S3)
        unfold pairD
        rw [el, Bool.false_and]
      | true =>
        obtain ⟨lr, ys, rfl, sqr, dar⟩ := dq_seq dr el
        have lyr := dqAll_len dar
        refine iteF ⟨_, rfl, lr, ys, rfl, sqB_len (sqr.same S3), rfl, _, rfl, ?_⟩
        by_cases e2 : ys.length = 2
        · refine ifnY (by rw [e2]; rfl) ?_
          obtain ⟨x0, x1, ei⟩ : ∃ x y, itemsD r = [x, y] := by
            rw [lyr] at e2
            match h : itemsD r with
            | [x, y] => exact ⟨x, y, rfl⟩
            | [] => rw [h] at e2; cases e2
            | [_] => rw [h] at e2; cases e2
            | _ :: _ :: _ :: _ => rw [h] at e2; simp at e2
          rw [ei] at dar smr
          cases dar with
          | cons dx rr =>
            cases rr with
            | cons dy rr2 =>
              cases rr2
              rename_i vx vy
              have er : rowD r (i : Nat) = (nmD x0 && (isLT x1 && (decide ((itemsD x1).length ≤ 3) && (itemsD x1).all fun e => intD e 0 ((i : Nat) - 1)))) := by
                unfold rowD
                rw [ei, el]
                exact Bool.true_and _
              have ixB : ∀ {H' : Hp} {k : Int} {u : V} {Q' : VK}, Same H H' → atI [vx, vy] k = some u → Q' u H' → rIx K (.ref lr) (.int k) H' Q' := by
                intro H' k u Q' S hu hq
                cases hb : isTup r with
                | true => rw [hb] at sqr; exact .inr (.inl ⟨lr, _, k, u, rfl, rfl, SqB.same (b := true) S sqr, hu, hq⟩)
                | false => rw [hb] at sqr; exact .inl ⟨lr, _, k, u, rfl, rfl, SqB.same (b := false) S sqr, hu, hq⟩
              refine ⟨_, rfl, ixB S3 (k := 0) (u := vx) rfl ?_⟩
              refine ⟨vx, x0, rfl, (dq_same S3).1 dx, smr x0 List.mem_cons_self, fun H4 S4' => ⟨_, rfl, ?_⟩⟩
              have S4 := S3.trans S4'
              cases en : nmD x0 with
              | false => exact iteT (bad (by rw [er, en, Bool.false_and]) _ S4)
              | true =>
                refine iteF ⟨_, rfl, ixB S4 (k := 1) (u := vy) rfl ?_⟩
                refine ⟨(show 2 ≤ sizeLine from by decide), fun tp5 ntp5 => ?_⟩
                have S5 : Same H (upd H4 tp5 (.tup [.ty "list", .ty "tuple"])) := S4.trans (same_new ntp5)
                refine ⟨vy, tp5, _, _, _, isLT x1, rfl, upd_same, cls_lt, dq_ty ((dq_same S5).1 dy), kit_lt x1, _, rfl, ?_⟩
                generalize upd H4 tp5 (.tup [.ty "list", .ty "tuple"]) = H5 at S5
                cases el1 : isLT x1 with
                | false => exact iteT (bad (by rw [er, en, el1, Bool.false_and, Bool.and_false]) _ S5)
                | true =>
                  obtain ⟨l1, zs, rfl, sq1, da1⟩ := dq_seq dy el1
                  have lz := dqAll_len da1
                  refine iteF ⟨_, rfl, ixB S5 (k := 1) (u := .ref l1) rfl ?_⟩
                  refine ⟨l1, zs, rfl, sqB_len (sq1.same S5), _, _, rfl, rfl, _, rfl, if2 (fun c => ?_) (fun c => ?_)⟩
                  · have : decide ((itemsD x1).length ≤ 3) = false := decide_eq_false (by omega)
                    exact bad (by rw [er, en, el1, this, Bool.false_and, Bool.and_false, Bool.and_false]) _ S5
                  have l3 : (itemsD x1).length ≤ 3 := by omega
                  have er2 : rowD r (i : Nat) = (itemsD x1).all fun e => intD e 0 ((i : Nat) - 1) := by
                    rw [er, en, el1, decide_eq_true l3, Bool.true_and, Bool.true_and, Bool.true_and]
                  refine ⟨_, rfl, ixB S5 (k := 1) (u := .ref l1) rfl ?_⟩
                  refine ⟨isTup x1, l1, zs, rfl, sq1.same S5, for_it (walk_B (xs := zs)) (fun k σ H' => H' = H5 ∧ (∀ e ∈ (itemsD x1).take k, intD e 0 ((i : Nat) - 1) = true) ∧ ∃ v3, σ = [some (.ref l), some (.int (i : Nat)), some (.ref lr), v3]) ⟨rfl, fun e he => (by simp at he), _, rfl⟩ ?_ ?_ ?_⟩
                  · rintro k σ H' _ ⟨rfl, _⟩
                    exact sq1.same S5
                  · rintro k u σ _ H' hk ⟨rfl, hall, v3, rfl⟩ ⟨rfl, hu⟩
                    obtain ⟨e, he, de⟩ := dqAll_get da1 hu
                    have bad2 : intD e 0 ((i : Nat) - 1) = false → Q (.bl false) H' := fun h => bad (by
                      rw [er2]
                      exact Bool.eq_false_iff.mpr fun k' => by
                        have := List.all_eq_true.mp k' e (List.mem_of_getElem? he)
                        rw [h] at this
                        cases this) _ S5
                    refine ⟨_, rfl, _, _, _, _, isI e, rfl, .ty _, dq_ty ((dq_same S5).1 de), kit_int e, _, rfl, ?_⟩
                    have de5 := (dq_same S5).1 de
                    cases de5 with
                    | int iv =>
                      refine iteF ⟨_, rfl, _, _, _, _, false, rfl, .ty _, .base (.int iv), kit_ty (by decide +kernel), _, rfl, iteF ?_⟩
                      refine ⟨_, rfl, _, _, rfl, rfl, _, rfl, if2 (fun c1 => ⟨_, rfl, _, _, rfl, rfl, _, rfl, ifn2 (fun c2 => ?_) (fun c2 => ?_)⟩) (fun c1 => ?_)⟩
                      · refine ⟨rfl, fun e' he' => ?_, _, rfl⟩
                        rw [List.take_add_one, he] at he'
                        rcases List.mem_append.mp he' with h | h
                        · exact hall e' h
                        · have : e' = .int iv := by simpa using h
                          rw [this]
                          show (decide (0 ≤ iv) && decide (iv ≤ (i : Nat) - 1)) = true
                          rw [decide_eq_true c1, decide_eq_true (by omega : iv ≤ (i : Nat) - 1)]
                          rfl
                      · exact bad2 (by
                          show (decide (0 ≤ iv) && decide (iv ≤ (i : Nat) - 1)) = false
                          rw [decide_eq_false (by omega : ¬ iv ≤ (i : Nat) - 1), Bool.and_false])
                      · exact ⟨_, rfl, iteT (bad2 (by
                          show (decide (0 ≤ iv) && decide (iv ≤ (i : Nat) - 1)) = false
                          rw [decide_eq_false c1, Bool.false_and]))⟩
                    | bl b => exact iteF ⟨_, rfl, _, _, _, _, true, rfl, .ty _, .base (.bl b), kit_ty (by decide +kernel), _, rfl, iteT (bad2 rfl)⟩
                    | _ => exact iteT (bad2 rfl)
                  · rintro σ H' ⟨rfl, hall, v3, rfl⟩
                    rw [lz, List.take_length] at hall
                    refine ⟨S5, fun j hj' => ?_, _, _, _, rfl⟩
                    by_cases ej : j < i
                    · exact hj j ej
                    · have : j = i := by omega
                      subst this
                      rw [her, er2]
                      exact List.all_eq_true.mpr hall
        · refine ifnN (fun k => e2 (by have := V.int.inj k; omega)) (bad (row_nopair ?_) _ S3)
          unfold pairD
          rw [decide_eq_false (by rw [← lyr]; exact e2), Bool.and_false]
    · rintro σ H' ⟨S, hj, _⟩
      rw [ly] at hj
      have := q H' S
      rw [terms_yes lt hj] at this
      exact this
end
end L02


set_option Elab.async false
set_option linter.all false
set_option maxRecDepth 100000
set_option maxHeartbeats 4000000
set_option pp.deepTerms false
set_option pp.deepTerms.threshold 4
set_option pp.maxSteps 1000
namespace L02
open PySem L2 Tp
section
variable {P : Program} {w : World} {K : PySem.W.Frag} {mg : Str → Option Value} {base : Heap} {a : Ad} {d : Fd}
/-! ### the heap without some places -/
def off (ps : List Addr) (H : Hp) : Hp := fun x => if x ∈ ps then none else H x
theorem off_get {ps : List Addr} {H : Hp} {x : Addr} {o : HO} (h : off ps H x = some o) : x ∉ ps ∧ H x = some o := by
  unfold off at h
  by_cases m : x ∈ ps
  · rw [if_pos m] at h; cases h
  · rw [if_neg m] at h; exact ⟨m, h⟩
theorem off_put {ps : List Addr} {H : Hp} {x : Addr} {o : HO} (m : x ∉ ps) (h : H x = some o) : off ps H x = some o := by
  unfold off
  rw [if_neg m]
  exact h
theorem off_same {ps : List Addr} {H H2 : Hp} (k : ∀ x o, x ∉ ps → H x = some o → H2 x = some o) : Same (off ps H) (off ps H2) := fun x o h => by
  obtain ⟨m, h⟩ := off_get h
  exact off_put m (k x o m h)
theorem off_to {ps : List Addr} {H H2 : Hp} (k : ∀ x o, x ∉ ps → H x = some o → H2 x = some o) : Same (off ps H) H2 := fun x o h => by
  obtain ⟨m, h⟩ := off_get h
  exact k x o m h
theorem off_less {ps qs : List Addr} {H : Hp} (k : ∀ x ∈ qs, x ∈ ps) : Same (off ps H) (off qs H) := fun x o h => by
  obtain ⟨m, h⟩ := off_get h
  exact off_put (fun z => m (k x z)) h
/-! ### drawn rows -/
def RowG (i : Nat) (d : PyData) : Prop := ∃ (z : Str) (y : PyData) (ns : List Int), (d = .tuple [.str z, y] ∨ d = .list [.str z, y]) ∧ (y = .list (ns.map PyData.int) ∨ y = .tuple (ns.map PyData.int)) ∧ nmB z = true ∧ Sm 10 z ∧ ns.length ≤ 3 ∧ ∀ m ∈ ns, 0 ≤ m ∧ m < i
def RowsG (ds : List PyData) : Prop := ds.length ≤ 12 ∧ ∀ (i : Nat) (d : PyData), ds[i]? = some d → RowG i d
theorem names3 : ∀ c ∈ ("abcdefghijklmnopqrstuvwxyz" : Str).cps.toList, ∀ x ∈ (["", "1", "x7x7x7x"] : List Str), nmB ((⟨#[c]⟩ : Str) ++ x) = true := by decide +kernel
def spRows (K : PySem.W.Frag) : Sp := fun vs H Q _ => ∃ (b : Addr) (n : Nat), vs = [.ref b] ∧ BoxAt b n H ∧ n < 800000 ∧ ∀ H' l xs ds, Kp b H H' → BoxAt b (n + 200) H' → H l = none → H' l = some (.lst xs) → DpAll K (off [b, l] H') xs ds → RowsG ds → Q (.ref l) H'
theorem dpAll_app {H : Hp} : ∀ {vs ws : List V} {ds es : List PyData}, DpAll K H vs ds → DpAll K H ws es → DpAll K H (vs ++ ws) (ds ++ es)
  | _, _, _, _, .nil, h => h
  | _, _, _, _, .cons x t, h => .cons x (dpAll_app t h)
theorem dp_ints {H : Hp} : ∀ ns : List Int, DpAll K H (ns.map V.int) (ns.map PyData.int)
  | [] => .nil
  | n :: ns => .cons (.int n) (dp_ints ns)
theorem ok_rows (T : Txt K mg a d) : FnG P w K mg base CX0 2 a.rows d.rows ["_law_box_here"] (spRows K) := by
  have G_take := ok_take (P := P) (w := w) (base := base) T
  refine okG T.F_rows scRows (fun vs H Q E h => ?_) (fun cdv A outer s H vs Q E hr hg h => ?_)
  · obtain ⟨b, n, rfl, _⟩ := h
    rfl
  · obtain ⟨b, n, rfl, hB, hn, q⟩ := h
    refine ⟨_, (pss_cons (ps_set (i := 1) scRows.nd rfl (Or.inl rfl) (pe_lst pa_nil))
      (pss_cons (ps_for PassesOwn.never rfl (pi_range1 (by rfl) T.range_ (pa_cons (Tp.pe_callG G_take (hr.mono (by decide)) hg (by rfl) T.mg_take T.F_take.kp T.b_take .nil pass0 (pa_cons (pv 0) (pa_cons pe_int pa_nil))) pa_nil)) (pg_name (i := 2) scRows.nd rfl (Or.inr rfl)) (pss_cons (ps_setLc (i := 3) (own := [("_law_j", 5)]) (by rfl) scRows.nd rfl rfl (sw_true rfl rfl rfl (by decide +kernel)) (pi_range1 (by rfl) T.range_ (pa_cons (Tp.pe_callG G_take (hr.mono (by decide)) hg (by rfl) T.mg_take T.F_take.kp T.b_take .nil pass0 (pa_cons (pv 0) (pa_cons pe_int pa_nil))) pa_nil)) (blkOk_by (own := [("_law_j", 5)]) (N := scRows_N) (sc := defScope scRows_st) (by decide +kernel)) (fun _ _ _ _ _ => (pg_name (i := 5) scRows.nd rfl (Or.inl rfl))) (fun _ _ _ _ _ => (pts_one (pt_cmpR op_gt (pv 2) pe_int (nomark _)))) (fun _ _ _ _ _ => (Tp.pe_callG G_take (hr.mono (by decide)) hg (by rfl) T.mg_take T.F_take.kp T.b_take .nil pass0 (pa_cons (pv 0) (pa_cons (pv 2) pa_nil)))))
      (Evl.pss_cut (ps_if (pt_cmpR op_eq (Tp.pe_callG G_take (hr.mono (by decide)) hg (by rfl) T.mg_take T.F_take.kp T.b_take .nil pass0 (pa_cons (pv 0) (pa_cons pe_int pa_nil))) pe_int (nomark _)) (pss_one (ps_set (i := 3) scRows.nd rfl (Or.inl rfl) (pe_callTy call_tuple_of (by rfl) T.tuple_ Tp.bt_tuple (pa_cons (pv 3) pa_nil)))) pss_nil)
      (pss_cons (ps_set (i := 4) scRows.nd rfl (Or.inl rfl) (pe_op op_add_str (pe_ix ix_str pe_str (Tp.pe_callG G_take (hr.mono (by decide)) hg (by rfl) T.mg_take T.F_take.kp T.b_take .nil pass0 (pa_cons (pv 0) (pa_cons pe_int pa_nil))) (fun _ _ => rfl)) (pe_ix ix_list (pe_lst (pa_cons pe_str (pa_cons pe_str (pa_cons pe_str pa_nil)))) (Tp.pe_callG G_take (hr.mono (by decide)) hg (by rfl) T.mg_take T.F_take.kp T.b_take .nil pass0 (pa_cons (pv 0) (pa_cons pe_int pa_nil))) (fun _ _ => rfl))))
      (pss_one (ps_expr (pe_bm PySem.F.plainAttrs_list PySem.F.slot_list_append PySem.F.type_list_append mt_append (pv 1) (pa_cons (pe_ix ix_list (pe_lst (pa_cons (pe_tup (pa_cons (pv 4) (pa_cons (pv 3) pa_nil))) (pa_cons (pe_lst (pa_cons (pv 4) (pa_cons (pv 3) pa_nil))) pa_nil))) (Tp.pe_callG G_take (hr.mono (by decide)) hg (by rfl) T.mg_take T.F_take.kp T.b_take .nil pass0 (pa_cons (pv 0) (pa_cons pe_int pa_nil))) (fun _ _ => rfl)) pa_nil))))))))
      (pss_one (ps_ret (pv 1))))), ?_⟩
    refine ⟨Nat.zero_le _, fun fd nfd => ?_⟩
    have nfb : fd ≠ b := hB.ne nfd
    have B0 : BoxAt b n (upd H fd (.lst [])) := hB.same (same_new nfd)
    have K0 : Kp b H (upd H fd (.lst [])) := Kp.new nfd
    have g0 : (upd H fd (.lst [])) fd = some (.lst []) := upd_same
    generalize upd H fd (.lst []) = H0 at B0 K0 g0
    refine ⟨_, rfl, b, 13, n, rfl, B0, by omega, by decide, by decide, fun m H1 m0 m1 k1 B1 => ?_⟩
    refine ⟨m, rfl, by omega, by omega, for_range (lo := 0) (n := m.toNat) (fun i σ H' => BoxAt b (n + 1 + 10 * i) H' ∧ Kp b H H' ∧ (∃ xs ds, H' fd = some (.lst xs) ∧ DpAll K (off [b, fd] H') xs ds ∧ RowsG ds ∧ ds.length = i) ∧ ∃ v2 v3 v4, σ = [some (.ref b), some (.ref fd), v2, v3, v4, none]) ⟨B1, K0.trans k1, ⟨[], [], k1 _ _ nfb g0, .nil, ⟨by decide, fun i d h => by simp at h⟩, rfl⟩, _, _, _, rfl⟩ ?_ ?_⟩
    · rintro i σ H' hi ⟨Bi, Ki, ⟨xs, ds, gx, dx, rg, ld⟩, v2, v3, v4, rfl⟩
      have lx : xs.length = ds.length := by
        have : ∀ {vs : List V} {es : List PyData} {H : Hp}, DpAll K H vs es → vs.length = es.length := fun h => dqAll_len (dp_dq.2 h)
        exact this dx
      refine ⟨_, rfl, b, 4, _, rfl, Bi, by omega, by decide, by decide, fun m2 H2 c0 c1 k2 B2 => ?_⟩
      refine ⟨m2, rfl, by omega, by omega, fun D hD => lc_range (lo := 0) (n := m2.toNat) (fun j H' => BoxAt b (n + 2 + 10 * i + j) H' ∧ Kp b H2 H' ∧ ∃ ns : List Int, H' D = some (.lst (ns.map V.int)) ∧ ns.length ≤ j ∧ ∀ m ∈ ns, 0 ≤ m ∧ m < i) ⟨(B2.same (same_new hD)).up (by omega), Kp.new hD, [], upd_same, Nat.le_refl _, (by simp)⟩ ?_ ?_⟩
      · rintro j H3 hj ⟨B3, k3, ns, hN, ln, pn⟩
        have nDb : D ≠ b := B2.ne hD
        refine ⟨rfl, _, rfl, _, _, rfl, rfl, _, rfl, if2 (fun c => ?_) (fun c => ?_)⟩
        · refine ⟨_, rfl, _, rfl, b, _, _, rfl, B3, by omega, by omega, by omega, fun r H4 r0 r1 k4 B4 => ?_⟩
          refine ⟨_, k4 _ _ nDb hN, ?_, (B4.off nDb).up (by omega), (k3.trans k4).mut hD, ns ++ [r], ?_, ?_, ?_⟩
          · rw [List.length_map]
            exact Nat.lt_of_le_of_lt (show _ ≤ 10 by omega) (by decide)
          · rw [upd_same, List.map_append]
            rfl
          · rw [List.length_append]
            exact Nat.add_le_add_right ln 1
          · intro x hx
            rcases List.mem_append.mp hx with hx | hx
            · exact pn x hx
            · rw [List.mem_singleton.mp hx]
              exact ⟨r0, by omega⟩
        · exact ⟨B3.up (by omega), k3, ns, hN, by omega, pn⟩
      · rintro H3 ⟨B3, k3, ns, hN, ln, pn⟩
        have nDb : D ≠ b := B2.ne hD
        have l3 : ns.length ≤ 3 := by omega
        have nDf : D ≠ fd := fun z => by rw [z, k2 _ _ nfb gx] at hD; cases hD
        -- the numbers as a list or a tuple
        refine ⟨fun σ4 H4 => ∃ (nv : Addr) (yd : PyData), BoxAt b (n + 6 + 10 * i) H4 ∧ Kp b H3 H4 ∧ (yd = .list (ns.map PyData.int) ∨ yd = .tuple (ns.map PyData.int)) ∧ Dp K (off [b, fd] H4) (.ref nv) yd ∧ σ4 = [some (.ref b), some (.ref fd), some (.int (0 + (i : Int))), some (.ref nv), v4, none], ?_, ?_⟩
        · refine ⟨_, rfl, b, 2, _, rfl, B3, by omega, by decide, by decide, fun r5 H5 _ _ k5 B5 => ⟨rfl, _, rfl, if2 (fun c => ?_) (fun c => ?_)⟩⟩
          · refine ⟨_, rfl, D, _, rfl, .inl ⟨SqL.of (k5 _ _ nDb hN), fun t nt => ?_⟩⟩
            have ntb : t ≠ b := B5.ne nt
            have ntf : t ≠ fd := fun z => by rw [z, k5 _ _ nfb (k3 _ _ nfb (k2 _ _ nfb gx))] at nt; cases nt
            refine ⟨t, _, (B5.same (same_new nt)).up (by omega), k5.trans (Kp.new nt), .inr rfl, .tup (SqT.of (off_put (by simp [ntb, ntf]) upd_same)) (dp_ints ns), rfl⟩
          · exact ⟨D, _, B5.up (by omega), k5, .inl rfl, .lst (SqL.of (off_put (by simp [nDb, nDf]) (k5 _ _ nDb hN))) (dp_ints ns), rfl⟩
        · rintro σ4 H4 ⟨nv, yd, B4, k4, hyd, dyd, rfl⟩
          have gx4 := k4 _ _ nfb (k3 _ _ nfb (k2 _ _ nfb gx))
          have K4 : Kp b H H4 := ((Ki.trans k2).trans k3).trans k4
          have D4 : DpAll K (off [b, fd] H4) xs ds := (dp_same (off_same fun x o m h => ((k2.trans k3).trans k4) x o (fun z => m (by rw [z]; simp)) h)).2 dx
          clear k1 k2 k3 B1 B2 B3 hN hD
          refine ⟨_, rfl, b, 26, _, rfl, B4, by omega, by decide, by decide, fun r6 H6 a6 b6 k6 B6 => ?_⟩
          obtain ⟨c, hc, mc⟩ := at_some (xs := ("abcdefghijklmnopqrstuvwxyz" : Str).cps.toList) (r := r6) (P := fun c => c ∈ ("abcdefghijklmnopqrstuvwxyz" : Str).cps.toList) (fun _ h => h) a6 b6
          refine ⟨_, _, c, rfl, rfl, by decide, hc, (show 3 ≤ sizeLine from by decide), fun l7 n7 => ?_⟩
          have n7b : l7 ≠ b := B6.ne n7
          refine ⟨_, rfl, b, 3, _, rfl, B6.same (same_new n7), by omega, by decide, by decide, fun r8 H8 a8 b8 k8 B8 => ?_⟩
          obtain ⟨sv, hsv, sx, rfl, msx⟩ := at_some (xs := [V.str "", V.str "1", V.str "x7x7x7x"]) (r := r8) (P := fun v => ∃ x, v = V.str x ∧ x ∈ (["", "1", "x7x7x7x"] : List Str)) (by
            intro x hx
            simp only [List.mem_cons, List.not_mem_nil, or_false] at hx
            rcases hx with rfl | rfl | rfl
            all_goals exact ⟨_, rfl, by simp⟩) a8 b8
          refine ⟨l7, _, _, _, rfl, rfl, SqL.of (k8 _ _ n7b upd_same), hsv, ?_⟩
          have lsx : sx.length ≤ 7 := by
            simp only [List.mem_cons, List.not_mem_nil, or_false] at msx
            rcases msx with rfl | rfl | rfl <;> decide
          refine ⟨_, _, rfl, rfl, Nat.le_trans (Nat.add_le_add (Nat.le_refl 1) lsx) (by decide), ?_⟩
          have nz := names3 c mc sx msx
          have sz : Sm 10 ((⟨#[c]⟩ : Str) ++ sx) := (nm_sm nz).up (by decide)
          generalize (⟨#[c]⟩ : Str) ++ sx = z at nz sz
          have k48 : Kp b H4 H8 := (k6.trans (Kp.new n7)).trans k8
          have gx8 := k48 _ _ nfb gx4
          have D8 : DpAll K (off [b, fd] H8) xs ds := (dp_same (off_same fun x o m h => k48 x o (fun z => m (by rw [z]; simp)) h)).2 D4
          have dy8 : Dp K (off [b, fd] H8) (.ref nv) yd := (dp_same (off_same fun x o m h => k48 x o (fun z => m (by rw [z]; simp)) h)).1 dyd
          refine ⟨_, rfl, .inl ⟨rfl, _, SqL.of gx8⟩, _, rfl, _, rfl, (show 2 ≤ sizeLine from by decide), fun t9 n9 => ⟨_, rfl, _, rfl, (show 2 ≤ sizeLine from by decide), fun l9 m9 => ⟨(show 2 ≤ sizeLine from by decide), fun p9 q9 => ?_⟩⟩⟩
          have n9b : t9 ≠ b := B8.ne n9
          have n9f : t9 ≠ fd := fun z => by rw [z, gx8] at n9; cases n9
          have B9 := B8.same (same_new (o := .tup [.str z, .ref nv]) n9)
          have gx9 := same_new (o := .tup [.str z, .ref nv]) n9 _ _ gx8
          have D9 : DpAll K (off [b, fd] (upd H8 t9 (.tup [.str z, .ref nv]))) xs ds := (dp_same (off_same fun x o m h => same_new n9 _ _ h)).2 D8
          have dy9 : Dp K (off [b, fd] (upd H8 t9 (.tup [.str z, .ref nv]))) (.ref nv) yd := (dp_same (off_same fun x o m h => same_new n9 _ _ h)).1 dy8
          have gt9 : (upd H8 t9 (.tup [.str z, .ref nv])) t9 = some (.tup [.str z, .ref nv]) := upd_same
          have k9 : Kp b H8 (upd H8 t9 (.tup [.str z, .ref nv])) := Kp.new n9
          generalize upd H8 t9 (.tup [.str z, .ref nv]) = H9 at B9 gx9 D9 dy9 gt9 k9 m9 q9 ⊢
          have m9b : l9 ≠ b := B9.ne m9
          have m9f : l9 ≠ fd := fun z => by rw [z, gx9] at m9; cases m9
          have SA : Same H9 (upd H9 l9 (.lst [.str z, .ref nv])) := same_new m9
          have gl9 : (upd H9 l9 (.lst [.str z, .ref nv])) l9 = some (.lst [.str z, .ref nv]) := upd_same
          generalize upd H9 l9 (.lst [.str z, .ref nv]) = HA at SA gl9 q9 ⊢
          have SB : Same HA (upd HA p9 (.lst [.ref t9, .ref l9])) := same_new q9
          have gp : (upd HA p9 (.lst [.ref t9, .ref l9])) p9 = some (.lst [.ref t9, .ref l9]) := upd_same
          generalize upd HA p9 (.lst [.ref t9, .ref l9]) = HB at SB gp ⊢
          have BB := B9.same (SA.trans SB)
          have gpb : p9 ≠ b := fun z => by
            obtain ⟨x, y, z', e, _⟩ := BB
            rw [z, e] at gp
            cases gp
          refine ⟨_, rfl, b, 2, _, rfl, BB, by omega, by decide, by decide, fun rC HC aC bC kC BC => ?_⟩
          have kBC : Kp b H9 HC := fun x o nx h => kC _ _ nx (SB _ _ (SA _ _ h))
          have gtC := kBC _ _ n9b gt9
          have glC := kC _ _ m9b (SB _ _ gl9)
          have dyC : Dp K (off [b, fd] HC) (.ref nv) yd := (dp_same (off_same fun x o m h => kBC x o (fun z => m (by rw [z]; simp)) h)).1 dy9
          have DC : DpAll K (off [b, fd] HC) xs ds := (dp_same (off_same fun x o m h => kBC x o (fun z => m (by rw [z]; simp)) h)).2 D9
          have gxC := kBC _ _ nfb gx9
          obtain ⟨rv, hrv, rd, drv, hrd⟩ := at_some (xs := [V.ref t9, V.ref l9]) (r := rC) (P := fun v => ∃ rd, Dp K (off [b, fd] HC) v rd ∧ (rd = .tuple [.str z, yd] ∨ rd = .list [.str z, yd])) (by
            intro x hx
            simp only [List.mem_cons, List.not_mem_nil, or_false] at hx
            rcases hx with rfl | rfl
            · exact ⟨_, .tup (SqT.of (off_put (by simp [n9b, n9f]) gtC)) (.cons (.str z) (.cons dyC .nil)), .inl rfl⟩
            · exact ⟨_, .lst (SqL.of (off_put (by simp [m9b, m9f]) glC)) (.cons (.str z) (.cons dyC .nil)), .inr rfl⟩) aC bC
          refine ⟨p9, _, _, _, rfl, rfl, SqL.of (kC _ _ gpb gp), hrv, fd, _, _, rfl, rfl, gxC, ?_, ?_⟩
          · rw [lx, ld]
            exact Nat.lt_of_le_of_lt (show i ≤ 12 by omega) (by decide)
          refine ⟨(BC.off nfb).up (by omega), ?_, ⟨xs ++ [rv], ds ++ [rd], upd_same, ?_, ?_, ?_⟩, _, _, _, rfl⟩
          · intro x o nx h
            have hx : x ≠ fd := fun z => by rw [z, nfd] at h; cases h
            rw [upd_ne hx]
            exact kBC _ _ nx (k9 _ _ nx (k48 _ _ nx (K4 _ _ nx h)))
          · have so : Same (off [b, fd] HC) (off [b, fd] (upd HC fd (.lst (xs ++ [rv])))) := off_same fun x o m h => by
              rw [upd_ne (fun z => m (by rw [z]; simp))]
              exact h
            exact dpAll_app ((dp_same so).2 DC) (.cons ((dp_same so).1 drv) .nil)
          · refine ⟨by rw [List.length_append, ld]; show i + 1 ≤ 12; omega, fun j e he => ?_⟩
            rcases Nat.lt_or_ge j ds.length with hj | hj
            · rw [List.getElem?_append_left hj] at he
              exact rg.2 j e he
            · rw [List.getElem?_append_right hj] at he
              have hj0 : j - ds.length = 0 := by
                rcases Nat.eq_zero_or_pos (j - ds.length) with h | h
                · exact h
                · rw [List.getElem?_eq_none (by simp; omega)] at he; cases he
              rw [hj0] at he
              cases he
              have : j = i := by omega
              subst this
              exact ⟨z, yd, ns, hrd, hyd, nz, sz, l3, pn⟩
          · rw [List.length_append, ld]
            rfl
    · rintro σ H' ⟨Bi, Ki, ⟨xs, ds, gx, dx, rg, ld⟩, v2, v3, v4, rfl⟩
      exact ⟨_, rfl, q H' fd xs ds Ki (Bi.up (by omega)) nfd gx dx rg⟩
end
end L02


set_option Elab.async false
set_option linter.all false
set_option maxRecDepth 100000
set_option maxHeartbeats 4000000
set_option pp.deepTerms false
set_option pp.deepTerms.threshold 4
set_option pp.maxSteps 1000
namespace L02
open PySem L2 Tp
section
variable {P : Program} {w : World} {K : PySem.W.Frag} {mg : Str → Option Value} {base : Heap} {a : Ad} {d : Fd}
def OkR (d : PyData) : Prop := FitQ 6 2000 d ∧ ∀ x ∈ itemsD d, SmD x
theorem smd_str {m : Nat} {z : Str} (h : Sm m z) (l : m ≤ 100) : SmD (.str z) := fun z' e => by cases e; exact h.up l
theorem smd_no {d : PyData} (h : isS d = false) : SmD d := fun z e => by rw [e] at h; cases h
theorem fq_list {xs : List PyData} (l : xs.length ≤ 8) (h : ∀ x ∈ xs, FitQ 3 50 x) : FitQ 4 500 (.list xs) := (fitq_list h).up (by decide) (by
  have : xs.length * (50 + 2) ≤ 8 * 52 := Nat.mul_le_mul_right _ l
  omega)
theorem fq_tuple {xs : List PyData} (l : xs.length ≤ 8) (h : ∀ x ∈ xs, FitQ 3 50 x) : FitQ 4 500 (.tuple xs) := (fitq_tuple h).up (by decide) (by
  have : xs.length * (50 + 2) ≤ 8 * 52 := Nat.mul_le_mul_right _ l
  omega)
theorem okr_tup {xs : List PyData} (l : xs.length ≤ 3) (h : ∀ x ∈ xs, FitQ 4 500 x ∧ SmD x) : OkR (.tuple xs) := ⟨(fitq_tuple fun x hx => (h x hx).1).up (by decide) (by
  have : xs.length * (500 + 2) ≤ 3 * 502 := Nat.mul_le_mul_right _ l
  omega), fun x hx => (h x hx).2⟩
theorem okr_lst {xs : List PyData} (l : xs.length ≤ 3) (h : ∀ x ∈ xs, FitQ 4 500 x ∧ SmD x) : OkR (.list xs) := ⟨(fitq_list fun x hx => (h x hx).1).up (by decide) (by
  have : xs.length * (500 + 2) ≤ 3 * 502 := Nat.mul_le_mul_right _ l
  omega), fun x hx => (h x hx).2⟩
theorem fq_ints {ns : List Int} (h : ∀ m ∈ ns, m.natAbs < 10 ^ 40) : ∀ x ∈ ns.map PyData.int, FitQ 3 50 x := fun x hx => by
  obtain ⟨m, hm, rfl⟩ := List.mem_map.mp hx
  exact fitq_int (h m hm)
theorem two {p : PyData → Prop} {x y : PyData} (h1 : p x) (h2 : p y) : ∀ e ∈ [x, y], p e := fun e he => by
  simp only [List.mem_cons, List.not_mem_nil, or_false] at he
  rcases he with rfl | rfl
  · exact h1
  · exact h2
theorem fs {m : Nat} {z : Str} (h : Sm m z) (l : m ≤ 40) : FitQ 4 500 (.str z) ∧ SmD (.str z) := ⟨(fitq_str h).up (Nat.le_refl _) (by omega), smd_str h (by omega)⟩
theorem rowg_ok {i : Nat} (hi : i ≤ 12) {d : PyData} (h : RowG i d) : OkR d := by
  obtain ⟨z, y, ns, hd, hy, nz, sz, l3, pn⟩ := h
  have fi : ∀ m ∈ ns, m.natAbs < 10 ^ 40 := fun m hm => by
    have := pn m hm
    exact Nat.lt_of_lt_of_le (show m.natAbs < 12 by omega) (by decide)
  have fy : FitQ 4 500 y ∧ SmD y := by
    rcases hy with rfl | rfl
    · exact ⟨fq_list (by rw [List.length_map]; omega) (fq_ints fi), smd_no rfl⟩
    · exact ⟨fq_tuple (by rw [List.length_map]; omega) (fq_ints fi), smd_no rfl⟩
  rcases hd with rfl | rfl
  · exact okr_tup (by simp) (two (fs sz (by decide)) fy)
  · exact okr_lst (by simp) (two (fs sz (by decide)) fy)
theorem rowg_row {i : Nat} {d : PyData} (h : RowG i d) : rowD d i = true := by
  obtain ⟨z, y, ns, hd, hy, nz, sz, l3, pn⟩ := h
  have hi : itemsD d = [.str z, y] := by rcases hd with rfl | rfl <;> rfl
  have hl : isLT d = true := by rcases hd with rfl | rfl <;> rfl
  have hy1 : isLT y = true := by rcases hy with rfl | rfl <;> rfl
  have hy2 : itemsD y = ns.map PyData.int := by rcases hy with rfl | rfl <;> rfl
  unfold rowD
  rw [hi]
  show (isLT d && (nmD (.str z) && (isLT y && (decide ((itemsD y).length ≤ 3) && (itemsD y).all fun e => intD e 0 (i - 1))))) = true
  rw [hl, hy1, hy2, List.length_map, decide_eq_true l3, show nmD (.str z) = nmB z from rfl, nz, List.all_map]
  simp only [Bool.true_and]
  refine List.all_eq_true.mpr fun m hm => ?_
  have := pn m hm
  show (decide (0 ≤ m) && decide (m ≤ (i : Int) - 1)) = true
  rw [decide_eq_true this.1, decide_eq_true (by omega)]
  rfl
theorem dqAll_set {H : Hp} : ∀ {vs : List V} {ds : List PyData} (k : Nat) {v : V} {d : PyData}, DqAll K H vs ds → Dq K H v d → DqAll K H (vs.set k v) (ds.set k d)
  | _, _, _, _, _, .nil, _ => .nil
  | _, _, 0, _, _, .cons _ t, h => .cons h t
  | _, _, k + 1, _, _, .cons x t, h => .cons x (dqAll_set k t h)
theorem shaped_row {i : Nat} {d : PyData} (h : RowG i d) : d.canLay0 = true ∧ d.depth ≤ 2 := by
  obtain ⟨z, y, ns, hd, hy, nz, sz, l3, pn⟩ := h
  have ks := str_ok sz
  have key : ∀ ns : List Int, PyData.canLayAll0 (ns.map PyData.int) = true ∧ PyData.depthAll (ns.map PyData.int) = 0 := by
    intro ns
    induction ns with
    | nil => exact ⟨by simp [PyData.canLayAll0], by simp [PyData.depthAll]⟩
    | cons y ys ih => exact ⟨by simp [PyData.canLayAll0, PyData.canLay0, ih.1], by simp [PyData.depthAll, PyData.depth, ih.2]⟩
  have k := key ns
  rcases hd with rfl | rfl <;> rcases hy with rfl | rfl
  all_goals exact ⟨by simp [PyData.canLay0, PyData.canLayAll0, ks, k.1], by simp [PyData.depth, PyData.depthAll, k.2]⟩
theorem shaped_rows {ds : List PyData} (h : ∀ d ∈ ds, ∃ i, RowG i d) : SeqAt.shaped (.list ds) = true := by
  have key : ∀ ds : List PyData, (∀ d ∈ ds, ∃ i, RowG i d) → PyData.canLayAll0 ds = true ∧ PyData.depthAll ds ≤ 2 := by
    intro ds
    induction ds with
    | nil => intro _; exact ⟨by simp [PyData.canLayAll0], by simp [PyData.depthAll]⟩
    | cons y ys ih =>
      intro h
      obtain ⟨i1, i2⟩ := ih fun z hz => h z (List.mem_cons_of_mem _ hz)
      obtain ⟨i, g⟩ := h y List.mem_cons_self
      obtain ⟨k1, k2⟩ := shaped_row g
      exact ⟨by simp [PyData.canLayAll0, k1, i1], by simp only [PyData.depthAll]; omega⟩
  obtain ⟨k1, k2⟩ := key ds h
  unfold SeqAt.shaped
  refine Bool.and_eq_true_iff.mpr ⟨by simp only [PyData.canLay0, k1], decide_eq_true ?_⟩
  simp only [PyData.depth]
  omega
theorem eqv_nilD (ds : List PyData) : PyData.eqv (.list ds) (.list []) = ds.isEmpty := by
  cases ds with
  | nil => simp [PyData.eqv, PyData.eqvAll]
  | cons w ws => simp [PyData.eqv, PyData.eqvAll]
def spBent (K : PySem.W.Frag) : Sp := fun vs H Q _ => ∃ (b l : Addr) (n : Nat) (xs : List V) (ds : List PyData), vs = [.ref b, .ref l] ∧ BoxAt b n H ∧ n < 900000 ∧ H l = some (.lst xs) ∧ DpAll K (off [b, l] H) xs ds ∧ RowsG ds ∧
  ∀ H' fo ys es, Kp b H H' → BoxAt b (n + 20) H' → H fo = none → H' fo = some (.lst ys) → DqAll K (off [b, fo] H') ys es → es.length ≤ 12 → (∀ e ∈ es, OkR e) → Q (.ref fo) H'
theorem ok_bent (T : Txt K mg a d) : FnG P w K mg base CX0 2 a.bent d.bent ["_law_box_here", "_law_rows_here"] (spBent K) := by
  have G_take := ok_take (P := P) (w := w) (base := base) T
  refine okG T.F_bent scBent (fun vs H Q E h => ?_) (fun cdv A outer s H vs Q E hr hg h => ?_)
  · obtain ⟨b, l, n, xs, ds, rfl, _⟩ := h
    rfl
  · obtain ⟨b, l, n, xs, ds, rfl, hB, hn, hl, dx, rg, q⟩ := h
    refine ⟨_, (pss_cons (ps_set (i := 2) scBent.nd rfl (Or.inl rfl) (pe_callTy call_list_of (by rfl) T.list_ Tp.bt_list (pa_cons (pv 1) pa_nil)))
      (pss_cons (ps_if (pt_cmpR (op_eqD hr.units) (pv 2) (pe_lst pa_nil) (nomark _)) (pss_one (ps_ret (pe_lst (pa_cons pe_non pa_nil)))) pss_nil)
      (pss_cons (ps_set (i := 3) scBent.nd rfl (Or.inl rfl) (Tp.pe_callG G_take (hr.mono (by decide)) hg (by rfl) T.mg_take T.F_take.kp T.b_take .nil pass0 (pa_cons (pv 0) (pa_cons (pe_callB call_len_seq (by rfl) T.len_ Tp.bt_len (pa_cons (pv 2) pa_nil)) pa_nil))))
      (pss_cons (ps_asg (pe_ix ix_list (pv 2) (pv 3) (fun _ _ => rfl)) (Tp.pg_B (n := 2) (K := K) rfl rfl (pgs_cons (pg_name (i := 4) scBent.nd rfl (Or.inl rfl)) (pgs_cons (pg_name (i := 5) scBent.nd rfl (Or.inl rfl)) pgs_nil))))
      (pss_cons (ps_set (i := 6) scBent.nd rfl (Or.inl rfl) (pe_callTy call_list_of (by rfl) T.list_ Tp.bt_list (pa_cons (pv 5) pa_nil)))
      (pss_cons (ps_set (i := 7) scBent.nd rfl (Or.inl rfl) (pe_lst (pa_cons (pe_tup (pa_cons (pv 4) (pa_cons (pe_op op_cat (pv 6) (pe_lst (pa_cons (pv 3) pa_nil))) pa_nil))) (pa_cons (pe_tup (pa_cons (pv 4) (pa_cons (pe_op op_cat (pv 6) (pe_lst (pa_cons (pe_op op_sub pe_int pe_int) pa_nil))) pa_nil))) (pa_cons (pe_tup (pa_cons (pv 4) (pa_cons (pe_op op_cat (pv 6) (pe_lst (pa_cons pe_bl pa_nil))) pa_nil))) (pa_cons (pe_tup (pa_cons (pv 4) (pa_cons (pe_op op_cat (pv 6) (pe_lst (pa_cons pe_str pa_nil))) pa_nil))) (pa_cons (pe_tup (pa_cons (pv 4) pa_nil)) (pa_cons pe_non pa_nil))))))))
      (pss_cons (ps_set (i := 7) scBent.nd rfl (Or.inl rfl) (pe_op op_cat (pv 7) (pe_lst (pa_cons (pe_tup (pa_cons (pv 4) (pa_cons (pv 6) (pa_cons (pv 6) pa_nil)))) (pa_cons (pe_tup (pa_cons (pe_op op_add_str pe_str (pe_slice sl_str (pv 4) (po_some pe_int) po_none)) (pa_cons (pv 6) pa_nil))) (pa_cons (pe_tup (pa_cons pe_str (pa_cons (pv 6) pa_nil))) (pa_cons (pe_tup (pa_cons pe_str (pa_cons (pv 6) pa_nil))) (pa_cons (pe_tup (pa_cons (pv 4) (pa_cons pe_int pa_nil))) (pa_cons (pe_tup (pa_cons (pv 4) (pa_cons pe_str pa_nil))) pa_nil)))))))))
      (pss_cons (ps_set (i := 7) scBent.nd rfl (Or.inl rfl) (pe_op op_cat (pv 7) (pe_lst (pa_cons (pe_tup (pa_cons (pv 4) (pa_cons (pe_disp (pps_cons pe_int pe_int pps_nil) (by rfl) (by rfl) (fun z => by cases z) (by decide)) pa_nil))) (pa_cons (pe_tup (pa_cons (pv 4) (pa_cons (pe_slice sl_list (pe_op op_cat (pv 6) (pe_lst (pa_cons pe_int (pa_cons pe_int (pa_cons pe_int (pa_cons pe_int pa_nil)))))) po_none (po_some pe_int)) pa_nil))) (pa_cons (pe_tup (pa_cons pe_str (pa_cons (pv 6) pa_nil))) (pa_cons (pv 4) (pa_cons (pe_lst pa_nil) (pa_cons (pe_tup (pa_cons pe_non (pa_cons (pv 6) pa_nil))) pa_nil)))))))))
      (pss_cons (ps_asg (pe_ix ix_list (pv 7) (Tp.pe_callG G_take (hr.mono (by decide)) hg (by rfl) T.mg_take T.F_take.kp T.b_take .nil pass0 (pa_cons (pv 0) (pa_cons pe_int pa_nil))) (fun _ _ => rfl)) (pg_sub (pv 2) (pv 3) set_list))
      (pss_one (ps_ret (pv 2)))))))))))), ?_⟩
    have lx : xs.length = ds.length := dqAll_len (dp_dq.2 dx)
    refine ⟨_, rfl, l, xs, rfl, .inl (SqL.of hl), fun fo nfo => ?_⟩
    have nfb : fo ≠ b := hB.ne nfo
    have S1 : Same H (upd H fo (.lst xs)) := same_new nfo
    have g1 : (upd H fo (.lst xs)) fo = some (.lst xs) := upd_same
    generalize upd H fo (.lst xs) = H1 at S1 g1
    have D1 : DpAll K (off [b, fo] H1) xs ds := (dp_same (fun x o h => by
      obtain ⟨m, h⟩ := off_get h
      have nb : x ≠ b := fun z => m (by rw [z]; simp)
      have nf : x ≠ fo := fun z => by rw [z, nfo] at h; cases h
      exact off_put (by simp [nb, nf]) (S1 _ _ h))).2 dx
    have B1 := hB.same S1
    refine ⟨_, rfl, (show 0 ≤ sizeLine from by decide), fun e2 n2 => ?_⟩
    have S2 : Same H1 (upd H1 e2 (.lst [])) := same_new n2
    have g2 : (upd H1 e2 (.lst [])) e2 = some (.lst []) := upd_same
    generalize upd H1 e2 (.lst []) = H2 at S2 g2
    have D2 : DpAll K (off [b, fo] H2) xs ds := (dp_same (off_same fun _ _ _ h => S2 _ _ h)).2 D1
    refine ⟨.list ds, .list [], .lst (SqL.of (S2 _ _ g1)) ((dp_same (off_to fun _ _ _ h => h)).2 D2), .lst (SqL.of g2) .nil, shaped_rows (fun d hd => by
      obtain ⟨i, hi⟩ := List.mem_iff_getElem?.mp hd
      exact ⟨i, rg.2 i d hi⟩), by decide, _, rfl, ?_⟩
    rw [eqv_nilD]
    have K2 : Kp b H H2 := fun x o _ h => S2 _ _ (S1 _ _ h)
    have B2 := B1.same S2
    cases hds : ds.isEmpty with
    | true =>
      refine iteT ⟨(show 1 ≤ sizeLine from by decide), fun e3 n3 => ?_⟩
      have h3 : H e3 = none := by
        cases e : H e3 with
        | none => rfl
        | some u => rw [S2 _ _ (S1 _ _ e)] at n3; cases n3
      exact q _ e3 [.non] [.none] (K2.trans (Kp.new n3)) ((B2.same (same_new n3)).up (by omega)) h3 upd_same (.cons .non .nil) (by decide) (fun e he => by rw [List.mem_singleton.mp he]; exact ⟨(fitq_none (n := 0)).up (by decide) (by decide), fun x hx => by cases hx⟩)
    | false =>
      have l0 : 0 < ds.length := by
        cases ds with
        | nil => cases hds
        | cons _ _ => simp
      refine iteF ?_
      have g12 := S2 _ _ g1
      refine ⟨_, rfl, _, rfl, fo, _, rfl, .inl (SqL.of g12), b, _, _, rfl, B2, by omega, by omega, (by have := rg.1; omega), fun at1 H3 a0 a1 k3 B3 => ?_⟩
      have gf3 := k3 _ _ nfb g12
      have D3 : DpAll K (off [b, fo] H3) xs ds := (dp_same (off_same fun x o m h => k3 x o (fun z => m (by rw [z]; simp)) h)).2 D2
      obtain ⟨j, hj⟩ := Int.eq_ofNat_of_zero_le a0
      subst hj
      have hjl : j < xs.length := by omega
      have hxj : xs[j]? = some xs[j] := List.getElem?_eq_getElem hjl
      obtain ⟨rd, hrd, drd⟩ := dqAll_get (dp_dq.2 D3) hxj
      have rgj := rg.2 j rd hrd
      obtain ⟨z, y, ns, hd, hy, nz, sz, l3, pn⟩ := rgj
      have hi2 : itemsD rd = [.str z, y] := by rcases hd with rfl | rfl <;> rfl
      have hl2 : isLT rd = true := by rcases hd with rfl | rfl <;> rfl
      obtain ⟨ra, rvs, era, sqr, dar⟩ := dq_seq drd hl2
      rw [hi2] at dar
      cases dar with
      | cons dz rr =>
        cases rr with
        | cons dy rr2 =>
          cases rr2
          cases dz
          rename_i vy
          have sqr3 : SqB (isTup rd) K H3 ra [.str z, vy] := SqB.same (off_to fun _ _ _ h => h) sqr
          refine ⟨_, rfl, _, rfl, fo, xs, (j : Nat), _, rfl, rfl, SqL.of gf3, atI_nat (j := j) (by rw [hxj, era]), ?_⟩
          refine ⟨isTup rd, ra, _, rfl, sqr3, rfl, _, _, rfl, _, _, rfl, rfl, ?_⟩
          have hy1 : isLT y = true := by rcases hy with rfl | rfl <;> rfl
          have hy2 : itemsD y = ns.map PyData.int := by rcases hy with rfl | rfl <;> rfl
          obtain ⟨ya, yvs, eya, sqy, day⟩ := dq_seq dy hy1
          subst eya
          rw [hy2] at day
          have ev : yvs = ns.map V.int := by
            have : ∀ {vs : List V} {ns : List Int} {H : Hp}, DqAll K H vs (ns.map PyData.int) → vs = ns.map V.int := by
              intro vs ns
              induction ns generalizing vs with
              | nil => intro H h; cases h; rfl
              | cons n ns ih =>
                intro H h
                cases h with
                | cons a t => cases a; rw [ih t]; rfl
            exact this day
          subst ev
          have sqy3 := SqB.same (off_to fun _ _ _ h => h) sqy (H' := H3)
          refine ⟨_, rfl, ya, _, rfl, sqB_len sqy3, fun mn nmn => ?_⟩
          have SG : Same H3 (upd H3 mn (.lst (ns.map V.int))) := same_new nmn
          have gm : (upd H3 mn (.lst (ns.map V.int))) mn = some (.lst (ns.map V.int)) := upd_same
          generalize upd H3 mn (.lst (ns.map V.int)) = G0 at SG gm
          have gf0 := SG _ _ gf3
          have BG := B3.same SG
          have nin : ∀ {Hx : Hp} {o : Addr}, Same G0 Hx → Hx o = none → o ∉ [b, fo] := fun {Hx o} S h => by
            have h1 : o ≠ b := (BG.same S).ne h
            have h2 : o ≠ fo := fun z => by rw [z, S _ _ gf0] at h; cases h
            simp [h1, h2]
          have pm : mn ∉ [b, fo] := by
            have h1 : mn ≠ b := B3.ne nmn
            have h2 : mn ≠ fo := fun z => by rw [z, gf3] at nmn; cases nmn
            simp [h1, h2]
          have di : ∀ Hx : Hp, DqAll K Hx (ns.map V.int) (ns.map PyData.int) := fun Hx => dp_dq.2 (dp_ints ns)
          have dm : ∀ {Hx : Hp}, Same G0 Hx → Dq K (off [b, fo] Hx) (.ref mn) (.list (ns.map PyData.int)) := fun S => .lst (SqL.of (off_put pm (S _ _ gm))) (di _)
          have V0 : Same G0 G0 := Same.refl _
          have zl : z.length ≤ sizeLine := Nat.le_trans sz.1 (by decide)
          have scz : Sm 11 ((Str.ofString "A" : Str) ++ cutS z (some 1) none) := (Sm.app (m := 1) ⟨by decide, by decide⟩ (sz.cut (some 1) none)).up (by decide)
          have cl : (Str.ofString "A" : Str).length + (cutS z (some 1) none).length ≤ sizeLine := Nat.le_trans (Nat.add_le_add (show (Str.ofString "A" : Str).length ≤ 1 by decide) (sz.cut (some 1) none).1) (by decide)
          obtain ⟨ms, hms, lms, pms⟩ : ∃ ms : List Int, cutV (ns.map V.int ++ [V.int 0, V.int 0, V.int 0, V.int 0]) none (some 4) = ms.map V.int ∧ ms.length ≤ 7 ∧ ∀ m ∈ ms, m ∈ ns ∨ m = 0 := by
            refine ⟨((ns ++ [0, 0, 0, 0]).drop (HT.sIx (ns.map V.int ++ [V.int 0, V.int 0, V.int 0, V.int 0] : List V).length 0 none)).take (HT.sIx (ns.map V.int ++ [V.int 0, V.int 0, V.int 0, V.int 0] : List V).length (ns.map V.int ++ [V.int 0, V.int 0, V.int 0, V.int 0] : List V).length (some 4) - HT.sIx (ns.map V.int ++ [V.int 0, V.int 0, V.int 0, V.int 0] : List V).length 0 none), ?_, ?_, ?_⟩
            · unfold cutV
              rw [List.map_take, List.map_drop, List.map_append]
              rfl
            · have h1 : ∀ (l : List Int) (i j : Nat), ((l.drop i).take j).length ≤ l.length := fun l i j => by rw [List.length_take, List.length_drop]; omega
              refine Nat.le_trans (h1 _ _ _) ?_
              rw [List.length_append]
              exact Nat.add_le_add l3 (Nat.le_refl 4)
            · intro m hm
              have := List.mem_of_mem_drop (List.mem_of_mem_take hm)
              rcases List.mem_append.mp this with h | h
              · exact .inl h
              · refine .inr ?_
                simp only [List.mem_cons, List.not_mem_nil, or_false, or_self] at h
                exact h
          have di2 : ∀ Hx : Hp, DqAll K Hx (ms.map V.int) (ms.map PyData.int) := fun Hx => dp_dq.2 (dp_ints ms)
          have fi : ∀ m ∈ ns, m.natAbs < 10 ^ 40 := fun m hm => by
            have := pn m hm
            exact Nat.lt_of_lt_of_le (show m.natAbs < 12 by have := rg.1; omega) (by decide)
          have fm : FitQ 4 500 (.list (ns.map PyData.int)) ∧ SmD (.list (ns.map PyData.int)) := ⟨fq_list (by rw [List.length_map]; omega) (fq_ints fi), smd_no rfl⟩
          have fc : ∀ {e : PyData}, FitQ 3 50 e → FitQ 4 500 (.list (ns.map PyData.int ++ [e])) ∧ SmD (.list (ns.map PyData.int ++ [e])) := fun {e} he => ⟨fq_list (by rw [List.length_append, List.length_map]; show ns.length + 1 ≤ 8; omega) (fun x hx => by
            rcases List.mem_append.mp hx with h | h
            · exact fq_ints fi x h
            · rw [List.mem_singleton.mp h]; exact he), smd_no rfl⟩
          have fz := fs sz (by decide)
          have okr_F0 : OkR (.tuple [.str z, .list (ns.map PyData.int ++ [.int (j : Nat)])]) := okr_tup (by simp) (two fz (fc (fitq_int (by
            have h12 := rg.1
            exact Nat.lt_of_lt_of_le (show ((j : Int)).natAbs < 13 by omega) (by decide)))))
          have okr_F1 : OkR (.tuple [.str z, .list (ns.map PyData.int ++ [.int (0 - 1)])]) := okr_tup (by simp) (two fz (fc (fitq_int (by decide))))
          have okr_F2 : OkR (.tuple [.str z, .list (ns.map PyData.int ++ [.bool true])]) := okr_tup (by simp) (two fz (fc ((fitq_bool true).up (Nat.le_refl _) (by decide))))
          have okr_F3 : OkR (.tuple [.str z, .list (ns.map PyData.int ++ [.str "0"])]) := okr_tup (by simp) (two fz (fc ((fitq_str (m := 1) ⟨by decide, by decide⟩).up (Nat.le_refl _) (by decide))))
          have okr_F4 : OkR (.tuple [.str z]) := okr_tup (by simp) (fun x hx => by rw [List.mem_singleton.mp hx]; exact fz)
          have okr_F5 : OkR .none := ⟨(fitq_none (n := 0)).up (by decide) (by decide), fun x hx => by cases hx⟩
          have okr_F6 : OkR (.tuple [.str z, .list (ns.map PyData.int), .list (ns.map PyData.int)]) := okr_tup (by simp) (fun x hx => by
            simp only [List.mem_cons, List.not_mem_nil, or_false] at hx
            rcases hx with rfl | rfl | rfl
            · exact fz
            · exact fm
            · exact fm)
          have okr_F7 : OkR (.tuple [.str ((Str.ofString "A" : Str) ++ cutS z (some 1) none), .list (ns.map PyData.int)]) := okr_tup (by simp) (two (fs scz (by decide)) fm)
          have okr_F8 : OkR (.tuple [.str "", .list (ns.map PyData.int)]) := okr_tup (by simp) (two (fs (m := 1) ⟨by decide, by decide⟩ (by decide)) fm)
          have okr_F9 : OkR (.tuple [.str "1a", .list (ns.map PyData.int)]) := okr_tup (by simp) (two (fs (m := 2) ⟨by decide, by decide⟩ (by decide)) fm)
          have okr_F10 : OkR (.tuple [.str z, .int 0]) := okr_tup (by simp) (two fz ⟨(fitq_int (n := 0) (by decide)).up (by decide) (by decide), smd_no rfl⟩)
          have okr_F11 : OkR (.tuple [.str z, .str "0"]) := okr_tup (by simp) (two fz (fs (m := 1) ⟨by decide, by decide⟩ (by decide)))
          have okr_F12 : OkR (.tuple [.str z, .dict [(.int 0, .int 0)]]) := okr_tup (by simp) (two fz ⟨⟨by decide +kernel, by decide +kernel, by decide +kernel⟩, smd_no rfl⟩)
          have okr_F13 : OkR (.tuple [.str z, .list (ms.map PyData.int)]) := okr_tup (by simp) (two fz ⟨fq_list (by rw [List.length_map]; omega) (fq_ints fun m hm => (pms m hm).elim (fi m) (fun e => by rw [e]; decide)), smd_no rfl⟩)
          have okr_F14 : OkR (.tuple [.str "abcdefghi", .list (ns.map PyData.int)]) := okr_tup (by simp) (two (fs (m := 9) ⟨by decide, by decide⟩ (by decide)) fm)
          have okr_F15 : OkR (.str z) := ⟨fz.1.up (by decide) (by decide), fun x hx => by cases hx⟩
          have okr_F16 : OkR (.list []) := okr_lst (by simp) (fun x hx => by cases hx)
          have okr_F17 : OkR (.tuple [.none, .list (ns.map PyData.int)]) := okr_tup (by simp) (two ⟨(fitq_none (n := 0)).up (by decide) (by decide), smd_no rfl⟩ fm)
          refine ⟨_, rfl, _, rfl, _, rfl, (show 1 ≤ sizeLine from by decide), fun o1 n1 => ?_⟩
          have T1 : Same G0 (upd G0 o1 (.lst [.int (j : Nat)])) := same_new n1
          have g1 : (upd G0 o1 (.lst [.int (j : Nat)])) o1 = some (.lst [.int (j : Nat)]) := upd_same
          have p1 : o1 ∉ [b, fo] := nin V0 n1
          generalize upd G0 o1 (.lst [.int (j : Nat)]) = G1 at T1 g1 ⊢
          have V1 : Same G0 G1 := V0.trans T1
          refine ⟨mn, o1, _, _, rfl, rfl, (V1 _ _ gm), g1, (by rw [List.length_map]; exact Nat.le_trans (Nat.add_le_add l3 (Nat.le_refl 1)) (by decide)), fun o2 n2 => ?_⟩
          have T2 : Same G1 (upd G1 o2 (.lst (ns.map V.int ++ [.int (j : Nat)]))) := same_new n2
          have g2 : (upd G1 o2 (.lst (ns.map V.int ++ [.int (j : Nat)]))) o2 = some (.lst (ns.map V.int ++ [.int (j : Nat)])) := upd_same
          have p2 : o2 ∉ [b, fo] := nin V1 n2
          generalize upd G1 o2 (.lst (ns.map V.int ++ [.int (j : Nat)])) = G2 at T2 g2 ⊢
          have V2 : Same G0 G2 := V1.trans T2
          refine ⟨(show 2 ≤ sizeLine from by decide), fun o3 n3 => ?_⟩
          have T3 : Same G2 (upd G2 o3 (.tup [.str z, .ref o2])) := same_new n3
          have g3 : (upd G2 o3 (.tup [.str z, .ref o2])) o3 = some (.tup [.str z, .ref o2]) := upd_same
          have p3 : o3 ∉ [b, fo] := nin V2 n3
          generalize upd G2 o3 (.tup [.str z, .ref o2]) = G3 at T3 g3 ⊢
          have V3 : Same G0 G3 := V2.trans T3
          have F0 : Dq K (off [b, fo] G3) (.ref o3) (.tuple [.str z, .list (ns.map PyData.int ++ [.int (j : Nat)])]) := .tup (SqT.of (off_put p3 g3)) (.cons (.str z) (.cons (.lst (SqL.of (off_put p2 (T3 _ _ g2))) (dqAll_app (di _) (.cons (.int _) .nil))) .nil))
          refine ⟨_, rfl, _, rfl, _, _, rfl, rfl, (show 1 ≤ sizeLine from by decide), fun o4 n4 => ?_⟩
          have T4 : Same G3 (upd G3 o4 (.lst [.int (0 - 1)])) := same_new n4
          have g4 : (upd G3 o4 (.lst [.int (0 - 1)])) o4 = some (.lst [.int (0 - 1)]) := upd_same
          have p4 : o4 ∉ [b, fo] := nin V3 n4
          generalize upd G3 o4 (.lst [.int (0 - 1)]) = G4 at T4 g4 ⊢
          have V4 : Same G0 G4 := V3.trans T4
          refine ⟨mn, o4, _, _, rfl, rfl, (V4 _ _ gm), g4, (by rw [List.length_map]; exact Nat.le_trans (Nat.add_le_add_right l3 _) (by decide)), fun o5 n5 => ?_⟩
          have T5 : Same G4 (upd G4 o5 (.lst (ns.map V.int ++ [.int (0 - 1)]))) := same_new n5
          have g5 : (upd G4 o5 (.lst (ns.map V.int ++ [.int (0 - 1)]))) o5 = some (.lst (ns.map V.int ++ [.int (0 - 1)])) := upd_same
          have p5 : o5 ∉ [b, fo] := nin V4 n5
          generalize upd G4 o5 (.lst (ns.map V.int ++ [.int (0 - 1)])) = G5 at T5 g5 ⊢
          have V5 : Same G0 G5 := V4.trans T5
          refine ⟨(show 2 ≤ sizeLine from by decide), fun o6 n6 => ?_⟩
          have T6 : Same G5 (upd G5 o6 (.tup [.str z, .ref o5])) := same_new n6
          have g6 : (upd G5 o6 (.tup [.str z, .ref o5])) o6 = some (.tup [.str z, .ref o5]) := upd_same
          have p6 : o6 ∉ [b, fo] := nin V5 n6
          generalize upd G5 o6 (.tup [.str z, .ref o5]) = G6 at T6 g6 ⊢
          have V6 : Same G0 G6 := V5.trans T6
          have F1 : Dq K (off [b, fo] G6) (.ref o6) (.tuple [.str z, .list (ns.map PyData.int ++ [.int (0 - 1)])]) := .tup (SqT.of (off_put p6 g6)) (.cons (.str z) (.cons (.lst (SqL.of (off_put p5 (T6 _ _ g5))) (dqAll_app (di _) (.cons (.int _) .nil))) .nil))
          refine ⟨_, rfl, _, rfl, (show 1 ≤ sizeLine from by decide), fun o7 n7 => ?_⟩
          have T7 : Same G6 (upd G6 o7 (.lst [.bl true])) := same_new n7
          have g7 : (upd G6 o7 (.lst [.bl true])) o7 = some (.lst [.bl true]) := upd_same
          have p7 : o7 ∉ [b, fo] := nin V6 n7
          generalize upd G6 o7 (.lst [.bl true]) = G7 at T7 g7 ⊢
          have V7 : Same G0 G7 := V6.trans T7
          refine ⟨mn, o7, _, _, rfl, rfl, (V7 _ _ gm), g7, (by rw [List.length_map]; exact Nat.le_trans (Nat.add_le_add_right l3 _) (by decide)), fun o8 n8 => ?_⟩
          have T8 : Same G7 (upd G7 o8 (.lst (ns.map V.int ++ [.bl true]))) := same_new n8
          have g8 : (upd G7 o8 (.lst (ns.map V.int ++ [.bl true]))) o8 = some (.lst (ns.map V.int ++ [.bl true])) := upd_same
          have p8 : o8 ∉ [b, fo] := nin V7 n8
          generalize upd G7 o8 (.lst (ns.map V.int ++ [.bl true])) = G8 at T8 g8 ⊢
          have V8 : Same G0 G8 := V7.trans T8
          refine ⟨(show 2 ≤ sizeLine from by decide), fun o9 n9 => ?_⟩
          have T9 : Same G8 (upd G8 o9 (.tup [.str z, .ref o8])) := same_new n9
          have g9 : (upd G8 o9 (.tup [.str z, .ref o8])) o9 = some (.tup [.str z, .ref o8]) := upd_same
          have p9 : o9 ∉ [b, fo] := nin V8 n9
          generalize upd G8 o9 (.tup [.str z, .ref o8]) = G9 at T9 g9 ⊢
          have V9 : Same G0 G9 := V8.trans T9
          have F2 : Dq K (off [b, fo] G9) (.ref o9) (.tuple [.str z, .list (ns.map PyData.int ++ [.bool true])]) := .tup (SqT.of (off_put p9 g9)) (.cons (.str z) (.cons (.lst (SqL.of (off_put p8 (T9 _ _ g8))) (dqAll_app (di _) (.cons (.bl _) .nil))) .nil))
          refine ⟨_, rfl, _, rfl, (show 1 ≤ sizeLine from by decide), fun o10 n10 => ?_⟩
          have T10 : Same G9 (upd G9 o10 (.lst [.str "0"])) := same_new n10
          have g10 : (upd G9 o10 (.lst [.str "0"])) o10 = some (.lst [.str "0"]) := upd_same
          have p10 : o10 ∉ [b, fo] := nin V9 n10
          generalize upd G9 o10 (.lst [.str "0"]) = G10 at T10 g10 ⊢
          have V10 : Same G0 G10 := V9.trans T10
          refine ⟨mn, o10, _, _, rfl, rfl, (V10 _ _ gm), g10, (by rw [List.length_map]; exact Nat.le_trans (Nat.add_le_add_right l3 _) (by decide)), fun o11 n11 => ?_⟩
          have T11 : Same G10 (upd G10 o11 (.lst (ns.map V.int ++ [.str "0"]))) := same_new n11
          have g11 : (upd G10 o11 (.lst (ns.map V.int ++ [.str "0"]))) o11 = some (.lst (ns.map V.int ++ [.str "0"])) := upd_same
          have p11 : o11 ∉ [b, fo] := nin V10 n11
          generalize upd G10 o11 (.lst (ns.map V.int ++ [.str "0"])) = G11 at T11 g11 ⊢
          have V11 : Same G0 G11 := V10.trans T11
          refine ⟨(show 2 ≤ sizeLine from by decide), fun o12 n12 => ?_⟩
          have T12 : Same G11 (upd G11 o12 (.tup [.str z, .ref o11])) := same_new n12
          have g12 : (upd G11 o12 (.tup [.str z, .ref o11])) o12 = some (.tup [.str z, .ref o11]) := upd_same
          have p12 : o12 ∉ [b, fo] := nin V11 n12
          generalize upd G11 o12 (.tup [.str z, .ref o11]) = G12 at T12 g12 ⊢
          have V12 : Same G0 G12 := V11.trans T12
          have F3 : Dq K (off [b, fo] G12) (.ref o12) (.tuple [.str z, .list (ns.map PyData.int ++ [.str "0"])]) := .tup (SqT.of (off_put p12 g12)) (.cons (.str z) (.cons (.lst (SqL.of (off_put p11 (T12 _ _ g11))) (dqAll_app (di _) (.cons (.str _) .nil))) .nil))
          refine ⟨_, rfl, (show 1 ≤ sizeLine from by decide), fun o13 n13 => ?_⟩
          have T13 : Same G12 (upd G12 o13 (.tup [.str z])) := same_new n13
          have g13 : (upd G12 o13 (.tup [.str z])) o13 = some (.tup [.str z]) := upd_same
          have p13 : o13 ∉ [b, fo] := nin V12 n13
          generalize upd G12 o13 (.tup [.str z]) = G13 at T13 g13 ⊢
          have V13 : Same G0 G13 := V12.trans T13
          have F4 : Dq K (off [b, fo] G13) (.ref o13) (.tuple [.str z]) := .tup (SqT.of (off_put p13 g13)) (.cons (.str z) .nil)
          have F5 : Dq K (off [b, fo] G13) (.non) (.none) := .non
          refine ⟨(show 6 ≤ sizeLine from by decide), fun o14 n14 => ?_⟩
          have T14 : Same G13 (upd G13 o14 (.lst [.ref o3, .ref o6, .ref o9, .ref o12, .ref o13, .non])) := same_new n14
          have g14 : (upd G13 o14 (.lst [.ref o3, .ref o6, .ref o9, .ref o12, .ref o13, .non])) o14 = some (.lst [.ref o3, .ref o6, .ref o9, .ref o12, .ref o13, .non]) := upd_same
          have p14 : o14 ∉ [b, fo] := nin V13 n14
          generalize upd G13 o14 (.lst [.ref o3, .ref o6, .ref o9, .ref o12, .ref o13, .non]) = G14 at T14 g14 ⊢
          have V14 : Same G0 G14 := V13.trans T14
          refine ⟨_, rfl, _, rfl, _, rfl, _, rfl, (show 3 ≤ sizeLine from by decide), fun o15 n15 => ?_⟩
          have T15 : Same G14 (upd G14 o15 (.tup [.str z, .ref mn, .ref mn])) := same_new n15
          have g15 : (upd G14 o15 (.tup [.str z, .ref mn, .ref mn])) o15 = some (.tup [.str z, .ref mn, .ref mn]) := upd_same
          have p15 : o15 ∉ [b, fo] := nin V14 n15
          generalize upd G14 o15 (.tup [.str z, .ref mn, .ref mn]) = G15 at T15 g15 ⊢
          have V15 : Same G0 G15 := V14.trans T15
          have F6 : Dq K (off [b, fo] G15) (.ref o15) (.tuple [.str z, .list (ns.map PyData.int), .list (ns.map PyData.int)]) := .tup (SqT.of (off_put p15 g15)) (.cons (.str z) (.cons (dm V15) (.cons (dm V15) .nil)))
          refine ⟨_, rfl, _, rfl, z, rfl, zl, _, _, rfl, rfl, cl, _, rfl, (show 2 ≤ sizeLine from by decide), fun o16 n16 => ?_⟩
          have T16 : Same G15 (upd G15 o16 (.tup [.str ((Str.ofString "A" : Str) ++ cutS z (some 1) none), .ref mn])) := same_new n16
          have g16 : (upd G15 o16 (.tup [.str ((Str.ofString "A" : Str) ++ cutS z (some 1) none), .ref mn])) o16 = some (.tup [.str ((Str.ofString "A" : Str) ++ cutS z (some 1) none), .ref mn]) := upd_same
          have p16 : o16 ∉ [b, fo] := nin V15 n16
          generalize upd G15 o16 (.tup [.str ((Str.ofString "A" : Str) ++ cutS z (some 1) none), .ref mn]) = G16 at T16 g16 ⊢
          have V16 : Same G0 G16 := V15.trans T16
          have F7 : Dq K (off [b, fo] G16) (.ref o16) (.tuple [.str ((Str.ofString "A" : Str) ++ cutS z (some 1) none), .list (ns.map PyData.int)]) := .tup (SqT.of (off_put p16 g16)) (.cons (.str ((Str.ofString "A" : Str) ++ cutS z (some 1) none)) (.cons (dm V16) .nil))
          refine ⟨_, rfl, (show 2 ≤ sizeLine from by decide), fun o17 n17 => ?_⟩
          have T17 : Same G16 (upd G16 o17 (.tup [.str "", .ref mn])) := same_new n17
          have g17 : (upd G16 o17 (.tup [.str "", .ref mn])) o17 = some (.tup [.str "", .ref mn]) := upd_same
          have p17 : o17 ∉ [b, fo] := nin V16 n17
          generalize upd G16 o17 (.tup [.str "", .ref mn]) = G17 at T17 g17 ⊢
          have V17 : Same G0 G17 := V16.trans T17
          have F8 : Dq K (off [b, fo] G17) (.ref o17) (.tuple [.str "", .list (ns.map PyData.int)]) := .tup (SqT.of (off_put p17 g17)) (.cons (.str _) (.cons (dm V17) .nil))
          refine ⟨_, rfl, (show 2 ≤ sizeLine from by decide), fun o18 n18 => ?_⟩
          have T18 : Same G17 (upd G17 o18 (.tup [.str "1a", .ref mn])) := same_new n18
          have g18 : (upd G17 o18 (.tup [.str "1a", .ref mn])) o18 = some (.tup [.str "1a", .ref mn]) := upd_same
          have p18 : o18 ∉ [b, fo] := nin V17 n18
          generalize upd G17 o18 (.tup [.str "1a", .ref mn]) = G18 at T18 g18 ⊢
          have V18 : Same G0 G18 := V17.trans T18
          have F9 : Dq K (off [b, fo] G18) (.ref o18) (.tuple [.str "1a", .list (ns.map PyData.int)]) := .tup (SqT.of (off_put p18 g18)) (.cons (.str _) (.cons (dm V18) .nil))
          refine ⟨_, rfl, (show 2 ≤ sizeLine from by decide), fun o19 n19 => ?_⟩
          have T19 : Same G18 (upd G18 o19 (.tup [.str z, .int 0])) := same_new n19
          have g19 : (upd G18 o19 (.tup [.str z, .int 0])) o19 = some (.tup [.str z, .int 0]) := upd_same
          have p19 : o19 ∉ [b, fo] := nin V18 n19
          generalize upd G18 o19 (.tup [.str z, .int 0]) = G19 at T19 g19 ⊢
          have V19 : Same G0 G19 := V18.trans T19
          have F10 : Dq K (off [b, fo] G19) (.ref o19) (.tuple [.str z, .int 0]) := .tup (SqT.of (off_put p19 g19)) (.cons (.str z) (.cons (.int _) .nil))
          refine ⟨_, rfl, (show 2 ≤ sizeLine from by decide), fun o20 n20 => ?_⟩
          have T20 : Same G19 (upd G19 o20 (.tup [.str z, .str "0"])) := same_new n20
          have g20 : (upd G19 o20 (.tup [.str z, .str "0"])) o20 = some (.tup [.str z, .str "0"]) := upd_same
          have p20 : o20 ∉ [b, fo] := nin V19 n20
          generalize upd G19 o20 (.tup [.str z, .str "0"]) = G20 at T20 g20 ⊢
          have V20 : Same G0 G20 := V19.trans T20
          have F11 : Dq K (off [b, fo] G20) (.ref o20) (.tuple [.str z, .str "0"]) := .tup (SqT.of (off_put p20 g20)) (.cons (.str z) (.cons (.str _) .nil))
          refine ⟨(show 6 ≤ sizeLine from by decide), fun o21 n21 => ?_⟩
          have T21 : Same G20 (upd G20 o21 (.lst [.ref o15, .ref o16, .ref o17, .ref o18, .ref o19, .ref o20])) := same_new n21
          have g21 : (upd G20 o21 (.lst [.ref o15, .ref o16, .ref o17, .ref o18, .ref o19, .ref o20])) o21 = some (.lst [.ref o15, .ref o16, .ref o17, .ref o18, .ref o19, .ref o20]) := upd_same
          have p21 : o21 ∉ [b, fo] := nin V20 n21
          generalize upd G20 o21 (.lst [.ref o15, .ref o16, .ref o17, .ref o18, .ref o19, .ref o20]) = G21 at T21 g21 ⊢
          have V21 : Same G0 G21 := V20.trans T21
          refine ⟨o14, o21, _, _, rfl, rfl, ((T15.trans (T16.trans (T17.trans (T18.trans (T19.trans (T20.trans (T21))))))) _ _ g14), g21, (show 12 ≤ sizeLine from by decide), fun o22 n22 => ?_⟩
          have T22 : Same G21 (upd G21 o22 (.lst ([.ref o3, .ref o6, .ref o9, .ref o12, .ref o13, .non] ++ [.ref o15, .ref o16, .ref o17, .ref o18, .ref o19, .ref o20]))) := same_new n22
          have g22 : (upd G21 o22 (.lst ([.ref o3, .ref o6, .ref o9, .ref o12, .ref o13, .non] ++ [.ref o15, .ref o16, .ref o17, .ref o18, .ref o19, .ref o20]))) o22 = some (.lst ([.ref o3, .ref o6, .ref o9, .ref o12, .ref o13, .non] ++ [.ref o15, .ref o16, .ref o17, .ref o18, .ref o19, .ref o20])) := upd_same
          have p22 : o22 ∉ [b, fo] := nin V21 n22
          generalize upd G21 o22 (.lst ([.ref o3, .ref o6, .ref o9, .ref o12, .ref o13, .non] ++ [.ref o15, .ref o16, .ref o17, .ref o18, .ref o19, .ref o20])) = G22 at T22 g22 ⊢
          have V22 : Same G0 G22 := V21.trans T22
          refine ⟨_, rfl, _, rfl, fun o23 n23 => ⟨upd_same, [(Sum.inl 0, .int 0)], rfl, (by decide), ?_⟩⟩
          have T23 : Same G22 (upd (upd G22 o23 (.dK [])) o23 (.dK (mergeK [] [(Sum.inl 0, .int 0)]))) := by rw [upd_upd]; exact same_new n23
          have g23 : (upd (upd G22 o23 (.dK [])) o23 (.dK (mergeK [] [(Sum.inl 0, .int 0)]))) o23 = some (.dK [(Sum.inl 0, .int 0)]) := upd_same
          have p23 : o23 ∉ [b, fo] := nin V22 n23
          generalize upd (upd G22 o23 (.dK [])) o23 (.dK (mergeK [] [(Sum.inl 0, .int 0)])) = G23 at T23 g23 ⊢
          have V23 : Same G0 G23 := V22.trans T23
          refine ⟨(show 2 ≤ sizeLine from by decide), fun o24 n24 => ?_⟩
          have T24 : Same G23 (upd G23 o24 (.tup [.str z, .ref o23])) := same_new n24
          have g24 : (upd G23 o24 (.tup [.str z, .ref o23])) o24 = some (.tup [.str z, .ref o23]) := upd_same
          have p24 : o24 ∉ [b, fo] := nin V23 n24
          generalize upd G23 o24 (.tup [.str z, .ref o23]) = G24 at T24 g24 ⊢
          have V24 : Same G0 G24 := V23.trans T24
          have F12 : Dq K (off [b, fo] G24) (.ref o24) (.tuple [.str z, .dict [(.int 0, .int 0)]]) := .tup (SqT.of (off_put p24 g24)) (.cons (.str z) (.cons (.dic (kvs := [(Sum.inl 0, .int 0)]) (.inl (off_put p23 (T24 _ _ g23))) (.cons (.int 0) .nil) (.cons (.int 0) .nil)) .nil))
          refine ⟨_, rfl, _, rfl, (show 4 ≤ sizeLine from by decide), fun o25 n25 => ?_⟩
          have T25 : Same G24 (upd G24 o25 (.lst [.int 0, .int 0, .int 0, .int 0])) := same_new n25
          have g25 : (upd G24 o25 (.lst [.int 0, .int 0, .int 0, .int 0])) o25 = some (.lst [.int 0, .int 0, .int 0, .int 0]) := upd_same
          have p25 : o25 ∉ [b, fo] := nin V24 n25
          generalize upd G24 o25 (.lst [.int 0, .int 0, .int 0, .int 0]) = G25 at T25 g25 ⊢
          have V25 : Same G0 G25 := V24.trans T25
          refine ⟨mn, o25, _, _, rfl, rfl, (V25 _ _ gm), g25, (by rw [List.length_map]; exact Nat.le_trans (Nat.add_le_add_right l3 _) (by decide)), fun o26 n26 => ?_⟩
          have T26 : Same G25 (upd G25 o26 (.lst (ns.map V.int ++ [V.int 0, V.int 0, V.int 0, V.int 0]))) := same_new n26
          have g26 : (upd G25 o26 (.lst (ns.map V.int ++ [V.int 0, V.int 0, V.int 0, V.int 0]))) o26 = some (.lst (ns.map V.int ++ [V.int 0, V.int 0, V.int 0, V.int 0])) := upd_same
          have p26 : o26 ∉ [b, fo] := nin V25 n26
          generalize upd G25 o26 (.lst (ns.map V.int ++ [V.int 0, V.int 0, V.int 0, V.int 0])) = G26 at T26 g26 ⊢
          have V26 : Same G0 G26 := V25.trans T26
          refine ⟨_, rfl, o26, _, rfl, SqL.of g26, fun o27 n27 => ?_⟩
          have T27 : Same G26 (upd G26 o27 (.lst (cutV (ns.map V.int ++ [V.int 0, V.int 0, V.int 0, V.int 0]) none (some 4)))) := same_new n27
          have g27 : (upd G26 o27 (.lst (cutV (ns.map V.int ++ [V.int 0, V.int 0, V.int 0, V.int 0]) none (some 4)))) o27 = some (.lst (cutV (ns.map V.int ++ [V.int 0, V.int 0, V.int 0, V.int 0]) none (some 4))) := upd_same
          have p27 : o27 ∉ [b, fo] := nin V26 n27
          generalize upd G26 o27 (.lst (cutV (ns.map V.int ++ [V.int 0, V.int 0, V.int 0, V.int 0]) none (some 4))) = G27 at T27 g27 ⊢
          have V27 : Same G0 G27 := V26.trans T27
          refine ⟨(show 2 ≤ sizeLine from by decide), fun o28 n28 => ?_⟩
          have T28 : Same G27 (upd G27 o28 (.tup [.str z, .ref o27])) := same_new n28
          have g28 : (upd G27 o28 (.tup [.str z, .ref o27])) o28 = some (.tup [.str z, .ref o27]) := upd_same
          have p28 : o28 ∉ [b, fo] := nin V27 n28
          generalize upd G27 o28 (.tup [.str z, .ref o27]) = G28 at T28 g28 ⊢
          have V28 : Same G0 G28 := V27.trans T28
          have F13 : Dq K (off [b, fo] G28) (.ref o28) (.tuple [.str z, .list (ms.map PyData.int)]) := .tup (SqT.of (off_put p28 g28)) (.cons (.str z) (.cons (.lst (SqL.of (off_put p27 (T28 _ _ g27))) (by rw [hms]; exact di2 _)) .nil))
          refine ⟨_, rfl, (show 2 ≤ sizeLine from by decide), fun o29 n29 => ?_⟩
          have T29 : Same G28 (upd G28 o29 (.tup [.str "abcdefghi", .ref mn])) := same_new n29
          have g29 : (upd G28 o29 (.tup [.str "abcdefghi", .ref mn])) o29 = some (.tup [.str "abcdefghi", .ref mn]) := upd_same
          have p29 : o29 ∉ [b, fo] := nin V28 n29
          generalize upd G28 o29 (.tup [.str "abcdefghi", .ref mn]) = G29 at T29 g29 ⊢
          have V29 : Same G0 G29 := V28.trans T29
          have F14 : Dq K (off [b, fo] G29) (.ref o29) (.tuple [.str "abcdefghi", .list (ns.map PyData.int)]) := .tup (SqT.of (off_put p29 g29)) (.cons (.str _) (.cons (dm V29) .nil))
          have F15 : Dq K (off [b, fo] G29) (.str z) (.str z) := .str z
          refine ⟨_, rfl, (show 0 ≤ sizeLine from by decide), fun o30 n30 => ?_⟩
          have T30 : Same G29 (upd G29 o30 (.lst [])) := same_new n30
          have g30 : (upd G29 o30 (.lst [])) o30 = some (.lst []) := upd_same
          have p30 : o30 ∉ [b, fo] := nin V29 n30
          generalize upd G29 o30 (.lst []) = G30 at T30 g30 ⊢
          have V30 : Same G0 G30 := V29.trans T30
          have F16 : Dq K (off [b, fo] G30) (.ref o30) (.list []) := .lst (SqL.of (off_put p30 g30)) .nil
          refine ⟨_, rfl, (show 2 ≤ sizeLine from by decide), fun o31 n31 => ?_⟩
          have T31 : Same G30 (upd G30 o31 (.tup [.non, .ref mn])) := same_new n31
          have g31 : (upd G30 o31 (.tup [.non, .ref mn])) o31 = some (.tup [.non, .ref mn]) := upd_same
          have p31 : o31 ∉ [b, fo] := nin V30 n31
          generalize upd G30 o31 (.tup [.non, .ref mn]) = G31 at T31 g31 ⊢
          have V31 : Same G0 G31 := V30.trans T31
          have F17 : Dq K (off [b, fo] G31) (.ref o31) (.tuple [.none, .list (ns.map PyData.int)]) := .tup (SqT.of (off_put p31 g31)) (.cons .non (.cons (dm V31) .nil))
          refine ⟨(show 6 ≤ sizeLine from by decide), fun o32 n32 => ?_⟩
          have T32 : Same G31 (upd G31 o32 (.lst [.ref o24, .ref o28, .ref o29, .str z, .ref o30, .ref o31])) := same_new n32
          have g32 : (upd G31 o32 (.lst [.ref o24, .ref o28, .ref o29, .str z, .ref o30, .ref o31])) o32 = some (.lst [.ref o24, .ref o28, .ref o29, .str z, .ref o30, .ref o31]) := upd_same
          have p32 : o32 ∉ [b, fo] := nin V31 n32
          generalize upd G31 o32 (.lst [.ref o24, .ref o28, .ref o29, .str z, .ref o30, .ref o31]) = G32 at T32 g32 ⊢
          have V32 : Same G0 G32 := V31.trans T32
          refine ⟨o22, o32, _, _, rfl, rfl, ((T23.trans (T24.trans (T25.trans (T26.trans (T27.trans (T28.trans (T29.trans (T30.trans (T31.trans (T32)))))))))) _ _ g22), g32, (show 18 ≤ sizeLine from by decide), fun o33 n33 => ?_⟩
          have T33 : Same G32 (upd G32 o33 (.lst (([.ref o3, .ref o6, .ref o9, .ref o12, .ref o13, .non] ++ [.ref o15, .ref o16, .ref o17, .ref o18, .ref o19, .ref o20]) ++ [.ref o24, .ref o28, .ref o29, .str z, .ref o30, .ref o31]))) := same_new n33
          have g33 : (upd G32 o33 (.lst (([.ref o3, .ref o6, .ref o9, .ref o12, .ref o13, .non] ++ [.ref o15, .ref o16, .ref o17, .ref o18, .ref o19, .ref o20]) ++ [.ref o24, .ref o28, .ref o29, .str z, .ref o30, .ref o31]))) o33 = some (.lst (([.ref o3, .ref o6, .ref o9, .ref o12, .ref o13, .non] ++ [.ref o15, .ref o16, .ref o17, .ref o18, .ref o19, .ref o20]) ++ [.ref o24, .ref o28, .ref o29, .str z, .ref o30, .ref o31])) := upd_same
          have p33 : o33 ∉ [b, fo] := nin V32 n33
          generalize upd G32 o33 (.lst (([.ref o3, .ref o6, .ref o9, .ref o12, .ref o13, .non] ++ [.ref o15, .ref o16, .ref o17, .ref o18, .ref o19, .ref o20]) ++ [.ref o24, .ref o28, .ref o29, .str z, .ref o30, .ref o31])) = G33 at T33 g33 ⊢
          have V33 : Same G0 G33 := V32.trans T33
          have U33 : Same G33 G33 := Same.refl _
          have U32 : Same G32 G33 := T33.trans U33
          have U31 : Same G31 G33 := T32.trans U32
          have U30 : Same G30 G33 := T31.trans U31
          have U29 : Same G29 G33 := T30.trans U30
          have U28 : Same G28 G33 := T29.trans U29
          have U27 : Same G27 G33 := T28.trans U28
          have U26 : Same G26 G33 := T27.trans U27
          have U25 : Same G25 G33 := T26.trans U26
          have U24 : Same G24 G33 := T25.trans U25
          have U23 : Same G23 G33 := T24.trans U24
          have U22 : Same G22 G33 := T23.trans U23
          have U21 : Same G21 G33 := T22.trans U22
          have U20 : Same G20 G33 := T21.trans U21
          have U19 : Same G19 G33 := T20.trans U20
          have U18 : Same G18 G33 := T19.trans U19
          have U17 : Same G17 G33 := T18.trans U18
          have U16 : Same G16 G33 := T17.trans U17
          have U15 : Same G15 G33 := T16.trans U16
          have U14 : Same G14 G33 := T15.trans U15
          have U13 : Same G13 G33 := T14.trans U14
          have U12 : Same G12 G33 := T13.trans U13
          have U11 : Same G11 G33 := T12.trans U12
          have U10 : Same G10 G33 := T11.trans U11
          have U9 : Same G9 G33 := T10.trans U10
          have U8 : Same G8 G33 := T9.trans U9
          have U7 : Same G7 G33 := T8.trans U8
          have U6 : Same G6 G33 := T7.trans U7
          have U5 : Same G5 G33 := T6.trans U6
          have U4 : Same G4 G33 := T5.trans U5
          have U3 : Same G3 G33 := T4.trans U4
          have U2 : Same G2 G33 := T3.trans U3
          have U1 : Same G1 G33 := T2.trans U2
          have U0 : Same G0 G33 := T1.trans U1
          have all18 : ∀ v ∈ (([.ref o3, .ref o6, .ref o9, .ref o12, .ref o13, .non] ++ [.ref o15, .ref o16, .ref o17, .ref o18, .ref o19, .ref o20]) ++ [.ref o24, .ref o28, .ref o29, .str z, .ref o30, .ref o31] : List V), ∃ e, Dq K (off [b, fo] G33) v e ∧ OkR e := by
            intro v hv
            simp only [List.cons_append, List.nil_append, List.mem_cons, List.not_mem_nil, or_false] at hv
            rcases hv with rfl | rfl | rfl | rfl | rfl | rfl | rfl | rfl | rfl | rfl | rfl | rfl | rfl | rfl | rfl | rfl | rfl | rfl
            · exact ⟨_, (dq_same (off_same fun _ _ _ h => U3 _ _ h)).1 F0, okr_F0⟩
            · exact ⟨_, (dq_same (off_same fun _ _ _ h => U6 _ _ h)).1 F1, okr_F1⟩
            · exact ⟨_, (dq_same (off_same fun _ _ _ h => U9 _ _ h)).1 F2, okr_F2⟩
            · exact ⟨_, (dq_same (off_same fun _ _ _ h => U12 _ _ h)).1 F3, okr_F3⟩
            · exact ⟨_, (dq_same (off_same fun _ _ _ h => U13 _ _ h)).1 F4, okr_F4⟩
            · exact ⟨_, (dq_same (off_same fun _ _ _ h => U13 _ _ h)).1 F5, okr_F5⟩
            · exact ⟨_, (dq_same (off_same fun _ _ _ h => U15 _ _ h)).1 F6, okr_F6⟩
            · exact ⟨_, (dq_same (off_same fun _ _ _ h => U16 _ _ h)).1 F7, okr_F7⟩
            · exact ⟨_, (dq_same (off_same fun _ _ _ h => U17 _ _ h)).1 F8, okr_F8⟩
            · exact ⟨_, (dq_same (off_same fun _ _ _ h => U18 _ _ h)).1 F9, okr_F9⟩
            · exact ⟨_, (dq_same (off_same fun _ _ _ h => U19 _ _ h)).1 F10, okr_F10⟩
            · exact ⟨_, (dq_same (off_same fun _ _ _ h => U20 _ _ h)).1 F11, okr_F11⟩
            · exact ⟨_, (dq_same (off_same fun _ _ _ h => U24 _ _ h)).1 F12, okr_F12⟩
            · exact ⟨_, (dq_same (off_same fun _ _ _ h => U28 _ _ h)).1 F13, okr_F13⟩
            · exact ⟨_, (dq_same (off_same fun _ _ _ h => U29 _ _ h)).1 F14, okr_F14⟩
            · exact ⟨_, (dq_same (off_same fun _ _ _ h => U29 _ _ h)).1 F15, okr_F15⟩
            · exact ⟨_, (dq_same (off_same fun _ _ _ h => U30 _ _ h)).1 F16, okr_F16⟩
            · exact ⟨_, (dq_same (off_same fun _ _ _ h => U31 _ _ h)).1 F17, okr_F17⟩
          have gS : G33 o33 = some (.lst (([.ref o3, .ref o6, .ref o9, .ref o12, .ref o13, .non] ++ [.ref o15, .ref o16, .ref o17, .ref o18, .ref o19, .ref o20]) ++ [.ref o24, .ref o28, .ref o29, .str z, .ref o30, .ref o31])) := g33
          generalize hL : (([.ref o3, .ref o6, .ref o9, .ref o12, .ref o13, .non] ++ [.ref o15, .ref o16, .ref o17, .ref o18, .ref o19, .ref o20]) ++ [.ref o24, .ref o28, .ref o29, .str z, .ref o30, .ref o31] : List V) = L18 at all18 gS
          have lL : L18.length = 18 := by rw [← hL]; rfl
          refine ⟨_, rfl, _, rfl, b, 18, _, rfl, BG.same V33, by omega, by decide, by decide, fun rz HZ z0 z1 kZ BZ => ?_⟩
          have pS : o33 ∉ [b, fo] := p33
          have nSb : o33 ≠ b := fun e => pS (by rw [e]; simp)
          obtain ⟨ve, hve, eE, dE, okE⟩ := at_some (xs := L18) (r := rz) (P := fun v => ∃ e, Dq K (off [b, fo] G33) v e ∧ OkR e) all18 z0 (by rw [lL]; exact z1)
          refine ⟨o33, _, _, _, rfl, rfl, SqL.of (kZ _ _ nSb gS), hve, ?_⟩
          have kHZ : Kp b H3 HZ := fun x o nx h => kZ _ _ nx (V33 _ _ (SG _ _ h))
          have gfZ := kHZ _ _ nfb gf3
          refine ⟨_, rfl, _, rfl, fo, xs, _, j, rfl, rfl, gfZ, Evl.ixN_nat hjl, _, rfl, ?_⟩
          have so : Same (off [b, fo] HZ) (off [b, fo] (upd HZ fo (.lst (xs.set j ve)))) := off_same fun x o m h => by
            rw [upd_ne (fun z => m (by rw [z]; simp))]
            exact h
          have DZ : DqAll K (off [b, fo] HZ) xs ds := (dq_same (off_same fun x o m h => kHZ x o (fun z => m (by rw [z]; simp)) h)).2 (dp_dq.2 D3)
          have dEZ : Dq K (off [b, fo] HZ) ve eE := (dq_same (off_same fun x o m h => kZ x o (fun z => m (by rw [z]; simp)) h)).1 dE
          refine q _ fo _ _ ?_ ((BZ.off nfb).up (by omega)) nfo upd_same (dqAll_set j ((dq_same so).2 DZ) ((dq_same so).1 dEZ)) (by rw [List.length_set]; exact rg.1) ?_
          · intro x o nx h
            rw [upd_ne (fun z => by rw [z, nfo] at h; cases h)]
            exact kHZ _ _ nx (k3 _ _ nx (K2 _ _ nx h))
          · intro e he
            rcases List.mem_or_eq_of_mem_set he with h | h
            · obtain ⟨i, hi⟩ := List.mem_iff_getElem?.mp h
              exact rowg_ok (by have := (List.getElem?_eq_some_iff.mp hi).1; have := rg.1; omega) (rg.2 i e hi)
            · rw [h]
              exact okE
end
end L02


set_option Elab.async false
set_option linter.all false
set_option maxRecDepth 100000
set_option maxHeartbeats 4000000
set_option pp.deepTerms false
set_option pp.deepTerms.threshold 4
set_option pp.maxSteps 1000
namespace L02
open PySem L2 Tp
section
variable {P : Program} {w : World} {K : PySem.W.Frag} {mg : Str → Option Value} {base : Heap} {a : Ad} {d : Fd}
theorem sys_kp {b : Addr} {n : Nat} {H H' : Hp} (bx : BoxAt b n H) (k : Kp b H H') (h : Sys K H) : Sys K H' := by
  rcases h with h | ⟨h, o, φ, e⟩
  · exact .inl h
  · refine .inr ⟨h, o, φ, k _ _ (fun z => ?_) e⟩
    obtain ⟨x, y, z', e', _⟩ := bx
    rw [z, e'] at e
    cases e
theorem kitAny2 {t : Value} (h1 : PySem.W.kitOne K t (.type "list") = some false) (h2 : PySem.W.kitOne K t (.type "tuple") = some false) : PySem.W.kitAny K t [.type "list", .type "tuple"] = some false := by
  unfold PySem.W.kitAny
  rw [h1]
  show PySem.W.kitAny K t [.type "tuple"] = _
  unfold PySem.W.kitAny
  rw [h2]
  show PySem.W.kitAny K t [] = _
  unfold PySem.W.kitAny
  rfl
/-- what the checks need of one thing -/
def Som (K : PySem.W.Frag) (H : Hp) (v : V) (e : PyData) : Prop := Dq K H v e ∧ isLT e = true ∧ (itemsD e).length ≤ 12 ∧ ∀ r ∈ itemsD e, OkR r
theorem Som.fit {H : Hp} {v : V} {e : PyData} (h : Som K H v e) : FitQ 7 30000 e := by
  obtain ⟨_, l, l12, ok⟩ := h
  have key : ∀ xs : List PyData, xs.length ≤ 12 → xs.length * (2000 + 2) + 3 ≤ 30000 := fun xs h => by
    have : xs.length * (2000 + 2) ≤ 12 * 2002 := Nat.mul_le_mul_right _ h
    omega
  cases e with
  | list xs => exact (fitq_list fun x hx => (ok x hx).1).up (by decide) (key xs l12)
  | tuple xs => exact (fitq_tuple fun x hx => (ok x hx).1).up (by decide) (key xs l12)
  | _ => cases l
theorem fb3 (x y z : Bool) : (PyData.list [.bool x, .bool y, .bool z]).showable = true ∧ (PyData.list [.bool x, .bool y, .bool z]).hasDict = false ∧ (PyData.list [.bool x, .bool y, .bool z]).depth ≤ 60 ∧ (PyData.list [.bool x, .bool y, .bool z]).shown.length ≤ sizeLine := by
  cases x <;> cases y <;> cases z <;> decide +kernel
theorem rb3 {H : Hp} {l : Addr} {x y z : Bool} (h : H l = some (.lst [.bl x, .bl y, .bl z])) : Dp K H (.ref l) (.list [.bool x, .bool y, .bool z]) := .lst (SqL.of h) (.cons (.bl x) (.cons (.bl y) (.cons (.bl z) .nil)))
theorem dp_pairs {H : Hp} : ∀ rs : List Addr, (∀ r ∈ rs, H r = some (.lst [.bl false, .bl false])) → DpAll K H (rs.map V.ref) (List.replicate rs.length (.list [.bool false, .bool false]))
  | [], _ => .nil
  | r :: rs, h => .cons (rb2 (h r List.mem_cons_self)) (dp_pairs rs fun x hx => h x (List.mem_cons_of_mem _ hx))
def spTermsR (K : PySem.W.Frag) : Sp := fun vs H Q _ => ∃ (b : Addr) (n : Nat), vs = [.ref b] ∧ Sys K H ∧ BoxAt b n H ∧ n < 700000 ∧ ∀ H', Kp b H H' → BoxAt b (n + 300) H' → Q (.bl true) H'
theorem ok_termsR (T : Txt K mg a d) : FnG P w K mg base CX0 8 a.termsR d.termsR ["_law_box_here"] (spTermsR K) := by
  have G_rows := ok_rows (P := P) (w := w) (base := base) T
  have G_bent := ok_bent (P := P) (w := w) (base := base) T
  have G_areRows := ok_areRows (P := P) (w := w) (base := base) T
  have G_isTerms := ok_isTerms (P := P) (w := w) (base := base) T
  have G_isList := ok_isList (P := P) (w := w) (base := base) T
  have G_bookInit := ok_bookInit (P := P) (w := w) (base := base) T
  have G_netInit := ok_netInit (P := P) (w := w) (base := base) T
  obtain ⟨dsB, vBook, bBook⟩ := bk0 T
  obtain ⟨dsN, vNet, bNet⟩ := nt0 T
  refine okG T.F_termsR scTermsR (fun vs H Q E h => ?_) (fun cdv A outer s H vs Q E hr hg h => ?_)
  · obtain ⟨b, n, rfl, _⟩ := h
    rfl
  · obtain ⟨b, n, rfl, sy, hB, hn, q⟩ := h
    refine ⟨_, (pss_cons (ps_set (i := 1) scTermsR.nd rfl (Or.inl rfl) (Tp.pe_callG G_rows (hr.mono (by decide)) hg (by rfl) T.mg_rows T.F_rows.kp T.b_rows .nil pass0 (pa_cons (pv 0) pa_nil)))
      (pss_cons (ps_set (i := 2) scTermsR.nd rfl (Or.inl rfl) (Tp.pe_callG G_bent (hr.mono (by decide)) hg (by rfl) T.mg_bent T.F_bent.kp T.b_bent .nil pass0 (pa_cons (pv 0) (pa_cons (pv 1) pa_nil))))
      (pss_cons (ps_for PassesOwn.never rfl (pi_list (pe_lst (pa_cons (pv 1) (pa_cons (pe_callTy call_tuple_of (by rfl) T.tuple_ Tp.bt_tuple (pa_cons (pv 1) pa_nil)) (pa_cons (pv 2) (pa_cons (pe_callTy call_tuple_of (by rfl) T.tuple_ Tp.bt_tuple (pa_cons (pv 2) pa_nil)) pa_nil)))))) (pg_name (i := 3) scTermsR.nd rfl (Or.inl rfl)) (pss_cons (ps_par (i := 4) (j := 5) (by rfl) scTermsR.nd rfl rfl (by decide) rfl rfl (pa_cons (pe_callB (Tp.call_reprQ hr hg) (by rfl) T.repr_ Tp.bt_repr (pa_cons (pv 3) pa_nil)) (pa_cons (Tp.pe_callG G_areRows (hr.mono (by decide)) hg (by rfl) T.mg_areRows T.F_areRows.kp T.b_areRows .nil pass0 (pa_cons (pv 3) pa_nil)) pa_nil)) (by rfl))
      (pss_cons (ps_set (i := 6) scTermsR.nd rfl (Or.inl rfl) (pe_lst (pa_cons (pe_call G_isTerms (hr.mono (by decide)) (by rfl) T.mg_isTerms T.F_isTerms.kp T.b_isTerms .nil pass0 (pa_cons (pv 3) pa_nil)) (pa_cons (Tp.pe_callFN0 G_isTerms (hr.mono (by decide)) (by rfl) T.mg_isTerms T.F_isTerms.kp (kb_isTerms T) pass0 (pk_cons (pv 3) pk_nil)) (pa_cons (pe_call G_isList (hr.mono (by decide)) (by rfl) T.mg_isList T.F_isList.kp T.b_isList .nil pass0 (pa_cons (pv 3) pa_nil)) pa_nil)))))
      (pss_one (ps_if (PW.pt (pw_or (pt_cmpR op_ne (pe_callB (Tp.call_reprD hr hg) (by rfl) T.repr_ Tp.bt_repr (pa_cons (pv 6) pa_nil)) (pe_callB (Tp.call_reprD hr hg) (by rfl) T.repr_ Tp.bt_repr (pa_cons (pe_lst (pa_cons (pv 5) (pa_cons (pv 5) (pa_cons pe_bl pa_nil)))) pa_nil)) (nomark _)) (pw_or1 (pt_cmpR op_ne (pe_callB (Tp.call_reprQ hr hg) (by rfl) T.repr_ Tp.bt_repr (pa_cons (pv 3) pa_nil)) (pv 4) (nomark _))))) (pss_one (ps_ret pe_bl)) pss_nil)))))
      (pss_cons (ps_if (PW.pt (pw_or (pt_not (pt_val (Tp.pe_callG G_areRows (hr.mono (by decide)) hg (by rfl) T.mg_areRows T.F_areRows.kp T.b_areRows .nil pass0 (pa_cons (pv 1) pa_nil)))) (pw_or (pt_cmpR op_notBl (pe_call G_isTerms (hr.mono (by decide)) (by rfl) T.mg_isTerms T.F_isTerms.kp T.b_isTerms .nil pass0 (pa_cons (pe_lst pa_nil) pa_nil)) pe_bl (nomark _)) (pw_or1 (pt_cmpR op_notBl (pe_call G_isTerms (hr.mono (by decide)) (by rfl) T.mg_isTerms T.F_isTerms.kp T.b_isTerms .nil pass0 (pa_cons (pe_tup pa_nil) pa_nil)) pe_bl (nomark _)))))) (pss_one (ps_ret pe_bl)) pss_nil)
      (pss_cons (ps_set (i := 7) scTermsR.nd rfl (Or.inl rfl) (pe_lst (pa_cons pe_non (pa_cons pe_int (pa_cons pe_bl (pa_cons pe_str (pa_cons (pe_disp (pps_cons pe_str (pe_tup pa_nil) pps_nil) (by rfl) (by rfl) (fun z => by cases z) (by decide)) (pa_cons pe_dnewK (pa_cons (pe_make0 T.mk_Book G_bookInit (hr.mono (by decide)) (by rfl) T.mg_Book bBook vBook pass0) (pa_cons (pe_make T.mk_Net G_netInit (hr.mono (by decide)) (by rfl) T.mg_Net bNet vNet pass0 (pa_cons (pe_lst pa_nil) (pa_cons (pe_lst pa_nil) (pa_cons (pe_lst pa_nil) pa_nil)))) pa_nil))))))))))
      (pss_cons (ps_setLc (i := 6) (own := [("_law_one", 8)]) (by rfl) scTermsR.nd rfl rfl (sw_true rfl rfl rfl (by decide +kernel)) (pi_list (pv 7)) (blkOk_by (own := [("_law_one", 8)]) (N := scTermsR_N) (sc := defScope scTermsR_st) (by decide +kernel)) (fun _ _ _ _ _ => (pg_name (i := 8) scTermsR.nd rfl (Or.inl rfl))) (fun _ _ _ _ _ => pts_nil) (fun _ _ _ _ _ => (pe_lst (pa_cons (pe_call G_isTerms (hr.mono (by decide)) (by rfl) T.mg_isTerms T.F_isTerms.kp T.b_isTerms .nil pass0 (pa_cons (pv 8) pa_nil)) (pa_cons (pe_call G_isList (hr.mono (by decide)) (by rfl) T.mg_isList T.F_isList.kp T.b_isList .nil pass0 (pa_cons (pv 8) pa_nil)) pa_nil)))))
      (pss_one (ps_ret (pe_and (pe_cmpR op_eq (pe_callB (Tp.call_reprD hr hg) (by rfl) T.repr_ Tp.bt_repr (pa_cons (pv 6) pa_nil)) (pe_callB (Tp.call_reprD hr hg) (by rfl) T.repr_ Tp.bt_repr (pa_cons (pe_op op_rep (pe_lst (pa_cons (pe_op op_rep (pe_lst (pa_cons pe_bl pa_nil)) pe_int) pa_nil)) pe_int) pa_nil)) (nomark _)) (pe_one (pe_cmpR op_isBl (Tp.pe_callFN0 G_isList (hr.mono (by decide)) (by rfl) T.mg_isList T.F_isList.kp (kb_isList T) pass0 (pk_cons (pv 7) pk_nil)) pe_bl (nomark _)))))))))))), ?_⟩
    refine ⟨_, rfl, b, n, rfl, hB, by omega, fun H1 l xs ds k1 B1 nl gl dx rg => ?_⟩
    have nlb : l ≠ b := hB.ne nl
    refine ⟨_, rfl, _, rfl, b, l, _, xs, ds, rfl, B1, by omega, gl, dx, rg, fun H2 fo ys es k2 B2 nfo gfo dy les ok => ?_⟩
    have gl2 := k2 _ _ nlb gl
    have D2 : DqAll K H2 xs ds := (dq_same (off_to fun x o m h => k2 x o (fun z => m (by rw [z]; simp)) h)).2 (dp_dq.2 dx)
    have Y2 : DqAll K H2 ys es := (dq_same (off_to fun _ _ _ h => h)).2 dy
    have K2 := k1.trans k2
    have sy2 : Sys K H2 := sys_kp hB K2 sy
    have B2' : BoxAt b (n + 250) H2 := B2.up (by omega)
    have okd : ∀ r ∈ ds, OkR r := fun r hr => by
      obtain ⟨i, hi⟩ := List.mem_iff_getElem?.mp hr
      exact rowg_ok (by have := (List.getElem?_eq_some_iff.mp hi).1; have := rg.1; omega) (rg.2 i r hi)
    refine ⟨_, rfl, _, rfl, l, _, rfl, .inl ⟨SqL.of gl2, fun t1 n1 => ?_⟩⟩
    have S3 : Same H2 (upd H2 t1 (.tup xs)) := same_new n1
    have g3 : (upd H2 t1 (.tup xs)) t1 = some (.tup xs) := upd_same
    generalize upd H2 t1 (.tup xs) = H3 at S3 g3
    refine ⟨_, rfl, _, rfl, fo, _, rfl, .inl ⟨SqL.of (S3 _ _ gfo), fun t2 n2 => ?_⟩⟩
    have S4 : Same H3 (upd H3 t2 (.tup ys)) := same_new n2
    have g4 : (upd H3 t2 (.tup ys)) t2 = some (.tup ys) := upd_same
    generalize upd H3 t2 (.tup ys) = H4 at S4 g4
    refine ⟨(show 4 ≤ sizeLine from by decide), fun L nL => ?_⟩
    generalize hvs : ([.ref l, .ref t1, .ref fo, .ref t2] : List V) = vs4 at nL ⊢
    have S5 : Same H4 (upd H4 L (.lst vs4)) := same_new nL
    have g5 : (upd H4 L (.lst vs4)) L = some (.lst vs4) := upd_same
    generalize upd H4 L (.lst vs4) = H5 at S5 g5 ⊢
    have S25 := S3.trans (S4.trans S5)
    have D5 := (dq_same S25).2 D2
    have Y5 := (dq_same S25).2 Y2
    have som : ∀ v ∈ vs4, ∃ e, Som K H5 v e := by
      intro v hv
      rw [← hvs] at hv
      simp only [List.mem_cons, List.not_mem_nil, or_false] at hv
      rcases hv with rfl | rfl | rfl | rfl
      · exact ⟨.list ds, .lst (SqL.of (S25 _ _ gl2)) D5, rfl, rg.1, okd⟩
      · exact ⟨.tuple ds, .tup (SqT.of (S5 _ _ (S4 _ _ g3))) D5, rfl, rg.1, okd⟩
      · exact ⟨.list es, .lst (SqL.of (S25 _ _ gfo)) Y5, rfl, les, ok⟩
      · exact ⟨.tuple es, .tup (SqT.of (S5 _ _ g4)) Y5, rfl, les, ok⟩
    have sy5 := sy2.same S25
    clear hvs
    refine ⟨L, rfl, ⟨_, SqL.of g5⟩, for_it (walk_list (xs := vs4)) (fun i σ H' => Same H5 H' ∧ ∃ v3 v4 v5 v6, σ = [some (.ref b), some (.ref l), some (.ref fo), v3, v4, v5, v6, none, none]) ⟨Same.refl _, _, _, _, _, rfl⟩ ?_ ?_ ?_⟩
    · rintro i σ H' _ ⟨S, _⟩
      exact SqL.of (S _ _ g5)
    · rintro i v σ _ H' hi ⟨S, v3, v4, v5, v6, rfl⟩ ⟨rfl, hv⟩
      obtain ⟨e, sm⟩ := som v (List.mem_of_getElem? hv)
      have ft := sm.fit.ok (by decide) (by decide)
      obtain ⟨dq5, lt, l12, oks⟩ := sm
      have dq := (dq_same S).1 dq5
      refine ⟨_, rfl, v, e, rfl, sy5.same S, dq, ft.1, ft.2.1, ft.2.2, ?_⟩
      refine ⟨_, rfl, v, e, rfl, dq, lt, fun r hr => (oks r hr).2, fun H6 S6 => ⟨_, _, rfl, ?_⟩⟩
      have sdD : ∀ r ∈ itemsD e, ∀ x ∈ itemsD r, SD x := fun r hr x hx => smd_sd ((oks r hr).2 x hx)
      have l1000 : (itemsD e).length ≤ 1000 := Nat.le_trans l12 (by decide)
      refine ⟨_, rfl, v, termsD e, rfl, .inl ⟨e, (dq_same S6).1 dq, l1000, sdD, rfl⟩, fun H7 S7 => ?_⟩
      refine ⟨_, rfl, rfl, v, termsD e, rfl, .inl ⟨e, (dq_same (S6.trans S7)).1 dq, l1000, sdD, rfl⟩, fun H8 S8 => ?_⟩
      refine ⟨_, rfl, v, _, _, rfl, dq_ty ((dq_same (S6.trans (S7.trans S8))).1 dq), kit_lt e, fun H9 S9 => ?_⟩
      rw [lt]
      have S69 := S6.trans (S7.trans (S8.trans S9))
      refine ⟨(show 3 ≤ sizeLine from by decide), fun fl nfl => ?_⟩
      have fb := fb3 (termsD e) (termsD e) true
      refine ⟨_, rfl, _, _, rfl, rb3 upd_same, fb.1, fb.2.1, fb.2.2.1, fb.2.2.2, ?_⟩
      have SA : Same H9 (upd H9 fl (.lst [.bl (termsD e), .bl (termsD e), .bl true])) := same_new nfl
      generalize upd H9 fl (.lst [.bl (termsD e), .bl (termsD e), .bl true]) = HA at SA
      refine ⟨_, rfl, _, rfl, (show 3 ≤ sizeLine from by decide), fun f2 nf2 => ?_⟩
      refine ⟨_, _, rfl, rb3 upd_same, fb.1, fb.2.1, fb.2.2.1, fb.2.2.2, rfl, _, rfl, ifnY rfl ?_⟩
      have SB : Same HA (upd HA f2 (.lst [.bl (termsD e), .bl (termsD e), .bl true])) := same_new nf2
      generalize upd HA f2 (.lst [.bl (termsD e), .bl (termsD e), .bl true]) = HB at SB
      have S6B := S69.trans (SA.trans SB)
      refine ⟨_, rfl, v, e, rfl, sy5.same (S.trans S6B), (dq_same S6B).1 dq, ft.1, ft.2.1, ft.2.2, _, rfl, rfl, _, rfl, ifnY rfl ?_⟩
      exact ⟨S.trans S6B, _, _, _, _, rfl⟩
    · rintro σ H6 ⟨S6, v3, v4, v5, v6, rfl⟩
      have S26 := S25.trans S6
      have tt : termsD (.list ds) = true := terms_yes rfl fun i hi => by
        have hi' : i < ds.length := hi
        have e := List.getElem?_eq_getElem hi'
        have : (itemsD (.list ds)).getD i .none = ds[i] := by
          show ds.getD i .none = _
          simp [List.getD, e]
        rw [this]
        exact rowg_row (rg.2 i _ e)
      refine ⟨_, rfl, .ref l, .list ds, rfl, .lst (SqL.of (S26 _ _ gl2)) ((dq_same S26).2 D2), rfl, fun r hr => (okd r hr).2, fun H7 S7 => ⟨_, rfl, ?_⟩⟩
      rw [tt]
      refine iteF ⟨Nat.zero_le _, fun e8 n8 => ?_⟩
      refine ⟨.ref e8, true, rfl, .inl ⟨.list [], .lst (SqL.of upd_same) .nil, by decide, (fun r hr => by cases hr), rfl⟩, fun H8 S8 => ⟨_, _, rfl, rfl, _, rfl, iteF ?_⟩⟩
      have S78 : Same H7 H8 := (same_new n8).trans S8
      refine ⟨Nat.zero_le _, fun e9 n9 => ?_⟩
      refine ⟨.ref e9, true, rfl, .inl ⟨.tuple [], .tup (SqT.of upd_same) .nil, by decide, (fun r hr => by cases hr), rfl⟩, fun H9 S9 => ⟨_, _, rfl, rfl, _, rfl, iteF ?_⟩⟩
      have S29 : Same H2 H9 := S26.trans (S7.trans (S78.trans ((same_new n9).trans S9)))
      clear S78 S9 S8 S7
      -- things
      refine fun d1 m1 => ⟨Nat.zero_le _, fun t1' mt1 => ⟨same_new mt1 _ _ upd_same, [(Sum.inr "a", .ref t1')], rfl, (show 1 ≤ 15 from by decide), ?_⟩⟩
      have nd1 : d1 ≠ t1' := fun z => by rw [← z, upd_same] at mt1; cases mt1
      have m1' : H9 t1' = none := by rw [upd_ne (Ne.symm nd1)] at mt1; exact mt1
      have T1 : Same H9 (upd (upd (upd H9 d1 (.dK [])) t1' (.tup [])) d1 (.dK (mergeK [] [(Sum.inr "a", .ref t1')]))) := fun x o h => by
        rw [upd_ne (ne_of_none h m1), upd_ne (ne_of_none h m1'), upd_ne (ne_of_none h m1)]
        exact h
      have q1 : (upd (upd (upd H9 d1 (.dK [])) t1' (.tup [])) d1 (.dK (mergeK [] [(Sum.inr "a", .ref t1')]))) d1 = some (.dK [(Sum.inr "a", .ref t1')]) := upd_same
      generalize upd (upd (upd H9 d1 (.dK [])) t1' (.tup [])) d1 (.dK (mergeK [] [(Sum.inr "a", .ref t1')])) = I1 at T1 q1 ⊢
      refine fun d2 m2 => ?_
      have T2 : Same I1 (upd I1 d2 (.dK [])) := same_new m2
      have q2 : (upd I1 d2 (.dK [])) d2 = some (.dK []) := upd_same
      generalize upd I1 d2 (.dK []) = I2 at T2 q2
      refine fun xb dxb nb1 nb2 nb3 => ?_
      refine ⟨xb, dxb, rfl, upd_same, fun HA fsb kA gb => ⟨rfl, ?_⟩⟩
      have SA : Same I2 HA := fun b' u hb => kA _ _ (ne_of_none hb nb1) (by rw [upd_ne (ne_of_none hb nb1), upd_ne (ne_of_none hb nb2)]; exact hb)
      refine ⟨Nat.zero_le _, fun i1 m1 => ⟨Nat.zero_le _, fun i2 m2 => ⟨Nat.zero_le _, fun i3 m3 => ?_⟩⟩⟩
      have SB : Same HA (upd (upd (upd HA i1 (.lst [])) i2 (.lst [])) i3 (.lst [])) := (same_new m1).trans ((same_new m2).trans (same_new m3))
      have p1 : (upd (upd (upd HA i1 (.lst [])) i2 (.lst [])) i3 (.lst [])) i1 = some (.lst []) := same_new m3 _ _ (same_new m2 _ _ upd_same)
      have p2 : (upd (upd (upd HA i1 (.lst [])) i2 (.lst [])) i3 (.lst [])) i2 = some (.lst []) := same_new m3 _ _ upd_same
      have p3 : (upd (upd (upd HA i1 (.lst [])) i2 (.lst [])) i3 (.lst [])) i3 = some (.lst []) := upd_same
      generalize upd (upd (upd HA i1 (.lst [])) i2 (.lst [])) i3 (.lst []) = HB at SB p1 p2 p3
      refine fun xn dxn nn1 nn2 nn3 => ?_
      have SN : Same HB (upd (upd HB dxn (.own xn)) xn (.ins a.CNet dxn [])) := fun b' u hb => by
        rw [upd_ne (ne_of_none hb nn1), upd_ne (ne_of_none hb nn2)]
        exact hb
      refine ⟨xn, dxn, i1, i2, i3, a.ntE, rfl, upd_same, SqL.of (SN _ _ p1), SqL.of (SN _ _ p2), SqL.of (SN _ _ p3), emp_T T.lkN, fun HC fsn kC gn => ⟨rfl, (show 8 ≤ sizeLine from by decide), fun lt nlt => ?_⟩⟩
      have SC : Same HB HC := fun b' u hb => kC _ _ (ne_of_none hb nn1) (SN _ _ hb)
      generalize hxs : ([.non, .int 3, .bl true, .str "a", .ref d1, .ref d2, .ref xb, .ref xn] : List V) = zs at nlt ⊢
      have lz : zs.length = 8 := by rw [← hxs]; rfl
      have SL : Same HC (upd HC lt (.lst zs)) := same_new nlt
      have gl' : (upd HC lt (.lst zs)) lt = some (.lst zs) := upd_same
      generalize upd HC lt (.lst zs) = HL at SL gl' ⊢
      have UA : Same HA HL := SB.trans (SC.trans SL)
      have U2 : Same I2 HL := SA.trans UA
      have nol : ∀ v ∈ zs, NoLT K HL v := by
        intro v hv
        rw [← hxs] at hv
        simp only [List.mem_cons, List.not_mem_nil, or_false] at hv
        rcases hv with rfl | rfl | rfl | rfl | rfl | rfl | rfl | rfl
        · exact ⟨_, .base .non, kit_lt .none⟩
        · exact ⟨_, .base (.int 3), kit_lt (.int 3)⟩
        · exact ⟨_, .base (.bl true), kit_lt (.bool true)⟩
        · exact ⟨_, .base (.str _), kit_lt (.str "a")⟩
        · exact ⟨_, .base (.dK (U2 _ _ (T2 _ _ q1))), kit_lt (.dict [])⟩
        · exact ⟨_, .base (.dK (U2 _ _ q2)), kit_lt (.dict [])⟩
        · exact ⟨_, .base (.ins (UA _ _ gb) T.cl_Book T.ca_Book T.cn_ T.ct_ T.cm_Book), kitAny2 T.ki_Book_list T.ki_Book_tuple⟩
        · exact ⟨_, .base (.ins (SL _ _ gn) T.cl_Net T.ca_Net T.cn_ T.ct_ T.cm_Net), kitAny2 T.ki_Net_list T.ki_Net_tuple⟩
      have S2L : Same H2 HL := S29.trans (T1.trans (T2.trans U2))
      clear hxs
      refine ⟨_, rfl, lt, rfl, ⟨_, SqL.of gl'⟩, fun D hD => lc_it (walk_list (xs := zs)) (fun i H' => Same HL H' ∧ ∃ rs : List Addr, H' D = some (.lst (rs.map V.ref)) ∧ rs.length = i ∧ ∀ r ∈ rs, r ≠ D ∧ H' r = some (.lst [.bl false, .bl false])) ⟨same_new hD, [], upd_same, rfl, (by simp)⟩ ?_ ?_ ?_⟩
      · rintro i H' _ ⟨S, _⟩
        exact SqL.of (S _ _ gl')
      · rintro i y _ H' hi ⟨S, rs, hD', lr, hr2⟩ ⟨rfl, hy⟩
        obtain ⟨t, ty, kt⟩ := nol y (List.mem_of_getElem? hy)
        refine ⟨rfl, _, rfl, y, false, rfl, .inr ⟨⟨t, ty_same S ty, kt⟩, rfl⟩, fun G1 SG1 => ?_⟩
        refine ⟨_, rfl, y, t, false, rfl, ty_same (S.trans SG1) ty, kt, fun G2 SG2 => ?_⟩
        refine ⟨(show 2 ≤ sizeLine from by decide), fun rr nrr => ?_⟩
        have SG3 : Same G2 (upd G2 rr (.lst [.bl false, .bl false])) := same_new nrr
        have gr : (upd G2 rr (.lst [.bl false, .bl false])) rr = some (.lst [.bl false, .bl false]) := upd_same
        generalize upd G2 rr (.lst [.bl false, .bl false]) = G3 at SG3 gr
        have SG := SG1.trans (SG2.trans SG3)
        have nrD : rr ≠ D := fun z => by rw [z, SG2 _ _ (SG1 _ _ hD')] at nrr; cases nrr
        refine ⟨_, SG _ _ hD', ?_, Tp.Same.mut (S.trans SG) hD, rs ++ [rr], ?_, ?_, ?_⟩
        · rw [List.length_map, lr]
          exact Nat.lt_of_le_of_lt (show i ≤ 8 by omega) (by decide)
        · rw [upd_same, List.map_append]
          rfl
        · rw [List.length_append, lr]
          rfl
        · intro r hr
          rcases List.mem_append.mp hr with h | h
          · obtain ⟨h1, h2⟩ := hr2 r h
            exact ⟨h1, by rw [upd_ne h1]; exact SG _ _ h2⟩
          · rw [List.mem_singleton.mp h]
            exact ⟨nrD, by rw [upd_ne nrD]; exact gr⟩
      · rintro HM ⟨SM, rs, hD', lr, hr2⟩
        rw [lz] at lr
        have fp : (PyData.list (List.replicate 8 (.list [.bool false, .bool false]))).showable = true ∧ (PyData.list (List.replicate 8 (.list [.bool false, .bool false]))).hasDict = false ∧ (PyData.list (List.replicate 8 (.list [.bool false, .bool false]))).depth ≤ 60 ∧ (PyData.list (List.replicate 8 (.list [.bool false, .bool false]))).shown.length ≤ sizeLine := by decide +kernel
        have dpr := dp_pairs (K := K) (H := HM) rs fun r hr => (hr2 r hr).2
        rw [lr] at dpr
        refine ⟨_, rfl, _, _, rfl, .lst (SqL.of hD') dpr, fp.1, fp.2.1, fp.2.2.1, fp.2.2.2, ?_⟩
        refine ⟨(show 1 ≤ sizeLine from by decide), fun r1 nr1 => ⟨r1, 2, _, rfl, rfl, upd_same, by decide, by decide, by decide, fun r2 nr2 => ?_⟩⟩
        have er2 : (List.replicate (2 : Int).toNat [V.bl false]).flatten = [.bl false, .bl false] := rfl
        rw [er2]
        have SQ : Same HM (upd (upd HM r1 (.lst [.bl false])) r2 (.lst [.bl false, .bl false])) := (same_new nr1).trans (same_new nr2)
        have gq : (upd (upd HM r1 (.lst [.bl false])) r2 (.lst [.bl false, .bl false])) r2 = some (.lst [.bl false, .bl false]) := upd_same
        generalize upd (upd HM r1 (.lst [.bl false])) r2 (.lst [.bl false, .bl false]) = HQ at SQ gq
        refine ⟨(show 1 ≤ sizeLine from by decide), fun r3 nr3 => ⟨r3, 8, _, rfl, rfl, upd_same, by decide, by decide, (show 1 * 8 ≤ sizeLine from by decide), fun r4 nr4 => ?_⟩⟩
        have er4 : (List.replicate (8 : Int).toNat [V.ref r2]).flatten = (List.replicate 8 r2).map V.ref := rfl
        rw [er4]
        have SR : Same HQ (upd (upd HQ r3 (.lst [.ref r2])) r4 (.lst ((List.replicate 8 r2).map V.ref))) := (same_new nr3).trans (same_new nr4)
        have gr4 : (upd (upd HQ r3 (.lst [.ref r2])) r4 (.lst ((List.replicate 8 r2).map V.ref))) r4 = some (.lst ((List.replicate 8 r2).map V.ref)) := upd_same
        generalize upd (upd HQ r3 (.lst [.ref r2])) r4 (.lst ((List.replicate 8 r2).map V.ref)) = HR at SR gr4 ⊢
        have dp4 := dp_pairs (K := K) (H := HR) (List.replicate 8 r2) fun r hr => by
          rw [List.eq_of_mem_replicate hr]
          exact SR _ _ gq
        refine ⟨_, _, rfl, .lst (SqL.of gr4) dp4, fp.1, fp.2.1, fp.2.2.1, fp.2.2.2, rfl, _, rfl, ?_⟩
        refine ifY rfl ?_
        have SLR : Same HL HR := SM.trans (SQ.trans SR)
        refine ⟨_, rfl, rfl, .ref lt, _, true, rfl, ty_sqL (SqL.of (SLR _ _ gl')), kit_lt (.list []), fun HS SS => ⟨_, _, rfl, rfl, ?_⟩⟩
        have S2S := S2L.trans (SLR.trans SS)
        exact q _ (K2.same S2S) ((B2'.same S2S).up (by omega))
end
end L02


set_option Elab.async false
set_option linter.all false
set_option maxRecDepth 100000
set_option maxHeartbeats 4000000
set_option pp.deepTerms false
set_option pp.deepTerms.threshold 4
set_option pp.maxSteps 1000
namespace L02
open PySem L2 Tp
section
variable {P : Program} {w : World} {K : PySem.W.Frag} {mg : Str → Option Value} {base : Heap} {a : Ad} {d : Fd}
def spLaw (K : PySem.W.Frag) : Sp := fun vs H Q _ => ∃ (s : Addr) (ns : List Int), vs = [.ref s] ∧ Sys K H ∧ SqL K H s (ns.map V.int) ∧ ns.length ≤ 63 ∧ ∀ H', Q (.bl true) H'
theorem sq_kp {b : Addr} {n : Nat} {H H' : Hp} {s : Addr} {xs : List V} (bx : BoxAt b n H) (nb : s ≠ b) (k : Kp b H H') (h : SqL K H s xs) : SqL K H' s xs := by
  rcases h with (h | ⟨o, h⟩) | h
  · exact .inl (.inl (k _ _ nb h))
  · exact .inl (.inr ⟨o, k _ _ nb h⟩)
  · exact .inr h
theorem ok_law (T : Txt K mg a d) : FnG P w K mg base CX0 9 a.law d.law ["_law_script"] (spLaw K) := by
  have G_cell := ok_cell (P := P) (w := w) (base := base) T
  have G_box := ok_box (P := P) (w := w) (base := base) T
  have G_namesR := ok_namesR (P := P) (w := w) (base := base) T
  have G_intsR := ok_intsR (P := P) (w := w) (base := base) T
  have G_termsR := ok_termsR (P := P) (w := w) (base := base) T
  refine okG T.F_law scLaw (fun vs H Q E h => ?_) (fun cdv A outer s H vs Q E hr hg h => ?_)
  · obtain ⟨s, ns, rfl, _⟩ := h
    rfl
  · obtain ⟨s, ns, rfl, sy, hS, h63, q⟩ := h
    refine ⟨_, (pss_cons (ps_for PassesOwn.never rfl (pi_range1 (by rfl) T.range_ (pa_cons (pe_callB (call_max2 rfl) (by rfl) T.max_ Tp.bt_max (pa_cons pe_int (pa_cons (pe_callB (call_min2 rfl) (by rfl) T.min_ Tp.bt_min (pa_cons pe_int (pa_cons (pe_callB call_len_seq (by rfl) T.len_ Tp.bt_len (pa_cons (pv 0) pa_nil)) pa_nil))) pa_nil))) pa_nil)) (pg_name (i := 1) scLaw.nd rfl (Or.inl rfl)) (pss_cons (ps_set (i := 2) scLaw.nd rfl (Or.inl rfl) (Tp.pe_callG G_box (hr.mono (by decide)) hg (by rfl) T.mg_box T.F_box.kp T.b_box .nil pass0 (pa_cons (Tp.pe_callG G_cell (hr.mono (by decide)) hg (by rfl) T.mg_cell T.F_cell.kp T.b_cell .nil pass0 (pa_cons (pv 0) (pa_cons (pv 1) pa_nil))) pa_nil)))
      (pss_one (ps_if (PW.pt (pw_or (pt_not (pt_val (Tp.pe_callG G_namesR (hr.mono (by decide)) hg (by rfl) T.mg_namesR T.F_namesR.kp T.b_namesR .nil pass0 (pa_cons (pv 2) pa_nil)))) (pw_or (pt_not (pt_val (Tp.pe_callG G_intsR (hr.mono (by decide)) hg (by rfl) T.mg_intsR T.F_intsR.kp T.b_intsR .nil pass0 (pa_cons (pv 2) pa_nil)))) (pw_or1 (pt_not (pt_val (Tp.pe_callG G_termsR (hr.mono (by decide)) hg (by rfl) T.mg_termsR T.F_termsR.kp T.b_termsR .nil pass0 (pa_cons (pv 2) pa_nil)))))))) (pss_one (ps_ret pe_bl)) pss_nil))))
      (pss_one (ps_ret pe_bl))), ?_⟩
    refine ⟨_, rfl, s, _, rfl, .inl hS, _, _, rfl, _, _, rfl, ?_⟩
    generalize hm : (if _ > (2 : Int) then _ else (2 : Int)) = m
    have m1 : 0 ≤ m ∧ m ≤ 8 := by
      rw [← hm]
      rw [List.length_map]
      repeat' split
      all_goals omega
    refine ⟨_, rfl, by omega, by omega, for_range (lo := 0) (n := m.toNat) (fun i σ H' => Same H H' ∧ ∃ v1 v2, σ = [some (.ref s), v1, v2]) ⟨Same.refl H, none, none, rfl⟩ ?_ ?_⟩
    · rintro i σ H0 hi ⟨S0, v1, v2, rfl⟩
      refine ⟨_, rfl, _, rfl, s, ns, _, rfl, S0.seq hS, by omega, by omega, fun c => ⟨_, rfl, fun b x y hb x0 y0 y1 => ?_⟩⟩
      have S1 : Same H (upd H0 b (.lst [.int x, .int y, .int 0])) := S0.trans (same_new hb)
      have bx : BoxAt b 0 (upd H0 b (.lst [.int x, .int y, .int 0])) := ⟨x, y, 0, upd_same, x0, y0, y1, by decide, by decide⟩
      have nb : H b = none := by
        cases e : H b with
        | none => rfl
        | some u => rw [S0 _ _ e] at hb; cases hb
      generalize upd H0 b (.lst [.int x, .int y, .int 0]) = H1 at S1 bx
      have up : ∀ {H' : Hp}, Kp b H1 H' → Same H H' := fun k b' u hb' => k _ _ (fun z => by rw [z, nb] at hb'; cases hb') (S1 _ _ hb')
      refine ⟨_, rfl, b, 0, rfl, bx, by decide, fun H2 k2 B2 => ⟨_, rfl, iteF ?_⟩⟩
      refine ⟨_, rfl, b, _, rfl, B2, by decide, fun H3 k3 B3 => ⟨_, rfl, iteF ?_⟩⟩
      refine ⟨_, rfl, b, _, rfl, sy.same (up (k2.trans k3)), B3, by decide, fun H4 k4 B4 => ⟨_, rfl, iteF ⟨up ((k2.trans k3).trans k4), _, _, rfl⟩⟩⟩
    · rintro σ H' ⟨S, _⟩
      exact q _
end
end L02

set_option Elab.async false
set_option linter.all false
set_option maxRecDepth 100000
set_option maxHeartbeats 4000000
set_option pp.deepTerms false
set_option pp.deepTerms.threshold 4
set_option pp.maxSteps 300
namespace L02
open PySem L2 Tp
def hd0 : He.DefD := ⟨("InvalidName", some "__init__"), "__init__", "InvalidName.__init__", defArgs scXName_st, defBody scXName_st, defScope scXName_st, [], []⟩
def hd1 : He.DefD := ⟨("is_integer", none), "is_integer", "is_integer", defArgs scIsInt_st, defBody scIsInt_st, defScope scIsInt_st, [], []⟩
def hd2 : He.DefD := ⟨("is_name", none), "is_name", "is_name", defArgs scIsName_st, defBody scIsName_st, defScope scIsName_st, [], []⟩
def hd3 : He.DefD := ⟨("is_list", none), "is_list", "is_list", defArgs scIsList_st, defBody scIsList_st, defScope scIsList_st, [], []⟩
def hd4 : He.DefD := ⟨("is_pair", none), "is_pair", "is_pair", defArgs scIsPair_st, defBody scIsPair_st, defScope scIsPair_st, [], []⟩
def hd5 : He.DefD := ⟨("is_term_row", none), "is_term_row", "is_term_row", defArgs scIsTRow_st, defBody scIsTRow_st, defScope scIsTRow_st, [], []⟩
def hd6 : He.DefD := ⟨("is_terms", none), "is_terms", "is_terms", defArgs scIsTerms_st, defBody scIsTerms_st, defScope scIsTerms_st, [], []⟩
def hd7 : He.DefD := ⟨("Book", some "__init__"), "__init__", "Book.__init__", defArgs scBookInit_st, defBody scBookInit_st, defScope scBookInit_st, [.adr (He.dflAt ("Book", some "__init__") 0)], []⟩
def hd8 : He.DefD := ⟨("Table", some "__init__"), "__init__", "Table.__init__", defArgs scTableInit_st, defBody scTableInit_st, defScope scTableInit_st, [], []⟩
def hd9 : He.DefD := ⟨("Table", some "put_rows"), "put_rows", "Table.put_rows", defArgs scPutRows_st, defBody scPutRows_st, defScope scPutRows_st, [], []⟩
def hd10 : He.DefD := ⟨("Table", some "table_rows"), "table_rows", "Table.table_rows", defArgs scTableRows_st, defBody scTableRows_st, defScope scTableRows_st, [], []⟩
def hd11 : He.DefD := ⟨("use_order", none), "use_order", "use_order", defArgs scUseOrder_st, defBody scUseOrder_st, defScope scUseOrder_st, [], []⟩
def hd12 : He.DefD := ⟨("extract", none), "extract", "extract", defArgs scExtract_st, defBody scExtract_st, defScope scExtract_st, [], []⟩
def hd13 : He.DefD := ⟨("standard", none), "standard", "standard", defArgs scStandard_st, defBody scStandard_st, defScope scStandard_st, [], []⟩
def hd14 : He.DefD := ⟨("need_lists", none), "need_lists", "need_lists", defArgs scNeedLists_st, defBody scNeedLists_st, defScope scNeedLists_st, [], []⟩
def hd15 : He.DefD := ⟨("need_gates", none), "need_gates", "need_gates", defArgs scNeedGates_st, defBody scNeedGates_st, defScope scNeedGates_st, [], []⟩
def hd16 : He.DefD := ⟨("need_terms", none), "need_terms", "need_terms", defArgs scNeedTerms_st, defBody scNeedTerms_st, defScope scNeedTerms_st, [], []⟩
def hd17 : He.DefD := ⟨("turn_order", none), "turn_order", "turn_order", defArgs scTurnOrder_st, defBody scTurnOrder_st, defScope scTurnOrder_st, [], []⟩
def hd18 : He.DefD := ⟨("reached", none), "reached", "reached", defArgs scReached_st, defBody scReached_st, defScope scReached_st, [], []⟩
def hd19 : He.DefD := ⟨("need_shape", none), "need_shape", "need_shape", defArgs scNeedShape_st, defBody scNeedShape_st, defScope scNeedShape_st, [], []⟩
def hd20 : He.DefD := ⟨("Net", some "__init__"), "__init__", "Net.__init__", defArgs scNetInit_st, defBody scNetInit_st, defScope scNetInit_st, [.adr (He.dflAt ("Net", some "__init__") 0)], []⟩
def hd21 : He.DefD := ⟨("_law_cell", none), "_law_cell", "_law_cell", defArgs scCell_st, defBody scCell_st, defScope scCell_st, [], []⟩
def hd22 : He.DefD := ⟨("_law_box", none), "_law_box", "_law_box", defArgs scBox_st, defBody scBox_st, defScope scBox_st, [], []⟩
def hd23 : He.DefD := ⟨("_law_take", none), "_law_take", "_law_take", defArgs scTake_st, defBody scTake_st, defScope scTake_st, [], []⟩
def hd24 : He.DefD := ⟨("_law_word", none), "_law_word", "_law_word", defArgs scWord_st, defBody scWord_st, defScope scWord_st, [], []⟩
def hd25 : He.DefD := ⟨("_law_is_named", none), "_law_is_named", "_law_is_named", defArgs scNamed_st, defBody scNamed_st, defScope scNamed_st, [], []⟩
def hd26 : He.DefD := ⟨("_law_names_right", none), "_law_names_right", "_law_names_right", defArgs scNamesR_st, defBody scNamesR_st, defScope scNamesR_st, [], []⟩
def hd27 : He.DefD := ⟨("_law_integers_right", none), "_law_integers_right", "_law_integers_right", defArgs scIntsR_st, defBody scIntsR_st, defScope scIntsR_st, [], []⟩
def hd28 : He.DefD := ⟨("_law_rows", none), "_law_rows", "_law_rows", defArgs scRows_st, defBody scRows_st, defScope scRows_st, [], []⟩
def hd29 : He.DefD := ⟨("_law_bent", none), "_law_bent", "_law_bent", defArgs scBent_st, defBody scBent_st, defScope scBent_st, [], []⟩
def hd30 : He.DefD := ⟨("_law_are_rows", none), "_law_are_rows", "_law_are_rows", defArgs scAreRows_st, defBody scAreRows_st, defScope scAreRows_st, [], []⟩
def hd31 : He.DefD := ⟨("_law_terms_right", none), "_law_terms_right", "_law_terms_right", defArgs scTermsR_st, defBody scTermsR_st, defScope scTermsR_st, [], []⟩
def hd32 : He.DefD := ⟨("law", none), "law", "law", defArgs scLaw_st, defBody scLaw_st, defScope scLaw_st, [], []⟩
def hfn : List He.DefD := [hd0, hd1, hd2, hd3, hd4, hd5, hd6, hd7, hd8, hd9, hd10, hd11, hd12, hd13, hd14, hd15, hd16, hd17, hd18, hd19, hd20, hd21, hd22, hd23, hd24, hd25, hd26, hd27, hd28, hd29, hd30, hd31, hd32]
def hex0 : List (PySem.W.Frag → Bool) := [fun K => decide (PySem.W.findIn K (.ref (He.ga K "InvalidName")) "__init__" = some (some (.ref (He.ma K (He.ga K "InvalidName") "__init__")))),
  fun K => (He.Fa.glo "is_integer").ok K,
  fun K => (He.Fa.glo "is_name").ok K,
  fun K => (He.Fa.glo "is_list").ok K,
  fun K => (He.Fa.glo "is_pair").ok K,
  fun K => (He.Fa.glo "is_term_row").ok K,
  fun K => (He.Fa.glo "is_terms").ok K,
  fun K => decide (PySem.W.findIn K (.ref (He.ga K "Book")) "__init__" = some (some (.ref (He.ma K (He.ga K "Book") "__init__")))),
  fun K => PySem.W.isFn K (.ref (He.fAd K ("Book", some "__init__"))),
  fun K => decide (PySem.W.findIn K (.ref (He.ga K "Table")) "__init__" = some (some (.ref (He.ma K (He.ga K "Table") "__init__")))),
  fun K => PySem.W.isFn K (.ref (He.fAd K ("Table", some "__init__"))),
  fun K => decide (PySem.W.findIn K (.ref (He.ga K "Table")) "put_rows" = some (some (.ref (He.ma K (He.ga K "Table") "put_rows")))),
  fun K => PySem.W.isFn K (.ref (He.fAd K ("Table", some "put_rows"))),
  fun K => decide (PySem.W.findIn K (.ref (He.ga K "Table")) "table_rows" = some (some (.ref (He.ma K (He.ga K "Table") "table_rows")))),
  fun K => PySem.W.isFn K (.ref (He.fAd K ("Table", some "table_rows"))),
  fun K => (He.Fa.glo "use_order").ok K,
  fun K => (He.Fa.glo "extract").ok K,
  fun K => (He.Fa.glo "standard").ok K,
  fun K => (He.Fa.glo "need_lists").ok K,
  fun K => (He.Fa.glo "need_gates").ok K,
  fun K => (He.Fa.glo "need_terms").ok K,
  fun K => (He.Fa.glo "turn_order").ok K,
  fun K => (He.Fa.glo "reached").ok K,
  fun K => (He.Fa.glo "need_shape").ok K,
  fun K => decide (PySem.W.findIn K (.ref (He.ga K "Net")) "__init__" = some (some (.ref (He.ma K (He.ga K "Net") "__init__")))),
  fun K => PySem.W.isFn K (.ref (He.fAd K ("Net", some "__init__"))),
  fun K => (He.Fa.glo "_law_cell").ok K,
  fun K => (He.Fa.glo "_law_box").ok K,
  fun K => (He.Fa.glo "_law_take").ok K,
  fun K => (He.Fa.glo "_law_word").ok K,
  fun K => (He.Fa.glo "_law_is_named").ok K,
  fun K => (He.Fa.glo "_law_names_right").ok K,
  fun K => (He.Fa.glo "_law_integers_right").ok K,
  fun K => (He.Fa.glo "_law_rows").ok K,
  fun K => (He.Fa.glo "_law_bent").ok K,
  fun K => (He.Fa.glo "_law_are_rows").ok K,
  fun K => (He.Fa.glo "_law_terms_right").ok K,
  fun K => (He.Fa.glo "law").ok K,
  fun K => (He.Fa.str "LETTERS" "abcdefghijklmnopqrstuvwxyz").ok K,
  fun K => (He.Fa.str "DIGITS" "0123456789").ok K]
def hex1 : List (PySem.W.Frag → Bool) := [fun K => (He.Fa.int "LONGEST_NAME" (8)).ok K,
  fun K => (He.Fa.int "MOST_ARGUMENTS" (3)).ok K,
  fun K => (He.Fa.free "len").ok K,
  fun K => (He.Fa.free "max").ok K,
  fun K => (He.Fa.free "min").ok K,
  fun K => (He.Fa.free "isinstance").ok K,
  fun K => (He.Fa.free "str").ok K,
  fun K => (He.Fa.free "int").ok K,
  fun K => (He.Fa.free "all").ok K,
  fun K => (He.Fa.free "range").ok K,
  fun K => (He.Fa.free "repr").ok K,
  fun K => (He.Fa.free "list").ok K,
  fun K => (He.Fa.free "tuple").ok K,
  fun K => (He.Fa.free "bool").ok K,
  fun K => (He.Fa.free "enumerate").ok K,
  fun K => (He.Fa.glo "NetError").ok K,
  fun K => decide (PySem.W.specialIn K (.ref (He.ga K "NetError")) "__getattribute__" = some (some (.builtin "type.__getattribute__"))),
  fun K => PySem.W.readsIn K (He.ga K "NetError") (.type "type"),
  fun K => Tp.clsB K (He.ga K "NetError") "__init__" "ValueError.__init__",
  fun K => PySem.W.hasDictIn K (He.ga K "NetError"),
  fun K => decide (PySem.W.typeIn K (.ref (He.ga K "NetError")) = some (.type "type")),
  fun K => decide (PySem.W.subIn K (.ref (He.ga K "NetError")) (.type "BaseException") = some true),
  fun K => (He.Fa.glo "InvalidName").ok K,
  fun K => Tp.excB K (He.ga K "InvalidName"),
  fun K => decide (PySem.W.findIn K (.ref (He.ga K "InvalidName")) "__setattr__" = some (some (.builtin "object.__setattr__"))),
  fun K => decide (PySem.W.findIn K (.ref (He.ga K "InvalidName")) "__getattribute__" = some (some (.builtin "BaseException.__getattribute__"))),
  fun K => decide (PySem.W.findIn K (.ref (He.ga K "InvalidName")) "__getattr__" = some none),
  fun K => decide (PySem.W.findIn K (.ref (He.ga K "InvalidName")) "value" = some none),
  fun K => PySem.W.keepIn K (.ref (He.ga K "InvalidName")),
  fun K => decide (PySem.W.subIn K (.ref (He.ga K "InvalidName")) (.type "BaseException") = some true),
  fun K => decide (PySem.W.typeIn K (.ref (He.ga K "InvalidName")) = some (.type "type")),
  fun K => PySem.W.hasDictIn K (He.ga K "InvalidName"),
  fun K => decide (PySem.W.findIn K (.ref (He.ga K "InvalidName")) "__class__" = some (some (.builtin "object.__class__"))),
  fun K => decide (PySem.W.mroIn K (He.ga K "InvalidName") (.type "object") = some true),
  fun K => decide (PySem.W.typeIn K (.ref (He.fAd K ("InvalidName", some "__init__"))) = some (.type "function")),
  fun K => (He.Fa.glo "Book").ok K,
  fun K => PySem.W.plainGet K (He.ga K "Book") Str.empty,
  fun K => PySem.W.hasDictIn K (He.ga K "Book"),
  fun K => PySem.W.plainOver K (He.ga K "Book"),
  fun K => decide (PySem.W.findIn K (.ref (He.ga K "Book")) "__setattr__" = some (some (.builtin "object.__setattr__")))]
def hex2 : List (PySem.W.Frag → Bool) := [fun K => PySem.W.makesIn K (He.ga K "Book"),
  fun K => PySem.W.keepIn K (.ref (He.ga K "Book")),
  fun K => decide (PySem.W.findIn K (.ref (He.ga K "Book")) "__class__" = some (some (.builtin "object.__class__"))),
  fun K => decide (PySem.W.mroIn K (He.ga K "Book") (.type "object") = some true),
  fun K => decide (PySem.W.typeIn K (.ref (He.ga K "Book")) = some (.type "type")),
  fun K => decide (PySem.W.findIn K (.ref (He.ga K "Book")) "held" = some none),
  fun K => decide (PySem.W.findIn K (.ref (He.ga K "Book")) "numbers" = some none),
  fun K => decide (PySem.W.subIn K (.ref (He.ga K "Book")) (.type "str") = some false),
  fun K => decide (PySem.W.subIn K (.ref (He.ga K "Book")) (.type "int") = some false),
  fun K => decide (PySem.W.subIn K (.ref (He.ga K "Book")) (.type "list") = some false),
  fun K => decide (PySem.W.subIn K (.ref (He.ga K "Book")) (.type "tuple") = some false),
  fun K => decide (PySem.W.subIn K (.ref (He.ga K "Book")) (.type "dict") = some false),
  fun K => decide (PySem.W.subIn K (.ref (He.ga K "Book")) (.type "bool") = some false),
  fun K => (He.Fa.glo "Table").ok K,
  fun K => PySem.W.plainGet K (He.ga K "Table") Str.empty,
  fun K => PySem.W.hasDictIn K (He.ga K "Table"),
  fun K => PySem.W.plainOver K (He.ga K "Table"),
  fun K => decide (PySem.W.findIn K (.ref (He.ga K "Table")) "__setattr__" = some (some (.builtin "object.__setattr__"))),
  fun K => PySem.W.makesIn K (He.ga K "Table"),
  fun K => PySem.W.keepIn K (.ref (He.ga K "Table")),
  fun K => decide (PySem.W.findIn K (.ref (He.ga K "Table")) "__class__" = some (some (.builtin "object.__class__"))),
  fun K => decide (PySem.W.mroIn K (He.ga K "Table") (.type "object") = some true),
  fun K => decide (PySem.W.typeIn K (.ref (He.ga K "Table")) = some (.type "type")),
  fun K => decide (PySem.W.findIn K (.ref (He.ga K "Table")) "own_rows" = some none),
  fun K => decide (PySem.W.findIn K (.ref (He.ga K "Table")) "own_numbers" = some none),
  fun K => decide (PySem.W.subIn K (.ref (He.ga K "Table")) (.type "str") = some false),
  fun K => decide (PySem.W.subIn K (.ref (He.ga K "Table")) (.type "int") = some false),
  fun K => decide (PySem.W.subIn K (.ref (He.ga K "Table")) (.type "list") = some false),
  fun K => decide (PySem.W.subIn K (.ref (He.ga K "Table")) (.type "tuple") = some false),
  fun K => decide (PySem.W.subIn K (.ref (He.ga K "Table")) (.type "dict") = some false),
  fun K => decide (PySem.W.subIn K (.ref (He.ga K "Table")) (.type "bool") = some false),
  fun K => (He.Fa.glo "Net").ok K,
  fun K => PySem.W.plainGet K (He.ga K "Net") Str.empty,
  fun K => PySem.W.hasDictIn K (He.ga K "Net"),
  fun K => PySem.W.plainOver K (He.ga K "Net"),
  fun K => decide (PySem.W.findIn K (.ref (He.ga K "Net")) "__setattr__" = some (some (.builtin "object.__setattr__"))),
  fun K => PySem.W.makesIn K (He.ga K "Net"),
  fun K => PySem.W.keepIn K (.ref (He.ga K "Net")),
  fun K => decide (PySem.W.findIn K (.ref (He.ga K "Net")) "__class__" = some (some (.builtin "object.__class__"))),
  fun K => decide (PySem.W.mroIn K (He.ga K "Net") (.type "object") = some true)]
def hex3 : List (PySem.W.Frag → Bool) := [fun K => decide (PySem.W.typeIn K (.ref (He.ga K "Net")) = some (.type "type")),
  fun K => decide (PySem.W.findIn K (.ref (He.ga K "Net")) "own_terms" = some none),
  fun K => decide (PySem.W.findIn K (.ref (He.ga K "Net")) "own_inputs" = some none),
  fun K => decide (PySem.W.findIn K (.ref (He.ga K "Net")) "own_gates" = some none),
  fun K => decide (PySem.W.findIn K (.ref (He.ga K "Net")) "own_outs" = some none),
  fun K => decide (PySem.W.findIn K (.ref (He.ga K "Net")) "own_rows" = some none),
  fun K => decide (PySem.W.findIn K (.ref (He.ga K "Net")) "own_order" = some none),
  fun K => decide (PySem.W.subIn K (.ref (He.ga K "Net")) (.type "str") = some false),
  fun K => decide (PySem.W.subIn K (.ref (He.ga K "Net")) (.type "int") = some false),
  fun K => decide (PySem.W.subIn K (.ref (He.ga K "Net")) (.type "list") = some false),
  fun K => decide (PySem.W.subIn K (.ref (He.ga K "Net")) (.type "tuple") = some false),
  fun K => decide (PySem.W.subIn K (.ref (He.ga K "Net")) (.type "dict") = some false),
  fun K => decide (PySem.W.subIn K (.ref (He.ga K "Net")) (.type "bool") = some false),
  fun K => decide (PySem.W.specialIn K (.builtin "object.__class__") "__get__" = some (some (.builtin "getset_descriptor.__get__"))),
  fun K => decide (PySem.W.takesIn K (.builtin "object.__class__") = some true),
  fun K => decide (PySem.W.subIn K (.ref (He.ga K "InvalidName")) (.type "str") = some false),
  fun K => Tp.tup0B K (He.dflAt ("Book", some "__init__") 0 K),
  fun K => Tp.tup0B K (He.dflAt ("Net", some "__init__") 0 K)]
def hexs : List (List (PySem.W.Frag → Bool)) := [hex0, hex1, hex2, hex3]
def hln0 : List Str := ["_wall", "__name__", "LETTERS", "DIGITS", "LONGEST_NAME", "MOST_DIGITS", "MOST_ARGUMENTS", "is_integer", "is_name", "is_list", "is_pair", "is_term_row", "is_terms", "parse_integer", "NetError", "MissingError", "StateError", "InvalidPart", "InvalidName", "Duplicate", "InvalidRow", "InvalidEdge", "Ring", "Dry", "Idle", "InvalidTurn", "InvalidString", "UnknownSource", "UnknownGate", "UnknownEdge"]
def hln1 : List Str := ["UnknownTerm", "TooLong", "LONGEST_TEXT", "is_turn", "is_sample_row", "arguments_of", "arguments_of_books", "written", "Book", "Reader", "Table", "arguments_of_terms", "use_order", "extract", "standard", "MOST_EDGES", "need_lists", "need_new", "need_gates", "need_terms", "need_edge", "turn_order", "ring_in", "reached", "need_shape", "Net", "_law_cell", "_law_box", "_law_take", "_law_word"]
def hln2 : List Str := ["_law_is_named", "_law_names_right", "_law_integers_right", "_law_rows", "_law_bent", "_law_are_rows", "_law_terms_right"]
def hln : List Str := hln0 ++ (hln1 ++ (hln2))
abbrev HR : PySem.W.OpenRow := PySem.W.OpenLaw.row PySem.Challenge.rw_toldpast_k02_names_integers_and_lists_of
abbrev hq : Program := PySem.W.view HR.prog [73]
def hcs : List Str := ["NetError", "InvalidName", "Book", "Table", "Net"]
abbrev hk : PySem.W.Hook := Tp.hookB hcs hfn hexs.flatten
def hob (s : PySem.W.SharedT) : He.AlD := Tp.obsB hcs hfn hexs.flatten (HandSHeadRun.getT s)
theorem hob_eq (s : PySem.W.SharedT) : hob s = hk.obs s.abs := Tp.obsB_eq (HandSHeadRun.getT_eq s)
noncomputable abbrev hx (w : World) (os : OsState) : Option PySem.W.SharedT := HandSHeadRun.endF (HandSHeadRun.stepQ (HandSHeadRun.denQ HandSHeadRun.tabQ) HR.prog w) 20000 HR.prog w os
end L02


set_option Elab.async false
set_option linter.all false
set_option maxRecDepth 100000
set_option maxHeartbeats 4000000
set_option pp.deepTerms false
set_option pp.deepTerms.threshold 4
set_option pp.maxSteps 300
namespace L02
open PySem PySem.W PySem.Calls PyProof.Rows L2 Tp
theorem hr_looks (w : World) (os : OsState) : (hx w os).map (fun s => HandSHeadRun.looksF HR.prog (boot_heap w.params) s.abs) = some true := by kernel_rfl
theorem hr_seen (w : World) (os : OsState) : (hx w os).map (fun s => HandSHeadRun.seenQ hq hln (importedModules HR.prog.main.body) (fun s => PySem.W.xlAt hq [] s && PySem.W.recOk HR.toRowW.records s) s.abs) = some (PySem.W.openGood hq hln) := by kernel_rfl
theorem hr_e0 (w : World) (os : OsState) : (hx w os).map (fun s => Tp.withK (HandSHeadRun.getT s) hcs (hfn.map He.DefD.at_) fun K => hex0.all fun f => f K) = some true := by kernel_rfl
theorem hr_e1 (w : World) (os : OsState) : (hx w os).map (fun s => Tp.withK (HandSHeadRun.getT s) hcs (hfn.map He.DefD.at_) fun K => hex1.all fun f => f K) = some true := by kernel_rfl
theorem hr_e2 (w : World) (os : OsState) : (hx w os).map (fun s => Tp.withK (HandSHeadRun.getT s) hcs (hfn.map He.DefD.at_) fun K => hex2.all fun f => f K) = some true := by kernel_rfl
theorem hr_e3 (w : World) (os : OsState) : (hx w os).map (fun s => Tp.withK (HandSHeadRun.getT s) hcs (hfn.map He.DefD.at_) fun K => hex3.all fun f => f K) = some true := by kernel_rfl
theorem hr_ok (w : World) (os : OsState) : (hx w os).map (fun s => Tp.withK (HandSHeadRun.getT s) hcs (hfn.map He.DefD.at_) fun K => hfn.all fun d => d.ok K) = some true := by kernel_rfl
theorem hr_v (w : World) (os : OsState) : (hx w os).map (fun s => Tp.withK (HandSHeadRun.getT s) hcs (hfn.map He.DefD.at_) fun K => hfn.map fun d => He.fnW K d.at_) = some (hfn.map He.DefD.val) := by kernel_rfl
end L02


set_option Elab.async false
set_option linter.all false
set_option maxRecDepth 100000
set_option maxHeartbeats 4000000
set_option pp.deepTerms false
set_option pp.deepTerms.threshold 4
set_option pp.maxSteps 300
namespace L02
open PySem L2 Tp
theorem all_mk {l : PySem.W.OpenLaw} {w : World} {K : PySem.W.Frag} {h : Heap} {mg : Str → Option Value} {fa : Addr} (X : K.In h) (G : h.Ns mainGlobals mg) (hfa : mg "law" = some (.ref fa)) (c : Tp.SaysB hfn hexs.flatten K)
    : ∃ fd : FuncData, (∀ (s : Shared) (v : Value), BindsTo s fd ⟨[v], []⟩ [("_law_script", v)]) ∧ ∀ base : Heap, K.In base → base.Ns mainGlobals mg → Tp.FnG l.prog w K mg base CX0 9 fa fd ["_law_script"] (spLaw K) := by
  have a0 : PySem.W.findIn K (.ref (He.ga K "InvalidName")) "__init__" = some (some (.ref (He.ma K (He.ga K "InvalidName") "__init__"))) := of_decide_eq_true (c.factP 0 0 rfl rfl)
  have g1 := He.glo_ok X G (c.factP 0 1 rfl rfl)
  have g2 := He.glo_ok X G (c.factP 0 2 rfl rfl)
  have g3 := He.glo_ok X G (c.factP 0 3 rfl rfl)
  have g4 := He.glo_ok X G (c.factP 0 4 rfl rfl)
  have g5 := He.glo_ok X G (c.factP 0 5 rfl rfl)
  have g6 := He.glo_ok X G (c.factP 0 6 rfl rfl)
  have a7 : PySem.W.findIn K (.ref (He.ga K "Book")) "__init__" = some (some (.ref (He.ma K (He.ga K "Book") "__init__"))) := of_decide_eq_true (c.factP 0 7 rfl rfl)
  have fn7 : PySem.W.isFn K (.ref (He.fAd K ("Book", some "__init__"))) = true := (c.factP 0 8 rfl rfl)
  have a8 : PySem.W.findIn K (.ref (He.ga K "Table")) "__init__" = some (some (.ref (He.ma K (He.ga K "Table") "__init__"))) := of_decide_eq_true (c.factP 0 9 rfl rfl)
  have fn8 : PySem.W.isFn K (.ref (He.fAd K ("Table", some "__init__"))) = true := (c.factP 0 10 rfl rfl)
  have a9 : PySem.W.findIn K (.ref (He.ga K "Table")) "put_rows" = some (some (.ref (He.ma K (He.ga K "Table") "put_rows"))) := of_decide_eq_true (c.factP 0 11 rfl rfl)
  have fn9 : PySem.W.isFn K (.ref (He.fAd K ("Table", some "put_rows"))) = true := (c.factP 0 12 rfl rfl)
  have a10 : PySem.W.findIn K (.ref (He.ga K "Table")) "table_rows" = some (some (.ref (He.ma K (He.ga K "Table") "table_rows"))) := of_decide_eq_true (c.factP 0 13 rfl rfl)
  have fn10 : PySem.W.isFn K (.ref (He.fAd K ("Table", some "table_rows"))) = true := (c.factP 0 14 rfl rfl)
  have g11 := He.glo_ok X G (c.factP 0 15 rfl rfl)
  have g12 := He.glo_ok X G (c.factP 0 16 rfl rfl)
  have g13 := He.glo_ok X G (c.factP 0 17 rfl rfl)
  have g14 := He.glo_ok X G (c.factP 0 18 rfl rfl)
  have g15 := He.glo_ok X G (c.factP 0 19 rfl rfl)
  have g16 := He.glo_ok X G (c.factP 0 20 rfl rfl)
  have g17 := He.glo_ok X G (c.factP 0 21 rfl rfl)
  have g18 := He.glo_ok X G (c.factP 0 22 rfl rfl)
  have g19 := He.glo_ok X G (c.factP 0 23 rfl rfl)
  have a20 : PySem.W.findIn K (.ref (He.ga K "Net")) "__init__" = some (some (.ref (He.ma K (He.ga K "Net") "__init__"))) := of_decide_eq_true (c.factP 0 24 rfl rfl)
  have fn20 : PySem.W.isFn K (.ref (He.fAd K ("Net", some "__init__"))) = true := (c.factP 0 25 rfl rfl)
  have g21 := He.glo_ok X G (c.factP 0 26 rfl rfl)
  have g22 := He.glo_ok X G (c.factP 0 27 rfl rfl)
  have g23 := He.glo_ok X G (c.factP 0 28 rfl rfl)
  have g24 := He.glo_ok X G (c.factP 0 29 rfl rfl)
  have g25 := He.glo_ok X G (c.factP 0 30 rfl rfl)
  have g26 := He.glo_ok X G (c.factP 0 31 rfl rfl)
  have g27 := He.glo_ok X G (c.factP 0 32 rfl rfl)
  have g28 := He.glo_ok X G (c.factP 0 33 rfl rfl)
  have g29 := He.glo_ok X G (c.factP 0 34 rfl rfl)
  have g30 := He.glo_ok X G (c.factP 0 35 rfl rfl)
  have g31 := He.glo_ok X G (c.factP 0 36 rfl rfl)
  have g32 := He.glo_ok X G (c.factP 0 37 rfl rfl)
  have m_LETTERS := He.str_ok X G (c.factP 0 38 rfl rfl)
  have m_DIGITS := He.str_ok X G (c.factP 0 39 rfl rfl)
  have m_LONGEST_NAME := He.int_ok X G (c.factP 1 0 rfl rfl)
  have m_MOST_ARGUMENTS := He.int_ok X G (c.factP 1 1 rfl rfl)
  have z_len := He.free_ok X G (c.factP 1 2 rfl rfl)
  have z_max := He.free_ok X G (c.factP 1 3 rfl rfl)
  have z_min := He.free_ok X G (c.factP 1 4 rfl rfl)
  have z_isinstance := He.free_ok X G (c.factP 1 5 rfl rfl)
  have z_str := He.free_ok X G (c.factP 1 6 rfl rfl)
  have z_int := He.free_ok X G (c.factP 1 7 rfl rfl)
  have z_all := He.free_ok X G (c.factP 1 8 rfl rfl)
  have z_range := He.free_ok X G (c.factP 1 9 rfl rfl)
  have z_repr := He.free_ok X G (c.factP 1 10 rfl rfl)
  have z_list := He.free_ok X G (c.factP 1 11 rfl rfl)
  have z_tuple := He.free_ok X G (c.factP 1 12 rfl rfl)
  have z_bool := He.free_ok X G (c.factP 1 13 rfl rfl)
  have z_enumerate := He.free_ok X G (c.factP 1 14 rfl rfl)
  have aCNetError := He.glo_ok X G (c.factP 1 15 rfl rfl)
  have bgNetError : PySem.W.specialIn K (.ref (He.ga K "NetError")) "__getattribute__" = some (some (.builtin "type.__getattribute__")) := of_decide_eq_true (c.factP 1 16 rfl rfl)
  have brNetError : PySem.W.readsIn K (He.ga K "NetError") (.type "type") = true := (c.factP 1 17 rfl rfl)
  have bfNetError := Tp.clsB_ok (c.factP 1 18 rfl rfl)
  have bhNetError : PySem.W.hasDictIn K (He.ga K "NetError") = true := (c.factP 1 19 rfl rfl)
  have btNetError : PySem.W.typeIn K (.ref (He.ga K "NetError")) = some (.type "type") := of_decide_eq_true (c.factP 1 20 rfl rfl)
  have beNetError : PySem.W.subIn K (.ref (He.ga K "NetError")) (.type "BaseException") = some true := of_decide_eq_true (c.factP 1 21 rfl rfl)
  have aCInvalidName := He.glo_ok X G (c.factP 1 22 rfl rfl)
  have xLInvalidName := Tp.excB_ok (c.factP 1 23 rfl rfl)
  have saInvalidName : PySem.W.findIn K (.ref (He.ga K "InvalidName")) "__setattr__" = some (some (.builtin "object.__setattr__")) := of_decide_eq_true (c.factP 1 24 rfl rfl)
  have gaInvalidName : PySem.W.findIn K (.ref (He.ga K "InvalidName")) "__getattribute__" = some (some (.builtin "BaseException.__getattribute__")) := of_decide_eq_true (c.factP 1 25 rfl rfl)
  have ggInvalidName : PySem.W.findIn K (.ref (He.ga K "InvalidName")) "__getattr__" = some none := of_decide_eq_true (c.factP 1 26 rfl rfl)
  have nbInvalidName : PySem.W.findIn K (.ref (He.ga K "InvalidName")) "value" = some none := of_decide_eq_true (c.factP 1 27 rfl rfl)
  have kCInvalidName : PySem.W.keepIn K (.ref (He.ga K "InvalidName")) = true := (c.factP 1 28 rfl rfl)
  have eCInvalidName : PySem.W.subIn K (.ref (He.ga K "InvalidName")) (.type "BaseException") = some true := of_decide_eq_true (c.factP 1 29 rfl rfl)
  have tCInvalidName : PySem.W.typeIn K (.ref (He.ga K "InvalidName")) = some (.type "type") := of_decide_eq_true (c.factP 1 30 rfl rfl)
  have hCInvalidName : PySem.W.hasDictIn K (He.ga K "InvalidName") = true := (c.factP 1 31 rfl rfl)
  have caInvalidName : PySem.W.findIn K (.ref (He.ga K "InvalidName")) "__class__" = some (some (.builtin "object.__class__")) := of_decide_eq_true (c.factP 1 32 rfl rfl)
  have cmInvalidName : PySem.W.mroIn K (He.ga K "InvalidName") (.type "object") = some true := of_decide_eq_true (c.factP 1 33 rfl rfl)
  have tIInvalidName : PySem.W.typeIn K (.ref (He.fAd K ("InvalidName", some "__init__"))) = some (.type "function") := of_decide_eq_true (c.factP 1 34 rfl rfl)
  have aCBook := He.glo_ok X G (c.factP 1 35 rfl rfl)
  have pgBook : PySem.W.plainGet K (He.ga K "Book") Str.empty = true := (c.factP 1 36 rfl rfl)
  have hdBook : PySem.W.hasDictIn K (He.ga K "Book") = true := (c.factP 1 37 rfl rfl)
  have poBook : PySem.W.plainOver K (He.ga K "Book") = true := (c.factP 1 38 rfl rfl)
  have saBook : PySem.W.findIn K (.ref (He.ga K "Book")) "__setattr__" = some (some (.builtin "object.__setattr__")) := of_decide_eq_true (c.factP 1 39 rfl rfl)
  have mkBook : PySem.W.makesIn K (He.ga K "Book") = true := (c.factP 2 0 rfl rfl)
  have kcBook : PySem.W.keepIn K (.ref (He.ga K "Book")) = true := (c.factP 2 1 rfl rfl)
  have caBook : PySem.W.findIn K (.ref (He.ga K "Book")) "__class__" = some (some (.builtin "object.__class__")) := of_decide_eq_true (c.factP 2 2 rfl rfl)
  have cmBook : PySem.W.mroIn K (He.ga K "Book") (.type "object") = some true := of_decide_eq_true (c.factP 2 3 rfl rfl)
  have tyBook : PySem.W.typeIn K (.ref (He.ga K "Book")) = some (.type "type") := of_decide_eq_true (c.factP 2 4 rfl rfl)
  have nBookheld : PySem.W.findIn K (.ref (He.ga K "Book")) "held" = some none := of_decide_eq_true (c.factP 2 5 rfl rfl)
  have nBooknumbers : PySem.W.findIn K (.ref (He.ga K "Book")) "numbers" = some none := of_decide_eq_true (c.factP 2 6 rfl rfl)
  have kiBookstr : PySem.W.subIn K (.ref (He.ga K "Book")) (.type "str") = some false := of_decide_eq_true (c.factP 2 7 rfl rfl)
  have kiBookint : PySem.W.subIn K (.ref (He.ga K "Book")) (.type "int") = some false := of_decide_eq_true (c.factP 2 8 rfl rfl)
  have kiBooklist : PySem.W.subIn K (.ref (He.ga K "Book")) (.type "list") = some false := of_decide_eq_true (c.factP 2 9 rfl rfl)
  have kiBooktuple : PySem.W.subIn K (.ref (He.ga K "Book")) (.type "tuple") = some false := of_decide_eq_true (c.factP 2 10 rfl rfl)
  have kiBookdict : PySem.W.subIn K (.ref (He.ga K "Book")) (.type "dict") = some false := of_decide_eq_true (c.factP 2 11 rfl rfl)
  have kiBookbool : PySem.W.subIn K (.ref (He.ga K "Book")) (.type "bool") = some false := of_decide_eq_true (c.factP 2 12 rfl rfl)
  have aCTable := He.glo_ok X G (c.factP 2 13 rfl rfl)
  have pgTable : PySem.W.plainGet K (He.ga K "Table") Str.empty = true := (c.factP 2 14 rfl rfl)
  have hdTable : PySem.W.hasDictIn K (He.ga K "Table") = true := (c.factP 2 15 rfl rfl)
  have poTable : PySem.W.plainOver K (He.ga K "Table") = true := (c.factP 2 16 rfl rfl)
  have saTable : PySem.W.findIn K (.ref (He.ga K "Table")) "__setattr__" = some (some (.builtin "object.__setattr__")) := of_decide_eq_true (c.factP 2 17 rfl rfl)
  have mkTable : PySem.W.makesIn K (He.ga K "Table") = true := (c.factP 2 18 rfl rfl)
  have kcTable : PySem.W.keepIn K (.ref (He.ga K "Table")) = true := (c.factP 2 19 rfl rfl)
  have caTable : PySem.W.findIn K (.ref (He.ga K "Table")) "__class__" = some (some (.builtin "object.__class__")) := of_decide_eq_true (c.factP 2 20 rfl rfl)
  have cmTable : PySem.W.mroIn K (He.ga K "Table") (.type "object") = some true := of_decide_eq_true (c.factP 2 21 rfl rfl)
  have tyTable : PySem.W.typeIn K (.ref (He.ga K "Table")) = some (.type "type") := of_decide_eq_true (c.factP 2 22 rfl rfl)
  have nTableown_rows : PySem.W.findIn K (.ref (He.ga K "Table")) "own_rows" = some none := of_decide_eq_true (c.factP 2 23 rfl rfl)
  have nTableown_numbers : PySem.W.findIn K (.ref (He.ga K "Table")) "own_numbers" = some none := of_decide_eq_true (c.factP 2 24 rfl rfl)
  have kiTablestr : PySem.W.subIn K (.ref (He.ga K "Table")) (.type "str") = some false := of_decide_eq_true (c.factP 2 25 rfl rfl)
  have kiTableint : PySem.W.subIn K (.ref (He.ga K "Table")) (.type "int") = some false := of_decide_eq_true (c.factP 2 26 rfl rfl)
  have kiTablelist : PySem.W.subIn K (.ref (He.ga K "Table")) (.type "list") = some false := of_decide_eq_true (c.factP 2 27 rfl rfl)
  have kiTabletuple : PySem.W.subIn K (.ref (He.ga K "Table")) (.type "tuple") = some false := of_decide_eq_true (c.factP 2 28 rfl rfl)
  have kiTabledict : PySem.W.subIn K (.ref (He.ga K "Table")) (.type "dict") = some false := of_decide_eq_true (c.factP 2 29 rfl rfl)
  have kiTablebool : PySem.W.subIn K (.ref (He.ga K "Table")) (.type "bool") = some false := of_decide_eq_true (c.factP 2 30 rfl rfl)
  have aCNet := He.glo_ok X G (c.factP 2 31 rfl rfl)
  have pgNet : PySem.W.plainGet K (He.ga K "Net") Str.empty = true := (c.factP 2 32 rfl rfl)
  have hdNet : PySem.W.hasDictIn K (He.ga K "Net") = true := (c.factP 2 33 rfl rfl)
  have poNet : PySem.W.plainOver K (He.ga K "Net") = true := (c.factP 2 34 rfl rfl)
  have saNet : PySem.W.findIn K (.ref (He.ga K "Net")) "__setattr__" = some (some (.builtin "object.__setattr__")) := of_decide_eq_true (c.factP 2 35 rfl rfl)
  have mkNet : PySem.W.makesIn K (He.ga K "Net") = true := (c.factP 2 36 rfl rfl)
  have kcNet : PySem.W.keepIn K (.ref (He.ga K "Net")) = true := (c.factP 2 37 rfl rfl)
  have caNet : PySem.W.findIn K (.ref (He.ga K "Net")) "__class__" = some (some (.builtin "object.__class__")) := of_decide_eq_true (c.factP 2 38 rfl rfl)
  have cmNet : PySem.W.mroIn K (He.ga K "Net") (.type "object") = some true := of_decide_eq_true (c.factP 2 39 rfl rfl)
  have tyNet : PySem.W.typeIn K (.ref (He.ga K "Net")) = some (.type "type") := of_decide_eq_true (c.factP 3 0 rfl rfl)
  have nNetown_terms : PySem.W.findIn K (.ref (He.ga K "Net")) "own_terms" = some none := of_decide_eq_true (c.factP 3 1 rfl rfl)
  have nNetown_inputs : PySem.W.findIn K (.ref (He.ga K "Net")) "own_inputs" = some none := of_decide_eq_true (c.factP 3 2 rfl rfl)
  have nNetown_gates : PySem.W.findIn K (.ref (He.ga K "Net")) "own_gates" = some none := of_decide_eq_true (c.factP 3 3 rfl rfl)
  have nNetown_outs : PySem.W.findIn K (.ref (He.ga K "Net")) "own_outs" = some none := of_decide_eq_true (c.factP 3 4 rfl rfl)
  have nNetown_rows : PySem.W.findIn K (.ref (He.ga K "Net")) "own_rows" = some none := of_decide_eq_true (c.factP 3 5 rfl rfl)
  have nNetown_order : PySem.W.findIn K (.ref (He.ga K "Net")) "own_order" = some none := of_decide_eq_true (c.factP 3 6 rfl rfl)
  have kiNetstr : PySem.W.subIn K (.ref (He.ga K "Net")) (.type "str") = some false := of_decide_eq_true (c.factP 3 7 rfl rfl)
  have kiNetint : PySem.W.subIn K (.ref (He.ga K "Net")) (.type "int") = some false := of_decide_eq_true (c.factP 3 8 rfl rfl)
  have kiNetlist : PySem.W.subIn K (.ref (He.ga K "Net")) (.type "list") = some false := of_decide_eq_true (c.factP 3 9 rfl rfl)
  have kiNettuple : PySem.W.subIn K (.ref (He.ga K "Net")) (.type "tuple") = some false := of_decide_eq_true (c.factP 3 10 rfl rfl)
  have kiNetdict : PySem.W.subIn K (.ref (He.ga K "Net")) (.type "dict") = some false := of_decide_eq_true (c.factP 3 11 rfl rfl)
  have kiNetbool : PySem.W.subIn K (.ref (He.ga K "Net")) (.type "bool") = some false := of_decide_eq_true (c.factP 3 12 rfl rfl)
  have ccn : PySem.W.specialIn K (.builtin "object.__class__") "__get__" = some (some (.builtin "getset_descriptor.__get__")) := of_decide_eq_true (c.factP 3 13 rfl rfl)
  have cct : PySem.W.takesIn K (.builtin "object.__class__") = some true := of_decide_eq_true (c.factP 3 14 rfl rfl)
  have kxN : PySem.W.subIn K (.ref (He.ga K "InvalidName")) (.type "str") = some false := of_decide_eq_true (c.factP 3 15 rfl rfl)
  obtain ⟨_, _, _, lE⟩ := Tp.tup0B_ok (c.factP 3 16 rfl rfl)
  obtain ⟨_, _, _, lN⟩ := Tp.tup0B_ok (c.factP 3 17 rfl rfl)
  have e := hfa.symm.trans g32
  cases e
  obtain ⟨fd0, G0⟩ := c.def_ 0 (d := hd0) rfl
  have F0 : Fun K "__init__" "InvalidName.__init__" scXName_st (He.fAd K ("InvalidName", some "__init__")) fd0 := Tp.fun_of G0
  have b0 := F0.binds (ps := ["self", "value"]) fun _ _ _ _ _ _ us hl => match us, hl with | [_, _], _ => rfl
  have k0 := F0.kp
  obtain ⟨fd1, G1⟩ := c.def_ 1 (d := hd1) rfl
  have F1 : Fun K "is_integer" "is_integer" scIsInt_st (He.fAd K ("is_integer", none)) fd1 := Tp.fun_of G1
  have b1 := F1.binds (ps := ["value", "low", "high"]) fun _ _ _ _ _ _ us hl => match us, hl with | [_, _, _], _ => rfl
  have k1 := F1.kp
  obtain ⟨fd2, G2⟩ := c.def_ 2 (d := hd2) rfl
  have F2 : Fun K "is_name" "is_name" scIsName_st (He.fAd K ("is_name", none)) fd2 := Tp.fun_of G2
  have b2 := F2.binds (ps := ["value"]) fun _ _ _ _ _ _ us hl => match us, hl with | [_], _ => rfl
  have k2 := F2.kp
  obtain ⟨fd3, G3⟩ := c.def_ 3 (d := hd3) rfl
  have F3 : Fun K "is_list" "is_list" scIsList_st (He.fAd K ("is_list", none)) fd3 := Tp.fun_of G3
  have b3 := F3.binds (ps := ["value"]) fun _ _ _ _ _ _ us hl => match us, hl with | [_], _ => rfl
  have k3 := F3.kp
  obtain ⟨fd4, G4⟩ := c.def_ 4 (d := hd4) rfl
  have F4 : Fun K "is_pair" "is_pair" scIsPair_st (He.fAd K ("is_pair", none)) fd4 := Tp.fun_of G4
  have b4 := F4.binds (ps := ["value"]) fun _ _ _ _ _ _ us hl => match us, hl with | [_], _ => rfl
  have k4 := F4.kp
  obtain ⟨fd5, G5⟩ := c.def_ 5 (d := hd5) rfl
  have F5 : Fun K "is_term_row" "is_term_row" scIsTRow_st (He.fAd K ("is_term_row", none)) fd5 := Tp.fun_of G5
  have b5 := F5.binds (ps := ["value", "many"]) fun _ _ _ _ _ _ us hl => match us, hl with | [_, _], _ => rfl
  have k5 := F5.kp
  obtain ⟨fd6, G6⟩ := c.def_ 6 (d := hd6) rfl
  have F6 : Fun K "is_terms" "is_terms" scIsTerms_st (He.fAd K ("is_terms", none)) fd6 := Tp.fun_of G6
  have b6 := F6.binds (ps := ["value"]) fun _ _ _ _ _ _ us hl => match us, hl with | [_], _ => rfl
  have k6 := F6.kp
  obtain ⟨fd7, F7⟩ := c.def_ 7 (d := hd7) rfl
  have k7 := F7.kp
  obtain ⟨fd8, G8⟩ := c.def_ 8 (d := hd8) rfl
  have F8 : Fun K "__init__" "Table.__init__" scTableInit_st (He.fAd K ("Table", some "__init__")) fd8 := Tp.fun_of G8
  have b8 := F8.binds (ps := ["self"]) fun _ _ _ _ _ _ us hl => match us, hl with | [_], _ => rfl
  have k8 := F8.kp
  obtain ⟨fd9, G9⟩ := c.def_ 9 (d := hd9) rfl
  have F9 : Fun K "put_rows" "Table.put_rows" scPutRows_st (He.fAd K ("Table", some "put_rows")) fd9 := Tp.fun_of G9
  have b9 := F9.binds (ps := ["self", "rows"]) fun _ _ _ _ _ _ us hl => match us, hl with | [_, _], _ => rfl
  have k9 := F9.kp
  obtain ⟨fd10, G10⟩ := c.def_ 10 (d := hd10) rfl
  have F10 : Fun K "table_rows" "Table.table_rows" scTableRows_st (He.fAd K ("Table", some "table_rows")) fd10 := Tp.fun_of G10
  have b10 := F10.binds (ps := ["self"]) fun _ _ _ _ _ _ us hl => match us, hl with | [_], _ => rfl
  have k10 := F10.kp
  obtain ⟨fd11, G11⟩ := c.def_ 11 (d := hd11) rfl
  have F11 : Fun K "use_order" "use_order" scUseOrder_st (He.fAd K ("use_order", none)) fd11 := Tp.fun_of G11
  have b11 := F11.binds (ps := ["rows", "roots"]) fun _ _ _ _ _ _ us hl => match us, hl with | [_, _], _ => rfl
  have k11 := F11.kp
  obtain ⟨fd12, G12⟩ := c.def_ 12 (d := hd12) rfl
  have F12 : Fun K "extract" "extract" scExtract_st (He.fAd K ("extract", none)) fd12 := Tp.fun_of G12
  have b12 := F12.binds (ps := ["rows", "roots"]) fun _ _ _ _ _ _ us hl => match us, hl with | [_, _], _ => rfl
  have k12 := F12.kp
  obtain ⟨fd13, G13⟩ := c.def_ 13 (d := hd13) rfl
  have F13 : Fun K "standard" "standard" scStandard_st (He.fAd K ("standard", none)) fd13 := Tp.fun_of G13
  have b13 := F13.binds (ps := ["rows", "roots"]) fun _ _ _ _ _ _ us hl => match us, hl with | [_, _], _ => rfl
  have k13 := F13.kp
  obtain ⟨fd14, G14⟩ := c.def_ 14 (d := hd14) rfl
  have F14 : Fun K "need_lists" "need_lists" scNeedLists_st (He.fAd K ("need_lists", none)) fd14 := Tp.fun_of G14
  have b14 := F14.binds (ps := ["parts"]) fun _ _ _ _ _ _ us hl => match us, hl with | [_], _ => rfl
  have k14 := F14.kp
  obtain ⟨fd15, G15⟩ := c.def_ 15 (d := hd15) rfl
  have F15 : Fun K "need_gates" "need_gates" scNeedGates_st (He.fAd K ("need_gates", none)) fd15 := Tp.fun_of G15
  have b15 := F15.binds (ps := ["gates", "known"]) fun _ _ _ _ _ _ us hl => match us, hl with | [_, _], _ => rfl
  have k15 := F15.kp
  obtain ⟨fd16, G16⟩ := c.def_ 16 (d := hd16) rfl
  have F16 : Fun K "need_terms" "need_terms" scNeedTerms_st (He.fAd K ("need_terms", none)) fd16 := Tp.fun_of G16
  have b16 := F16.binds (ps := ["terms"]) fun _ _ _ _ _ _ us hl => match us, hl with | [_], _ => rfl
  have k16 := F16.kp
  obtain ⟨fd17, G17⟩ := c.def_ 17 (d := hd17) rfl
  have F17 : Fun K "turn_order" "turn_order" scTurnOrder_st (He.fAd K ("turn_order", none)) fd17 := Tp.fun_of G17
  have b17 := F17.binds (ps := ["gates"]) fun _ _ _ _ _ _ us hl => match us, hl with | [_], _ => rfl
  have k17 := F17.kp
  obtain ⟨fd18, G18⟩ := c.def_ 18 (d := hd18) rfl
  have F18 : Fun K "reached" "reached" scReached_st (He.fAd K ("reached", none)) fd18 := Tp.fun_of G18
  have b18 := F18.binds (ps := ["pairs", "begins"]) fun _ _ _ _ _ _ us hl => match us, hl with | [_, _], _ => rfl
  have k18 := F18.kp
  obtain ⟨fd19, G19⟩ := c.def_ 19 (d := hd19) rfl
  have F19 : Fun K "need_shape" "need_shape" scNeedShape_st (He.fAd K ("need_shape", none)) fd19 := Tp.fun_of G19
  have b19 := F19.binds (ps := ["inputs", "gates", "outs"]) fun _ _ _ _ _ _ us hl => match us, hl with | [_, _, _], _ => rfl
  have k19 := F19.kp
  obtain ⟨fd20, F20⟩ := c.def_ 20 (d := hd20) rfl
  have k20 := F20.kp
  obtain ⟨fd21, G21⟩ := c.def_ 21 (d := hd21) rfl
  have F21 : Fun K "_law_cell" "_law_cell" scCell_st (He.fAd K ("_law_cell", none)) fd21 := Tp.fun_of G21
  have b21 := F21.binds (ps := ["_law_script", "_law_k"]) fun _ _ _ _ _ _ us hl => match us, hl with | [_, _], _ => rfl
  have k21 := F21.kp
  obtain ⟨fd22, G22⟩ := c.def_ 22 (d := hd22) rfl
  have F22 : Fun K "_law_box" "_law_box" scBox_st (He.fAd K ("_law_box", none)) fd22 := Tp.fun_of G22
  have b22 := F22.binds (ps := ["_law_cell_here"]) fun _ _ _ _ _ _ us hl => match us, hl with | [_], _ => rfl
  have k22 := F22.kp
  obtain ⟨fd23, G23⟩ := c.def_ 23 (d := hd23) rfl
  have F23 : Fun K "_law_take" "_law_take" scTake_st (He.fAd K ("_law_take", none)) fd23 := Tp.fun_of G23
  have b23 := F23.binds (ps := ["_law_box_here", "_law_many"]) fun _ _ _ _ _ _ us hl => match us, hl with | [_, _], _ => rfl
  have k23 := F23.kp
  obtain ⟨fd24, G24⟩ := c.def_ 24 (d := hd24) rfl
  have F24 : Fun K "_law_word" "_law_word" scWord_st (He.fAd K ("_law_word", none)) fd24 := Tp.fun_of G24
  have b24 := F24.binds (ps := ["_law_box_here", "_law_longest"]) fun _ _ _ _ _ _ us hl => match us, hl with | [_, _], _ => rfl
  have k24 := F24.kp
  obtain ⟨fd25, G25⟩ := c.def_ 25 (d := hd25) rfl
  have F25 : Fun K "_law_is_named" "_law_is_named" scNamed_st (He.fAd K ("_law_is_named", none)) fd25 := Tp.fun_of G25
  have b25 := F25.binds (ps := ["_law_word_here"]) fun _ _ _ _ _ _ us hl => match us, hl with | [_], _ => rfl
  have k25 := F25.kp
  obtain ⟨fd26, G26⟩ := c.def_ 26 (d := hd26) rfl
  have F26 : Fun K "_law_names_right" "_law_names_right" scNamesR_st (He.fAd K ("_law_names_right", none)) fd26 := Tp.fun_of G26
  have b26 := F26.binds (ps := ["_law_box_here"]) fun _ _ _ _ _ _ us hl => match us, hl with | [_], _ => rfl
  have k26 := F26.kp
  obtain ⟨fd27, G27⟩ := c.def_ 27 (d := hd27) rfl
  have F27 : Fun K "_law_integers_right" "_law_integers_right" scIntsR_st (He.fAd K ("_law_integers_right", none)) fd27 := Tp.fun_of G27
  have b27 := F27.binds (ps := ["_law_box_here"]) fun _ _ _ _ _ _ us hl => match us, hl with | [_], _ => rfl
  have k27 := F27.kp
  obtain ⟨fd28, G28⟩ := c.def_ 28 (d := hd28) rfl
  have F28 : Fun K "_law_rows" "_law_rows" scRows_st (He.fAd K ("_law_rows", none)) fd28 := Tp.fun_of G28
  have b28 := F28.binds (ps := ["_law_box_here"]) fun _ _ _ _ _ _ us hl => match us, hl with | [_], _ => rfl
  have k28 := F28.kp
  obtain ⟨fd29, G29⟩ := c.def_ 29 (d := hd29) rfl
  have F29 : Fun K "_law_bent" "_law_bent" scBent_st (He.fAd K ("_law_bent", none)) fd29 := Tp.fun_of G29
  have b29 := F29.binds (ps := ["_law_box_here", "_law_rows_here"]) fun _ _ _ _ _ _ us hl => match us, hl with | [_, _], _ => rfl
  have k29 := F29.kp
  obtain ⟨fd30, G30⟩ := c.def_ 30 (d := hd30) rfl
  have F30 : Fun K "_law_are_rows" "_law_are_rows" scAreRows_st (He.fAd K ("_law_are_rows", none)) fd30 := Tp.fun_of G30
  have b30 := F30.binds (ps := ["_law_rows_here"]) fun _ _ _ _ _ _ us hl => match us, hl with | [_], _ => rfl
  have k30 := F30.kp
  obtain ⟨fd31, G31⟩ := c.def_ 31 (d := hd31) rfl
  have F31 : Fun K "_law_terms_right" "_law_terms_right" scTermsR_st (He.fAd K ("_law_terms_right", none)) fd31 := Tp.fun_of G31
  have b31 := F31.binds (ps := ["_law_box_here"]) fun _ _ _ _ _ _ us hl => match us, hl with | [_], _ => rfl
  have k31 := F31.kp
  obtain ⟨fd32, G32⟩ := c.def_ 32 (d := hd32) rfl
  have F32 : Fun K "law" "law" scLaw_st (He.fAd K ("law", none)) fd32 := Tp.fun_of G32
  have b32 := F32.binds (ps := ["_law_script"]) fun _ _ _ _ _ _ us hl => match us, hl with | [_], _ => rfl
  have k32 := F32.kp
  have T : Txt K mg ⟨He.fAd K ("InvalidName", some "__init__"), He.fAd K ("is_integer", none), He.fAd K ("is_name", none), He.fAd K ("is_list", none), He.fAd K ("is_pair", none), He.fAd K ("is_term_row", none), He.fAd K ("is_terms", none), He.fAd K ("Book", some "__init__"), He.fAd K ("Table", some "__init__"), He.fAd K ("Table", some "put_rows"), He.fAd K ("Table", some "table_rows"), He.fAd K ("use_order", none), He.fAd K ("extract", none), He.fAd K ("standard", none), He.fAd K ("need_lists", none), He.fAd K ("need_gates", none), He.fAd K ("need_terms", none), He.fAd K ("turn_order", none), He.fAd K ("reached", none), He.fAd K ("need_shape", none), He.fAd K ("Net", some "__init__"), He.fAd K ("_law_cell", none), He.fAd K ("_law_box", none), He.fAd K ("_law_take", none), He.fAd K ("_law_word", none), He.fAd K ("_law_is_named", none), He.fAd K ("_law_names_right", none), He.fAd K ("_law_integers_right", none), He.fAd K ("_law_rows", none), He.fAd K ("_law_bent", none), He.fAd K ("_law_are_rows", none), He.fAd K ("_law_terms_right", none), He.fAd K ("law", none), He.ga K "NetError", He.ga K "InvalidName", He.ga K "Book", He.ga K "Table", He.ga K "Net", He.dflAt ("Book", some "__init__") 0 K, He.dflAt ("Net", some "__init__") 0 K⟩ ⟨fd0, fd1, fd2, fd3, fd4, fd5, fd6, fd7, fd8, fd9, fd10, fd11, fd12, fd13, fd14, fd15, fd16, fd17, fd18, fd19, fd20, fd21, fd22, fd23, fd24, fd25, fd26, fd27, fd28, fd29, fd30, fd31, fd32⟩ := ⟨F0, b0, F1, b1, g1, F2, b2, g2, F3, b3, g3, F4, b4, g4, F5, b5, g5, F6, b6, g6, F7, F8, b8, F9, b9, F10, b10, F11, b11, g11, F12, b12, g12, F13, b13, g13, F14, b14, g14, F15, b15, g15, F16, b16, g16, F17, b17, g17, F18, b18, g18, F19, b19, g19, F20, F21, b21, g21, F22, b22, g22, F23, b23, g23, F24, b24, g24, F25, b25, g25, F26, b26, g26, F27, b27, g27, F28, b28, g28, F29, b29, g29, F30, b30, g30, F31, b31, g31, F32, b32, g32, m_LETTERS, m_DIGITS, m_LONGEST_NAME, m_MOST_ARGUMENTS, z_len, z_max, z_min, z_isinstance, z_str, z_int, z_all, z_range, z_repr, z_list, z_tuple, z_bool, z_enumerate, aCNetError, ⟨bgNetError, brNetError, bfNetError⟩, aCInvalidName, ⟨xLInvalidName, saInvalidName, eCInvalidName, tCInvalidName, kCInvalidName⟩, ⟨gaInvalidName, ggInvalidName, eCInvalidName, hCInvalidName, caInvalidName, ccn, cct, cmInvalidName⟩, ⟨gaInvalidName, ggInvalidName, eCInvalidName, hCInvalidName⟩, nbInvalidName, a0, tIInvalidName, aCBook, ⟨pgBook, hdBook, poBook, saBook⟩, ⟨mkBook, a7, fn7, kcBook⟩, caBook, cmBook, hdBook, tyBook, nBookheld, nBooknumbers, (Tp.kit_own kiBookstr (by decide +kernel)), (Tp.kit_own kiBookint (by decide +kernel)), (Tp.kit_own kiBooklist (by decide +kernel)), (Tp.kit_own kiBooktuple (by decide +kernel)), (Tp.kit_own kiBookdict (by decide +kernel)), (Tp.kit_own kiBookbool (by decide +kernel)), aCTable, ⟨pgTable, hdTable, poTable, saTable⟩, ⟨mkTable, a8, fn8, kcTable⟩, caTable, cmTable, hdTable, tyTable, nTableown_rows, nTableown_numbers, (Tp.kit_own kiTablestr (by decide +kernel)), (Tp.kit_own kiTableint (by decide +kernel)), (Tp.kit_own kiTablelist (by decide +kernel)), (Tp.kit_own kiTabletuple (by decide +kernel)), (Tp.kit_own kiTabledict (by decide +kernel)), (Tp.kit_own kiTablebool (by decide +kernel)), ⟨a9, fn9, k9⟩, ⟨a10, fn10, k10⟩, aCNet, ⟨pgNet, hdNet, poNet, saNet⟩, ⟨mkNet, a20, fn20, kcNet⟩, caNet, cmNet, hdNet, tyNet, nNetown_terms, nNetown_inputs, nNetown_gates, nNetown_outs, nNetown_rows, nNetown_order, (Tp.kit_own kiNetstr (by decide +kernel)), (Tp.kit_own kiNetint (by decide +kernel)), (Tp.kit_own kiNetlist (by decide +kernel)), (Tp.kit_own kiNettuple (by decide +kernel)), (Tp.kit_own kiNetdict (by decide +kernel)), (Tp.kit_own kiNetbool (by decide +kernel)), (Tp.kit_own kxN (by decide +kernel)), ccn, cct, ⟨_, _, lE, rfl, rfl⟩, ⟨_, _, lN, rfl, rfl⟩⟩
  have bl := FunD.bindsA (ps := ["_law_script"]) G32 fun _ _ _ _ _ _ us hl => match us, hl with | [_], _ => rfl
  exact ⟨fd32, fun s v => bl s [v] rfl, fun base _ _ => ok_law T⟩
theorem hrun (w : World) : HandSHeadRun.RunEq HR hq hk hob 20000 hln w := fun os => Tp.run_join (hr_looks w os) (hr_seen w os) ⟨hr_e0 w os, hr_e1 w os, hr_e2 w os, hr_e3 w os, trivial⟩ (hr_ok w os) (hr_v w os)
end L02

open PySem PySem.W PySem.Calls PyProof.Rows in
set_option maxRecDepth 100000 in
set_option maxHeartbeats 0 in
theorem PySem.Challenge.cw_toldpast_k02_names_integers_and_lists_of_holds : PySem.Challenge.rw_toldpast_k02_names_integers_and_lists_of.Holds := by
  w_on; o_law
  refine HandSHeadRun.head_any (r := OpenLaw.row PySem.Challenge.rw_toldpast_k02_names_integers_and_lists_of) (q := L02.hq) (H := L02.hk) (ob := L02.hob) (M := 20000) (loose := L02.hln) (d := HandSHeadRun.topDef (OpenLaw.row PySem.Challenge.rw_toldpast_k02_names_integers_and_lists_of).prog 73) (kwd := []) L02.hob_eq
    (by kernel_rfl) (fun s => by kernel_rfl) L02.hrun (by kernel_rfl) (by kernel_rfl) (by kernel_rfl) (by rfl) (by first | assumption | decide +kernel) (by decide +kernel) ⟨rfl, rfl, rfl, rfl, rfl, by decide +kernel⟩ ?hw ?hc
  case hw => w_witness2
  case hc =>
    refine Tp.walkSE (l := PySem.Challenge.rw_toldpast_k02_names_integers_and_lists_of) (n := 63) (k := 9) (x := "_law_script") (sp := L02.spLaw) rfl (by decide) (by kernel_rfl) (by decide +kernel) ⟨rfl, by decide, by decide⟩ ?F (fun K H a ns hl hs hS => ⟨a, ns, rfl, hs, hS, hl, fun _ => rfl⟩)
    intro w mg fa h Y G hmg0
    obtain ⟨K, KX, c⟩ := Y
    have hmg : mg ("law" : PySem.Str) = some (.ref fa) := by
      have e : (HandSHeadRun.topDef (OpenLaw.row PySem.Challenge.rw_toldpast_k02_names_integers_and_lists_of).prog 73).name = ("law" : PySem.Str) := by kernel_rfl
      rw [← e]
      exact hmg0
    obtain ⟨fd, hb, hF⟩ := L02.all_mk (l := PySem.Challenge.rw_toldpast_k02_names_integers_and_lists_of) (w := w) KX G hmg c
    exact ⟨K, fd, KX, hb, hF⟩


