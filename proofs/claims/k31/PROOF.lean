import PyProof.Rows.All
import Wide.All
import OpenK.AllK
import Wide.FinOn
import HandS.ForMost
import HandS.Evl
import HandS.Defaults
import HandS.IsInst
import HandS.StrMore
import KE.IntTextText
import HandS.Walk
import PyProof.ReprLen
import HandS.ForExc
import HandS.ExcInit
import HandS.ExcField
import HandS.TryMany
import HandS.ExcIs
import HandS.SlotsOwn
import HandS.ExcOwn
import PyProof.InstEq
import HandS.Spec
import HandS.DictComp
import HandS.DeepEq
import HandS.Iter
import HandS.More
import HandS.ListItems
import HandS.Zip
import HandS.AnyAll
import PySem.Challenge.RW_toldpast_k31_rows_of_lags
set_option Elab.async false
set_option linter.all false
set_option maxRecDepth 100000
set_option maxHeartbeats 4000000
/-! Tp: what all laws of this package share: promises that know that no repr runs around (FnG), repr of data, the box of draws -/
namespace Tp
open PySem PySem.Spec PyProof.Rows L2

/-! ### a def's promise where no guard (a repr that runs) stands around -/
structure FnG (P : Program) (w : World) (K : PySem.W.Frag) (mg : Str → Option Value) (base : Heap)
    (CX : CXT) (k : Nat) (f : Addr) (fd : FuncData) (ps : List Str) (sp : Sp) : Prop where
  ar : ∀ vs H Q E, sp vs H Q E → vs.length = ps.length
  go : ∀ (A : Around) (outer : List Env) (s : Shared) (H : Hp) (args : Args) (us : List Value) (vs : List V) (Q : VK) (E : XK),
    Room k A → A.guards = some [] → Env0 P w K mg base A outer s H → BindsTo s fd args (ps.zip us) → Vals vs us → sp vs H Q E →
      codeAny (model P w) A (.call (.ref f) args) (CR CX outer P w H s Q E) s

section
variable {P : Program} {w : World} {K : PySem.W.Frag} {mg : Str → Option Value} {base : Heap} {CX : CXT} {k : Nat} {f : Addr} {fd : FuncData} {ps : List Str} {sp : Sp}
theorem FnG.up {j : Nat} (F : FnG P w K mg base CX j f fd ps sp) (h : j ≤ k) : FnG P w K mg base CX k f fd ps sp :=
  ⟨F.ar, fun A o s H args us vs Q E hr => F.go A o s H args us vs Q E (hr.mono h)⟩
theorem FnG.of (F : FnOk P w K mg base CX k f fd ps sp) : FnG P w K mg base CX k f fd ps sp :=
  ⟨F.len, fun A o s H args us vs Q E hr _ => F.run A o s H args us vs Q E hr⟩

theorem fnG_of {name qual : Str} {params : Arguments} {body : List Stmt} {scope : Scope} {dV kV doc pm cdv ct oc : Value} {an od : Option Addr}
    {osl : Array (Option Value)} {N : List Str}
    (there : K.lookup f = some ⟨oc, od, .func (PySem.W.fnOf name qual params body scope dV kV doc pm an cdv ct), osl⟩)
    (code : PySem.W.codeIn K cdv qual = true) (S : FnScope N ps scope) (ar : ∀ vs H Q E, sp vs H Q E → vs.length = ps.length)
    (bd : ∀ (A : Around) (outer : List Env) (s : Shared) (H : Hp) (vs : List V) (Q : VK) (E : XK),
      Room k (A.deeper (envOfC qual scope s.heap.objs.size f cdv)) → A.guards = some [] → sp vs H Q E →
      ∃ t, PSs (cxOf CX P w K mg base N qual scope f cdv A outer s H E) body t ∧ t { nx := fun _ H' => Q .non H', rt := Q } (start N vs) H) :
    FnG P w K mg base CX (k + 1) f (PySem.W.fnOf name qual params body scope dV kV doc pm an cdv ct) ps sp := by
  refine ⟨ar, fun A outer s H args us vs Q E hr hg e0 hb r hsp => ?_⟩
  have keep : ∀ b o, base.get? b = some o → s.heap.get? b = some o := fun b o e => (e0.bs b o e).1
  have inK : K.In s.heap := e0.mod.kin.keeps keep
  have room : s.heap.NoLimit := e0.mod.nolimit.keeps keep
  have kinds : ∀ y ∈ ps.zip us, scope.names.lookup y.1 = some .local ∨
      (scope.names.lookup y.1 = some .cell ∧ ((cellsFrom (s.heap.objs.size + 1) scope.names []).lookup y.1).isSome = true) := by
    rintro ⟨n, v⟩ hy
    exact (S.par n (List.of_mem_zip hy).1).imp id fun q => ⟨q, PySem.W.cellsFrom_some _ _ _ (.inl q)⟩
  refine codeAny_call_function hr.depth (inK _ _ there) rfl S.co S.gen rfl (PySem.W.codeRec_of inK code) (hb _ _ _ _ ?_)
  refine wpAny_newFunctionEnv_cells S.kind kinds fun env eqE s1 x => ?_
  subst eqE
  refine ⟨room.keeps x.toInCall.keep, codeAny_func ?_⟩
  obtain ⟨t, ht, hq⟩ := bd A outer s H vs Q E (hr.deeper _) hg hsp
  have J0 : Inv (cxOf CX P w K mg base N qual scope f cdv A outer s H E) [] (start N vs) H s1 := inv_start S hr.hd e0 (ar _ _ _ _ hsp) r x
  refine wpAny_mono (ht.run [] s1 (start N vs) H _ J0 hq) (fun fl s' hs => ?_) fun _ _ hs => hs
  cases fl with
  | ret u => obtain ⟨v, σ', H', J, rv, q⟩ := hs; exact ⟨v, H', J.os, J.bare, J.base, J.hok, rv, q⟩
  | next => obtain ⟨σ', H', J, q⟩ := hs; exact ⟨V.non, H', J.os, J.bare, J.base, J.hok, rfl, q⟩
  | brk => obtain ⟨_, _, _, q⟩ := hs; exact q.elim
  | cont => obtain ⟨_, _, _, q⟩ := hs; exact q.elim

/-- a def of the text without defaults -/
theorem okG {x qual : Str} {st : Stmt} {N : List Str} (F : Fun K x qual st f fd) (S : FnScope N ps (defScope st)) (ar : ∀ vs H Q E, sp vs H Q E → vs.length = ps.length)
    (bd : ∀ (cdv : Value) (A : Around) (outer : List Env) (s : Shared) (H : Hp) (vs : List V) (Q : VK) (E : XK),
      Room k (A.deeper (envOfC qual (defScope st) s.heap.objs.size f cdv)) → A.guards = some [] → sp vs H Q E →
      ∃ t, PSs (cxOf CX0 P w K mg base N qual (defScope st) f cdv A outer s H E).nox (defBody st) t ∧ t { nx := fun _ H' => Q .non H', rt := Q } (start N vs) H) :
    FnG P w K mg base CX0 (k + 1) f fd ps sp := by
  obtain ⟨oc, od, kV, doc, pm, an, cdv, ct, osl, rfl, lk, hcd⟩ := F.ex
  refine fnG_of lk hcd S ar fun A outer s H vs Q E hr hg hsp => ?_
  obtain ⟨t, h, q⟩ := bd cdv A outer s H vs Q E hr hg hsp
  exact ⟨t, h.nox, q⟩
/-- a def with defaults -/
theorem okGD {x qual : Str} {st : Stmt} {dvs : List V} {kws : List (Str × V)} {N : List Str} (F : FunD K x qual (defArgs st) (defBody st) (defScope st) dvs kws f fd) (S : FnScope N ps (defScope st))
    (ar : ∀ vs H Q E, sp vs H Q E → vs.length = ps.length)
    (bd : ∀ (cdv : Value) (A : Around) (outer : List Env) (s : Shared) (H : Hp) (vs : List V) (Q : VK) (E : XK),
      Room k (A.deeper (envOfC qual (defScope st) s.heap.objs.size f cdv)) → A.guards = some [] → sp vs H Q E →
      ∃ t, PSs (cxOf CX0 P w K mg base N qual (defScope st) f cdv A outer s H E).nox (defBody st) t ∧ t { nx := fun _ H' => Q .non H', rt := Q } (start N vs) H) :
    FnG P w K mg base CX0 (k + 1) f fd ps sp := by
  obtain ⟨oc, od, dV, kV, doc, pm, an, cdv, ct, osl, rfl, lk, hcd, _, _⟩ := F.ex
  refine fnG_of lk hcd S ar fun A outer s H vs Q E hr hg hsp => ?_
  obtain ⟨t, h, q⟩ := bd cdv A outer s H vs Q E hr hg hsp
  exact ⟨t, h.nox, q⟩
end

/-! ### calls of such defs -/
section
variable {X : Cx} {CX : CXT} {k n : Nat} {f C : Addr} {fd : FuncData} {ps ks : List Str} {sp : Sp} {dvs : List V} {ds : List Value} {E : XK} {x m : Str} {p pos apos : Pos} {e o : Expr} {es : List Expr} {ta : TE} {t tk : TA} {kws : List Keyword}
  {g : List Value → List Value → List Value} {gV : List V → List V → List V}

theorem runG {pins : List (Addr × Obj)} {σ : L2.St} {H : Hp} {s : Shared} {Q : VK} {args : Args} {us : List Value} {vs : List V}
    (F : FnG X.prog X.w X.K X.mg X.base CX k f fd ps sp) (hr : Room k X.A) (hg : X.A.guards = some []) (hx : Passes CX X E) (I : Inv X pins σ H s)
    (hb : BindsTo s fd args (ps.zip us)) (r : Vals vs us) (h : sp vs H Q E) :
    wpAny (model X.prog X.w) X.A (call (.ref f) args.pos args.kw) (EP X pins σ Q) X.xe s := by
  obtain ⟨ap, ak⟩ := args
  refine wpAny_call (codeAny_mono (F.go X.A X.stack s H ⟨ap, ak⟩ us vs Q E hr hg I.env0 hb r h) fun r s' hq => ?_)
  cases r with
  | error e => exact hx pins σ H s e s' I hq
  | ok fl =>
    cases fl with
    | ret u => exact I.after hq
    | _ => exact hq.elim
theorem runG1 {pins : List (Addr × Obj)} {σ : L2.St} {H : Hp} {s : Shared} {Q : VK} {us : List Value} {vs : List V}
    (F : FnG X.prog X.w X.K X.mg X.base CX k f fd ps sp) (hr : Room k X.A) (hg : X.A.guards = some []) (hb : Binds X.K fd ps ds) (hd : Vals dvs ds) (hx : Passes CX X E)
    (I : Inv X pins σ H s) (r : Vals vs us) (h : sp (vs ++ dvs) H Q E) : wpAny (model X.prog X.w) X.A (call (.ref f) us) (EP X pins σ Q) X.xe s := by
  have r2 := r.append hd
  exact runG (args := ⟨us, []⟩) F hr hg hx I (hb s us I.kIn (r2.length.symm.trans (F.ar _ _ _ _ h))) r2 h

theorem pe_callG (F : FnG X.prog X.w X.K X.mg X.base CX k f fd ps sp) (hr : Room k X.A) (hgu : X.A.guards = some []) (hg : Gl X x) (hm : X.mg x = some (.ref f)) (hk : PySem.W.keepIn X.K (.ref f) = true)
    (hb : Binds X.K fd ps ds) (hd : Vals dvs ds) (hx : Passes CX X E) (ha : PA X (e :: es) t) (hdb : (x == ("__debug__" : Str)) = false := by decide)
    (he : starEach (e :: es) X.env = (false, eval e X.env) :: starEach es X.env := by rfl) (hpl : (backTo pos (starEach es X.env)).any (·.1) = false := by rfl) :
    PE X (.Call (.Name x p) (e :: es) [] pos) (tCall sp dvs E t) :=
  ⟨fun pins s σ H Q I h => wpAny_Call_Name_kw (ld_glob I hg hm (PySem.W.callWith_K (h₀ := X.base) I.ok.mod.kin hk
    (thn (ha.run pos pins s σ H _ I h) fun us s1 ⟨vs, H1, I1, r, q⟩ => ⟨I1.kIn, runG1 F hr hgu hb hd hx I1 r q⟩) he hpl) hdb)⟩
theorem pe_callG0 (F : FnG X.prog X.w X.K X.mg X.base CX k f fd ps sp) (hr : Room k X.A) (hgu : X.A.guards = some []) (hg : Gl X x) (hm : X.mg x = some (.ref f)) (hk : PySem.W.keepIn X.K (.ref f) = true)
    (hb : Binds X.K fd ps ds) (hd : Vals dvs ds) (hx : Passes CX X E) (hdb : (x == ("__debug__" : Str)) = false := by decide) : PE X (.Call (.Name x p) [] [] pos) (tCall sp dvs E tNil) :=
  ⟨fun pins s σ H Q I h => wpAny_Call_Name_kw (ld_glob I hg hm (PySem.W.callWith_K0 I.kIn hk (runG1 (us := []) F hr hgu hb hd hx I .nil h)) hdb)⟩
theorem pe_callGN (F : FnG X.prog X.w X.K X.mg X.base CX k f fd ps sp) (hr : Room k X.A) (hgu : X.A.guards = some []) (hg : Gl X x) (hm : X.mg x = some (.ref f)) (hk : PySem.W.keepIn X.K (.ref f) = true)
    (hb : KBn X.K fd ps n ks g gV) (hx : Passes CX X E) (ha : PA X (e :: es) t) (hkw : PK X kws tk)
    (hall : (backToKw pos (keywordEach kws X.env)).all (·.1.isSome) = true := by rfl) (hks : (backToKw pos (keywordEach kws X.env)).filterMap (·.1) = ks := by rfl)
    (hdb : (x == ("__debug__" : Str)) = false := by decide) (he : starEach (e :: es) X.env = (false, eval e X.env) :: starEach es X.env := by rfl)
    (hpl : ((backTo pos (starEach (e :: es) X.env)).any (·.1) || (backToKw pos (keywordEach kws X.env)).any (·.1.isNone)) = false := by rfl) :
    PE X (.Call (.Name x p) (e :: es) kws pos) (tCallN n ks.length sp gV E t tk) :=
  ⟨fun pins s σ H Q I h => wpAny_Call_Name_kw (ld_glob I hg hm (PySem.W.callWith_KW (h₀ := X.base) I.ok.mod.kin hk hall
    (thn (ha.run pos pins s σ H _ I h) fun us s1 ⟨vs, H1, I1, r, q⟩ => thn (hkw.run pos pins s1 σ H1 _ I1 q) fun ws s2 ⟨zs, H2, I2, rz, l1, l2, q2⟩ => ⟨I2.kIn, by
      rw [hks]
      exact runG (args := ⟨us, ks.zip ws⟩) F hr hgu hx I2 (hb.to s2 us ws I2.kIn (r.length.symm.trans l1) (rz.length.symm.trans l2)) (hb.rel r rz) q2⟩) hpl he) hdb)⟩
end

/-! ### repr of data -/
section
variable {X : Cx}
def rRepr (K : PySem.W.Frag) : List V → Hp → VK → Prop := fun xs H Q => ∃ v d, xs = [v] ∧ Dp K H v d ∧ d.showable = true ∧ d.hasDict = false ∧ d.depth ≤ 60 ∧ d.shown.length ≤ sizeLine ∧ Q (.str d.shown) H
theorem call_reprD {k : Nat} (hr : Room k X.A) (hg : X.A.guards = some []) : CallR X (.builtin "repr") (rRepr X.K) := by
  intro pins s σ H xs us Q I r h
  obtain ⟨v, d, rfl, hd, hs, hn, hp, hz, q⟩ := h
  obtain ⟨u, rfl, ru⟩ := vals1 r
  obtain ⟨as, rd⟩ := Dp.reads I d v u hd ru
  have un := hr.un
  have fin : ∀ {z : Str} {s' : Shared} {t : Tok}, Inv X pins σ H s' → d.shown = z → EP X pins σ Q (.str z t) s' := fun J e => ⟨.str d.shown, H, J, ⟨_, by rw [e]⟩, q⟩
  cases hd with
  | non => cases ru; exact PySem.P.repr_of_none (fin (I.tok _) (by simp only [PyData.shown]))
  | bl b => cases ru; exact PySem.P.repr_of_bool (fin (I.tok _) (by simp only [PyData.shown]))
  | int i => obtain ⟨t, rfl⟩ := ru; exact PySem.P.repr_of_int (by simpa [PyData.showable] using hs) (fin (I.tok _) (by simp only [PyData.shown]))
  | str x => obtain ⟨t, rfl⟩ := ru; exact PySem.P.repr_of_str (fin (I.tok _) (by simp only [PyData.shown])) (by simpa only [PyData.shown] using hz)
  | lst _ _ => cases ru; exact repr_of_reads' rd hs (PyData.noDict_hsm hn) hg (by omega) (fun _ _ e => e) (fun h' u tk kp => fin (I.kept kp) rfl) hz
  | tup _ _ => cases ru; exact repr_of_reads' rd hs (PyData.noDict_hsm hn) hg (by omega) (fun _ _ e => e) (fun h' u tk kp => fin (I.kept kp) rfl) hz
end

/-! ### the end of a law -/
section
variable {P : Program} {w : World} {K : PySem.W.Frag} {mg mb : Str → Option Value} {CX : CXT} {k : Nat} {fa a : Addr} {fd : FuncData} {x : Str} {sp : Sp} {s1 : Shared} {vs : List Value} {ns : List Int}
def LawEnd (s1 : Shared) (r : Result) (s' : Shared) : Prop := r = .ok (.ret (.bool true)) ∧ OldK s1.heap s'.heap ∧ s'.os = s1.os ∧ AllBare s'.gens
/-- from an abstract heap H that tracks the script alone, or nothing -/
theorem law_core (KX : K.In s1.heap) (hns : s1.heap.Ns mainGlobals mg) (hb : s1.heap.Ns builtinsNs mb) (hbb : ∀ x : Str, x ≠ "__name__" → mb x = bootBuiltins x)
    (hlim : s1.heap.NoLimit) (hg : s1.gens = #[]) (ha : s1.heap.get? a = some { cls := .type "list", data := .seq vs.toArray }) (hr : Room k callerA)
    (F : ∀ base : Heap, K.In base → base.Ns mainGlobals mg → FnG P w K mg base CX k fa fd [x] sp) (hbind : ∀ (s : Shared) (u : Value), BindsTo s fd ⟨[u], []⟩ [(x, u)])
    (hCX : ∀ H e s', ¬ CX [] H s1 (fun _ _ _ => False) e s') {H : Hp} (only : Only H) (hsp : sp [.ref a] H (fun v _ => v = .bl true) fun _ _ _ => False)
    (hok : HOk P w H s1.heap) (hA : ∀ b, H b ≠ none → b = a) (hK : H a ≠ none → K.lookup a = none) :
    codeAny (model P w) callerA (.call (.ref fa) ⟨[.ref a], []⟩) (LawEnd s1) s1 := by
  have free : ∀ {b : Addr} {o : Obj} {es : Array DictEntry} {ep : Nat}, s1.heap.get? b = some o → o.data = .dict es ep → H b = none := by
    intro b o es ep e d
    refine Classical.byContradiction fun q => ?_
    obtain rfl := hA b q
    rw [ha] at e
    cases e
    cases (d : Data.seq vs.toArray _ = Data.dict es ep)
  have ns : ∀ {b : Addr} {m : Str → Option Value}, s1.heap.Ns b m → (hidT s1.heap H).Ns b m := by
    rintro b m ⟨o, es, ep, e, d, r⟩
    exact ⟨o, es, ep, hidT_get e (free e d), d, r⟩
  have inK : K.In (hidT s1.heap H) := by
    intro b o e
    refine hidT_get (KX b o e) (Classical.byContradiction fun q => ?_)
    obtain rfl := hA b q
    rw [hK q] at e
    cases e
  obtain ⟨mc, l1, l2⟩ := hlim
  have M : Mod K mg (hidT s1.heap H) := ⟨inK, ns hns, ⟨mb, ns hb, hbb⟩, ⟨mc, ns l1, l2⟩⟩
  have none_in : ∀ b : Addr, b ∉ ([] : List Addr) := fun _ z => nomatch z
  have e0 : Env0 P w K mg (hidT s1.heap H) callerA [] s1 H := ⟨rfl, M, fun _ _ e => of_hidT e, Nat.le_of_eq (hidT_size _ _), trivial, fun b z => (none_in b z).elim, hok, .of_eq hg⟩
  refine codeAny_mono ((F _ inK (ns hns)).go callerA [] s1 H ⟨[.ref a], []⟩ [.ref a] [.ref a] _ _ hr rfl e0 (hbind s1 (.ref a)) (.cons rfl .nil) hsp) fun r s' h => ?_
  cases r with
  | error e => exact (hCX H e s' h).elim
  | ok fl =>
    cases fl with
    | ret u =>
      obtain ⟨v, H', os, bare, un, hok', rv, q⟩ := h
      obtain rfl : v = .bl true := q
      obtain rfl : u = Value.bool true := rv
      refine ⟨rfl, OldK.of_keep fun b o e => ?_, os, bare⟩
      rcases only b with z | ⟨ob, xs, z⟩
      · exact un.keep b o e z (none_in b) (none_in b)
      · have e2 := (hok' b _ (un.frzs b ob _ z)).1
        have e1 := (hok b _ z).1
        rw [e] at e1
        cases e1
        exact e2
    | _ => exact h.elim
theorem law_endG (KX : K.In s1.heap) (hns : s1.heap.Ns mainGlobals mg) (hb : s1.heap.Ns builtinsNs mb) (hbb : ∀ x : Str, x ≠ "__name__" → mb x = bootBuiltins x)
    (hlim : s1.heap.NoLimit) (hg : s1.gens = #[]) (ha : s1.heap.get? a = some { cls := .type "list", data := .seq vs.toArray }) (hi : IntsAre vs ns) (hl : ns.length ≤ sizeLine) (hr : Room k callerA)
    (F : ∀ base : Heap, K.In base → base.Ns mainGlobals mg → FnG P w K mg base CX k fa fd [x] sp) (hbind : ∀ (s : Shared) (u : Value), BindsTo s fd ⟨[u], []⟩ [(x, u)])
    (hCX : ∀ H e s', ¬ CX [] H s1 (fun _ _ _ => False) e s')
    (hsp : ∀ H : Hp, Only H → SqL K H a (ns.map V.int) → sp [.ref a] H (fun v _ => v = .bl true) fun _ _ _ => False) :
    codeAny (model P w) callerA (.call (.ref fa) ⟨[.ref a], []⟩) (LawEnd s1) s1 := by
  have rv := vals_ints hi
  cases hk : K.lookup a with
  | some o =>
    have e := KX a o hk
    rw [ha] at e
    cases e
    have only : Only (fun _ => none) := fun _ => .inl rfl
    refine law_core KX hns hb hbb hlim hg ha hr F hbind hCX only (hsp _ only (.inr ⟨_, vs.toArray, _, hk, rfl, rfl, rfl, ?_, by simpa using rv⟩)) (fun b u z => nomatch (z : (none : Option HO) = some u)) (fun b z => (z rfl).elim) fun z => (z rfl).elim
    rw [List.size_toArray, hi.length]
    exact hl
  | none =>
    have at_a : (upd (fun _ => none) a (.frz { cls := .type "list", data := .seq vs.toArray } (.lst (ns.map V.int))) : Hp) a = some (.frz { cls := .type "list", data := .seq vs.toArray } (.lst (ns.map V.int))) := upd_same
    have off : ∀ b, b ≠ a → (upd (fun _ => none) a (.frz { cls := .type "list", data := .seq vs.toArray } (.lst (ns.map V.int))) : Hp) b = none := fun b nb => upd_ne nb
    have only : Only (upd (fun _ => none) a (.frz { cls := .type "list", data := .seq vs.toArray } (.lst (ns.map V.int)))) := fun b => by
      by_cases nb : b = a
      · subst nb; exact .inr ⟨_, _, at_a⟩
      · exact .inl (off b nb)
    refine law_core KX hns hb hbb hlim hg ha hr F hbind hCX only (hsp _ only (.inl (.inr ⟨_, at_a⟩))) (fun b u z => ?_) (fun b z => Classical.byContradiction fun nb => z (off b nb)) fun _ => hk
    by_cases nb : b = a
    · subst nb
      rw [at_a] at z
      cases z
      exact ⟨ha, by rw [List.length_map]; exact hl, vs, _, rv, ha⟩
    · rw [off b nb] at z
      cases z
end
theorem walkG {l : PySem.W.OpenLaw} {n k : Nat} {q : Program} {loose : List Str} {XP : (Str → Option Value) → Heap → Prop} {YP : World → Heap → Prop} {d : DefRec} {K : Params → PySem.W.Frag} {sp : World → Sp} {x : Str}
    (hn : l.most = some n) (hn2 : n ≤ sizeLine) (hdf : d.params.defaults = []) (hr : Room k callerA) (hY : ∀ (w : World) (h : Heap), YP w h → (K w.params).In h)
    (F : ∀ (w : World) (mg : Str → Option Value) (fa : Addr) (h : Heap), (K w.params).In h → h.Ns mainGlobals mg → mg d.name = some (.ref fa) →
      ∃ fd : FuncData, (∀ (s : Shared) (u : Value), BindsTo s fd ⟨[u], []⟩ [(x, u)]) ∧
        ∀ base : Heap, (K w.params).In base → base.Ns mainGlobals mg → FnG l.prog w (K w.params) mg base CX0 k fa fd [x] (sp w))
    (hsp : ∀ (w : World) (H : Hp) (a : Addr) (ns : List Int), ns.length ≤ n → Only H → SqL (K w.params) H a (ns.map V.int) → sp w [.ref a] H (fun v _ => v = .bl true) fun _ _ _ => False) :
    PySem.W.WalkO q loose XP YP l.row.toRowW d [] (fun f vs => PySem.call f vs) := by
  refine Att.attach_call hn hdf fun w s₀ s₁ mg mb fa o pm cd doc a vs ns G Y ho hd hcd hmg hobj hints hlen hg => ?_
  obtain ⟨fd, hb, hF⟩ := F w mg fa _ (hY w _ Y) G.T.g hmg
  exact law_endG (hY w _ Y) G.T.g G.T.b G.T.builtins G.T.nolimit hg hobj hints (Nat.le_trans hlen hn2) hr hF hb (fun _ _ _ z => z) fun H hO hS => hsp w H a ns hlen hO hS
end Tp

set_option Elab.async false
set_option linter.all false
set_option maxRecDepth 100000
set_option maxHeartbeats 4000000
namespace Tp
open PySem PySem.Spec PyProof.Rows L2
/-! ### keywords alone -/
section
variable {X : Cx} {CX : CXT} {k : Nat} {f : Addr} {fd : FuncData} {ps ks : List Str} {sp : Sp} {E : XK} {x : Str} {p pos : Pos} {tk : TA} {kw : Keyword} {kws : List Keyword}
  {g : List Value → List Value → List Value} {gV : List V → List V → List V}
def tCallN0 (m : Nat) (sp : Sp) (gV : List V → List V → List V) (E : XK) (tk : TA) : TE := fun σ H Q => tk σ H fun zs H2 => zs.length = m ∧ sp (gV [] zs) H2 Q E
theorem pe_callGN0 (F : FnG X.prog X.w X.K X.mg X.base CX k f fd ps sp) (hr : Room k X.A) (hgu : X.A.guards = some []) (hg : Gl X x) (hm : X.mg x = some (.ref f)) (hk : PySem.W.keepIn X.K (.ref f) = true)
    (hb : KBn X.K fd ps 0 ks g gV) (hx : Passes CX X E) (hkw : PK X kws tk)
    (hall : (backToKw pos (keywordEach kws X.env)).all (·.1.isSome) = true := by rfl) (hks : (backToKw pos (keywordEach kws X.env)).filterMap (·.1) = ks := by rfl)
    (hdb : (x == ("__debug__" : Str)) = false := by decide)
    (hpl : ((backTo pos (starEach [] X.env)).any (·.1) || (backToKw pos (keywordEach kws X.env)).any (·.1.isNone)) = false := by rfl) :
    PE X (.Call (.Name x p) [] kws pos) (tCallN0 ks.length sp gV E tk) :=
  ⟨fun pins s σ H Q I h => wpAny_Call_Name_kw (ld_glob I hg hm (PySem.W.callWith_KW0 (h₀ := X.base) I.ok.mod.kin hk hall
    (thn (hkw.run pos pins s σ H _ I h) fun ws s2 ⟨zs, H2, I2, rz, l2, q2⟩ => ⟨I2.kIn, by
      rw [hks]
      exact runG (args := ⟨[], ks.zip ws⟩) F hr hgu hx I2 (hb.to s2 [] ws I2.kIn rfl (rz.length.symm.trans l2)) (hb.rel .nil rz) q2⟩) hpl) hdb)⟩
end
/-! ### keyword-only parameters, no other defaults: some given, the others from the def -/
section
variable {K : PySem.W.Frag} {x qual : Str} {st : Stmt} {kws : List (Str × V)} {f : Addr} {fd : FuncData} {ps : List Str}
theorem kb0 (F : FunD K x qual (defArgs st) (defBody st) (defScope st) [] kws f fd) (n : Nat) (ks : List Str) (ms : List (Str × V)) (g : {α : Type} → List α → List α → List α → List α) (hk : kws ≠ []) (hms : ∀ q ∈ ms, q ∈ kws)
    (hrel : ∀ {vs mz zs : List V} {us mv ws : List Value}, Vals vs us → Vals mz mv → Vals zs ws → Vals (g vs mz zs) (g us mv ws))
    (h : ∀ (D : Addr) (doc pm : Value) (an : Option Addr) (cdv ct : Value) (us mv ws : List Value), us.length = n → mv.length = ms.length → ws.length = ks.length →
      KwChain D ((ms.map (·.1)).zip mv) (bindArgs (PySem.W.fnOf x qual (defArgs st) (defBody st) (defScope st) .none (.ref D) doc pm an cdv ct) ⟨us, ks.zip ws⟩) (ps.zip (g us mv ws))) :
    ∃ mv : List Value, KBn K fd ps n ks (fun us ws => g us mv ws) (fun vs zs => g vs (ms.map (·.2)) zs) := by
  obtain ⟨oc, od, dV, kV, doc, pm, an, cdv, ct, osl, rfl, lk, hcd, hD, hK⟩ := F.ex
  rcases hD with ⟨_, rfl⟩ | ⟨z, _⟩
  · rcases hK with z | ⟨D, rfl, hq⟩
    · exact (hk z).elim
    · obtain ⟨mv, hl, rk, hks⟩ := kwd_vals (ms := ms) fun q hm => hq q (hms q hm)
      exact ⟨mv, fun s us ws X l1 l2 => BindsTo.of_looks fun M => KwChain.looks X hks (h D doc pm an cdv ct us mv ws l1 hl l2), fun r1 r2 => hrel r1 rk r2⟩
  · exact (z rfl).elim
end
/-! ### text * n -/
section
variable {X : Cx}
def repS (x : Str) (n : Nat) : Str := ⟨(List.replicate n x.cps).foldl (· ++ ·) #[]⟩
def rRepS : R2 := fun x y H Q => ∃ (a : Str) (n : Nat), x = .str a ∧ y = .int n ∧ 2 ≤ n ∧ n < 100000 ∧ 1 ≤ a.length ∧ a.length ≤ 100 ∧ Q (.str (repS a n)) H
theorem op_repS : OpR X (binaryOp .Mult) rRepS := by
  intro pins s σ H x y v u Q I rx ry h
  obtain ⟨a, n, rfl, rfl, h1, h2, h3, h4, q⟩ := h
  obtain ⟨t, rfl⟩ := rx
  obtain ⟨t', rfl⟩ := ry
  have hm : a.length * n ≤ 100 * 100000 := Nat.mul_le_mul h4 (Nat.le_of_lt h2)
  have n1 : ¬ ((n : Int) < 1) := by omega
  have n2 : ((n : Int) == 1 || a.length == 0) = false := by
    have e1 : ((n : Int) == 1) = false := beq_eq_false_iff_ne.mpr (by omega)
    have e2 : (a.length == 0) = false := beq_eq_false_iff_ne.mpr (by omega)
    rw [e1, e2]
    rfl
  refine PySem.P.mul_str ?_ (fun _ _ => ?_) (fun _ _ => ?_) ?_
  · rw [decide_eq_false (show ¬ ((n : Int) < -(2 ^ 63)) by omega), decide_eq_false (show ¬ ((n : Int) ≥ 2 ^ 63) by omega)]
    rfl
  · have : (100000 : Int) ≤ (2 ^ 63 - 1) / (n : Int) := by
      rw [Int.le_ediv_iff_mul_le (by omega)]
      have : (100000 : Int) * n ≤ 100000 * 100000 := by omega
      omega
    omega
  · exact decide_eq_false (by rw [Int.toNat_natCast]; exact Nat.not_lt.mpr (Nat.le_trans hm (by decide)))
  · rw [if_neg n1, n2, if_neg Bool.false_ne_true]
    have e : ((n : Int)).toNat = n := Int.toNat_natCast n
    rw [e]
    refine ⟨?_, ⟨.str (repS a n), H, I.tok _, ⟨_, rfl⟩, q⟩⟩
    have len : ∀ (m : Nat) (acc : Array Nat), ((List.replicate m a.cps).foldl (· ++ ·) acc).size = acc.size + m * a.length := by
      intro m
      induction m with
      | zero => intro acc; simp
      | succ m ih =>
        intro acc
        rw [List.replicate_succ, List.foldl_cons, ih, Array.size_append, Nat.succ_mul]
        show acc.size + a.length + m * a.length = _
        omega
    show ((List.replicate n a.cps).foldl (· ++ ·) #[]).size ≤ sizeLine
    rw [len n #[], Nat.mul_comm]
    exact Nat.le_trans (by simpa using hm) (by decide)
end
/-! ### built-in names, and constants of the module -/
theorem bt_len : bootBuiltins "len" = some (.builtin "len") := by decide +kernel
theorem bt_max : bootBuiltins "max" = some (.builtin "max") := by decide +kernel
theorem bt_min : bootBuiltins "min" = some (.builtin "min") := by decide +kernel
theorem bt_isinstance : bootBuiltins "isinstance" = some (.builtin "isinstance") := by decide +kernel
theorem bt_all : bootBuiltins "all" = some (.builtin "all") := by decide +kernel
theorem bt_any : bootBuiltins "any" = some (.builtin "any") := by decide +kernel
theorem bt_sum : bootBuiltins "sum" = some (.builtin "sum") := by decide +kernel
theorem bt_ord : bootBuiltins "ord" = some (.builtin "ord") := by decide +kernel
theorem bt_chr : bootBuiltins "chr" = some (.builtin "chr") := by decide +kernel
theorem bt_repr : bootBuiltins "repr" = some (.builtin "repr") := by decide +kernel
theorem bt_abs : bootBuiltins "abs" = some (.builtin "abs") := by decide +kernel
theorem bt_sorted : bootBuiltins "sorted" = some (.builtin "sorted") := by decide +kernel
theorem bt_str : bootBuiltins "str" = some (.type "str") := by decide +kernel
theorem bt_int : bootBuiltins "int" = some (.type "int") := by decide +kernel
theorem bt_list : bootBuiltins "list" = some (.type "list") := by decide +kernel
theorem bt_tuple : bootBuiltins "tuple" = some (.type "tuple") := by decide +kernel
theorem bt_dict : bootBuiltins "dict" = some (.type "dict") := by decide +kernel
theorem bt_range : bootBuiltins "range" = some (.type "range") := by decide +kernel
theorem bt_bool : bootBuiltins "bool" = some (.type "bool") := by decide +kernel
theorem bt_enumerate : bootBuiltins "enumerate" = some (.type "enumerate") := by decide +kernel
theorem bt_zip : bootBuiltins "zip" = some (.type "zip") := by decide +kernel
theorem pe_glS {X : Cx} {x z : Str} {pos : Pos} (hg : Gl X x) (hm : ∃ t, X.mg x = some (.str z t)) (hd : (x == ("__debug__" : Str)) = false := by decide) : PE X (.Name x pos) (tC (.str z)) :=
  let ⟨_, h⟩ := hm
  pe_glob hg h ⟨_, rfl⟩ hd
theorem pe_glI {X : Cx} {x : Str} {i : Int} {pos : Pos} (hg : Gl X x) (hm : ∃ t, X.mg x = some (.int i t)) (hd : (x == ("__debug__" : Str)) = false := by decide) : PE X (.Name x pos) (tC (.int i)) :=
  let ⟨_, h⟩ := hm
  pe_glob hg h ⟨_, rfl⟩ hd
/-! ### the box of draws: a list of three ints; n: at most so many draws so far -/
def Kp (b : Addr) (H H' : Hp) : Prop := ∀ a o, a ≠ b → H a = some o → H' a = some o
theorem Kp.refl (b : Addr) (H : Hp) : Kp b H H := fun _ _ _ h => h
theorem Kp.trans {b : Addr} {H H1 H2 : Hp} (p : Kp b H H1) (q : Kp b H1 H2) : Kp b H H2 := fun a o n h => q a o n (p a o n h)
theorem Kp.same {b : Addr} {H H1 H2 : Hp} (p : Kp b H H1) (q : Same H1 H2) : Kp b H H2 := fun a o n h => q a o (p a o n h)
theorem Kp.box {b : Addr} {H : Hp} {o : HO} : Kp b H (upd H b o) := fun a u n h => by rw [upd_ne n]; exact h
theorem same_new {H : Hp} {p : Addr} {o : HO} (h : H p = none) : Same H (upd H p o) := fun a u e => by rw [upd_ne (ne_of_none e h)]; exact e
theorem Kp.new {b p : Addr} {H : Hp} {o : HO} (h : H p = none) : Kp b H (upd H p o) := fun a u _ e => same_new h a u e
def BoxAt (b : Addr) (n : Nat) (H : Hp) : Prop := ∃ x y z : Int, H b = some (.lst [.int x, .int y, .int z]) ∧ 0 ≤ x ∧ 0 ≤ y ∧ y < 2147483629 ∧ 0 ≤ z ∧ z ≤ n
theorem BoxAt.same {b : Addr} {n : Nat} {H H' : Hp} (h : BoxAt b n H) (q : Same H H') : BoxAt b n H' := let ⟨x, y, z, h1, r⟩ := h; ⟨x, y, z, q _ _ h1, r⟩
theorem BoxAt.up {b : Addr} {n m : Nat} {H : Hp} (h : BoxAt b n H) (q : n ≤ m) : BoxAt b m H := by
  obtain ⟨x, y, z, h1, h2, h3, h4, h5, h6⟩ := h
  exact ⟨x, y, z, h1, h2, h3, h4, h5, by omega⟩
theorem BoxAt.ne {b p : Addr} {n : Nat} {H : Hp} (h : BoxAt b n H) (q : H p = none) : p ≠ b := by
  obtain ⟨x, y, z, h1, _⟩ := h
  exact (ne_of_none h1 q).symm
def spCell (K : PySem.W.Frag) : Sp := fun vs H Q _ => ∃ (s : Addr) (ns : List Int) (k : Int), vs = [.ref s, .int k] ∧ SqL K H s (ns.map V.int) ∧ 0 ≤ k ∧ k < 1000 ∧ ∀ n : Int, Q (.int n) H
def spBox : Sp := fun vs H Q _ => ∃ c : Int, vs = [.int c] ∧ ∀ p x y, H p = none → 0 ≤ x → 0 ≤ y → y < 2147483629 → Q (.ref p) (upd H p (.lst [.int x, .int y, .int 0]))
def spTake : Sp := fun vs H Q _ => ∃ (b : Addr) (m : Int) (n : Nat), vs = [.ref b, .int m] ∧ BoxAt b n H ∧ n < 1000000 ∧ 0 < m ∧ m < 1000000000 ∧
  ∀ r H', 0 ≤ r → r < m → Kp b H H' → BoxAt b (n + 1) H' → Q (.int r) H'
theorem mixA {y c z e : Int} (y0 : 0 ≤ y) (y1 : y < 2147483629) (z0 : 0 ≤ z) (z1 : z ≤ 1000000) (c0 : 0 ≤ c ∧ c ≤ 1000000000) (e0 : 0 ≤ e ∧ e ≤ 1000000) : (y + c * (z + 1) + e).natAbs < 2 ^ 64 := by
  have h1 : 0 ≤ c * (z + 1) := Int.mul_nonneg c0.1 (by omega)
  have h2 : c * (z + 1) ≤ 1000000000 * 1000001 := Int.mul_le_mul c0.2 (by omega) (by omega) (by omega)
  omega
theorem mixB {i c z : Int} (z0 : 0 ≤ z) (z1 : z ≤ 1000000) (c0 : 0 ≤ c ∧ c ≤ 1000000000) : (i.fmod 2147483647 + c * (z + 1)).natAbs < 2 ^ 64 := by
  have h1 : 0 ≤ c * (z + 1) := Int.mul_nonneg c0.1 (by omega)
  have h2 : c * (z + 1) ≤ 1000000000 * 1000001 := Int.mul_le_mul c0.2 (by omega) (by omega) (by omega)
  rw [Int.fmod_eq_emod_of_nonneg _ (by decide)]
  have h3 := Int.emod_nonneg i (show (2147483647 : Int) ≠ 0 by decide)
  have h4 := Int.emod_lt_of_pos i (show (0 : Int) < 2147483647 by decide)
  omega
/-! ### tests whose answer is known -/
section
variable {p : Prop} [Decidable p] {A B : Prop}
theorem ifY (h : p) (x : A) : if decide p = true then A else B := by rw [decide_eq_true h]; exact iteT x
theorem ifN (h : ¬ p) (x : B) : if decide p = true then A else B := by rw [decide_eq_false h]; exact iteF x
theorem ifnY (h : p) (x : B) : if (!decide p) = true then A else B := by rw [decide_eq_true h]; exact iteF x
theorem ifnN (h : ¬ p) (x : A) : if (!decide p) = true then A else B := by rw [decide_eq_false h]; exact iteT x
theorem if2 (h1 : p → A) (h2 : ¬ p → B) : if decide p = true then A else B := by
  by_cases h : p
  · exact ifY h (h1 h)
  · exact ifN h (h2 h)
theorem ifn2 (h1 : p → B) (h2 : ¬ p → A) : if (!decide p) = true then A else B := by
  by_cases h : p
  · exact ifnY h (h1 h)
  · exact ifnN h (h2 h)
end
theorem ifB {b : Bool} {A B : Prop} (h1 : b = true → A) (h2 : b = false → B) : if b = true then A else B := by
  cases b with
  | true => exact iteT (h1 rfl)
  | false => exact iteF (h2 rfl)
theorem ifnB {b : Bool} {A B : Prop} (h1 : b = true → B) (h2 : b = false → A) : if (!b) = true then A else B := by
  cases b with
  | true => exact iteF (h1 rfl)
  | false => exact iteT (h2 rfl)
theorem Kp.mut {b p : Addr} {H H' : Hp} {o : HO} (k : Kp b H H') (h : H p = none) : Kp b H (upd H' p o) := fun a u n e => by
  rw [upd_ne (ne_of_none e h)]
  exact k a u n e
theorem Same.mut {p : Addr} {H H' : Hp} {o : HO} (k : Same H H') (h : H p = none) : Same H (upd H' p o) := fun a u e => by
  rw [upd_ne (ne_of_none e h)]
  exact k a u e
theorem BoxAt.off {b p : Addr} {n : Nat} {H : Hp} {o : HO} (h : BoxAt b n H) (ne : p ≠ b) : BoxAt b n (upd H p o) := by
  obtain ⟨x, y, z, h1, r⟩ := h
  exact ⟨x, y, z, by rw [upd_ne ne.symm]; exact h1, r⟩
end Tp

set_option Elab.async false
set_option linter.all false
set_option maxRecDepth 100000
set_option maxHeartbeats 4000000
namespace Tp
open PySem L2 PySem.NumText
/-! ### numbers as texts -/
def numOf (z : Str) : Option Int :=
  if 0 < z.length ∧ z.length ≤ 30 ∧ (∀ c ∈ z.cps.toList, 48 ≤ c ∧ c ≤ 57) ∧ (z.cps.toList.head? = some 48 → z.length = 1) then some ((digitsVal z.cps.toList : Nat) : Int) else none
def numV (z : Str) (lo hi : Int) : V := match numOf z with
  | some n => if lo ≤ n ∧ n ≤ hi then .int n else .non
  | none => .non
theorem len_list (z : Str) : z.cps.toList.length = z.length := Array.length_toList
theorem str_ext {a b : Str} (h : a.cps.toList = b.cps.toList) : a = b := by
  obtain ⟨x⟩ := a
  obtain ⟨y⟩ := b
  have : x = y := Array.toList_inj.mp h
  rw [this]
theorem val_lt : ∀ (cs : List Nat) (a : Nat), (∀ c ∈ cs, 48 ≤ c ∧ c ≤ 57) → cs.foldl (fun acc c => acc * 10 + (c - 48)) a < (a + 1) * 10 ^ cs.length
  | [], a, _ => by simp
  | c :: cs, a, h => by
    have h1 := h c (List.mem_cons_self ..)
    have h2 := val_lt cs (a * 10 + (c - 48)) fun d hd => h d (List.mem_cons_of_mem _ hd)
    rw [List.foldl_cons, List.length_cons]
    refine Nat.lt_of_lt_of_le h2 ?_
    rw [Nat.pow_succ, Nat.mul_comm (10 ^ cs.length) 10, ← Nat.mul_assoc]
    exact Nat.mul_le_mul_right _ (by omega)
theorem num_lt {z : Str} {n : Int} (h : numOf z = some n) : 0 ≤ n ∧ n < 10 ^ 30 := by
  unfold numOf at h
  split at h
  · rename_i c
    obtain ⟨h1, h2, h3, h4⟩ := c
    have e := Option.some.inj h
    have l := val_lt z.cps.toList 0 h3
    rw [len_list] at l
    have l2 : (10 : Nat) ^ z.length ≤ 10 ^ 30 := Nat.pow_le_pow_right (by decide) h2
    have l3 : digitsVal z.cps.toList < 10 ^ 30 := by
      show List.foldl _ 0 _ < _
      omega
    rw [← e]
    omega
  · cases h
/-- str(n) of what the digits are worth -/
theorem str_val {cs : List Nat} (h : AllDigits cs) (hne : cs ≠ []) : (Str.ofString (toString ((digitsVal cs : Nat) : Int))).cps.toList = cs ↔ (cs.head? = some 48 → cs.length = 1) := by
  rw [PySem.W.KIN.signs_num]
  have back : ∀ l : List Nat, AllDigits l → (l.map Char.ofNat).map Char.toNat = l := by
    intro l hl
    rw [List.map_map]
    refine (List.map_congr_left fun c hc => ?_).trans (List.map_id l)
    have := hl c hc
    show (Char.ofNat c).toNat = c
    have key : ∀ k : Nat, k < 128 → (Char.ofNat k).toNat = k := by decide
    exact key c (by omega)
  constructor
  · intro e hd
    cases cs with
    | nil => exact (hne rfl).elim
    | cons c r =>
      have : c = 48 := by simpa using hd
      subst this
      cases r with
      | nil => rfl
      | cons c2 r2 =>
        exfalso
        have len := congrArg List.length e
        rw [List.length_map] at len
        have hv : digitsVal (48 :: c2 :: r2) < 10 ^ (r2.length + 1) := by
          have l := val_lt (c2 :: r2) 0 h.tail
          have e0 : digitsVal (48 :: c2 :: r2) = List.foldl (fun acc c => acc * 10 + (c - 48)) 0 (c2 :: r2) := rfl
          rw [e0]
          simpa using l
        have := PyProof.Rows.digits10_le (k := r2.length + 1) (n := digitsVal (48 :: c2 :: r2)) (by omega) hv
        rw [len] at this
        simp at this
        omega
  · intro hd
    have : cs.length = (cs.length - 1) + 1 := by
      cases cs with
      | nil => exact (hne rfl).elim
      | cons => rfl
    rw [toDigits_digitsVal (cs.length - 1) cs this h ?_, back cs h]
    cases cs with
    | nil => exact (hne rfl).elim
    | cons c r =>
      by_cases c0 : c = 48
      · left
        have := hd (by rw [c0]; rfl)
        omega
      · right
        have := h.head
        exact ⟨c, r, rfl, by omega⟩
/-! ### strip, count -/
theorem strip_empty (x y : Str) : Txt.stripChars x y = Str.empty ↔ ∀ c ∈ x.cps.toList, c ∈ y.cps.toList := by
  have cont : ∀ c, y.cps.contains c = true ↔ c ∈ y.cps.toList := by
    intro c
    rw [Array.contains_iff_mem, Array.mem_toList_iff]
  have tw : ∀ (p : Nat → Bool) (l : List Nat), (l.takeWhile p).length = l.length ↔ ∀ c ∈ l, p c = true := by
    intro p l
    induction l with
    | nil => simp
    | cons c l ih =>
      rw [List.takeWhile_cons]
      by_cases hc : p c = true
      · rw [if_pos hc, List.length_cons, List.length_cons]
        constructor
        · intro h d hd
          rcases List.mem_cons.mp hd with rfl | hd
          · exact hc
          · exact ih.mp (by omega) d hd
        · intro h
          have := ih.mpr fun d hd => h d (List.mem_cons_of_mem _ hd)
          omega
      · rw [if_neg hc]
        constructor
        · intro h
          simp at h
        · intro h
          exact absurd (h c (List.mem_cons_self ..)) hc
  unfold Txt.stripChars Txt.stripBy
  constructor
  · intro h
    by_cases hs : stripSame y.cps.contains true true x = true
    · rw [if_pos hs] at h
      subst h
      intro c hc
      cases hc
    · rw [if_neg hs] at h
      have hz := congrArg (fun s : Str => s.cps.size) h
      have hz : (x.cps.extract (stripLo y.cps.contains true x) (stripHi y.cps.contains true x (stripLo y.cps.contains true x))).size = 0 := hz
      rw [Array.size_extract] at hz
      have l1 : stripLo y.cps.contains true x = (x.cps.toList.takeWhile y.cps.contains).length := if_pos rfl
      have l2 : stripHi y.cps.contains true x (stripLo y.cps.contains true x) = x.length - ((x.cps.toList.drop (stripLo y.cps.contains true x)).reverse.takeWhile y.cps.contains).length := if_pos rfl
      have xl : x.length = x.cps.size := rfl
      rw [l2] at hz
      have le := (List.takeWhile_prefix y.cps.contains (l := (x.cps.toList.drop (stripLo y.cps.contains true x)).reverse)).length_le
      rw [List.length_reverse, List.length_drop, len_list] at le
      have lo_le : stripLo y.cps.contains true x ≤ x.length := by
        rw [l1, ← len_list]
        exact (List.takeWhile_prefix _).length_le
      have all : ∀ c ∈ (x.cps.toList.drop (stripLo y.cps.contains true x)).reverse, y.cps.contains c = true := by
        refine (tw _ _).mp ?_
        rw [List.length_reverse, List.length_drop, len_list]
        omega
      intro c hc
      rw [← cont]
      rw [← List.take_append_drop (stripLo y.cps.contains true x) x.cps.toList] at hc
      rcases List.mem_append.mp hc with hc | hc
      · rw [l1] at hc
        have e : x.cps.toList.take (x.cps.toList.takeWhile y.cps.contains).length = x.cps.toList.takeWhile y.cps.contains :=
          List.prefix_iff_eq_take.mp (List.takeWhile_prefix _) |>.symm
        rw [e] at hc
        exact List.all_eq_true.mp (List.all_takeWhile) c hc
      · exact all c (List.mem_reverse.mpr hc)
  · intro h
    have lo : stripLo y.cps.contains true x = x.length := by
      have e : stripLo y.cps.contains true x = (x.cps.toList.takeWhile y.cps.contains).length := if_pos rfl
      rw [e, ← len_list]
      exact (tw _ _).mpr fun c hc => (cont c).mpr (h c hc)
    by_cases hs : stripSame y.cps.contains true true x = true
    · rw [if_pos hs]
      have := (Bool.and_eq_true _ _ ▸ hs : (stripLo y.cps.contains true x == 0) = true ∧ _).1
      rw [lo] at this
      have z0 : x.cps.size = 0 := beq_iff_eq.mp this
      exact str_ext (by rw [Array.eq_empty_of_size_eq_zero z0]; rfl)
    · rw [if_neg hs]
      refine str_ext ?_
      have z0 : (stripped y.cps.contains true true x).cps.size = 0 := by
        show (x.cps.extract (stripLo y.cps.contains true x) _).size = 0
        rw [Array.size_extract, lo]
        have xl : x.length = x.cps.size := rfl
        omega
      rw [Array.eq_empty_of_size_eq_zero z0]
      rfl
theorem occ_some (s sub : Str) (hi L : Nat) (hL : 1 ≤ L) : ∀ (l : List Nat) (free : Nat), (∀ i ∈ l, free ≤ i) →
    ((forIn l ((#[] : Array Nat), free) (StrLaws.occBody s sub hi L)).run.fst = #[] ↔ ∀ i ∈ l, ¬ (i + sub.length ≤ hi ∧ Builtin.Str.subAt s sub i = true))
  | [], free, _ => by simp
  | a :: l, free, hf => by
    rw [List.forIn_cons]
    unfold StrLaws.occBody
    have ha : free ≤ a := hf a (List.mem_cons_self ..)
    by_cases hc : a + sub.length ≤ hi ∧ Builtin.Str.subAt s sub a = true
    · have c1 : (((#[] : Array Nat), free).fst.size < L ∧ ((#[] : Array Nat), free).snd ≤ a) ∧ a + sub.length ≤ hi := ⟨⟨hL, ha⟩, hc.1⟩
      rw [if_pos ⟨c1, hc.2⟩]
      exact ⟨fun h => absurd h (StrLaws.occ_grows s sub hi L l _ (by simp)), fun h => absurd hc (h a (List.mem_cons_self ..))⟩
    · rw [if_neg fun h => hc ⟨h.1.2, h.2⟩]
      have ih := occ_some s sub hi L hL l free (fun i hi' => hf i (List.mem_cons_of_mem _ hi'))
      refine ⟨fun h i hi' => ?_, fun h => ih.mpr fun i hm => h i (List.mem_cons_of_mem _ hm)⟩
      rcases List.mem_cons.mp hi' with rfl | hm
      · exact hc
      · exact ih.mp h i hm
theorem count_one (x : Str) (c : Nat) : decide (0 < Txt.count x ⟨#[c]⟩) = decide (c ∈ x.cps.toList) := by
  have key := occ_some x ⟨#[c]⟩ x.length (x.length + 1) (by omega) (List.range' 0 (x.length + 1 - 0)) 0 (fun _ _ => Nat.zero_le _)
  have e : Txt.count x ⟨#[c]⟩ = (((forIn (List.range' 0 (x.length + 1 - 0)) ((#[] : Array Nat), 0) (StrLaws.occBody x ⟨#[c]⟩ x.length (x.length + 1))).run.fst.toList.length : Nat) : Int) := by
    unfold Txt.count
    rw [StrLaws.occ_eq]
  rw [e, decide_eq_decide, List.mem_iff_getElem?]
  constructor
  · intro h
    refine Classical.byContradiction fun hn => ?_
    rw [key.mpr fun i _ hc => hn ⟨i, (StrLaws.subAt_one x c i).mp hc⟩] at h
    exact absurd h (by decide)
  · rintro ⟨i, hi⟩
    have hs := (StrLaws.subAt_one x c i).mpr hi
    have one : (⟨#[c]⟩ : Str).length = 1 := rfl
    have ne := fun h0 => key.mp h0 i (by simp [List.mem_range']; omega) hs
    have : (forIn (List.range' 0 (x.length + 1 - 0)) ((#[] : Array Nat), 0) (StrLaws.occBody x ⟨#[c]⟩ x.length (x.length + 1))).run.fst.toList ≠ [] := by simpa using ne
    have := List.length_pos_iff.mpr this
    omega
/-! ### items in bounds -/
theorem at_some {α : Type} {xs : List α} {P : α → Prop} {r : Int} (h : ∀ x ∈ xs, P x) (r0 : 0 ≤ r) (r1 : r < xs.length) : ∃ v, atI xs r = some v ∧ P v := by
  obtain ⟨j, rfl⟩ := Int.eq_ofNat_of_zero_le r0
  have hj : j < xs.length := by omega
  exact ⟨xs[j], atI_nat (List.getElem?_eq_getElem hj), h _ (List.getElem_mem hj)⟩
theorem join_len {ys : List Str} {a : Str} {m : Nat} (h : ∀ y ∈ ys, y.length ≤ m) : (Txt.join a ys).length ≤ ys.length * (m + a.length) := by
  have e : Txt.join a ys = Str.join a ys := StrLaws.glued_eq_join a ys
  rw [e]
  refine Nat.le_trans (StrLaws.join_length_le a ys) ?_
  have : (ys.map (·.length)).sum ≤ ys.length * m := by
    induction ys with
    | nil => simp
    | cons y ys ih =>
      have h1 := h y (List.mem_cons_self ..)
      have h2 := ih (fun z hz => h z (List.mem_cons_of_mem _ hz)) (StrLaws.glued_eq_join a ys)
      simp only [List.map_cons, List.sum_cons, List.length_cons, Nat.succ_mul]
      omega
  rw [Nat.mul_add]
  omega
theorem sum_len {ys : List Str} {m : Nat} (h : ∀ y ∈ ys, y.length ≤ m) : (ys.map (·.length)).sum ≤ ys.length * m := by
  induction ys with
  | nil => simp
  | cons y ys ih =>
    have h1 := h y (List.mem_cons_self ..)
    have h2 := ih (fun z hz => h z (List.mem_cons_of_mem _ hz))
    simp only [List.map_cons, List.sum_cons, List.length_cons, Nat.succ_mul]
    omega
theorem cut_len (z : Str) (lo hi : Option Int) : (cutS z lo hi).length ≤ z.length := by
  show (List.toArray _).size ≤ z.length
  rw [List.size_toArray, List.length_take, List.length_drop, len_list]
  omega
end Tp

set_option Elab.async false
set_option linter.all false
set_option maxRecDepth 100000
set_option maxHeartbeats 4000000
namespace Tp
open PySem L2
/-! ### how long a repr is -/
mutual
def wt : PyData → Nat
  | .none => 4
  | .bool _ => 5
  | .int _ => 50
  | .str z => 10 * z.length + 2
  | .list xs => wtAll xs + 3
  | .tuple xs => wtAll xs + 3
  | .dict _ => 0
def wtAll : List PyData → Nat
  | [] => 0
  | x :: xs => wt x + 2 + wtAll xs
end
inductive Fit : Nat → PyData → Prop
  | non {n : Nat} : Fit n .none
  | bl {n : Nat} (b : Bool) : Fit n (.bool b)
  | int {n : Nat} {i : Int} (h : i.natAbs < 10 ^ 40) : Fit n (.int i)
  | str {n : Nat} {z : Str} (h : ∀ c ∈ z.cps.toList, c < 16 ^ 8) : Fit n (.str z)
  | lst {n : Nat} {xs : List PyData} (h : ∀ x ∈ xs, Fit n x) : Fit (n + 1) (.list xs)
  | tup {n : Nat} {xs : List PyData} (h : ∀ x ∈ xs, Fit n x) : Fit (n + 1) (.tuple xs)
theorem shown_int_len {i : Int} (h : i.natAbs < 10 ^ 40) : (Str.ofString (toString i)).length ≤ 50 := by
  have key : ∀ m : Nat, m < 10 ^ 40 → (Nat.repr m).length ≤ 40 := fun m hm => by
    show (Nat.repr m).toList.length ≤ 40
    rw [Nat.toList_repr]
    exact PyProof.Rows.digits10_le (by decide) hm
  rw [PyProof.Rows.ofString_len]
  cases i with
  | ofNat m => exact Nat.le_trans (key m h) (by decide)
  | negSucc m =>
    have := key (m + 1) h
    show ("-" ++ Nat.repr (m + 1)).length ≤ 50
    rw [String.length_append]
    have : ("-" : String).length = 1 := by decide
    omega
theorem fit_all {n : Nat} (ih : ∀ d, Fit n d → d.showable = true ∧ d.hasDict = false ∧ d.depth ≤ n ∧ d.shown.length ≤ wt d) :
    ∀ xs : List PyData, (∀ x ∈ xs, Fit n x) → PyData.showableAll xs = true ∧ PyData.hasDictAll xs = false ∧ PyData.depthAll xs ≤ n ∧ ((PyData.shownAll xs).map (·.length)).sum + 2 * (PyData.shownAll xs).length ≤ wtAll xs
  | [], _ => ⟨by simp only [PyData.showableAll], by simp only [PyData.hasDictAll], by simp only [PyData.depthAll]; omega, by simp [PyData.shownAll, wtAll]⟩
  | x :: xs, h => by
    obtain ⟨a1, a2, a3, a4⟩ := ih x (h x (List.mem_cons_self ..))
    obtain ⟨b1, b2, b3, b4⟩ := fit_all ih xs fun y hy => h y (List.mem_cons_of_mem _ hy)
    refine ⟨by simp only [PyData.showableAll, a1, b1, Bool.and_self], by simp only [PyData.hasDictAll, a2, b2, Bool.or_self], by simp only [PyData.depthAll]; omega, ?_⟩
    simp only [PyData.shownAll, List.map_cons, List.sum_cons, List.length_cons, wtAll]
    omega
theorem fit_ok : ∀ (n : Nat) (d : PyData), Fit n d → d.showable = true ∧ d.hasDict = false ∧ d.depth ≤ n ∧ d.shown.length ≤ wt d := by
  have flat : ∀ (n : Nat) (d : PyData), Fit n d → (∀ xs, d ≠ .list xs) → (∀ xs, d ≠ .tuple xs) → d.showable = true ∧ d.hasDict = false ∧ d.depth ≤ n ∧ d.shown.length ≤ wt d := by
    intro n d h n1 n2
    cases h with
    | non => exact ⟨by simp only [PyData.showable], by simp only [PyData.hasDict], by simp only [PyData.depth]; omega, by simp only [PyData.shown, wt]; decide⟩
    | bl b => exact ⟨by simp only [PyData.showable], by simp only [PyData.hasDict], by simp only [PyData.depth]; omega, by simp only [PyData.shown, wt]; cases b <;> decide⟩
    | int h =>
      rename_i i
      refine ⟨?_, by simp only [PyData.hasDict], by simp only [PyData.depth]; omega, by simp only [PyData.shown, wt]; exact shown_int_len h⟩
      simp only [PyData.showable, decide_eq_true_eq]
      by_cases z : i.natAbs = 0
      · rw [z]; decide
      · exact (Nat.log2_lt z).mpr (Nat.lt_of_lt_of_le h (by decide +kernel))
    | str h => exact ⟨by simp only [PyData.showable], by simp only [PyData.hasDict], by simp only [PyData.depth]; omega, by simp only [PyData.shown, wt]; exact StrLaws.reprText_len _ h⟩
    | lst _ => exact (n1 _ rfl).elim
    | tup _ => exact (n2 _ rfl).elim
  intro n
  induction n with
  | zero => intro d h; exact flat 0 d h (by rintro xs rfl; cases h) (by rintro xs rfl; cases h)
  | succ n ih =>
    intro d h
    cases d with
    | list xs =>
      cases h with
      | lst h =>
        obtain ⟨b1, b2, b3, b4⟩ := fit_all ih xs h
        refine ⟨by simp only [PyData.showable, b1], by simp only [PyData.hasDict, b2], by simp only [PyData.depth]; omega, ?_⟩
        simp only [PyData.shown, wt]
        exact Nat.le_trans (listText_len_le _) (by omega)
    | tuple xs =>
      cases h with
      | tup h =>
        obtain ⟨b1, b2, b3, b4⟩ := fit_all ih xs h
        refine ⟨by simp only [PyData.showable, b1], by simp only [PyData.hasDict, b2], by simp only [PyData.depth]; omega, ?_⟩
        simp only [PyData.shown, wt]
        exact Nat.le_trans (tupleText_len_le _) (by omega)
    | _ => exact flat _ _ h (by intro xs q; cases q) (by intro xs q; cases q)
theorem repr_fit {K : PySem.W.Frag} {H : Hp} {v : V} {d : PyData} {Q : VK} {n : Nat} (hd : Dp K H v d) (hf : Fit n d) (hn : n ≤ 60) (hw : wt d ≤ 16000000) (q : Q (.str d.shown) H) : rRepr K [v] H Q := by
  obtain ⟨b1, b2, b3, b4⟩ := fit_ok n d hf
  exact ⟨v, d, rfl, hd, b1, b2, by omega, Nat.le_trans b4 (Nat.le_trans hw (by decide)), q⟩
theorem fit4 {d : PyData} {n : Nat} (hf : Fit n d) (hn : n ≤ 60) (hw : wt d ≤ 16000000) : d.showable = true ∧ d.hasDict = false ∧ d.depth ≤ 60 ∧ d.shown.length ≤ sizeLine := by
  obtain ⟨b1, b2, b3, b4⟩ := fit_ok n d hf
  exact ⟨b1, b2, by omega, Nat.le_trans b4 (Nat.le_trans hw (by decide))⟩
end Tp

set_option Elab.async false
set_option linter.all false
set_option maxRecDepth 100000
set_option maxHeartbeats 4000000
namespace Tp
open PySem L2
/-! ### small texts: at most m signs, all of them below 1000 -/
def Sm (m : Nat) (z : Str) : Prop := z.length ≤ m ∧ ∀ c ∈ z.cps.toList, c < 1000
theorem Sm.up {m n : Nat} {z : Str} (h : Sm m z) (l : m ≤ n) : Sm n z := ⟨Nat.le_trans h.1 l, h.2⟩
theorem Sm.one {c : Nat} (h : c < 1000) : Sm 1 ⟨#[c]⟩ := ⟨Nat.le_refl 1, fun x hx => by
  have : x = c := by simpa using hx
  omega⟩
theorem Sm.at {m : Nat} {z : Str} (h : Sm m z) {r : Int} (r0 : 0 ≤ r) (r1 : r < z.length) : ∃ c, atI z.cps.toList r = some c ∧ c < 1000 :=
  at_some h.2 r0 (by rw [len_list]; exact r1)
theorem Sm.app {m n : Nat} {y z : Str} (h : Sm m y) (k : Sm n z) : Sm (m + n) (y ++ z) := by
  refine ⟨by rw [Str.length_append]; exact Nat.add_le_add h.1 k.1, fun c hc => ?_⟩
  rw [Str.cps_append, Array.toList_append] at hc
  rcases List.mem_append.mp hc with hc | hc
  · exact h.2 c hc
  · exact k.2 c hc
theorem Sm.cut {m : Nat} {z : Str} (h : Sm m z) (lo hi : Option Int) : Sm m (cutS z lo hi) :=
  ⟨Nat.le_trans (cut_len z lo hi) h.1, fun c hc => h.2 c (List.mem_of_mem_drop (List.mem_of_mem_take (show c ∈ List.take _ (List.drop _ _) from hc)))⟩
theorem Sm.sub {m : Nat} {z : Str} (h : Sm m z) (i j : Nat) : Sm m (Builtin.Str.strSub z i j) := by
  refine ⟨?_, fun c hc => ?_⟩
  · show (z.cps.extract i j).size ≤ m
    rw [Array.size_extract]
    have := h.1
    have e : z.length = z.cps.size := rfl
    omega
  · refine h.2 c ?_
    have hc : c ∈ (z.cps.extract i j).toList := hc
    rw [Array.toList_extract] at hc
    exact List.mem_of_mem_drop (List.mem_of_mem_take hc)
theorem Sm.join {m n : Nat} {a : Str} {ys : List Str} (ha : Sm n a) (h : ∀ y ∈ ys, Sm m y) : Sm (ys.length * (m + n)) (Txt.join a ys) := by
  refine ⟨Nat.le_trans (join_len fun y hy => (h y hy).1) (Nat.mul_le_mul_left _ (Nat.add_le_add_left ha.1 _)), ?_⟩
  have e : Txt.join a ys = Str.join a ys := StrLaws.glued_eq_join a ys
  rw [e]
  clear e
  induction ys with
  | nil => intro c hc; cases hc
  | cons y ys ih =>
    cases ys with
    | nil => exact (h y (List.mem_cons_self ..)).2
    | cons y2 ys =>
      intro c hc
      have hc : c ∈ (y ++ a ++ Str.join a (y2 :: ys)).cps.toList := hc
      rw [Str.cps_append, Str.cps_append, Array.toList_append, Array.toList_append] at hc
      rcases List.mem_append.mp hc with hc | hc
      · rcases List.mem_append.mp hc with hc | hc
        · exact (h y (List.mem_cons_self ..)).2 c hc
        · exact ha.2 c hc
      · exact ih (fun z hz => h z (List.mem_cons_of_mem _ hz)) c hc
theorem Sm.split {m : Nat} {z y : Str} (h : Sm m z) : ∀ x ∈ Txt.split z y, Sm m x := by
  have key : ∀ (cuts : List Nat) (k a : Nat), ∀ x ∈ StrLaws.partsFrom z k a cuts, Sm m x := by
    intro cuts
    induction cuts with
    | nil =>
      intro k a x hx
      rw [List.mem_singleton.mp (show x ∈ [Builtin.Str.strSub z a z.length] from hx)]
      exact h.sub _ _
    | cons c r ih =>
      intro k a x hx
      rcases List.mem_cons.mp (show x ∈ Builtin.Str.strSub z a c :: StrLaws.partsFrom z k (c + k) r from hx) with rfl | hx
      · exact h.sub _ _
      · exact ih k (c + k) x hx
  intro x hx
  unfold Txt.split at hx
  split at hx
  · rw [List.mem_singleton.mp hx]; exact h
  · split at hx
    · rw [List.mem_singleton.mp hx]; exact h
    · rw [StrLaws.partsBetween_eq] at hx
      exact key _ _ _ x hx
theorem Sm.fit {m n : Nat} {z : Str} (h : Sm m z) : Fit n (.str z) := .str fun c hc => Nat.lt_of_lt_of_le (h.2 c hc) (by decide)
theorem dp_strs {K : PySem.W.Frag} {H : Hp} : ∀ ws : List Str, DpAll K H (ws.map V.str) (ws.map PyData.str)
  | [] => .nil
  | w :: ws => .cons (.str w) (dp_strs ws)
theorem wt_strs {m : Nat} : ∀ ws : List Str, (∀ x ∈ ws, Sm m x) → wtAll (ws.map PyData.str) ≤ ws.length * (10 * m + 4)
  | [], _ => by simp [wtAll]
  | w :: ws, h => by
    have h1 := (h w (List.mem_cons_self ..)).1
    have h2 := wt_strs ws fun x hx => h x (List.mem_cons_of_mem _ hx)
    simp only [List.map_cons, wtAll, wt, List.length_cons]
    rw [Nat.add_mul ws.length 1 (10 * m + 4), Nat.one_mul]
    omega
theorem fit_strs {m n : Nat} {ws : List Str} (h : ∀ x ∈ ws, Sm m x) : Fit (n + 1) (.list (ws.map PyData.str)) := .lst fun x hx => by
  obtain ⟨w, hw, rfl⟩ := List.mem_map.mp hx
  exact (h w hw).fit
theorem dp_same {K : PySem.W.Frag} {H H' : Hp} (S : Same H H') : (∀ {v : V} {d : PyData}, Dp K H v d → Dp K H' v d) ∧ (∀ {vs : List V} {ds : List PyData}, DpAll K H vs ds → DpAll K H' vs ds) := by
  have sq : ∀ {a : Addr} {xs : List V}, SqT K H a xs → SqT K H' a xs := by
    rintro a xs ((h | ⟨o, h⟩) | h)
    · exact .inl (.inl (S _ _ h))
    · exact .inl (.inr ⟨o, S _ _ h⟩)
    · exact .inr h
  constructor
  · intro v d h
    exact Dp.rec (motive_1 := fun v d _ => Dp K H' v d) (motive_2 := fun vs ds _ => DpAll K H' vs ds) .non .bl .int .str (fun s _ ih => .lst (S.seq s) ih) (fun s _ ih => .tup (sq s) ih) .nil (fun _ _ a b => .cons a b) h
  · intro vs ds h
    exact DpAll.rec (motive_1 := fun v d _ => Dp K H' v d) (motive_2 := fun vs ds _ => DpAll K H' vs ds) .non .bl .int .str (fun s _ ih => .lst (S.seq s) ih) (fun s _ ih => .tup (sq s) ih) .nil (fun _ _ a b => .cons a b) h
theorem fits2 {x y m n : Nat} (h : x ≤ m) (k : y ≤ n) (l : m + n ≤ 100000 := by decide) : x + y ≤ sizeLine := Nat.le_trans (Nat.add_le_add h k) (Nat.le_trans l (by decide))
/-- a value's type, as long as what stands stays -/
theorem ty_same {K : PySem.W.Frag} {H H' : Hp} (S : Same H H') {v : V} {t : Value} (h : TyX K H v t) : TyX K H' v t := by
  cases h with
  | base b =>
    cases b with
    | non => exact .base .non
    | bl x => exact .base (.bl x)
    | int i => exact .base (.int i)
    | str x => exact .base (.str x)
    | flt x => exact .base (.flt x)
    | lst e => exact .base (.lst (S _ _ e))
    | frz e => exact .base (.frz (S _ _ e))
    | tup e => exact .base (.tup (S _ _ e))
    | dK e => exact .base (.dK (S _ _ e))
    | dT e => exact .base (.dT (S _ _ e))
    | ins e x1 x2 x3 x4 x5 => exact .base (.ins (S _ _ e) x1 x2 x3 x4 x5)
  | byt b => exact .byt b
  | set e => exact .set (S _ _ e)
  | kList e c => exact .kList e c
  | kTuple e c => exact .kTuple e c
  | kDict e c => exact .kDict e c
  | fTuple e => exact .fTuple (S _ _ e)
  | fDict e => exact .fDict (S _ _ e)
end Tp

set_option Elab.async false
set_option linter.all false
set_option maxRecDepth 100000
set_option maxHeartbeats 4000000
namespace Tp
open PySem PySem.Spec PyProof.Rows L2
/-! ### own exceptions: B.__init__(self, 'text'); self.f = v, with B an own class over ValueError -/
section
variable {X : Cx} {e : Expr} {es : List Expr} {ta : TA} {x : Str} {B : Addr} {p1 p2 pos : Pos}
/-- what is known of such a base -/
structure BaseT (K : PySem.W.Frag) (B : Addr) : Prop where
  ga : PySem.W.specialIn K (.ref B) "__getattribute__" = some (some (.builtin "type.__getattribute__"))
  rd : PySem.W.readsIn K B (.type "type") = true
  fi : PySem.W.findCls K (.ref B) (.type "type") "__init__" = some (.val (.builtin "ValueError.__init__"))
theorem pe_ownInit {pl : Sem Bool} (hg : Gl X x) (hm : X.mg x = some (.ref B)) (T : BaseT X.K B) (ha : PA X (e :: es) ta)
    (hc : eval (.Call (.Attribute (.Name x p1) "__init__" p2) (e :: es) [] pos) X.env = (do
      let ov ← eval (.Name x p1) X.env
      standAt p2.atName
      let (f, first) ← holding [ov] (getMethod ov "__init__" pl)
      callWith pos f first (backTo pos (starEach (e :: es) X.env)) (backToKw pos (keywordEach [] X.env))) := by rfl)
    (hdb : (x == ("__debug__" : Str)) = false := by decide)
    (he : starEach (e :: es) X.env = (false, eval e X.env) :: starEach es X.env := by rfl) (hpl : (backTo pos (starEach es X.env)).any (·.1) = false := by rfl) :
    PE X (.Call (.Attribute (.Name x p1) "__init__" p2) (e :: es) [] pos) (tVeI X.K ta) := by
  refine ⟨fun pins s σ H Q I h => ?_⟩
  refine PySem.W.methodCall_KW (ld_glob I hg hm ?_ hdb) hc
  refine PySem.W.method_cls I.kIn T.ga (PySem.W.cls_value I.kIn T.rd T.fi (by decide +kernel) ?_)
  show wpAny _ _ (callWith pos (Value.builtin "ValueError.__init__") [] (backTo pos (starEach (e :: es) X.env)) []) _ _ _
  refine PyProof.Rows.callWith_method1 (thn (ha.run pos pins _ σ H _ (I.tok _) h) fun us s1 ⟨vs, H1, I1, r1, a, C, ws, ev, hl, TC, ea, q⟩ => ?_) he hpl
  subst ev
  cases r1 with
  | cons ra rr =>
    cases (ra : _ = Value.ref a)
    refine oinit_ok TC I1 ea ?_ fun s' J => ⟨.non, H1, J, rfl, q⟩
    have := Paired.length rr
    exact Nat.le_trans (by omega) (show 1000 ≤ sizeLine from by decide)
end
/-- what the promise of such an __init__ is -/
def spXI (C : Addr) (f : Str) : Sp := fun vs H Q _ => ∃ (a : Addr) (v : V), vs = [.ref a, v] ∧ H a = some (exo a C none) ∧
  ∀ dx, H dx = none → dx ≠ a → Q .non (upd (upd H dx (exd dx [(f, v)])) a (exo a C (some dx)))
/-- an own exception class of one field -/
structure ExT (P : Program) (w : World) (K : PySem.W.Frag) (mg : Str → Option Value) (base : Heap) (C fI : Addr) (fd : FuncData) (f : Str) : Prop where
  ox : OexC K C
  iC : PySem.W.findIn K (.ref C) "__init__" = some (some (.ref fI))
  tI : PySem.W.typeIn K (.ref fI) = some (.type "function")
  ok : FnOk P w K mg base CX0 1 fI fd ["self", f] (spXI C f)
  bn : Binds K fd ["self", f] []
section
variable {X : Cx} {x f : Str} {C fI : Addr} {fd : FuncData} {e : Expr} {te : TE} {p pos pos2 : Pos}
/-- the same reading, whatever weaker is wanted -/
def tMono (te : TE) : TA := fun σ H Q => ∃ R : VK, te σ H R ∧ ∀ v H1, R v H1 → Q [v] H1
theorem pa_mono (he : PE X e te) (hs : starEach (e :: []) X.env = (false, eval e X.env) :: starEach [] X.env) : PA X [e] (tMono te) := by
  refine ⟨fun pos pins s σ H Q I h => ?_⟩
  obtain ⟨R, h1, h2⟩ := h
  have e1 : R = fun x H1 => ∃ v, [x] = [v] ∧ R v H1 := by
    funext x H1
    exact propext ⟨fun q => ⟨x, rfl, q⟩, fun ⟨v, ev, q⟩ => by cases ev; exact q⟩
  rw [e1] at h1
  exact thn ((pa_cons he pa_nil hs).run pos pins s σ H (fun vs H1 => ∃ v, vs = [v] ∧ R v H1) I h1) fun us s1 ⟨vs, H1, I1, r1, v, ev, q⟩ => ⟨vs, H1, I1, r1, by rw [ev]; exact h2 v H1 q⟩
/-- C(e): the exception is made; its dict is told -/
def tMkX (C : Addr) (f : Str) (te : TE) : L2.St → Hp → XK → Prop := fun σ H Q => te σ H fun v H1 => ∀ d, H1 d = none → Q (.ref C) (some d) (upd H1 d (.xd [(f, v)]))
theorem mk_heap {H1 : Hp} {a dx : Addr} {C : Addr} {f : Str} {v : V} (ha : H1 a = none) (ne : dx ≠ a) :
    upd (del (upd (upd (upd H1 a (exo a C none)) dx (exd dx [(f, v)])) a (exo a C (some dx))) a) dx (.xd [(f, v)]) = upd H1 dx (.xd [(f, v)]) := by
  funext b
  by_cases h1 : b = dx
  · rw [h1, upd_same, upd_same]
  · rw [upd_ne h1, upd_ne h1]
    by_cases h2 : b = a
    · rw [h2, del_same, ha]
    · rw [del_ne h2, upd_ne h2, upd_ne h1, upd_ne h2]
theorem pmk_x {k : Nat} (T : ExT X.prog X.w X.K X.mg X.base C fI fd f) (hr : Room (k + 2) X.A) (hg : Gl X x) (hm : X.mg x = some (.ref C)) (he : PE X e te)
    (hdb : (x == ("__debug__" : Str)) = false := by decide) (hs : starEach (e :: []) X.env = (false, eval e X.env) :: starEach [] X.env := by rfl) (hpl : (backTo pos (starEach [] X.env)).any (·.1) = false := by rfl) :
    PMk X (.Call (.Name x p) [e] [] pos) (tMkX C f te) := by
  intro pins s σ H Q I h
  refine pmk_oex T.ox T.iC T.tI T.ok (hr.mono (by omega)) T.bn .nil (fun _ _ _ _ _ _ _ z => z.elim) hg hm (pa_mono he hs) hdb hs hpl pins s σ H Q I ⟨_, h, fun v H1 q => ⟨(show 1 ≤ 1000 from by decide), fun a ha => ?_⟩⟩
  refine ⟨a, v, rfl, upd_same, fun dx hd ne => ⟨rfl, dx, [(f, v)], upd_same, ?_, ?_, ?_⟩⟩
  · rw [upd_ne ne, upd_same]
  · rw [upd_ne ne] at hd
    exact hd
  · rw [mk_heap ha ne]
    rw [upd_ne ne] at hd
    exact q dx hd
theorem ps_raiseX {k : Nat} {W : WX} (hc : X.calm = true) (T : ExT X.prog X.w X.K X.mg X.base C fI fd f) (hr : Room (k + 2) X.A) (tk : Takes X W) (hg : Gl X x) (hm : X.mg x = some (.ref C)) (he : PE X e te)
    (hdb : (x == ("__debug__" : Str)) = false := by decide) (hs : starEach (e :: []) X.env = (false, eval e X.env) :: starEach [] X.env := by rfl) (hpl : (backTo pos (starEach [] X.env)).any (·.1) = false := by rfl) :
    PS X (.Raise (some (.Call (.Name x p) [e] [] pos)) none pos2) (fun _ σ H => tMkX C f te σ H fun cls d H' => W cls d σ H') := ps_raise hc tk (pmk_x T hr hg hm he hdb hs hpl)
end
end Tp

set_option Elab.async false
set_option linter.all false
set_option maxRecDepth 100000
set_option maxHeartbeats 4000000
namespace Tp
open PySem PySem.Spec PyProof.Rows L2
/-! ### try with several clauses, each with or without a name -/
/-- one clause: the class, the slot of its name (if it has one), its suite's reading -/
structure Cl where
  c : Value
  i : Option Nat
  ts : Addr → Value → Option Addr → TS
def setO (σ : L2.St) (i : Option Nat) (v : Option V) : L2.St := match i with
  | some j => σ.set j v
  | none => σ
def wCl (K : PySem.W.Frag) (Wout : WX) (D : Ends) : List Cl → WX
  | [] => Wout
  | k :: r => fun cls d σ H => ∃ b, PySem.W.exmOne K cls k.c = some b ∧
      (b = true → ∀ a, H a = none → k.ts a cls d { nx := fun σ' H' => D.nx (setO σ' k.i none) H', rt := D.rt, bk := fun σ' H' => D.bk (setO σ' k.i none) H', ct := fun σ' H' => D.ct (setO σ' k.i none) H' } (setO σ k.i (some (.ref a))) H) ∧
      (b = false → wCl K Wout D r cls d σ H)
inductive HdsA (X : Cx) : List ExceptHandler → List Cl → Prop
  | nil : HdsA X [] []
  | as_ {x n : Str} {i : Nat} {c : Value} {ts : Addr → Value → Option Addr → TS} {b₀ : Stmt} {suite : List Stmt} {np pos' : Pos} {hds : List ExceptHandler} {l : List Cl} (hN : X.N.Nodup) (hi : X.N[i]? = some n) (hln : X.env.kindOf n = some .local) (hc : Names X x c)
      (hsu : ∀ (a : Addr) (oe : Obj) (cls : Value) (d : Option Addr) (pn : List (Addr × Obj)), Zc cls d oe → (∃ vs, oe.data = .fields vs) → PSs (X.suite a ((a, oe) :: pn)) (b₀ :: suite) (ts a cls d)) (r : HdsA X hds l) :
      HdsA X (.ExceptHandler (some (.Name x np)) (some n) (b₀ :: suite) pos' :: hds) (⟨c, some i, ts⟩ :: l)
  | bare {x : Str} {c : Value} {ts : Addr → Value → Option Addr → TS} {b₀ : Stmt} {suite : List Stmt} {np pos' : Pos} {hds : List ExceptHandler} {l : List Cl} (hc : Names X x c)
      (hsu : ∀ (a : Addr) (oe : Obj) (cls : Value) (d : Option Addr) (pn : List (Addr × Obj)), Zc cls d oe → (∃ vs, oe.data = .fields vs) → PSs (X.suite a ((a, oe) :: pn)) (b₀ :: suite) (ts a cls d)) (r : HdsA X hds l) :
      HdsA X (.ExceptHandler (some (.Name x np)) none (b₀ :: suite) pos' :: hds) (⟨c, none, ts⟩ :: l)
section
variable {X : Cx} {body : List Stmt} {h₀ : ExceptHandler} {hds : List ExceptHandler} {l : List Cl} {pos : Pos} {tb : WX → TS} {Wout : WX}
theorem ps_tryA (hs : X.stack = X.env :: X.outer) (hf : X.env.frame = some X.env.locals) (tk : Takes X Wout)
    (hb : ∀ (W : WX) (pn : List (Addr × Obj)) (xe : Value → Shared → Prop), Takes (X.tr pn xe) W → PassesOwn (model X.prog X.w) X.A X.env xe → PSs (X.tr pn xe) body (tb W))
    (hh : HdsA X (h₀ :: hds) l) : PS X (.Try body (h₀ :: hds) [] [] pos) (fun D σ H => tb (wCl X.K Wout D l) D σ H) := by
  refine ⟨fun pins s σ H D I h => ?_⟩
  have ok := I.ok
  have hfr : X.A.frames = some (X.env :: X.outer) := by rw [ok.frames, hs]
  refine wpAny_Try_except ?_
  refine wpAny_mono ((hb (wCl X.K Wout D l) (X.pn ++ pins) (fun e s₁ => wpAny (model X.prog X.w) X.A (noteFrame e X.env) (fun _ s₂ => wpAny (model X.prog X.w) X.A (setFlight e none) (fun _ s₃ =>
    wpAny (model X.prog X.w) X.A (handleBy e X.env (h₀ :: hds)) (SP X pins D) X.xe s₃) X.xe s₂) X.xe s₁) (fun u s' xx => ?_) PassesOwn.looking).run [] s σ H D (I.toTry _) h) (fun f s1 hsp => ?_) (fun e s1 he => he)
  · obtain ⟨a, B, sI, pins', σ', H', cls, d, rfl, J', nb, up, sky, na, os, ag, w⟩ := xx
    have J : Inv X pins σ' H' sI := J'.ofTry ok
    have sky' : Sky B (X.env :: X.outer) a (Zc cls d) X.env.locals s'.heap := by rw [← hs]; exact sky
    show wpAny (model X.prog X.w) X.A (noteFrame (.ref a) X.env) _ _ _
    refine Sky.land Zc.steady hfr hf sky' fun h3 fl3 up3 => ?_
    have J3 : Inv X pins σ' H' { s' with heap := h3 } := J.landed nb fl3.1 (up.trans up3) os ag
    obtain ⟨oe3, vs3, he3, hz3, hd3⟩ := fl3.there
    have notFr : ∀ {h : Heap} {o : Obj} {vs : Array Value}, h.FunFrames B (X.env :: X.outer) → h.get? a = some o → o.data = .fields vs → a ∉ frs (X.env :: X.outer) := fun {h o vs} ff e dd hm => by
      obtain ⟨_, o', e', hnf⟩ := ff.mem hm
      rw [e] at e'; cases e'
      exact hnf _ dd
    have nfr := notFr fl3.2.2.1 he3 hd3
    have nL : a ≠ X.env.locals := fun z => nfr (List.mem_filterMap.mpr ⟨X.env, List.mem_cons_self, by rw [hf, z]⟩)
    have nF : a ∉ X.fs := fun hm => by
      obtain ⟨e, he, q⟩ := List.mem_filterMap.mp hm
      exact nfr (List.mem_filterMap.mpr ⟨e, List.mem_cons_of_mem _ he, q⟩)
    have S3 := J3.suite he3 hd3 na nL nF
    have LT : PySem.W.Looks (model X.prog X.w) h3 (typeOf (.ref a)) cls := fun A Q E s k q => wpAny_typeOf_ref (k _ _ he3) (by rw [hz3.1]; exact q)
    have test : ∀ {x : Str} {c : Value} {np : Pos} {Q : Value → Shared → Prop} {E : Value → Shared → Prop}, Names X x c → Q c { s' with heap := h3 } →
        wpAny (model X.prog X.w) (X.A.mark (some (.ref a))) (eval (.Name x np) X.env) Q E { s' with heap := h3 } := fun {x c np Q E} hc q => by
      obtain ⟨hg, hdbg, hm | ⟨hm, hv, hnn⟩⟩ := hc
      · exact ld_glob (X := X.suite a ((a, oe3) :: (X.pn ++ pins))) S3 hg hm q hdbg
      · exact ld_blt (X := X.suite a ((a, oe3) :: (X.pn ++ pins))) S3 hg hm hv q hnn hdbg
    have go : ∀ {hds' : List ExceptHandler} {l' : List Cl}, HdsA X hds' l' → wCl X.K Wout D l' cls d σ' H' →
        wpAny (model X.prog X.w) X.A (handleBy (.ref a) X.env hds') (SP X pins D) X.xe { s' with heap := h3 } := by
      intro hds' l' hk
      induction hk with
      | nil =>
        intro w
        refine wpAny_handleBy_nil ?_
        obtain ⟨k1, k2, k3, oe, vs, T, oT, ts', he, hz, hd, h1, hr⟩ := id fl3
        unfold PySem.passOn
        refine wpAny_bind (wpAny_field he hd h1 ?_)
        rw [if_neg (show ¬ ((Value.ref T == Value.none) = true) from by simp)]
        have fin : wpAny (model X.prog X.w) X.A (setFlight (.ref a) X.env.frame) (fun _ s4 => wpAny (model X.prog X.w) X.A (throw (.ref a) : Sem Flow) (SP X pins D) X.xe s4) X.xe { s' with heap := h3 } := by
          rw [hf]
          refine HandSPX.setFlight_upZ fl3 fun h4 hh4 up4 => wpAny_throw (tk _ _ ?_)
          exact ⟨a, B, sI, pins, σ', H', cls, d, rfl, J, nb, (up.trans up3).trans up4, .inr (.inr (by rw [hs]; exact hh4)), na, os, ag, w⟩
        first
          | exact wpAny_bind (wpAny_pure (wpAny_bind fin))
          | exact wpAny_bind fin
      | @as_ x n i c ts b₀ suite np pos' hds2 l2 hN hi hln hc hsu r ih =>
        intro w
        obtain ⟨b, hb1, hyes, hno⟩ := w
        refine wpAny_handleBy_cons (codeAny_handlers_test ?_) (by intro q; cases q)
        refine test hc ((PySem.W.exm_one (M := model X.prog X.w) (J3.kIn) LT hb1).here ?_)
        cases b with
        | true =>
          refine codeAny_handlers_suite_as ?_
          refine HandSPX.lands_againZ fl3 fun h4 fl4 up4 => ?_
          have J4 : Inv X pins σ' H' { s' with heap := h4 } := J.landed nb fl4.1 ((up.trans up3).trans up4) os ag
          obtain ⟨oe4, vs4, he4, hz4, hd4⟩ := fl4.there
          have S4 := J4.suite he4 hd4 na nL nF
          refine store_ok (X := X.suite a ((a, oe4) :: (X.pn ++ pins))) (v := .ref a) S4 hN hi (.inl hln) rfl (fun s5 S5 => ?_) (.inr hln)
          refine wpAny_mono ((hsu a oe4 cls d (X.pn ++ pins) hz4 ⟨_, hd4⟩).run [] s5 _ H' _ S5 (hyes rfl a na)) (fun f s6 hsp => ?_) (fun _ _ z => False.elim z)
          have end_ : ∀ {σ6 : L2.St} {H6 : Hp} {Q : Shared → Prop}, Inv (X.suite a ((a, oe4) :: (X.pn ++ pins))) [] σ6 H6 s6 → (∀ s7, Inv X pins (σ6.set i none) H6 s7 → Q s7) →
              wpAny (model X.prog X.w) X.A (do bindName X.env n .none; unbindBehindTheSuite X.env n pos') (fun _ s7 => Q s7) X.xe s6 := fun {σ6 H6 Q} S6 hq => gone_ok (S6.unsuite ok) hN hi hln hq
          cases f with
          | ret u =>
            obtain ⟨v6, σ6, H6, S6, r6, q6⟩ := hsp
            exact end_ S6 fun s7 J7 => ⟨_, _, _, J7, r6, q6⟩
          | _ =>
            obtain ⟨σ6, H6, S6, q6⟩ := hsp
            exact end_ S6 fun s7 J7 => ⟨_, _, J7, q6⟩
        | false =>
          show wpAny _ X.A (handleBy (.ref a) X.env hds2) _ _ _
          exact ih (hno rfl)
      | @bare x c ts b₀ suite np pos' hds2 l2 hc hsu r ih =>
        intro w
        obtain ⟨b, hb1, hyes, hno⟩ := w
        refine wpAny_handleBy_cons (codeAny_handlers_test ?_) (by intro q; cases q)
        refine test hc ((PySem.W.exm_one (M := model X.prog X.w) (J3.kIn) LT hb1).here ?_)
        cases b with
        | true =>
          refine codeAny_handlers_suite ?_
          refine HandSPX.lands_againZ fl3 fun h4 fl4 up4 => ?_
          have J4 : Inv X pins σ' H' { s' with heap := h4 } := J.landed nb fl4.1 ((up.trans up3).trans up4) os ag
          obtain ⟨oe4, vs4, he4, hz4, hd4⟩ := fl4.there
          have S4 := J4.suite he4 hd4 na nL nF
          refine wpAny_mono ((hsu a oe4 cls d (X.pn ++ pins) hz4 ⟨_, hd4⟩).run [] _ _ H' _ S4 (hyes rfl a na)) (fun f s6 hsp => ?_) (fun _ _ z => False.elim z)
          cases f with
          | ret u =>
            obtain ⟨v6, σ6, H6, S6, r6, q6⟩ := hsp
            exact ⟨_, _, _, S6.unsuite ok, r6, q6⟩
          | _ =>
            obtain ⟨σ6, H6, S6, q6⟩ := hsp
            exact ⟨_, _, S6.unsuite ok, q6⟩
        | false =>
          show wpAny _ X.A (handleBy (.ref a) X.env hds2) _ _ _
          exact ih (hno rfl)
    exact go hh w
  · cases f with
    | next =>
      obtain ⟨σ', H', J', q⟩ := hsp
      exact wpAny_execs_nil ⟨σ', H', J'.ofTry ok, q⟩
    | ret u =>
      obtain ⟨v, σ', H', J', r, q⟩ := hsp
      exact ⟨v, σ', H', J'.ofTry ok, r, q⟩
    | _ =>
      obtain ⟨σ', H', J', q⟩ := hsp
      exact ⟨σ', H', J'.ofTry ok, q⟩
end

/-! ### isinstance of a caught exception of an own class, with or without fields -/
section
open PySem.W
variable {prog : Program} {w : World} {A : Around} {E : Value → Shared → Prop} {s : Shared} {K : Frag} {x D : Addr} {ox : Obj} {od : Option Obj}
theorem find_classX (C : ExcC K D) : findObj K D od "__class__" = some (.bind (.builtin "getset_descriptor.__get__") (.builtin "object.__class__")) := by
  obtain ⟨cd, hc, _⟩ := any_some C.hd
  unfold findObj
  rw [hc, Option.bind_some, C.ha, Option.bind_some]
  simp [C.hn, C.ht]
theorem class_of_exc {Q : Option Value → Shared → Prop} (C : ExcC K D) (X : K.In s.heap) (I : InstAt s.heap x ox D od) (h : Q (some (.ref D)) { s with toks := s.toks + 1 }) :
    wpAny (model prog w) A (getAttr? (.ref x) "__class__") Q E s := by
  obtain ⟨hp, g, d, t, os⟩ := s
  have L0 := I.type (M := model prog w)
  have hx2 : (Value.builtin "BaseException.__getattribute__" == Value.builtin "object.__getattribute__") = false := by decide +kernel
  have hx1 : (onTheHeap (Value.ref D) && Value.builtin "BaseException.__getattribute__" == Value.builtin "object.__getattribute__") = false := by rw [hx2]; rfl
  unfold getAttr? getAttrBy? getAttrBy
  refine wpAny_bind (wpAny_mkText (wpAny_bind (wpAny_attempt (wpAny_holding (wpAny_bind (L0.at (wpAny_bind ((looks_findIn (M := model prog w) X C.hg).at ?_))))))))
  show wpAny _ _ (if (onTheHeap (Value.ref D) && Value.builtin "BaseException.__getattribute__" == Value.builtin "object.__getattribute__") = true then _ else _) _ _ _
  rw [hx1, if_neg Bool.false_ne_true]
  unfold getAttrByItsOwn hookBefore
  refine wpAny_bind ?_
  rw [if_pos (show onTheHeap (Value.ref D) = true from rfl)]
  refine (looks_findIn (M := model prog w) X C.hk).at (wpAny_bind (wpAny_attempt (wpAny_holding ?_)))
  unfold callGetattribute
  rw [show (false && onTheHeap (Value.builtin "BaseException.__getattribute__")) = false from rfl, if_neg Bool.false_ne_true]
  unfold boundAndCalled
  rw [PySem.F.excAttr_ValueError.ga.bind (.ref x)]
  refine wpAny_bind (wpAny_pure ?_)
  show wpAny _ _ (call (.builtin "BaseException.__getattribute__") [.ref x, .str "__class__" t]) _ _ _
  refine wpAny_call (codeAny_call_builtin PySem.F.excAttr_ValueError.ga.plain PySem.F.entry_bexc_ga ?_)
  refine @check_slot (model prog w) _ _ ⟨hp, g, d, t + 1, os⟩ "BaseException.__getattribute__" "BaseException" "__getattribute__" (.ref x) [.str "__class__" t] [] _ (by decide +kernel) (by decide +kernel) (L0.andThen (looks_subIn X C.hs)) (PySem.F.args_bexc_ga (.ref x) (.str "__class__" t)) ?_
  unfold Builtin.«object.__getattribute__»
  refine wpAny_bind (wpAny_of_eq (a := ((Value.ref x : Value), [Value.str "__class__" t])) (by first | rfl | (simp only [slotArgs]; rfl)) ?_)
  refine wpAny_bind (wpAny_pure (wpAny_bind (L0.at (wpAny_bind ((looks_find (M := model prog w) X I (find_classX C)).at ?_)))))
  show wpAny _ _ (holding [Value.builtin "object.__class__"] (call (.builtin "getset_descriptor.__get__") [.builtin "object.__class__", .ref x, .ref D]) >>= ret) _ _ _
  refine wpAny_bind (wpAny_holding (wpAny_call (class_get (s := ⟨hp, g, d, t + 1, os⟩) (ox := ox) (od := od) X I C.hm ?_)))
  refine wpAny_pure ?_
  show wpAny _ _ (handedOut (.ref D)) _ _ _
  rw [handedOut_of (v := .ref D) rfl]
  first
    | exact wpAny_pure (wpAny_pure h)
    | exact wpAny_pure h
    | exact wpAny_pure (wpAny_bind (wpAny_pure (wpAny_pure h)))
theorem kitx_excD (C : ExcC K D) : KitX K (.ref x) (.ref D) (fun h => InstAt h x ox D od) where
  ty := fun _ _ _ I => I.type
  it := fun _ _ X _ => by
    obtain ⟨cdD, hcD, _⟩ := any_some C.hd
    unfold clsIn at hcD
    split at hcD
    · rename_i c' d' cd' sl' ho
      intro A' Q' E' s' k q
      unfold isType loadHead
      exact wpAny_bind (wpAny_loadPart (k _ _ (X _ _ ho)) (wpAny_pure q))
    · cases hcD
  ne := fun h tp dd its n sl X htp => by
    obtain ⟨cdD, hcD, _⟩ := any_some C.hd
    refine Bool.eq_false_iff.mpr fun q => ?_
    have e : D = tp := Value.ref.inj (beq_iff_eq.mp q)
    subst e
    unfold clsIn at hcD
    split at hcD
    · rename_i c' d' cd' sl' ho
      have z := (X _ _ ho).symm.trans htp
      cases z
    · cases hcD
  ca := fun X I k => class_of_exc C X I k
end
/-- isinstance(e, c), e the exception that the suite holds, of class cls = D, its fields at dd -/
def rIsX (K : PySem.W.Frag) (a : Addr) (cls : Value) (d : Option Addr) : List V → Hp → VK → Prop := fun xs H Q => ∃ (D dd : Addr) (fs : List (Str × V)) (c : V) (cv : Value) (b : Bool), xs = [.ref a, c] ∧ cls = .ref D ∧ ExcC K D ∧ d = some dd ∧ H dd = some (.xd fs) ∧
  (∀ u, RelV c u → u = cv) ∧ PySem.W.kitOne K (.ref D) cv = some b ∧ Q (.bl b) H
theorem call_isX {X : Cx} {a : Addr} {oe : Obj} {cls : Value} {d : Option Addr} {pn : List (Addr × Obj)} (hz : Zc cls d oe) (hf : ∃ vs, oe.data = .fields vs) : CallR (X.suite a ((a, oe) :: pn)) (.builtin "isinstance") (rIsX X.K a cls d) := by
  intro pins s σ H xs us Q I r h
  obtain ⟨D, dd, fs, c, cv, b, rfl, rfl, C, rfl, ea, hcv, e, q⟩ := h
  cases r with
  | cons rx rr =>
    cases rr with
    | cons rt rr =>
      cases rr
      cases rx
      have ec := hcv _ rt
      subst ec
      obtain ⟨ha, _⟩ := I.pin (a, oe) (List.mem_append_left _ List.mem_cons_self)
      obtain ⟨vs, hd⟩ := hf
      have hx : ObjOk X.prog X.w H s.heap dd (.xd fs) := I.hok dd _ ea
      obtain ⟨mA, hns, hr⟩ := hx
      obtain ⟨od, ho, hl⟩ := lookIn_ns hns
      have J : PySem.W.InstAt s.heap a oe D (some od) := ⟨ha, hz.1, by unfold PySem.W.notCls; rw [hd] <;> rfl, by rw [hz.2]; exact ho⟩
      exact PySem.W.kia_one (kitx_excD C) I.kIn J e (fun z => nomatch z) fun tk => ⟨.bl b, H, I.kept (t' := tk) fun _ _ z => z, rfl, q⟩
end Tp

set_option Elab.async false
set_option linter.all false
set_option maxRecDepth 100000
set_option maxHeartbeats 4000000
namespace Tp
open PySem PySem.Spec PyProof.Rows L2
/-! ### data with dicts: repr. Sys: sys.modules stands aside, known and locked -/
def Sys (K : PySem.W.Frag) (H : Hp) : Prop := (∃ o es ep, K.lookup sysModules = some o ∧ o.data = .dict es ep) ∨ (K.lookup sysModules = none ∧ ∃ o φ, H sysModules = some (.frz o (.ext φ)))
theorem Sys.same {K : PySem.W.Frag} {H H' : Hp} (h : Sys K H) (S : Same H H') : Sys K H' := h.imp id fun h => ⟨h.1, let ⟨o, φ, e⟩ := h.2; ⟨o, φ, S _ _ e⟩⟩
mutual
inductive Dq (K : PySem.W.Frag) (H : Hp) : V → PyData → Prop
  | non : Dq K H .non .none
  | bl (b : Bool) : Dq K H (.bl b) (.bool b)
  | int (i : Int) : Dq K H (.int i) (.int i)
  | str (x : Str) : Dq K H (.str x) (.str x)
  | lst {a : Addr} {xs : List V} {ds : List PyData} : SqL K H a xs → DqAll K H xs ds → Dq K H (.ref a) (.list ds)
  | tup {a : Addr} {xs : List V} {ds : List PyData} : SqT K H a xs → DqAll K H xs ds → Dq K H (.ref a) (.tuple ds)
  | dic {a : Addr} {kvs : List (Key × V)} {ds : List (PyData × PyData)} : Rd H a (.dK kvs) → DqAll K H (kvs.map fun p => kV p.1) (ds.map (·.1)) → DqAll K H (kvs.map (·.2)) (ds.map (·.2)) → Dq K H (.ref a) (.dict ds)
inductive DqAll (K : PySem.W.Frag) (H : Hp) : List V → List PyData → Prop
  | nil : DqAll K H [] []
  | cons {v : V} {vs : List V} {d : PyData} {ds : List PyData} : Dq K H v d → DqAll K H vs ds → DqAll K H (v :: vs) (d :: ds)
end
section
variable {X : Cx} {pins : List (Addr × Obj)} {σ : L2.St} {H : Hp} {s : Shared}
theorem sq_far {a : Addr} {xs : List V} (I : Inv X pins σ H s) (sy : Sys X.K H) (h : SqL X.K H a xs) : a ≠ sysModules := by
  rintro rfl
  rcases sy with ⟨o, es, ep, k, d⟩ | ⟨k, o, φ, e⟩
  · obtain ⟨its, _, ⟨o', n, ho, _, _, hd⟩, _⟩ := I.list h
    rw [I.kIn _ _ k] at ho
    cases ho
    rw [d] at hd
    cases hd
  · rcases h with (h | ⟨o', h⟩) | ⟨o', its, n, h, _⟩
    · rw [e] at h; cases h
    · rw [e] at h; cases h
    · rw [k] at h; cases h
theorem key_vals {es : List DictEntry} {vs : List (Key × Value)} (p : Pairs (mixKind X.prog X.w) es vs) : ∀ {kvs : List (Key × V)}, KV kvs vs →
    Vals (kvs.map fun p => kV p.1) (es.map (·.key)) ∧ Vals (kvs.map (·.2)) (es.map (·.val)) := by
  induction p with
  | nil =>
    intro kvs r
    cases r
    exact ⟨.nil, .nil⟩
  | cons h1 h2 _ ih =>
    intro kvs r
    cases r with
    | cons r1 r2 =>
      rename_i e kv es' kvs' _ q qs
      obtain ⟨a, b⟩ := ih r2
      obtain ⟨qk, qv⟩ := q
      obtain ⟨ek, ev⟩ := r1
      refine ⟨.cons ?_ a, .cons (by show RelV qv e.val; rw [h2]; exact ev) b⟩
      have ek : qk = kv.1 := ek
      rcases keyIs_shape (show keyIs kv.1 e.key = true from h1) with ⟨i, t, e1, e2⟩ | ⟨x, t, e1, e2⟩
      · show RelV (kV qk) e.key
        rw [ek, e1, e2]
        exact ⟨t, rfl⟩
      · show RelV (kV qk) e.key
        rw [ek, e1, e2]
        exact ⟨t, rfl⟩
def RdsV (H : Hp) (s : Shared) (v : V) (d : PyData) : Prop := ∀ u, RelV v u → ∃ as, Reads s.heap u d as ∧ sysModules ∉ as
def RdsA (H : Hp) (s : Shared) (vs : List V) (ds : List PyData) : Prop := ∀ us, Vals vs us → ∃ as, ReadsAll s.heap us ds as ∧ sysModules ∉ as
theorem Dq.both (I : Inv X pins σ H s) (sy : Sys X.K H) : (∀ {v : V} {d : PyData}, Dq X.K H v d → RdsV H s v d) ∧ (∀ {vs : List V} {ds : List PyData}, DqAll X.K H vs ds → RdsA H s vs ds) := by
  have h1 : RdsV H s .non .none := fun u r => by cases r; exact ⟨_, .none, by simp⟩
  have h2 : ∀ b, RdsV H s (.bl b) (.bool b) := fun b u r => by cases r; exact ⟨_, .bool b, by simp⟩
  have h3 : ∀ i, RdsV H s (.int i) (.int i) := fun i u r => by obtain ⟨t, rfl⟩ := r; exact ⟨_, .int i t, by simp⟩
  have h4 : ∀ x, RdsV H s (.str x) (.str x) := fun x u r => by obtain ⟨t, rfl⟩ := r; exact ⟨_, .str x t, by simp⟩
  have h5 : ∀ {a : Addr} {xs : List V} {ds : List PyData}, SqL X.K H a xs → DqAll X.K H xs ds → RdsA H s xs ds → RdsV H s (.ref a) (.list ds) := fun hs _ ih u r => by
    cases r
    obtain ⟨its, rv, ⟨o, n, ho, hc, _, hd⟩, _⟩ := I.list hs
    obtain ⟨as, hr, na⟩ := ih its rv
    exact ⟨_, .list ho hc hd hr, fun z => (List.mem_cons.mp z).elim (fun e => sq_far I sy hs e.symm) na⟩
  have h6 : ∀ {a : Addr} {xs : List V} {ds : List PyData}, SqT X.K H a xs → DqAll X.K H xs ds → RdsA H s xs ds → RdsV H s (.ref a) (.tuple ds) := fun hs _ ih u r => by
    cases r
    obtain ⟨its, rv, ⟨o, ho, hc, n, hd⟩, _⟩ := I.tuple hs
    obtain ⟨as, hr, na⟩ := ih its rv
    exact ⟨_, .tuple ho hc hd hr, na⟩
  have h7 : ∀ {a : Addr} {kvs : List (Key × V)} {ds : List (PyData × PyData)}, Rd H a (.dK kvs) → DqAll X.K H (kvs.map fun p => kV p.1) (ds.map (·.1)) → DqAll X.K H (kvs.map (·.2)) (ds.map (·.2)) → RdsA H s (kvs.map fun p => kV p.1) (ds.map (·.1)) → RdsA H s (kvs.map (·.2)) (ds.map (·.2)) → RdsV H s (.ref a) (.dict ds) := fun hd _ _ ik iv u r => by
    cases r
    obtain ⟨_, far, vs, kv, o, es, ep, ho, hx, hdat, _, hp, _⟩ := dk_rd I.hok hd
    obtain ⟨v1, v2⟩ := key_vals hp kv
    obtain ⟨as, r1, n1⟩ := ik _ v1
    obtain ⟨bs, r2, n2⟩ := iv _ v2
    refine ⟨_, .dict ho hx.1 hdat r1 r2, fun z => ?_⟩
    rcases List.mem_append.mp z with z | z
    · rcases List.mem_cons.mp z with z | z
      · rw [← z] at far
        exact absurd far (by decide)
      · exact n1 z
    · exact n2 z
  have h8 : RdsA H s [] [] := fun u r => by cases r; exact ⟨_, .nil, by simp⟩
  have h9 : ∀ {v : V} {vs : List V} {d : PyData} {ds : List PyData}, Dq X.K H v d → DqAll X.K H vs ds → RdsV H s v d → RdsA H s vs ds → RdsA H s (v :: vs) (d :: ds) := fun _ _ i1 i2 u r => by
    cases r with
    | cons r1 r2 =>
      obtain ⟨as, q1, n1⟩ := i1 _ r1
      obtain ⟨bs, q2, n2⟩ := i2 _ r2
      exact ⟨_, .cons q1 q2, fun z => (List.mem_append.mp z).elim n1 n2⟩
  constructor
  · intro v d h
    exact Dq.rec (motive_1 := fun v d _ => RdsV H s v d) (motive_2 := fun vs ds _ => RdsA H s vs ds) h1 h2 h3 h4 h5 h6 h7 h8 h9 h
  · intro v d h
    exact DqAll.rec (motive_1 := fun v d _ => RdsV H s v d) (motive_2 := fun vs ds _ => RdsA H s vs ds) h1 h2 h3 h4 h5 h6 h7 h8 h9 h
end

/-! ### repr of data with dicts -/
theorem dq_same {K : PySem.W.Frag} {H H' : Hp} (S : Same H H') : (∀ {v : V} {d : PyData}, Dq K H v d → Dq K H' v d) ∧ (∀ {vs : List V} {ds : List PyData}, DqAll K H vs ds → DqAll K H' vs ds) := by
  have sq : ∀ {a : Addr} {xs : List V}, SqT K H a xs → SqT K H' a xs := by
    rintro a xs ((h | ⟨o, h⟩) | h)
    · exact .inl (.inl (S _ _ h))
    · exact .inl (.inr ⟨o, S _ _ h⟩)
    · exact .inr h
  have rd : ∀ {a : Addr} {u : HO}, Rd H a u → Rd H' a u := fun h => h.imp (S _ _) fun ⟨o, e⟩ => ⟨o, S _ _ e⟩
  constructor
  · intro v d h
    exact Dq.rec (motive_1 := fun v d _ => Dq K H' v d) (motive_2 := fun vs ds _ => DqAll K H' vs ds) .non .bl .int .str (fun s _ ih => .lst (S.seq s) ih) (fun s _ ih => .tup (sq s) ih) (fun r _ _ a b => .dic (rd r) a b) .nil (fun _ _ a b => .cons a b) h
  · intro vs ds h
    exact DqAll.rec (motive_1 := fun v d _ => Dq K H' v d) (motive_2 := fun vs ds _ => DqAll K H' vs ds) .non .bl .int .str (fun s _ ih => .lst (S.seq s) ih) (fun s _ ih => .tup (sq s) ih) (fun r _ _ a b => .dic (rd r) a b) .nil (fun _ _ a b => .cons a b) h
def rReprQ (K : PySem.W.Frag) : List V → Hp → VK → Prop := fun xs H Q => ∃ v d, xs = [v] ∧ Sys K H ∧ Dq K H v d ∧ d.showable = true ∧ d.depth ≤ 60 ∧ d.shown.length ≤ sizeLine ∧ Q (.str d.shown) H
theorem call_reprQ {X : Cx} {k : Nat} (hr : Room k X.A) (hg : X.A.guards = some []) : CallR X (.builtin "repr") (rReprQ X.K) := by
  intro pins s σ H xs us Q I r h
  obtain ⟨v, d, rfl, sy, hd, hs, hp, hz, q⟩ := h
  obtain ⟨u, rfl, ru⟩ := vals1 r
  obtain ⟨as, rd, na⟩ := (Dq.both I sy).1 hd u ru
  have un := hr.un
  have fin : ∀ {z : Str} {s' : Shared} {t : Tok}, Inv X pins σ H s' → d.shown = z → EP X pins σ Q (.str z t) s' := fun J e => ⟨.str d.shown, H, J, ⟨_, by rw [e]⟩, q⟩
  cases hd with
  | non => cases ru; exact PySem.P.repr_of_none (fin (I.tok _) (by simp only [PyData.shown]))
  | bl b => cases ru; exact PySem.P.repr_of_bool (fin (I.tok _) (by simp only [PyData.shown]))
  | int i => obtain ⟨t, rfl⟩ := ru; exact PySem.P.repr_of_int (by simpa [PyData.showable] using hs) (fin (I.tok _) (by simp only [PyData.shown]))
  | str x => obtain ⟨t, rfl⟩ := ru; exact PySem.P.repr_of_str (fin (I.tok _) (by simp only [PyData.shown])) (by simpa only [PyData.shown] using hz)
  | lst _ _ => cases ru; exact repr_of_reads' rd hs (fun _ => na) hg (by omega) (fun _ _ e => e) (fun h' u tk kp => fin (I.kept kp) rfl) hz
  | tup _ _ => cases ru; exact repr_of_reads' rd hs (fun _ => na) hg (by omega) (fun _ _ e => e) (fun h' u tk kp => fin (I.kept kp) rfl) hz
  | dic _ _ _ => cases ru; exact repr_of_reads' rd hs (fun _ => na) hg (by omega) (fun _ _ e => e) (fun h' u tk kp => fin (I.kept kp) rfl) hz
end Tp

set_option Elab.async false
set_option linter.all false
set_option maxRecDepth 100000
set_option maxHeartbeats 4000000
namespace Tp
open PySem PySem.Spec PyProof.Rows L2
/-! ### calls that may let an exception out: the wish may know the slots -/
section
variable {X : Cx} {CX : CXT} {k : Nat} {f C : Addr} {fd : FuncData} {ps : List Str} {sp : Sp} {dvs : List V} {ds : List Value} {E : L2.St → XK} {x m : Str} {p pos apos : Pos} {e o : Expr} {es : List Expr} {ta ti : TE} {t : TA}
theorem pass00 : Passes (L2.CX X.prog X.w) X (fun _ _ _ => False) := fun _ _ _ _ _ _ _ ⟨_, _, _, _, _, _, _, _, _, _, _, _, w⟩ => w.elim
theorem passA0 {X : Cx} (σ : L2.St) : PassesAt (L2.CX X.prog X.w) X σ (fun _ _ _ => False) := fun _ _ _ _ _ _ ⟨_, _, _, _, _, _, _, _, _, _, _, _, w⟩ => w.elim
theorem runE {A : Around} {pins : List (Addr × Obj)} {σ : L2.St} {H : Hp} {s : Shared} {Q : VK} {us : List Value} {vs : List V} {E : XK} (F : FnOk X.prog X.w X.K X.mg X.base CX k f fd ps sp) (hr : Room k A) (e0 : Env0 X.prog X.w X.K X.mg X.base A X.stack s H)
    (hb : Binds X.K fd ps ds) (hd : Vals dvs ds) (hx : PassesAt CX X σ E) (I : Inv X pins σ H s) (r : Vals vs us) (h : sp (vs ++ dvs) H Q E) : wpAny (model X.prog X.w) A (call (.ref f) us) (EP X pins σ Q) X.xe s := by
  have r2 : Vals (vs ++ dvs) (us ++ ds) := r.append hd
  have hl : (us ++ ds).length = ps.length := by rw [← r2.length]; exact F.len _ _ _ _ h
  refine wpAny_call (codeAny_mono (F.run A X.stack s H ⟨us, []⟩ (us ++ ds) (vs ++ dvs) Q E hr e0 (hb s us I.kIn hl) r2 h) fun r s' hq => ?_)
  cases r with
  | error e => exact hx pins H s e s' I hq
  | ok fl =>
    cases fl with
    | ret u => exact I.after hq
    | _ => exact False.elim hq
def tMethE (C : Addr) (m : Str) (sp : Sp) (dvs : List V) (E : L2.St → XK) (ta : TE) (t : TA) : TE := fun σ H Q => ta σ H fun x H1 => ∃ a dx fs, x = .ref a ∧ H1 a = some (.ins C dx fs) ∧ fs.lookup m = none ∧ t σ H1 fun vs H2 => sp (x :: (vs ++ dvs)) H2 Q (E σ)
theorem pe_methE {pl : Sem Bool} (he : PE X o ta) (c : Cls X.K C) (hm : Meth X.K C m f) (F : FnOk X.prog X.w X.K X.mg X.base CX k f fd ps sp) (hr : Room k X.A) (hb : Binds X.K fd ps ds) (hd : Vals dvs ds) (hx : ∀ σ, PassesAt CX X σ (E σ)) (ha : PA X (e :: es) t)
    (hst : starEach (e :: es) X.env = (false, eval e X.env) :: starEach es X.env := by rfl) (hpl : (backTo pos (starEach es X.env)).any (·.1) = false := by rfl)
    (ht : eval (.Call (.Attribute o m apos) (e :: es) [] pos) X.env = (do
      let ov ← eval o X.env
      standAt apos.atName
      let (f, first) ← holding [ov] (getMethod ov m pl)
      callWith pos f first (backTo pos (starEach (e :: es) X.env)) (backToKw pos (keywordEach [] X.env))) := by rfl) :
    PE X (.Call (.Attribute o m apos) (e :: es) [] pos) (tMethE C m sp dvs E ta t) := by
  refine ⟨fun pins s σ H Q I h => ?_⟩
  refine PySem.W.methodCall_KW (pl := pl) (thn (he.run pins s σ H _ I h) fun u s1 ⟨x, H1, I1, rx, a, dx, fs, ex, ea, l, q⟩ => ?_) ht
  subst ex
  obtain rfl : u = Value.ref a := rx
  refine getmeth_ok I1 ea c hm l ?_
  refine PySem.W.callWith_K (first := [.ref a]) (h₀ := X.base) I.ok.mod.kin hm.kp (thn (ha.run pos pins s1 σ H1 _ I1 q) fun us s2 ⟨vs, H2, I2, r, q2⟩ => ⟨I2.kIn, ?_⟩) hst hpl
  exact runE (us := .ref a :: us) (vs := .ref a :: vs) F hr I2.env0 hb hd (hx σ) I2 (.cons rfl r) q2
theorem pe_methE0 {pl : Sem Bool} (he : PE X o ta) (c : Cls X.K C) (hm : Meth X.K C m f) (F : FnOk X.prog X.w X.K X.mg X.base CX k f fd ps sp) (hr : Room k X.A) (hb : Binds X.K fd ps ds) (hd : Vals dvs ds) (hx : ∀ σ, PassesAt CX X σ (E σ))
    (ht : eval (.Call (.Attribute o m apos) [] [] pos) X.env = (do
      let ov ← eval o X.env
      standAt apos.atName
      let (f, first) ← holding [ov] (getMethod ov m pl)
      callWith pos f first (backTo pos (starEach [] X.env)) (backToKw pos (keywordEach [] X.env))) := by rfl) :
    PE X (.Call (.Attribute o m apos) [] [] pos) (tMethE C m sp dvs E ta tNil) := by
  refine ⟨fun pins s σ H Q I h => ?_⟩
  refine PySem.W.methodCall_KW (pl := pl) (thn (he.run pins s σ H _ I h) fun u s1 ⟨x, H1, I1, rx, a, dx, fs, ex, ea, l, q⟩ => ?_) ht
  subst ex
  obtain rfl : u = Value.ref a := rx
  refine getmeth_ok I1 ea c hm l ?_
  exact PySem.W.callWith_K0 (first := [.ref a]) I1.kIn hm.kp (runE (us := [.ref a]) (vs := [.ref a]) F hr I1.env0 hb hd (hx σ) I1 (.cons rfl .nil) q)
theorem run_makeE {pins : List (Addr × Obj)} {σ : L2.St} {H : Hp} {s : Shared} {Q : VK} {us : List Value} {vs : List V} {E : XK} (M : Mk X.K C f) (F : FnOk X.prog X.w X.K X.mg X.base CX k f fd ps sp) (hr : Room (k + 1) X.A) (hb : Binds X.K fd ps ds) (hd : Vals dvs ds)
    (hx : PassesAt CX X σ E) (I : Inv X pins σ H s) (r : Vals vs us)
    (h : ∀ x dx, H x = none → H dx = none → dx ≠ x → sp (.ref x :: (vs ++ dvs)) (upd (upd H dx (.own x)) x (.ins C dx [])) (fun v H2 => v = .non ∧ Q (.ref x) H2) E) :
    wpAny (model X.prog X.w) X.A (call (.ref C) us) (EP X pins σ Q) X.xe s := by
  have hq := h (s.heap.objs.size + 1) s.heap.objs.size (I.hok.fresh (Nat.le_succ _)) (I.hok.fresh (Nat.le_refl _)) (Nat.ne_of_lt (Nat.lt_succ_self _))
  have I2 := Inv.made (C := C) I
  have r2 : Vals (V.ref (s.heap.objs.size + 1) :: (vs ++ dvs)) (Value.ref (s.heap.objs.size + 1) :: (us ++ ds)) := .cons rfl (r.append hd)
  have hl : (Value.ref (s.heap.objs.size + 1) :: us ++ ds).length = ps.length := by
    have e := r2.length
    rw [F.len _ _ _ _ hq] at e
    exact e.symm
  refine wpAny_call (make_map (f := f) I.kIn M.makes M.init (beq_iff_eq.mp M.fn) (codeAny_mono (F.run _ X.stack _ _ ⟨Value.ref (s.heap.objs.size + 1) :: us, []⟩ (Value.ref (s.heap.objs.size + 1) :: (us ++ ds)) _ _ E (hr.make C us [])
    (I2.env0.make C us []) (hb _ (Value.ref (s.heap.objs.size + 1) :: us) I2.kIn hl) r2 hq) fun r s' hq' => ?_))
  cases r with
  | error e => exact hx pins _ _ e s' I2 hq'
  | ok fl =>
    cases fl with
    | ret u =>
      obtain ⟨v, H', I3, rv, ev, q3⟩ := I2.after hq'
      subst ev
      exact ⟨rv, ⟨V.ref (s.heap.objs.size + 1), H', I3, rfl, q3⟩⟩
    | _ => exact False.elim hq'
def tMakeE (C : Addr) (sp : Sp) (dvs : List V) (E : L2.St → XK) (t : TA) : TE := fun σ H Q => t σ H fun vs H1 => ∀ x dx, H1 x = none → H1 dx = none → dx ≠ x →
  sp (.ref x :: (vs ++ dvs)) (upd (upd H1 dx (.own x)) x (.ins C dx [])) (fun v H2 => v = .non ∧ Q (.ref x) H2) (E σ)
theorem pe_makeE (M : Mk X.K C f) (F : FnOk X.prog X.w X.K X.mg X.base CX k f fd ps sp) (hr : Room (k + 1) X.A) (hg : Gl X x) (hm : X.mg x = some (.ref C)) (hb : Binds X.K fd ps ds) (hd : Vals dvs ds) (hx : ∀ σ, PassesAt CX X σ (E σ))
    (ha : PA X (e :: es) t) (hdb : (x == ("__debug__" : Str)) = false := by decide) (he : starEach (e :: es) X.env = (false, eval e X.env) :: starEach es X.env := by rfl) (hpl : (backTo pos (starEach es X.env)).any (·.1) = false := by rfl) :
    PE X (.Call (.Name x p) (e :: es) [] pos) (tMakeE C sp dvs E t) := by
  refine ⟨fun pins s σ H Q I h => ?_⟩
  refine wpAny_Call_Name_kw (ld_glob I hg hm ?_ hdb)
  refine PySem.W.callWith_K (h₀ := X.base) I.ok.mod.kin M.kp (thn (ha.run pos pins s σ H _ I h) fun us s1 ⟨vs, H1, I1, r, q⟩ => ⟨I1.kIn, ?_⟩) he hpl
  exact run_makeE M F hr hb hd (hx σ) I1 r q
/-- o[i] by an own __getitem__ -/
def tSubE (C : Addr) (sp : Sp) (E : L2.St → XK) (ta ti : TE) : TE := fun σ H Q => ta σ H fun x H1 => ti σ H1 fun y H2 => ∃ a dx fs, x = .ref a ∧ H2 a = some (.ins C dx fs) ∧ sp [x, y] H2 Q (E σ)
theorem pe_subE {i : Expr} (ho : PE X o ta) (hi : PE X i ti) (hs : PySem.W.findIn X.K (.ref C) "__getitem__" = some (some (.ref f))) (hf : PySem.W.fnIn X.K f = true) (hfn : PySem.W.isFn X.K (.ref f) = true) (F : FnOk X.prog X.w X.K X.mg X.base CX k f fd ps sp)
    (hr : Room (k + 1) X.A) (hb : Binds X.K fd ps []) (hx : ∀ σ, PassesAt CX X σ (E σ))
    (hsl : ∀ (a : Addr) (u : Value), subscripted i true (.ref a) u = runValue (.builtin "lifetime.subscript" ⟨[.ref a, u], []⟩) := by intro _ _; with_unfolding_all rfl) :
    PE X (.Subscript o i pos) (tSubE C sp E ta ti) := by
  refine ⟨fun pins s σ H Q I h => ?_⟩
  refine Subscript_ (thn (ho.run pins s σ H _ I h) fun u s1 ⟨x, H1, I1, rx, q1⟩ => thn (hi.run pins s1 σ H1 _ I1 q1) fun iv s2 ⟨y, H2, I2, ry, a, dx, fs, ex, ea, q2⟩ => ?_)
  subst ex
  obtain rfl : u = Value.ref a := rx
  obtain ⟨mA, O, _, _, _, _⟩ := ins_get I2.hok ea
  obtain ⟨od, J, _⟩ := O.look
  obtain ⟨m, hF⟩ := I2.fr
  refine PySem.W.sub_K hF I2.ok.mod.kin J hs hf hfn ?_ (hsl a iv)
  exact runE (us := [.ref a, iv]) (vs := [.ref a, y]) F hr.in1 I2.env0.in1 hb .nil (hx σ) I2 (.cons rfl (.cons ry .nil)) q2
end
/-! ### own operators -/
section
variable {X : Cx} {CX : CXT} {k : Nat} {f C : Addr} {fd : FuncData} {ps : List Str} {sp : Sp} {E : XK}
theorem pass_at {σ : L2.St} (hx : Passes CX X E) : PassesAt CX X σ E := fun pins H s e s' I h => hx pins σ H s e s' I h
def rBinE (C : Addr) (sp : Sp) (E : XK) : R2 := fun x y H Q => ∃ a dx fs b dy gs, x = .ref a ∧ y = .ref b ∧ H a = some (.ins C dx fs) ∧ H b = some (.ins C dy gs) ∧ sp [x, y] H Q E
theorem op_binE {op : Operator} (hc : PySem.W.selfFirst X.K C = true) (hs : PySem.W.findIn X.K (.ref C) (PySem.dunder op.info.2) = some (some (.ref f))) (hf : PySem.W.isFn X.K (.ref f) = true) (F : FnOk X.prog X.w X.K X.mg X.base CX k f fd ps sp) (hr : Room k X.A)
    (hb : Binds X.K fd ps []) (hx : Passes CX X E) : OpR X (binaryOp op) (rBinE C sp E) := by
  intro pins s σ H x y v u Q I rx ry h
  obtain ⟨a, dx, fs, b, dy, gs, rfl, rfl, ha, hb', q⟩ := h
  cases (show v = Value.ref a from rx)
  cases (show u = Value.ref b from ry)
  obtain ⟨mA, O, _, _, _, _⟩ := ins_get I.hok ha
  obtain ⟨od, J, _⟩ := O.look
  obtain ⟨mB, O', _, _, _, _⟩ := ins_get I.hok hb'
  obtain ⟨od', J', _⟩ := O'.look
  obtain ⟨m, hF⟩ := I.fr
  refine PySem.W.binop_K hF I.ok.mod.kin J J'.type hc hs hf ?_
  refine wpAny_mono (runE (us := [.ref a, .ref b]) (vs := [.ref a, .ref b]) F hr I.env0 hb .nil (pass_at hx) I (.cons rfl (.cons rfl .nil)) q) (fun w s' z => ?_) fun _ _ x => x
  obtain ⟨z', H', I', rz, qz⟩ := z
  exact SlX.cmpback rz ⟨z', H', I', rz, qz⟩
def rUnE (C : Addr) (sp : Sp) (E : XK) : V → Hp → VK → Prop := fun x H Q => ∃ a dx fs, x = .ref a ∧ H a = some (.ins C dx fs) ∧ sp [x] H Q E
theorem un_negE (hs : PySem.W.findIn X.K (.ref C) "__neg__" = some (some (.ref f))) (hf : PySem.W.isFn X.K (.ref f) = true) (F : FnOk X.prog X.w X.K X.mg X.base CX k f fd ps sp) (hr : Room k X.A) (hb : Binds X.K fd ps []) (hx : Passes CX X E) :
    UnR X (unaryOp .USub) (rUnE C sp E) := by
  intro pins s σ H x v Q I rx h
  obtain ⟨a, dx, fs, rfl, ha, q⟩ := h
  cases (show v = Value.ref a from rx)
  obtain ⟨mA, O, _, _, _, _⟩ := ins_get I.hok ha
  obtain ⟨od, J, _⟩ := O.look
  unfold unaryOp
  refine wpAny_holding ?_
  show wpAny _ _ (if (UnaryOp.USub == UnaryOp.Not) = true then _ else _) _ _ _
  rw [if_neg (by decide)]
  refine wpAny_bind (PySem.W.special_fn I.kIn J hs (beq_iff_eq.mp hf) ?_)
  exact wpAny_mono (runE (us := [.ref a]) (vs := [.ref a]) F hr I.env0 hb .nil (pass_at hx) I (.cons rfl .nil) q) (fun w s' z => wpAny_pure z) fun _ _ x => x
def rAbsE (C : Addr) (sp : Sp) (E : XK) : List V → Hp → VK → Prop := fun xs H Q => ∃ a dx fs, xs = [.ref a] ∧ H a = some (.ins C dx fs) ∧ sp xs H Q E
theorem call_absE (hs : PySem.W.findIn X.K (.ref C) "__abs__" = some (some (.ref f))) (hf : PySem.W.isFn X.K (.ref f) = true) (F : FnOk X.prog X.w X.K X.mg X.base CX k f fd ps sp) (hr : Room (k + 1) X.A) (hb : Binds X.K fd ps []) (hx : Passes CX X E) :
    CallR X (.builtin "abs") (rAbsE C sp E) := by
  intro pins s σ H xs us Q I r h
  obtain ⟨a, dx, fs, rfl, ha, q⟩ := h
  obtain ⟨u, rfl, ru⟩ := vals1 r
  cases (show u = Value.ref a from ru)
  obtain ⟨mA, O, _, _, _, _⟩ := ins_get I.hok ha
  obtain ⟨od, J, _⟩ := O.look
  refine Calls.call_function_entry kind_abs plain_abs entry_abs (args_abs _) ?_
  unfold Builtin.«abs»
  refine wpAny_bind (m := oneArg "abs" _) (wpAny_pure ?_)
  refine wpAny_bind (m := callSpecial? (.ref a) (Str.ofString "__abs__")) (PySem.W.special_fn I.kIn J hs (beq_iff_eq.mp hf) ?_)
  exact wpAny_mono (runE (us := [.ref a]) (vs := [.ref a]) F hr.in1 I.env0.in1 hb .nil (pass_at hx) I (.cons rfl .nil) q) (fun w s' z => wpAny_pure ⟨_, rfl, z⟩) fun _ _ x => x
/-- x == y by an own __eq__, y of any kind that is told -/
def rEqE (K : PySem.W.Frag) (C : Addr) (sp : Sp) (E : XK) : R2 := fun x y H Q => ∃ a dx fs tb, x = .ref a ∧ H a = some (.ins C dx fs) ∧ TyX K H y tb ∧ PySem.W.notFirst K C tb = true ∧ sp [x, y] H Q E
theorem op_eqE (hs : PySem.W.findIn X.K (.ref C) "__eq__" = some (some (.ref f))) (hf : PySem.W.isFn X.K (.ref f) = true) (F : FnOk X.prog X.w X.K X.mg X.base CX k f fd ps sp) (hr : Room k X.A) (hb : Binds X.K fd ps []) (hx : Passes CX X E) :
    OpR X (compareOp .Eq) (rEqE X.K C sp E) := by
  intro pins s σ H x y v u Q I rx ry h
  obtain ⟨a, dx, fs, tb, rfl, ha, ty, hn, q⟩ := h
  cases (show v = Value.ref a from rx)
  obtain ⟨mA, O, _, _, _, _⟩ := ins_get I.hok ha
  obtain ⟨od, J, _⟩ := O.look
  obtain ⟨m, hF⟩ := I.fr
  obtain ⟨P, KX, hP, _⟩ := kit_of I ry ty
  show wpAny _ _ (richCompare .Eq (.ref a) u) _ _ _
  refine PySem.W.cmp_K (op := .Eq) (tb := tb) hr.units0 hF I.ok.mod.kin J (KX.ty _ _ I.kIn hP) hn hs hf ?_
  refine wpAny_mono (runE (us := [.ref a, u]) (vs := [.ref a, y]) F hr I.env0 hb .nil (pass_at hx) I (.cons rfl (.cons ry .nil)) q) (fun w s' z => ?_) fun _ _ x => x
  obtain ⟨z', H', I', rz, qz⟩ := z
  exact SlX.cmpback rz ⟨z', H', I', rz, qz⟩
/-- x != y: object.__ne__ asks the own __eq__ -/
def rNeE (K : PySem.W.Frag) (C : Addr) (sp : Sp) (E : XK) : R2 := fun x y H Q => ∃ a dx fs tb, x = .ref a ∧ H a = some (.ins C dx fs) ∧ TyX K H y tb ∧ PySem.W.notFirst K C tb = true ∧ sp [x, y] H (fun z H' => ∃ b, z = .bl b ∧ Q (.bl (!b)) H') E
theorem bound_ne {M : Model} {A : Around} {E : Value → Shared → Prop} {s : Shared} {K : PySem.W.Frag} {x C : Addr} {ox : Obj} {od : Option Obj} {args : List Value} {Q : Option Value → Shared → Prop} (X : K.In s.heap) (I : PySem.W.InstAt s.heap x ox C od)
    (hs : PySem.W.findIn K (.ref C) "__ne__" = some (some (.builtin "object.__ne__")))
    (h : wpAny M A (call (.builtin "object.__ne__") (.ref x :: args)) (fun v => Q (some v)) E s) : wpAny M A (callSpecialIfBound? (.ref x) "__ne__" args) Q E s := by
  simp only [callSpecialIfBound?, bindSpecialIfBound?]
  refine wpAny_holding (wpAny_bind (wpAny_bind (wpAny_bind (I.type.here ((PySem.W.looks_findIn X hs).here ?_)))))
  refine wpAny_bind (wpAny_askSetting (wpAny_ite ?_))
  have fin : wpAny M A (call (.builtin "object.__ne__") ([.ref x] ++ args) >>= fun v => pure (some v)) Q E s := wpAny_bind (wpAny_mono h (fun v s' h' => wpAny_pure h') fun _ _ h' => h')
  split
  · exact wpAny_bind (wpAny_of_eq (F.cmp_object.ne.bind _) (wpAny_pure (by exact fin)))
  · exact wpAny_tryCatch (wpAny_bind (wpAny_of_eq (F.cmp_object.ne.bind _) (wpAny_pure (by exact fin))))
theorem ne_own {prog : Program} {w : World} {A : Around} {E : Value → Shared → Prop} {s : Shared} {K : PySem.W.Frag} {x C : Addr} {ox : Obj} {od : Option Obj} {b tb : Value} {Q : Value → Shared → Prop} (hu : A.units + 1 < cLine) (X : K.In s.heap) (I : PySem.W.InstAt s.heap x ox C od)
    (hb : PySem.W.Looks (model prog w) s.heap (typeOf b) tb) (hn : PySem.W.notFirst K C tb = true) (hs : PySem.W.findIn K (.ref C) "__eq__" = some (some (.ref f))) (hf : PySem.W.isFn K (.ref f) = true)
    (hne : PySem.W.findIn K (.ref C) "__ne__" = some (some (.builtin "object.__ne__"))) (hm : PySem.W.mroIn K C (.type "object") = some true)
    (h : wpAny (model prog w) A.in1 (call (.ref f) [.ref x, b]) (fun v s' => ∃ r, v = .bool r ∧ Q (.bool (!r)) s') E s) : wpAny (model prog w) A (richCompare .NotEq (.ref x) b) Q E s := by
  have one : wpAny (model prog w) A (tryCompare (.ref x) "__ne__" b) (fun r s' => ∃ v, r = some (Value.bool v) ∧ Q (.bool v) s') E s := by
    unfold tryCompare
    refine wpAny_bind (bound_ne X I hne (wpAny_call (codeAny_call_builtin F.cmp_object.ne.plain F.cmpEntry_ne (PySem.W.check_slot F.cmpKind_ne F.cmpSplit_ne (I.type.andThen (PySem.W.looks_mroIn X hm)) (F.cmpArgs_ne _ _) ?_))))
    unfold Builtin.«object.__ne__»
    refine wpAny_bind (wpAny_of_eq (a := ((Value.ref x : Value), [b])) (by first | rfl | (simp only [slotArgs]; rfl)) ?_)
    refine wpAny_bind (wpAny_cRoomFor (show A.in1.units < cLine from hu) ?_)
    refine wpAny_bind (m := callSpecialIfBound? (.ref x) (Str.ofString "__eq__") [b]) (PySem.W.ifBound_K X I hs hf (wpAny_mono h (fun v s' hv => ?_) fun _ _ e => e))
    obtain ⟨r, rfl, q⟩ := hv
    exact wpAny_bind (wpAny_truthy_bool (wpAny_pure (wpAny_pure ⟨_, rfl, q⟩)))
  unfold richCompare
  simp only [oneThing_ref]
  refine wpAny_holding (wpAny_bind (wpAny_cRoomFor (Nat.lt_of_succ_lt hu) ?_))
  refine wpAny_bind (I.type.here (wpAny_bind (hb.here ?_)))
  split
  · rename_i q
    have e : PySem.W.subIn K tb (.ref C) = some false := by
      rcases Bool.or_eq_true_iff.mp hn with e | e
      · rw [beq_iff_eq.mp e] at q; simp at q
      · exact beq_iff_eq.mp e
    refine wpAny_bind ((PySem.W.looks_subIn X e).here ?_)
    simp only [Bool.false_eq_true, if_false]
    refine wpAny_bind (m := tryCompare (.ref x) _ b) (wpAny_mono one (fun r s' z => ?_) fun _ _ e => e)
    obtain ⟨v, rfl, hq⟩ := z
    exact wpAny_pure hq
  · refine wpAny_bind (wpAny_pure ?_)
    simp only [Bool.false_eq_true, if_false]
    refine wpAny_bind (m := tryCompare (.ref x) _ b) (wpAny_mono one (fun r s' z => ?_) fun _ _ e => e)
    obtain ⟨v, rfl, hq⟩ := z
    exact wpAny_pure hq
theorem op_neE (hs : PySem.W.findIn X.K (.ref C) "__eq__" = some (some (.ref f))) (hf : PySem.W.isFn X.K (.ref f) = true) (hne : PySem.W.findIn X.K (.ref C) "__ne__" = some (some (.builtin "object.__ne__"))) (hm : PySem.W.mroIn X.K C (.type "object") = some true)
    (F : FnOk X.prog X.w X.K X.mg X.base CX k f fd ps sp) (hr : Room (k + 1) X.A) (hb : Binds X.K fd ps []) (hx : Passes CX X E) : OpR X (compareOp .NotEq) (rNeE X.K C sp E) := by
  intro pins s σ H x y v u Q I rx ry h
  obtain ⟨a, dx, fs, tb, rfl, ha, ty, hn, q⟩ := h
  cases (show v = Value.ref a from rx)
  obtain ⟨mA, O, _, _, _, _⟩ := ins_get I.hok ha
  obtain ⟨od, J, _⟩ := O.look
  obtain ⟨P, KX, hP, _⟩ := kit_of I ry ty
  show wpAny _ _ (richCompare .NotEq (.ref a) u) _ _ _
  refine ne_own (Nat.lt_of_le_of_lt (by omega) hr.units) I.kIn J (KX.ty _ _ I.kIn hP) hn hs hf hne hm ?_
  refine wpAny_mono (runE (us := [.ref a, u]) (vs := [.ref a, y]) F hr.in1 I.env0.in1 hb .nil (pass_at hx) I (.cons rfl (.cons ry .nil)) q) (fun w s' z => ?_) fun _ _ x => x
  obtain ⟨z', H', I', rz, r, ez, qz⟩ := z
  subst ez
  exact ⟨r, rz, .bl (!r), H', I', rfl, qz⟩
end
end Tp

set_option Elab.async false
set_option linter.all false
set_option maxRecDepth 100000
set_option maxHeartbeats 4000000
namespace Tp
open PySem PySem.Spec PyProof.Rows L2
/-! ### the end of a law whose promise also knows where sys.modules stands -/
section
variable {P : Program} {w : World} {K : PySem.W.Frag} {mg mb : Str → Option Value} {CX : CXT} {k : Nat} {fa a : Addr} {fd : FuncData} {x : Str} {sp : Sp} {s1 : Shared} {vs : List Value} {ns : List Int}
theorem law_coreS (KX : K.In s1.heap) (hns : s1.heap.Ns mainGlobals mg) (hb : s1.heap.Ns builtinsNs mb) (hbb : ∀ x : Str, x ≠ "__name__" → mb x = bootBuiltins x)
    (hlim : s1.heap.NoLimit) (hg : s1.gens = #[]) (hr : Room k callerA)
    (F : ∀ base : Heap, K.In base → base.Ns mainGlobals mg → FnG P w K mg base CX k fa fd [x] sp) (hbind : ∀ (s : Shared) (u : Value), BindsTo s fd ⟨[u], []⟩ [(x, u)])
    (hCX : ∀ H e s', ¬ CX [] H s1 (fun _ _ _ => False) e s') {H : Hp} (only : OnlyF H) (hsp : sp [.ref a] H (fun v _ => v = .bl true) fun _ _ _ => False)
    (hok : HOk P w H s1.heap) (hA : ∀ b, H b ≠ none → K.lookup b = none ∧ b ≠ mainGlobals ∧ b ≠ builtinsNs ∧ b ≠ cStatics) :
    codeAny (model P w) callerA (.call (.ref fa) ⟨[.ref a], []⟩) (LawEnd s1) s1 := by
  have ns : ∀ {b : Addr} {m : Str → Option Value}, H b = none → s1.heap.Ns b m → (hidT s1.heap H).Ns b m := by
    rintro b m n ⟨o, es, ep, e, d, r⟩
    exact ⟨o, es, ep, hidT_get e n, d, r⟩
  have n1 : H mainGlobals = none := Classical.byContradiction fun q => (hA _ q).2.1 rfl
  have n2 : H builtinsNs = none := Classical.byContradiction fun q => (hA _ q).2.2.1 rfl
  have n3 : H cStatics = none := Classical.byContradiction fun q => (hA _ q).2.2.2 rfl
  have inK : K.In (hidT s1.heap H) := by
    intro b o e
    refine hidT_get (KX b o e) (Classical.byContradiction fun q => ?_)
    rw [(hA b q).1] at e
    cases e
  obtain ⟨mc, l1, l2⟩ := hlim
  have M : Mod K mg (hidT s1.heap H) := ⟨inK, ns n1 hns, ⟨mb, ns n2 hb, hbb⟩, ⟨mc, ns n3 l1, l2⟩⟩
  have none_in : ∀ b : Addr, b ∉ ([] : List Addr) := fun _ z => nomatch z
  have e0 : Env0 P w K mg (hidT s1.heap H) callerA [] s1 H := ⟨rfl, M, fun _ _ e => of_hidT e, Nat.le_of_eq (hidT_size _ _), trivial, fun b z => (none_in b z).elim, hok, .of_eq hg⟩
  refine codeAny_mono ((F _ inK (ns n1 hns)).go callerA [] s1 H ⟨[.ref a], []⟩ [.ref a] [.ref a] _ _ hr rfl e0 (hbind s1 (.ref a)) (.cons rfl .nil) hsp) fun r s' h => ?_
  cases r with
  | error e => exact (hCX H e s' h).elim
  | ok fl =>
    cases fl with
    | ret u =>
      obtain ⟨v, H', os, bare, un, hok', rv, q⟩ := h
      obtain rfl : v = .bl true := q
      obtain rfl : u = Value.bool true := rv
      refine ⟨rfl, OldK.of_keep fun b o e => ?_, os, bare⟩
      rcases only b with z | ⟨ob, xs, z⟩
      · exact un.keep b o e z (none_in b) (none_in b)
      · have e2 := (hok' b _ (un.frzs b ob _ z)).1
        have e1 := (hok b _ z).1
        rw [e] at e1
        cases e1
        exact e2
    | _ => exact h.elim
theorem law_endS (KX : K.In s1.heap) (hns : s1.heap.Ns mainGlobals mg) (hb : s1.heap.Ns builtinsNs mb) (hbb : ∀ x : Str, x ≠ "__name__" → mb x = bootBuiltins x) (hsys : ∃ mm, s1.heap.Ns sysModules mm)
    (hlim : s1.heap.NoLimit) (hg : s1.gens = #[]) (ha : s1.heap.get? a = some { cls := .type "list", data := .seq vs.toArray }) (hi : IntsAre vs ns) (hl : ns.length ≤ sizeLine) (hr : Room k callerA)
    (F : ∀ base : Heap, K.In base → base.Ns mainGlobals mg → FnG P w K mg base CX k fa fd [x] sp) (hbind : ∀ (s : Shared) (u : Value), BindsTo s fd ⟨[u], []⟩ [(x, u)])
    (hCX : ∀ H e s', ¬ CX [] H s1 (fun _ _ _ => False) e s')
    (hsp : ∀ H : Hp, Sys K H → SqL K H a (ns.map V.int) → sp [.ref a] H (fun v _ => v = .bl true) fun _ _ _ => False) :
    codeAny (model P w) callerA (.call (.ref fa) ⟨[.ref a], []⟩) (LawEnd s1) s1 := by
  have rv := vals_ints hi
  obtain ⟨mm, om, es, ep, hm, dm, _⟩ := hsys
  have nd : ∀ {b : Addr} {m : Str → Option Value}, s1.heap.Ns b m → a ≠ b := by
    rintro b m ⟨o, es, ep, e, d, _⟩ rfl
    rw [ha] at e
    cases e
    cases (d : Data.seq vs.toArray _ = Data.dict es ep)
  have nm : a ≠ sysModules := by
    rintro rfl
    rw [ha] at hm
    cases hm
    cases (dm : Data.seq vs.toArray _ = Data.dict es ep)
  have one : ∃ H1 : Hp, (∀ b, H1 b ≠ none → b = sysModules) ∧ Sys K H1 ∧ OnlyF H1 ∧ HOk P w H1 s1.heap ∧ (∀ b, H1 b ≠ none → K.lookup b = none) := by
    cases hk : K.lookup sysModules with
    | some o =>
      have e := KX _ o hk
      rw [hm] at e
      cases e
      exact ⟨fun _ => none, fun b z => (z rfl).elim, .inl ⟨_, _, _, hk, dm⟩, fun _ => .inl rfl, fun b u (z : (none : Option HO) = some u) => (nomatch z), fun b z => (z rfl).elim⟩
    | none =>
      have off : ∀ b, b ≠ sysModules → (upd (fun _ => none) sysModules (.frz om (.ext fun _ => True)) : Hp) b = none := fun b nb => upd_ne nb
      have here : ∀ b, (upd (fun _ => none) sysModules (.frz om (.ext fun _ => True)) : Hp) b ≠ none → b = sysModules := fun b z => Classical.byContradiction fun nb => z (off b nb)
      refine ⟨upd (fun _ => none) sysModules (.frz om (.ext fun _ => True)), here, .inr ⟨hk, _, _, upd_same⟩, fun b => ?_, fun b u z => ?_, fun b z => by rw [here b z]; exact hk⟩
      · by_cases nb : b = sysModules
        · rw [nb]; exact .inr ⟨_, _, upd_same⟩
        · exact .inl (off b nb)
      · by_cases nb : b = sysModules
        · subst nb
          rw [upd_same] at z
          cases z
          exact ⟨hm, trivial, ⟨_, hm⟩, fun _ _ _ _ => trivial⟩
        · rw [off b nb] at z
          cases z
  obtain ⟨H1, at1, sy, on1, ok1, kn1⟩ := one
  have h1a : H1 a = none := Classical.byContradiction fun q => nm (at1 a q)
  have far : ∀ b, b = sysModules → b ≠ mainGlobals ∧ b ≠ builtinsNs ∧ b ≠ cStatics := by
    rintro b rfl
    exact ⟨by decide, by decide, by decide⟩
  have fara : a ≠ mainGlobals ∧ a ≠ builtinsNs ∧ a ≠ cStatics := ⟨nd hns, nd hb, let ⟨_, l1, _⟩ := hlim; nd l1⟩
  cases hk : K.lookup a with
  | some o =>
    have e := KX a o hk
    rw [ha] at e
    cases e
    refine law_coreS KX hns hb hbb hlim hg hr F hbind hCX on1 (hsp _ sy (.inr ⟨_, vs.toArray, _, hk, rfl, rfl, rfl, ?_, by simpa using rv⟩)) ok1 fun b z => ⟨kn1 b z, far b (at1 b z)⟩
    rw [List.size_toArray, hi.length]
    exact hl
  | none =>
    have at_a : (upd H1 a (.frz { cls := .type "list", data := .seq vs.toArray } (.lst (ns.map V.int))) : Hp) a = some (.frz { cls := .type "list", data := .seq vs.toArray } (.lst (ns.map V.int))) := upd_same
    have off : ∀ b, b ≠ a → (upd H1 a (.frz { cls := .type "list", data := .seq vs.toArray } (.lst (ns.map V.int))) : Hp) b = H1 b := fun b nb => upd_ne nb
    have same : Same H1 (upd H1 a (.frz { cls := .type "list", data := .seq vs.toArray } (.lst (ns.map V.int)))) := fun b u e => by
      rw [off b (fun z => by rw [z, h1a] at e; cases e)]
      exact e
    refine law_coreS KX hns hb hbb hlim hg hr F hbind hCX (fun b => ?_) (hsp _ (sy.same same) (.inl (.inr ⟨_, at_a⟩))) (fun b u z => ?_) fun b z => ?_
    · by_cases nb : b = a
      · rw [nb]; exact .inr ⟨_, _, at_a⟩
      · rw [off b nb]; exact on1 b
    · by_cases nb : b = a
      · subst nb
        rw [at_a] at z
        cases z
        exact ⟨ha, by rw [List.length_map]; exact hl, vs, _, rv, ha⟩
      · rw [off b nb] at z
        have o1 := ok1 b u z
        have eb := at1 b (by rw [z]; intro q; cases q)
        subst eb
        rcases on1 sysModules with q | ⟨ob, xs, q⟩
        · rw [q] at z; cases z
        · rw [q] at z
          cases z
          exact o1.stay (fun c w' hc q => q) (fun _ q => same _ _ q) fun _ _ q => same _ _ q
    · by_cases nb : b = a
      · rw [nb]; exact ⟨hk, fara⟩
      · rw [off b nb] at z
        exact ⟨kn1 b z, far b (at1 b z)⟩
end
theorem walkS {l : PySem.W.OpenLaw} {n k : Nat} {q : Program} {loose : List Str} {XP : (Str → Option Value) → Heap → Prop} {YP : World → Heap → Prop} {d : DefRec} {K : Params → PySem.W.Frag} {sp : World → Sp} {x : Str}
    (hn : l.most = some n) (hn2 : n ≤ sizeLine) (hdf : d.params.defaults = []) (himp : importsNone q = true) (hr : Room k callerA) (hY : ∀ (w : World) (h : Heap), YP w h → (K w.params).In h)
    (F : ∀ (w : World) (mg : Str → Option Value) (fa : Addr) (h : Heap), (K w.params).In h → h.Ns mainGlobals mg → mg d.name = some (.ref fa) →
      ∃ fd : FuncData, (∀ (s : Shared) (u : Value), BindsTo s fd ⟨[u], []⟩ [(x, u)]) ∧
        ∀ base : Heap, (K w.params).In base → base.Ns mainGlobals mg → FnG l.prog w (K w.params) mg base CX0 k fa fd [x] (sp w))
    (hsp : ∀ (w : World) (H : Hp) (a : Addr) (ns : List Int), ns.length ≤ n → Sys (K w.params) H → SqL (K w.params) H a (ns.map V.int) → sp w [.ref a] H (fun v _ => v = .bl true) fun _ _ _ => False) :
    PySem.W.WalkO q loose XP YP l.row.toRowW d [] (fun f vs => PySem.call f vs) := by
  refine Att.attach_call hn hdf fun w s₀ s₁ mg mb fa o pm cd doc a vs ns G Y ho hd hcd hmg hobj hints hlen hg => ?_
  obtain ⟨fd, hb, hF⟩ := F w mg fa _ (hY w _ Y) G.T.g hmg
  obtain ⟨mm, hmm, _⟩ := (G.T.seer himp).mods
  exact law_endS (hY w _ Y) G.T.g G.T.b G.T.builtins ⟨mm, hmm⟩ G.T.nolimit hg hobj hints (Nat.le_trans hlen hn2) hr hF hb (fun _ _ _ z => z) fun H hO hS => hsp w H a ns hlen hO hS
end Tp

set_option Elab.async false
set_option linter.all false
set_option maxRecDepth 100000
set_option maxHeartbeats 4000000
namespace Tp
open PySem PySem.Spec PyProof.Rows L2
/-! ### a raise amid a loop over a dict: the lock goes -/
theorem takes_unlock {X : Cx} {W : WX} (tk : Takes X W) : Takes X (fun cls e σ H' => ∃ d od u, H' d = some (.frz od u) ∧ (∀ o' u', X.H_0 d ≠ some (.frz o' u')) ∧ W cls e σ (upd H' d u)) := by
  rintro u s' ⟨a, B, sI, pins, σ, H, cls, e, rfl, I, nb, up, sky, na, os, ag, d, od, u, hd, nf, w⟩
  exact tk _ s' ⟨a, B, sI, pins, σ, _, cls, e, rfl, I.unlock hd nf, nb, up, sky, by rw [upd_ne (fun z => by rw [z, hd] at na; cases na)]; exact na, os, ag, w⟩
/-! ### defs that raise -/
section
variable {P : Program} {w : World} {K : PySem.W.Frag} {mg : Str → Option Value} {base : Heap} {k : Nat} {f : Addr} {fd : FuncData} {ps : List Str} {sp : Sp}
theorem okX {x qual : Str} {st : Stmt} {N : List Str} (F : Fun K x qual st f fd) (S : FnScope N ps (defScope st)) (ar : ∀ vs H Q E, sp vs H Q E → vs.length = ps.length)
    (bd : ∀ (cdv : Value) (A : Around) (outer : List Env) (s : Shared) (H : Hp) (vs : List V) (Q : VK) (E : XK),
      Room k (A.deeper (envOfC qual (defScope st) s.heap.objs.size f cdv)) → sp vs H Q E →
      Takes (cxOf (L2.CX P w) P w K mg base N qual (defScope st) f cdv A outer s H E) (fun cls d _ H => E cls d H) →
      PassesOwn (model P w) (cxOf (L2.CX P w) P w K mg base N qual (defScope st) f cdv A outer s H E).A (cxOf (L2.CX P w) P w K mg base N qual (defScope st) f cdv A outer s H E).env (cxOf (L2.CX P w) P w K mg base N qual (defScope st) f cdv A outer s H E).xe →
      ∃ t, PSs (cxOf (L2.CX P w) P w K mg base N qual (defScope st) f cdv A outer s H E) (defBody st) t ∧ t { nx := fun _ H' => Q .non H', rt := Q } (start N vs) H) :
    FnOk P w K mg base (L2.CX P w) (k + 1) f fd ps sp := by
  obtain ⟨oc, od, kV, doc, pm, an, cdv, ct, osl, rfl, lk, hcd⟩ := F.ex
  refine fn_of lk hcd S ar fun A outer s H vs Q E hr hsp => ?_
  exact bd cdv A outer s H vs Q E hr hsp (takes_of rfl rfl rfl rfl) (passes_of rfl)
theorem okN {x qual : Str} {st : Stmt} {N : List Str} (F : Fun K x qual st f fd) (S : FnScope N ps (defScope st)) (ar : ∀ vs H Q E, sp vs H Q E → vs.length = ps.length)
    (bd : ∀ (cdv : Value) (A : Around) (outer : List Env) (s : Shared) (H : Hp) (vs : List V) (Q : VK) (E : XK),
      Room k (A.deeper (envOfC qual (defScope st) s.heap.objs.size f cdv)) → sp vs H Q E →
      ∃ t, PSs (cxOf CX0 P w K mg base N qual (defScope st) f cdv A outer s H E).nox (defBody st) t ∧ t { nx := fun _ H' => Q .non H', rt := Q } (start N vs) H) :
    FnOk P w K mg base CX0 (k + 1) f fd ps sp := by
  obtain ⟨oc, od, kV, doc, pm, an, cdv, ct, osl, rfl, lk, hcd⟩ := F.ex
  refine fn_of lk hcd S ar fun A outer s H vs Q E hr hsp => ?_
  obtain ⟨t, h, q⟩ := bd cdv A outer s H vs Q E hr hsp
  exact ⟨t, h.nox, q⟩
end
/-! ### a != b of two lists with the very same things in them -/
def Solid (v : V) : Prop := flatB v = true ∨ ∃ a, v = .ref a
def rNeL (K : PySem.W.Frag) : R2 := fun x y H Q => ∃ a b xs, x = .ref a ∧ y = .ref b ∧ SqL K H a xs ∧ SqL K H b xs ∧ (∀ v ∈ xs, Solid v) ∧ Q (.bl false) H
theorem op_neL {X : Cx} (hu : X.A.units + 64 < cLine) : OpR X (compareOp .NotEq) (rNeL X.K) := by
  intro pins s σ H x y v u Q I rx ry h
  obtain ⟨a, b, xs, rfl, rfl, ha, hb, hv, q⟩ := h
  cases (show v = Value.ref a from rx)
  cases (show u = Value.ref b from ry)
  obtain ⟨us, r1, p1, _⟩ := I.list ha
  obtain ⟨ws, r2, p2, _⟩ := I.list hb
  have hsz : us.toArray.size = ws.toArray.size := by
    rw [List.size_toArray, List.size_toArray, ← r1.length, ← r2.length]
  have each : ∀ {xs : List V} {us ws : List Value}, (∀ v ∈ xs, Solid v) → Vals xs us → Vals xs ws → ∀ j (h1 : j < us.length) (h2 : j < ws.length), SeqAt.EqAt X.A.in1 s us[j] ws[j] true := by
    intro xs
    induction xs with
    | nil => intro us ws _ r1 r2 j h1 h2; cases r1; exact absurd h1 (Nat.not_lt_zero j)
    | cons x xs ih =>
      intro us ws hv r1 r2 j h1 h2
      cases r1 with
      | cons a1 b1 =>
        cases r2 with
        | cons a2 b2 =>
          cases j with
          | zero =>
            rcases hv x List.mem_cons_self with f | ⟨c, rfl⟩
            · exact eqAt_same a1 a2 f
            · cases a1
              cases a2
              exact SeqAt.EqAt.same _
          | succ j => exact ih (fun v m => hv v (List.mem_cons_of_mem _ m)) b1 b2 j (Nat.lt_of_succ_lt_succ h1) (Nat.lt_of_succ_lt_succ h2)
  refine SeqAt.RcNeAt.lists (e := fun _ => true) p1.isList p2.isList hsz (by omega) (fun j h1 h2 => ?_) X.prog X.w _ _ ?_
  · have k := each hv r1 r2 j (by simpa using h1) (by simpa using h2)
    simpa using k
  · rw [show ((List.range us.toArray.size).all fun _ => true) = true from List.all_eq_true.mpr fun _ _ => rfl]
    exact ⟨.bl false, H, I, rfl, q⟩
/-! ### classes in except and isinstance -/
theorem kit_ref {K : PySem.W.Frag} {C : Addr} {t : Value} {b : Bool} (ne : (t == Value.ref C) = false) (hd : PySem.W.hasDictIn K C = true) (ht : PySem.W.typeIn K (.ref C) = some (.type "type")) (h : PySem.W.subIn K t (.ref C) = some b) : PySem.W.kitOne K t (.ref C) = some b := by
  obtain ⟨cd, hc, _⟩ := PySem.W.any_some hd
  unfold PySem.W.kitOne PySem.W.kitCls
  rw [if_neg (by rw [ne]; exact Bool.false_ne_true)]
  show (if ((PySem.W.clsIn K C).isSome && PySem.W.typeIn K (.ref C) == some (.type "type")) = true then PySem.W.subIn K t (.ref C) else none) = some b
  rw [if_pos (by rw [hc, ht] <;> rfl)]
  exact h
theorem kit_refT {K : PySem.W.Frag} {C : Addr} {t : Value} (hd : PySem.W.hasDictIn K C = true) (ht : PySem.W.typeIn K (.ref C) = some (.type "type")) (h : PySem.W.subIn K t (.ref C) = some true) : PySem.W.kitOne K t (.ref C) = some true := by
  obtain ⟨cd, hc, _⟩ := PySem.W.any_some hd
  unfold PySem.W.kitOne PySem.W.kitCls
  split
  · rfl
  · show (if ((PySem.W.clsIn K C).isSome && PySem.W.typeIn K (.ref C) == some (.type "type")) = true then PySem.W.subIn K t (.ref C) else none) = some true
    rw [if_pos (by rw [hc, ht] <;> rfl)]
    exact h
theorem kit_self {K : PySem.W.Frag} {t : Value} : PySem.W.kitOne K t t = some true := by
  unfold PySem.W.kitOne
  rw [if_pos (beq_self_eq_true t)]
theorem kit_own {K : PySem.W.Frag} {C : Addr} {n : String} {b : Bool} (h : PySem.W.subIn K (.ref C) (.type n) = some b) (hm : PySem.W.kitMeta n = true) : PySem.W.kitOne K (.ref C) (.type n) = some b := by
  unfold PySem.W.kitOne PySem.W.kitCls
  rw [if_neg (by intro q; cases q)]
  show (if PySem.W.kitMeta n = true then PySem.W.subIn K (.ref C) (.type n) else none) = some b
  rw [if_pos hm]
  exact h
theorem hu1 {k : Nat} {A : Around} (hr : Room k A) : A.units + 1 < cLine := Nat.lt_of_le_of_lt (by omega) hr.units
theorem hu0 {k : Nat} {A : Around} (hr : Room k A) : A.units < cLine := hr.units0
theorem takes0 {X : Cx} : Takes X (fun _ _ _ _ => False) := fun _ _ ⟨_, _, _, _, _, _, _, _, _, _, _, _, _, _, _, _, w⟩ => w.elim
/-! ### for k in e, e a dict that nobody else needs to write: it is locked for good -/
def iKeysL (td : TE) : TI := fun σ H R => td σ H fun x H1 => ∃ d kvs, x = .ref d ∧ H1 d = some (.dK kvs) ∧ ∀ o, R (Itk d o kvs) (upd H1 d (.frz o (.dK kvs)))
theorem pi_keysL {X : Cx} {tg e : Expr} {td : TE} (he : PE X e td) : PI X tg e (iKeysL td) := by
  refine ⟨fun pins s σ H R I h => ?_⟩
  have hk : PI X tg e (iKeys td) := pi_keys he
  refine thn (he.run pins s σ H _ I h) fun u s1 ⟨x, H1, I1, rx, d, kvs, ex, hd, q⟩ => ?_
  subst ex
  obtain rfl : u = Value.ref d := rx
  obtain ⟨od, I2⟩ := I1.lock hd trivial
  have hd2 : (upd H1 d (.frz od (.dK kvs))) d = some (.frz od (.dK kvs)) := upd_same
  obtain ⟨hs, hgd, hx, es, ep, vs, hdt, hsz, kv, hm⟩ := I2.frzK hd2
  refine iter_keys hs hgd hx hdt (pi_one (tk := s1.toks) I2 _ (turn_keys _ hdt) ⟨_, Heap.get?_push_size _ rfl, rfl, ?_⟩ (q od))
  rw [hsz] <;> rfl
/-- a dict comprehension over a walk -/
theorem dc_it {J : It} {n : Nat} {G : Hp → Prop} {Y : Nat → Hp → V → Hp → Prop} (w : Walk J n G Y) {g : TG} {tt : TT} {tk tv : TE} {vs : List Nat} {σ : L2.St} {H1 : Hp} {D : Addr} {Qd : Hp → Prop} (Pv : Nat → Hp → Prop) (h0 : Pv 0 (upd H1 D (.dK []))) (hG : ∀ i H, i ≤ n → Pv i H → G H)
    (hs : ∀ i x H H', i < n → Pv i H → Y i H x H' → g x (wipe σ vs) H' fun σ2 H2 => wipe σ2 vs = wipe σ vs ∧ tt σ2 H2 fun b H3 =>
      if b = true then tk σ2 H3 fun y H4 => tv σ2 H4 fun z H5 => ∃ kvs k, y = kV k ∧ H5 D = some (.dK kvs) ∧ kvs.length < sizeLine ∧ Pv (i + 1) (upd H5 D (.dK (putK kvs k z))) else Pv (i + 1) H3) (hd : ∀ H, Pv n H → Qd H) :
    ∃ W : Nat → Nat → Hp → Prop, (∃ m, W 0 m (upd H1 D (.dK []))) ∧ ∀ i m H, W i m H →
      (J.stop i H ∧ Qd H) ∨ (J.go i H ∧ ∃ Nx : Hp → Prop, (∀ H', Nx H' → ∃ m', m' < m ∧ W (i + 1) m' H') ∧ ∀ x H', J.yld i H x H' → g x (wipe σ vs) H' fun σ2 H2 => wipe σ2 vs = wipe σ vs ∧ tt σ2 H2 fun b H3 =>
        if b = true then tk σ2 H3 fun y H4 => tv σ2 H4 fun z H5 => ∃ kvs k, y = kV k ∧ H5 D = some (.dK kvs) ∧ kvs.length < sizeLine ∧ Nx (upd H5 D (.dK (putK kvs k z))) else Nx H3) := by
  refine ⟨fun i m H => m = n - i ∧ i ≤ n ∧ Pv i H, ⟨n, by simp, Nat.zero_le _, h0⟩, ?_⟩
  rintro i m H ⟨rfl, hi, p⟩
  have q := hG i H hi p
  by_cases hlt : i < n
  · exact .inr ⟨w.goes i H hlt q, Pv (i + 1), fun H' p' => ⟨n - (i + 1), by omega, rfl, hlt, p'⟩, fun x H' y => hs i x H H' hlt p (w.yields i H x H' hlt q y)⟩
  · have e : i = n := by omega
    subst e
    exact .inl ⟨w.stops H q, hd H p⟩
/-- k in d, k not in d, d a dict -/
theorem op_inDk {X : Cx} (hu : X.A.units + 1 < cLine) : OpR X (compareOp .In) (fun x y H Q => ∃ a o, y = .ref a ∧ DGet H a x o ∧ Q (.bl o.isSome) H) := by
  intro pins s σ H x y v u Q I rx ry h
  obtain ⟨a, o, rfl, g, q⟩ := h
  obtain rfl : u = Value.ref a := ry
  exact d_in hu I g rx fun s3 I3 => ⟨.bl o.isSome, H, I3, rfl, q⟩
theorem op_notInDk {X : Cx} (hu : X.A.units + 1 < cLine) : OpR X (compareOp .NotIn) (fun x y H Q => ∃ a o, y = .ref a ∧ DGet H a x o ∧ Q (.bl (!o.isSome)) H) := by
  intro pins s σ H x y v u Q I rx ry h
  obtain ⟨a, o, rfl, g, q⟩ := h
  obtain rfl : u = Value.ref a := ry
  exact d_notIn hu I g rx fun s3 I3 => ⟨.bl (!o.isSome), H, I3, rfl, q⟩
/-- e.f within a comprehension: K is told by name -/
theorem pe_fldK {X : Cx} {K : PySem.W.Frag} {e : Expr} {f : Str} {ta : TE} {pos : Pos} (hK : X.K = K) (he : PE X e ta) (hb : attributeBase e f X.env (eval e X.env) = eval e X.env) : PE X (.Attribute e f pos) (tFld K ta f) := by
  subst hK
  exact pe_fld he hb
end Tp

set_option Elab.async false
set_option linter.all false
set_option maxRecDepth 100000
set_option maxHeartbeats 4000000
namespace Tp
open PySem PySem.Spec PyProof.Rows L2
/-! ### dicts of names and ints as rows -/
abbrev Row := List (Str × Int)
def kvR (r : Row) : List (Key × V) := r.map fun p => (Sum.inr p.1, .int p.2)
def atR (r : Row) (x : Str) : Option Int := (r.find? fun p => decide (p.1 = x)).map (·.2)
def putR (r : Row) (x : Str) (i : Int) : Row := if (r.any fun p => decide (p.1 = x)) = true then r.map (fun p => if p.1 = x then (p.1, i) else p) else r ++ [(x, i)]
def fnR (r : Row) (x : Str) : Int := (atR r x).getD 0
def nzR (r : Row) : Row := r.filter fun p => decide (p.2 ≠ 0)
def eqR (r s : Row) : Bool := r.length == s.length && r.all fun p => atR s p.1 == some p.2
def NdR (r : Row) : Prop := (r.map (·.1)).Nodup
def FullR (r : Row) : Prop := ∀ p ∈ r, p.2 ≠ 0
theorem kvR_length (r : Row) : (kvR r).length = r.length := List.length_map _
theorem atR_nil {x : Str} : atR [] x = none := rfl
theorem atR_cons {p : Str × Int} {r : Row} {x : Str} : atR (p :: r) x = if p.1 = x then some p.2 else atR r x := by
  by_cases e : p.1 = x
  · rw [if_pos e]; simp [atR, List.find?_cons, e]
  · rw [if_neg e]; simp [atR, List.find?_cons, e]
theorem val_kvR (x : Str) : ∀ r : Row, valV (kvR r) (Sum.inr x) = (atR r x).map V.int
  | [] => rfl
  | p :: r => by
    rw [atR_cons]
    by_cases e : p.1 = x
    · rw [if_pos e]
      exact valV_pos (p := (Sum.inr p.1, V.int p.2)) (by rw [e])
    · rw [if_neg e]
      exact (valV_neg (p := (Sum.inr p.1, V.int p.2)) (fun z => e (Sum.inr.inj z))).trans (val_kvR x r)
theorem put_kvR (r : Row) (x : Str) (i : Int) : putK (kvR r) (Sum.inr x) (.int i) = kvR (putR r x i) := by
  unfold putK putR
  have h : ((kvR r).any fun kv => decide (kv.1 = (Sum.inr x : Key))) = r.any fun p => decide (p.1 = x) := by
    unfold kvR
    rw [List.any_map]
    congr 1
    funext p
    simp
  rw [h]
  by_cases c : (r.any fun p => decide (p.1 = x)) = true
  · rw [if_pos c, if_pos c]
    unfold kvR
    rw [List.map_map, List.map_map]
    congr 1
    funext p
    by_cases e : p.1 = x
    · simp [e]
    · simp [e]
  · rw [if_neg c, if_neg c]
    unfold kvR
    rw [List.map_append]
    rfl
theorem atR_map (x : Str) (i : Int) (y : Str) : ∀ r : Row, atR (r.map fun p => if p.1 = x then (p.1, i) else p) y = if y = x then (atR r y).map fun _ => i else atR r y
  | [] => by by_cases e : y = x <;> simp [e, atR]
  | p :: r => by
    rw [List.map_cons, atR_cons, atR_cons, atR_map x i y r]
    by_cases e : p.1 = x
    · by_cases h : y = x
      · subst h; simp [e]
      · have : ¬ p.1 = y := fun z => h (z.symm.trans e)
        have h' : ¬ x = y := fun z => h z.symm
        simp [e, h, h']
    · by_cases h : y = x
      · subst h; simp [e]
      · simp [e, h]
theorem atR_append (r s : Row) (y : Str) : atR (r ++ s) y = (atR r y).or (atR s y) := by
  induction r with
  | nil => simp [atR]
  | cons p r ih =>
    rw [List.cons_append, atR_cons, atR_cons, ih]
    by_cases e : p.1 = y
    · simp [e]
    · simp [e]
theorem any_at (x : Str) : ∀ r : Row, (r.any fun p => decide (p.1 = x)) = (atR r x).isSome
  | [] => rfl
  | p :: r => by
    rw [List.any_cons, atR_cons, any_at x r]
    by_cases e : p.1 = x
    · simp [e]
    · simp [e]
theorem atR_put (r : Row) (x : Str) (i : Int) (y : Str) : atR (putR r x i) y = if y = x then some i else atR r y := by
  unfold putR
  rw [any_at]
  cases h : atR r x with
  | some j =>
    rw [if_pos (show (some j).isSome = true from rfl), atR_map]
    by_cases e : y = x
    · subst e; rw [if_pos rfl, if_pos rfl, h]; rfl
    · rw [if_neg e, if_neg e]
  | none =>
    rw [if_neg (by simp), atR_append, atR_cons]
    by_cases e : y = x
    · subst e; rw [h, if_pos rfl, if_pos rfl]; rfl
    · rw [if_neg e, if_neg (fun z => e z.symm)]; cases atR r y <;> rfl
theorem fnR_put (r : Row) (x : Str) (i : Int) (y : Str) : fnR (putR r x i) y = if y = x then i else fnR r y := by
  unfold fnR
  rw [atR_put]
  split <;> rfl
theorem at_none {x : Str} : ∀ {r : Row}, atR r x = none ↔ x ∉ r.map (·.1)
  | [] => by simp [atR]
  | p :: r => by
    rw [atR_cons, List.map_cons, List.mem_cons]
    by_cases e : p.1 = x
    · rw [if_pos e]; simp [e]
    · rw [if_neg e, at_none (r := r)]
      exact ⟨fun h z => z.elim (fun z => e z.symm) h, fun h z => h (.inr z)⟩
theorem at_mem {x : Str} {i : Int} : ∀ {r : Row}, atR r x = some i → (x, i) ∈ r
  | [], h => by cases h
  | p :: r, h => by
    rw [atR_cons] at h
    by_cases e : p.1 = x
    · rw [if_pos e] at h; cases h; rw [← e]; exact List.mem_cons_self
    · rw [if_neg e] at h; exact List.mem_cons_of_mem _ (at_mem h)
theorem mem_at {p : Str × Int} : ∀ {r : Row}, NdR r → p ∈ r → atR r p.1 = some p.2
  | q :: r, nd, h => by
    rw [atR_cons]
    have nd' := List.nodup_cons.mp (show (q.1 :: r.map (·.1)).Nodup from nd)
    rcases List.mem_cons.mp h with rfl | h
    · rw [if_pos rfl]
    · rw [if_neg (fun z => nd'.1 (by rw [z]; exact List.mem_map_of_mem h))]
      exact mem_at nd'.2 h
theorem nd_put {r : Row} (nd : NdR r) (x : Str) (i : Int) : NdR (putR r x i) := by
  unfold putR
  by_cases c : (r.any fun p => decide (p.1 = x)) = true
  · rw [if_pos c]
    unfold NdR
    rw [List.map_map]
    have : ((fun p : Str × Int => p.1) ∘ fun p : Str × Int => if p.1 = x then (p.1, i) else p) = fun p => p.1 := by
      funext p
      by_cases e : p.1 = x <;> simp [e]
    rw [this]
    exact nd
  · rw [if_neg c]
    unfold NdR
    rw [List.map_append, List.nodup_append]
    refine ⟨nd, by simp, fun a ha b hb e => ?_⟩
    simp at hb
    subst hb
    subst e
    rw [any_at] at c
    have : atR r a = none := by
      cases h : atR r a with
      | none => rfl
      | some j => rw [h] at c; exact absurd rfl c
    exact at_none.mp this ha
theorem put_new {r : Row} {x : Str} (h : x ∉ r.map (·.1)) (i : Int) : putR r x i = r ++ [(x, i)] := by
  unfold putR
  rw [any_at, at_none.mpr h]
  exact if_neg (by simp)
theorem nd_sub {r s : Row} (h : List.Sublist s r) (nd : NdR r) : NdR s := List.Nodup.sublist (h.map _) nd
theorem nz_nd {r : Row} (nd : NdR r) : NdR (nzR r) := nd_sub List.filter_sublist nd
theorem nz_full (r : Row) : FullR (nzR r) := fun p hp => of_decide_eq_true (List.mem_filter.mp hp).2
theorem nz_fn {r : Row} (nd : NdR r) (x : Str) : fnR (nzR r) x = fnR r x := by
  unfold fnR
  cases h : atR r x with
  | none =>
    have : atR (nzR r) x = none := at_none.mpr fun z => by
      obtain ⟨p, hp, e⟩ := List.mem_map.mp z
      exact at_none.mp h (by rw [← e]; exact List.mem_map_of_mem (List.mem_filter.mp hp).1)
    rw [this]
  | some i =>
    by_cases z : i = 0
    · have : atR (nzR r) x = none := at_none.mpr fun q => by
        obtain ⟨p, hp, e⟩ := List.mem_map.mp q
        have e2 := mem_at nd (List.mem_filter.mp hp).1
        rw [e, h] at e2
        cases e2
        exact of_decide_eq_true (List.mem_filter.mp hp).2 z
      rw [this, z]; rfl
    · rw [mem_at (p := (x, i)) (nz_nd nd) (List.mem_filter.mpr ⟨at_mem h, decide_eq_true z⟩)]
theorem fn_at {r : Row} (h : FullR r) {x : Str} : atR r x = if fnR r x = 0 then none else some (fnR r x) := by
  unfold fnR
  cases e : atR r x with
  | none => rfl
  | some i => exact (if_neg (h _ (at_mem e))).symm
theorem sub_len {α : Type} [DecidableEq α] : ∀ {l m : List α}, l.Nodup → (∀ x ∈ l, x ∈ m) → l.length ≤ m.length
  | [], m, _, _ => Nat.zero_le _
  | x :: l, m, nd, h => by
    obtain ⟨n1, n2⟩ := List.nodup_cons.mp nd
    have hx : x ∈ m := h x List.mem_cons_self
    have := sub_len (l := l) (m := m.erase x) n2 fun y hy => (List.mem_erase_of_ne (fun z => n1 (by rw [← z]; exact hy))).mpr (h y (List.mem_cons_of_mem _ hy))
    rw [List.length_erase_of_mem hx] at this
    have : 0 < m.length := List.length_pos_of_mem hx
    simp only [List.length_cons]
    omega
theorem sub_all {α : Type} [DecidableEq α] {l m : List α} (nd : l.Nodup) (h : ∀ x ∈ l, x ∈ m) (hl : m.length ≤ l.length) : ∀ x ∈ m, x ∈ l := fun x hx => by
  refine Classical.byContradiction fun n => ?_
  have := sub_len (l := x :: l) (m := m) (List.nodup_cons.mpr ⟨n, nd⟩) fun y hy => (List.mem_cons.mp hy).elim (fun e => by rw [e]; exact hx) (h y)
  simp only [List.length_cons] at this
  omega
theorem nd_of {r : Row} (nd : NdR r) : r.Nodup := List.Pairwise.of_map (·.1) (fun a b h e => h (by rw [e])) nd
theorem eqR_iff {r s : Row} (nr : NdR r) (ns : NdR s) (fr : FullR r) (fs : FullR s) : eqR r s = true ↔ ∀ x, fnR r x = fnR s x := by
  have keys : (∀ x, fnR r x = fnR s x) → ∀ x, atR r x = atR s x := fun h x => by rw [fn_at fr, fn_at fs, h x]
  constructor
  · intro h x
    obtain ⟨hl, ha⟩ := Bool.and_eq_true_iff.mp h
    have hl : r.length = s.length := beq_iff_eq.mp hl
    have ha : ∀ p ∈ r, atR s p.1 = some p.2 := fun p hp => beq_iff_eq.mp (List.all_eq_true.mp ha p hp)
    have sub : ∀ p ∈ r, p ∈ s := fun p hp => at_mem (ha p hp)
    have back := sub_all (nd_of nr) sub (by omega)
    unfold fnR
    have : atR r x = atR s x := by
      cases e : atR r x with
      | some i => exact (ha _ (at_mem e)).symm
      | none =>
        refine (at_none.mpr fun z => at_none.mp e ?_).symm
        obtain ⟨p, hp, e⟩ := List.mem_map.mp z
        exact List.mem_map.mpr ⟨p, back p hp, e⟩
    rw [this]
  · intro h
    have k := keys h
    have sub1 : ∀ p ∈ r, p ∈ s := fun p hp => at_mem (by rw [← k]; exact mem_at nr hp)
    have sub2 : ∀ p ∈ s, p ∈ r := fun p hp => at_mem (by rw [k]; exact mem_at ns hp)
    have l1 := sub_len (nd_of nr) sub1
    have l2 := sub_len (nd_of ns) sub2
    refine Bool.and_eq_true_iff.mpr ⟨beq_iff_eq.mpr (by omega), List.all_eq_true.mpr fun p hp => beq_iff_eq.mpr ?_⟩
    rw [← k]
    exact mem_at nr hp
theorem kv_names (r : Row) : (kvR r).map (·.1) = (r.map (·.1)).map Sum.inr := by
  unfold kvR
  rw [List.map_map, List.map_map]
  rfl
theorem kv_nd {r : Row} (nd : NdR r) : ((kvR r).map (·.1)).Nodup := by
  rw [kv_names]
  exact List.Pairwise.map _ (fun a b (h : a ≠ b) e => h (Sum.inr.inj e)) nd
theorem at_of_mem {r : Row} {n : Str} (h : n ∈ r.map (·.1)) : atR r n = some (fnR r n) := by
  unfold fnR
  cases e : atR r n with
  | none => exact absurd h (at_none.mp e)
  | some i => rfl
/-- the rows of r at the names ys, without those of 0 -/
def pickR (r : Row) (ys : List Str) : Row := (ys.filter fun n => decide (fnR r n ≠ 0)).map fun n => (n, fnR r n)
theorem pick_names (r : Row) (ys : List Str) : (pickR r ys).map (·.1) = ys.filter fun n => decide (fnR r n ≠ 0) := by
  unfold pickR
  rw [List.map_map]
  exact List.map_id _
theorem pick_nd {r : Row} {ys : List Str} (h : ys.Nodup) : NdR (pickR r ys) := by
  unfold NdR
  rw [pick_names]
  exact h.sublist List.filter_sublist
theorem pick_full (r : Row) (ys : List Str) : FullR (pickR r ys) := fun p hp => by
  obtain ⟨n, hn, rfl⟩ := List.mem_map.mp hp
  exact of_decide_eq_true (List.mem_filter.mp hn).2
theorem fn_mem {r : Row} {n : Str} (h : fnR r n ≠ 0) : (n, fnR r n) ∈ r := by
  unfold fnR at h ⊢
  cases e : atR r n with
  | none => rw [e] at h; exact absurd rfl h
  | some i => exact at_mem e
theorem pick_mem {r : Row} {ys : List Str} : ∀ p ∈ pickR r ys, p ∈ r := fun p hp => by
  obtain ⟨n, hn, rfl⟩ := List.mem_map.mp hp
  exact fn_mem (of_decide_eq_true (List.mem_filter.mp hn).2)
theorem pick_fn {r : Row} {ys : List Str} (h : ys.Nodup) (hm : ∀ p ∈ r, p.1 ∈ ys) (x : Str) : fnR (pickR r ys) x = fnR r x := by
  by_cases z : fnR r x = 0
  · have : atR (pickR r ys) x = none := at_none.mpr fun q => by
      rw [pick_names] at q
      exact of_decide_eq_true (List.mem_filter.mp q).2 z
    rw [z]
    unfold fnR
    rw [this]
    rfl
  · have m : (x, fnR r x) ∈ pickR r ys := List.mem_map.mpr ⟨x, List.mem_filter.mpr ⟨hm _ (fn_mem z), decide_eq_true z⟩, rfl⟩
    have := mem_at (pick_nd h) m
    show (atR (pickR r ys) x).getD 0 = fnR r x
    rw [this]
    rfl
theorem pick_take {r : Row} {ys : List Str} {i : Nat} {n : Str} (hi : ys[i]? = some n) : pickR r (ys.take (i + 1)) = if fnR r n ≠ 0 then pickR r (ys.take i) ++ [(n, fnR r n)] else pickR r (ys.take i) := by
  unfold pickR
  rw [List.take_add_one, hi]
  simp only [Option.toList_some, List.filter_append, List.map_append]
  by_cases z : fnR r n = 0
  · simp [z]
  · simp [z]
theorem pick_put {r : Row} {ys : List Str} (h : ys.Nodup) {i : Nat} {n : Str} (hi : ys[i]? = some n) (z : fnR r n ≠ 0) : putK (kvR (pickR r (ys.take i))) (Sum.inr n) (.int (fnR r n)) = kvR (pickR r (ys.take (i + 1))) := by
  rw [put_kvR, pick_take hi, if_pos z, put_new]
  rw [pick_names]
  intro q
  have q := (List.mem_filter.mp q).1
  obtain ⟨hlt, e⟩ := List.getElem?_eq_some_iff.mp hi
  obtain ⟨j, hj, ej⟩ := List.mem_iff_getElem.mp q
  rw [List.length_take] at hj
  rw [List.getElem_take] at ej
  exact (List.pairwise_iff_getElem.mp h) j i (by omega) hlt (by omega) (ej.trans e.symm)
/-! ### == and != of such dicts -/
theorem hitsI {A : Around} {s : Shared} {b : Row} {vb : List (Key × Value)} (rb : KV (kvR b) vb) : ∀ {r : Row} {va : List (Key × Value)}, KV (kvR r) va → PySem.W.KeqHits A s vb va (r.all fun p => atR b p.1 == some p.2)
  | [], va, h => by cases h; exact .nil
  | p :: r, va, h => by
    cases h with
    | @cons _ q _ qs h1 t =>
      obtain ⟨e1, e2⟩ := h1
      obtain ⟨key, v⟩ := q
      have e1 : (Sum.inr p.1 : Key) = key := e1
      subst e1
      obtain ⟨tk, rfl⟩ := (show ∃ t, v = Value.int p.2 t from e2)
      have ih := hitsI (A := A) (s := s) rb (show KV (kvR r) qs from t)
      have rr : RelO (valV (kvR b) (Sum.inr p.1)) (valueAt vb (Sum.inr p.1)) := rb.val _
      rw [val_kvR] at rr
      rw [List.all_cons]
      cases e : atR b p.1 with
      | none =>
        rw [e] at rr
        exact .miss (RelO.none_of rr)
      | some j =>
        rw [e] at rr
        obtain ⟨y, hy, ry⟩ := RelO.some_of rr
        obtain ⟨t2, rfl⟩ := (show ∃ t, y = Value.int j t from ry)
        have : (some j == some p.2) = (p.2 == j) := by
          by_cases z : p.2 = j
          · subst z; simp
          · rw [beq_eq_false_iff_ne.mpr z, beq_eq_false_iff_ne.mpr fun q => z (Option.some.inj q).symm]
        rw [this]
        exact .hit hy (SeqAt.EqAt.int_int _ _ _ _) ih
def rEqDI : R2 := fun x y H Q => ∃ a b r s, x = .ref a ∧ y = .ref b ∧ H a = some (.dK (kvR r)) ∧ H b = some (.dK (kvR s)) ∧ Q (.bl (eqR r s)) H
def rNeDI : R2 := fun x y H Q => ∃ a b r s, x = .ref a ∧ y = .ref b ∧ H a = some (.dK (kvR r)) ∧ H b = some (.dK (kvR s)) ∧ Q (.bl (!eqR r s)) H
section
variable {X : Cx}
theorem op_eqDI (hu : X.A.units < cLine) : OpR X (compareOp .Eq) rEqDI := by
  intro pins s σ H x y v u Q I rx ry h
  obtain ⟨a, b, r, t, rfl, rfl, ea, eb, q⟩ := h
  obtain rfl : v = Value.ref a := rx
  obtain rfl : u = Value.ref b := ry
  obtain ⟨_, ya, va, ra, da⟩ := (show ObjOk X.prog X.w H s.heap a (.dK (kvR r)) from I.hok a _ ea)
  obtain ⟨_, yb, vb, rb, db⟩ := (show ObjOk X.prog X.w H s.heap b (.dK (kvR t)) from I.hok b _ eb)
  refine PySem.W.keq_eq (knd := mixKind X.prog X.w) ya yb da db hu (fun _ => hitsI rb ra) (fin_bl I q ?_)
  unfold eqR
  rw [← ra.length, ← rb.length, kvR_length, kvR_length]
theorem op_neDI (hu : X.A.units < cLine) : OpR X (compareOp .NotEq) rNeDI := by
  intro pins s σ H x y v u Q I rx ry h
  obtain ⟨a, b, r, t, rfl, rfl, ea, eb, q⟩ := h
  obtain rfl : v = Value.ref a := rx
  obtain rfl : u = Value.ref b := ry
  obtain ⟨_, ya, va, ra, da⟩ := (show ObjOk X.prog X.w H s.heap a (.dK (kvR r)) from I.hok a _ ea)
  obtain ⟨_, yb, vb, rb, db⟩ := (show ObjOk X.prog X.w H s.heap b (.dK (kvR t)) from I.hok b _ eb)
  refine PySem.W.keq_ne (knd := mixKind X.prog X.w) ya yb da db hu (fun _ => hitsI rb ra) (fin_bl I q ?_)
  unfold eqR
  rw [← ra.length, ← rb.length, kvR_length, kvR_length]
end
end Tp

set_option Elab.async false
set_option linter.all false
set_option maxRecDepth 100000
set_option maxHeartbeats 4000000
namespace Tp
open PySem PySem.Spec PyProof.Rows L2
/-! ### sorted texts: there is just one order -/
def leS (a b : Str) : Prop := ¬ b.cps.toList < a.cps.toList
theorem leS_trans {a b c : Str} (h : leS a b) (k : leS b c) : leS a c := by
  have h : a.cps.toList ≤ b.cps.toList := h
  have k : b.cps.toList ≤ c.cps.toList := k
  exact List.le_trans h k
theorem leS_anti {a b : Str} (h : leS a b) (k : leS b a) : a = b := by
  have e : a.cps.toList = b.cps.toList := List.le_antisymm (show a.cps.toList ≤ b.cps.toList from h) k
  obtain ⟨⟨x⟩⟩ := a
  obtain ⟨⟨y⟩⟩ := b
  cases (show x = y from e)
  rfl
theorem rising_pair : ∀ (p : Str) (l : List Str), risingS p l = true → (p :: l).Pairwise leS
  | p, [], _ => by simp
  | p, x :: r, h => by
    obtain ⟨h1, h2⟩ := Bool.and_eq_true_iff.mp (show (!ltCps x.cps.toList p.cps.toList && risingS x r) = true from h)
    have h1 : leS p x := by
      rw [ltCps_eq] at h1
      have : decide (x.cps.toList < p.cps.toList) = false := by simpa using h1
      exact of_decide_eq_false this
    have ih := rising_pair x r h2
    refine List.pairwise_cons.mpr ⟨fun y hy => ?_, ih⟩
    rcases List.mem_cons.mp hy with rfl | hy
    · exact h1
    · exact leS_trans h1 ((List.pairwise_cons.mp ih).1 y hy)
theorem sorted_pair : ∀ (l : List Str), sortedS l = true → l.Pairwise leS
  | [], _ => .nil
  | x :: r, h => rising_pair x r h
theorem sorted_one {l m : List Str} (h : sortedS l = true) (k : sortedS m = true) (p : l.Perm m) : l = m :=
  p.eq_of_pairwise (fun a b _ _ h k => leS_anti h k) (sorted_pair l h) (sorted_pair m k)
theorem nodup_perm {α : Type} {l m : List α} (nl : l.Nodup) (nm : m.Nodup) (h : ∀ x, x ∈ l ↔ x ∈ m) : l.Perm m := by
  exact (List.perm_ext_iff_of_nodup nl nm).mpr h
theorem full_names {r s : Row} (nr : NdR r) (ns : NdR s) (fr : FullR r) (fs : FullR s) (h : ∀ x, fnR r x = fnR s x) : (r.map (·.1)).Perm (s.map (·.1)) := by
  refine nodup_perm nr ns fun x => ?_
  have key : ∀ {t : Row}, FullR t → (x ∈ t.map (·.1) ↔ fnR t x ≠ 0) := fun {t} ft => by
    constructor
    · intro hx
      have e := at_of_mem hx
      rw [fn_at ft] at e
      intro z
      rw [if_pos z] at e
      cases e
    · intro hz
      exact List.mem_map.mpr ⟨_, fn_mem hz, rfl⟩
  rw [key fr, key fs, h x]
end Tp

set_option Elab.async false
set_option linter.all false
set_option maxRecDepth 100000
set_option maxHeartbeats 4000000
namespace Tp
open PySem PySem.Spec PyProof.Rows L2
/-! ### rules whose reading names K, for use within a comprehension -/
section
variable {X : Cx} {K : PySem.W.Frag}
theorem call_dictPK (hK : X.K = K) (hcalm : X.calm = true) : CallR X (.type "dict") (fun xs H Q => ∃ (a : Addr) (ps : List Addr) (kvs : List (Key × V)), xs = [.ref a] ∧ SqL K H a (ps.map V.ref) ∧ Paired (fun p kv => SqT K H p [kV kv.1, kv.2]) ps kvs ∧
    ∀ p, H p = none → Q (.ref p) (upd H p (.dK (mergeK [] kvs)))) := by
  subst hK
  exact call_dictP hcalm
end
end Tp

set_option Elab.async false
set_option linter.all false
set_option maxRecDepth 100000
set_option maxHeartbeats 4000000
namespace L31
open PySem L2 Tp
def top (i : Nat) : Stmt := PySem.Challenge.pw_toldpast_k31_rows_of_lags.main.body.getD i (.Pass ⟨0, 0, 0, 0⟩)
abbrev scXName_st : Stmt := inClass (top 2) 0
abbrev scXName_N : List Str := ["self", "value"]
theorem scXName : FnScope scXName_N ["self", "value"] (defScope scXName_st) := ⟨rfl, rfl, rfl, by decide +kernel, rfl, by decide +kernel, by decide +kernel⟩
abbrev scXLags_st : Stmt := inClass (top 3) 0
abbrev scXLags_N : List Str := ["self", "value"]
theorem scXLags : FnScope scXLags_N ["self", "value"] (defScope scXLags_st) := ⟨rfl, rfl, rfl, by decide +kernel, rfl, by decide +kernel, by decide +kernel⟩
abbrev scIsName_st : Stmt := top 8
abbrev scIsName_N : List Str := ["value"]
theorem scIsName : FnScope scIsName_N ["value"] (defScope scIsName_st) := ⟨rfl, rfl, rfl, by decide +kernel, rfl, by decide +kernel, by decide +kernel⟩
abbrev scInit_st : Stmt := inClass (top 10) 0
abbrev scInit_N : List Str := ["self", "rows", "name"]
theorem scInit : FnScope scInit_N ["self", "rows"] (defScope scInit_st) := ⟨rfl, rfl, rfl, by decide +kernel, rfl, by decide +kernel, by decide +kernel⟩
abbrev scRows_st : Stmt := inClass (top 10) 1
abbrev scRows_N : List Str := ["self"]
theorem scRows : FnScope scRows_N ["self"] (defScope scRows_st) := ⟨rfl, rfl, rfl, by decide +kernel, rfl, by decide +kernel, by decide +kernel⟩
abbrev scLag_st : Stmt := inClass (top 10) 2
abbrev scLag_N : List Str := ["self", "name"]
theorem scLag : FnScope scLag_N ["self", "name"] (defScope scLag_st) := ⟨rfl, rfl, rfl, by decide +kernel, rfl, by decide +kernel, by decide +kernel⟩
abbrev scBoth_st : Stmt := inClass (top 10) 3
abbrev scBoth_N : List Str := ["self", "other", "name"]
theorem scBoth : FnScope scBoth_N ["self", "other"] (defScope scBoth_st) := ⟨rfl, rfl, rfl, by decide +kernel, rfl, by decide +kernel, by decide +kernel⟩
abbrev scGet_st : Stmt := inClass (top 10) 4
abbrev scGet_N : List Str := ["self", "name"]
theorem scGet : FnScope scGet_N ["self", "name"] (defScope scGet_st) := ⟨rfl, rfl, rfl, by decide +kernel, rfl, by decide +kernel, by decide +kernel⟩
abbrev scEq_st : Stmt := inClass (top 10) 6
abbrev scEq_N : List Str := ["self", "other"]
theorem scEq : FnScope scEq_N ["self", "other"] (defScope scEq_st) := ⟨rfl, rfl, rfl, by decide +kernel, rfl, by decide +kernel, by decide +kernel⟩
abbrev scOr_st : Stmt := inClass (top 10) 7
abbrev scOr_N : List Str := ["self", "other", "name"]
theorem scOr : FnScope scOr_N ["self", "other"] (defScope scOr_st) := ⟨rfl, rfl, rfl, by decide +kernel, rfl, by decide +kernel, by decide +kernel⟩
abbrev scAnd_st : Stmt := inClass (top 10) 8
abbrev scAnd_N : List Str := ["self", "other", "name"]
theorem scAnd : FnScope scAnd_N ["self", "other"] (defScope scAnd_st) := ⟨rfl, rfl, rfl, by decide +kernel, rfl, by decide +kernel, by decide +kernel⟩
abbrev scAdd_st : Stmt := inClass (top 10) 9
abbrev scAdd_N : List Str := ["self", "other", "name"]
theorem scAdd : FnScope scAdd_N ["self", "other"] (defScope scAdd_st) := ⟨rfl, rfl, rfl, by decide +kernel, rfl, by decide +kernel, by decide +kernel⟩
abbrev scSub_st : Stmt := inClass (top 10) 10
abbrev scSub_N : List Str := ["self", "other", "name"]
theorem scSub : FnScope scSub_N ["self", "other"] (defScope scSub_st) := ⟨rfl, rfl, rfl, by decide +kernel, rfl, by decide +kernel, by decide +kernel⟩
abbrev scNeg_st : Stmt := inClass (top 10) 11
abbrev scNeg_N : List Str := ["self", "name"]
theorem scNeg : FnScope scNeg_N ["self"] (defScope scNeg_st) := ⟨rfl, rfl, rfl, by decide +kernel, rfl, by decide +kernel, by decide +kernel⟩
abbrev scBelow_st : Stmt := inClass (top 10) 12
abbrev scBelow_N : List Str := ["self", "other", "name"]
theorem scBelow : FnScope scBelow_N ["self", "other"] (defScope scBelow_st) := ⟨rfl, rfl, rfl, by decide +kernel, rfl, by decide +kernel, by decide +kernel⟩
abbrev scAbs_st : Stmt := inClass (top 10) 13
abbrev scAbs_N : List Str := ["self", "name"]
theorem scAbs : FnScope scAbs_N ["self"] (defScope scAbs_st) := ⟨rfl, rfl, rfl, by decide +kernel, rfl, by decide +kernel, by decide +kernel⟩
abbrev scCell_st : Stmt := top 12
abbrev scCell_N : List Str := ["_law_script", "_law_index"]
theorem scCell : FnScope scCell_N ["_law_script", "_law_index"] (defScope scCell_st) := ⟨rfl, rfl, rfl, by decide +kernel, rfl, by decide +kernel, by decide +kernel⟩
abbrev scBox_st : Stmt := top 13
abbrev scBox_N : List Str := ["_law_cell_here"]
theorem scBox : FnScope scBox_N ["_law_cell_here"] (defScope scBox_st) := ⟨rfl, rfl, rfl, by decide +kernel, rfl, by decide +kernel, by decide +kernel⟩
abbrev scTake_st : Stmt := top 14
abbrev scTake_N : List Str := ["_law_bag_here", "_law_many", "_law_digit", "_law_mixed"]
theorem scTake : FnScope scTake_N ["_law_bag_here", "_law_many"] (defScope scTake_st) := ⟨rfl, rfl, rfl, by decide +kernel, rfl, by decide +kernel, by decide +kernel⟩
abbrev scDrawn_st : Stmt := top 15
abbrev scDrawn_N : List Str := ["_law_bag_here", "_law_names", "_law_found", "_law_left", "_law_name", "_law_way"]
theorem scDrawn : FnScope scDrawn_N ["_law_bag_here"] (defScope scDrawn_st) := ⟨rfl, rfl, rfl, by decide +kernel, rfl, by decide +kernel, by decide +kernel⟩
abbrev scRowsL_st : Stmt := top 16
abbrev scRowsL_N : List Str := ["_law_rows_here", "_law_found", "_law_name"]
theorem scRowsL : FnScope scRowsL_N ["_law_rows_here"] (defScope scRowsL_st) := ⟨rfl, rfl, rfl, by decide +kernel, rfl, by decide +kernel, by decide +kernel⟩
abbrev scJoined_st : Stmt := top 17
abbrev scJoined_N : List Str := ["_law_one", "_law_other", "_law_way", "_law_found", "_law_name", "_law_left", "_law_right_here"]
theorem scJoined : FnScope scJoined_N ["_law_one", "_law_other", "_law_way"] (defScope scJoined_st) := ⟨rfl, rfl, rfl, by decide +kernel, rfl, by decide +kernel, by decide +kernel⟩
abbrev scCaught_st : Stmt := top 18
abbrev scCaught_N : List Str := ["_law_door", "_law_thing", "e"]
theorem scCaught : FnScope scCaught_N ["_law_door", "_law_thing"] (defScope scCaught_st) := ⟨rfl, rfl, rfl, by decide +kernel, rfl, by decide +kernel, by decide +kernel⟩
abbrev scRight_st : Stmt := top 19
abbrev scRight_N : List Str := ["_law_lags", "_law_rows_here", "_law_due", "_law_turn", "_law_found", "_law_name", "_law_back"]
theorem scRight : FnScope scRight_N ["_law_lags", "_law_rows_here"] (defScope scRight_st) := ⟨rfl, rfl, rfl, by decide +kernel, rfl, by decide +kernel, by decide +kernel⟩
abbrev scLaw_st : Stmt := top 20
abbrev scLaw_N : List Str := ["_law_script", "_law_index", "_law_bag_here", "_law_drawn_here", "_law_passed", "_law_made", "_law_rows_here", "_law_given", "_law_one", "_law_left", "_law_other", "_law_right_here", "_law_below", "_law_odds", "_law_odd", "_law_turn", "_law_name"]
theorem scLaw : FnScope scLaw_N ["_law_script"] (defScope scLaw_st) := ⟨rfl, rfl, rfl, by decide +kernel, rfl, by decide +kernel, by decide +kernel⟩
structure Ad where
  xName : Addr
  xLags : Addr
  isName : Addr
  init : Addr
  rows : Addr
  lag : Addr
  both : Addr
  get : Addr
  eq : Addr
  or : Addr
  and : Addr
  add : Addr
  sub : Addr
  neg : Addr
  below : Addr
  abs : Addr
  cell : Addr
  box : Addr
  take : Addr
  drawn : Addr
  rowsL : Addr
  joined : Addr
  caught : Addr
  right : Addr
  law : Addr
  CNetError : Addr
  CInvalidName : Addr
  CInvalidLags : Addr
  CLags : Addr
structure Fd where
  xName : FuncData
  xLags : FuncData
  isName : FuncData
  init : FuncData
  rows : FuncData
  lag : FuncData
  both : FuncData
  get : FuncData
  eq : FuncData
  or : FuncData
  and : FuncData
  add : FuncData
  sub : FuncData
  neg : FuncData
  below : FuncData
  abs : FuncData
  cell : FuncData
  box : FuncData
  take : FuncData
  drawn : FuncData
  rowsL : FuncData
  joined : FuncData
  caught : FuncData
  right : FuncData
  law : FuncData
structure Txt (K : PySem.W.Frag) (mg : Str → Option Value) (a : Ad) (d : Fd) : Prop where
  F_xName : Fun K "__init__" "InvalidName.__init__" scXName_st a.xName d.xName
  b_xName : Binds K d.xName ["self", "value"] []
  F_xLags : Fun K "__init__" "InvalidLags.__init__" scXLags_st a.xLags d.xLags
  b_xLags : Binds K d.xLags ["self", "value"] []
  F_isName : Fun K "is_name" "is_name" scIsName_st a.isName d.isName
  b_isName : Binds K d.isName ["value"] []
  mg_isName : mg "is_name" = some (.ref a.isName)
  F_init : Fun K "__init__" "Lags.__init__" scInit_st a.init d.init
  b_init : Binds K d.init ["self", "rows"] []
  F_rows : Fun K "rows" "Lags.rows" scRows_st a.rows d.rows
  b_rows : Binds K d.rows ["self"] []
  F_lag : Fun K "lag" "Lags.lag" scLag_st a.lag d.lag
  b_lag : Binds K d.lag ["self", "name"] []
  F_both : Fun K "both" "Lags.both" scBoth_st a.both d.both
  b_both : Binds K d.both ["self", "other"] []
  F_get : Fun K "__getitem__" "Lags.__getitem__" scGet_st a.get d.get
  b_get : Binds K d.get ["self", "name"] []
  F_eq : Fun K "__eq__" "Lags.__eq__" scEq_st a.eq d.eq
  b_eq : Binds K d.eq ["self", "other"] []
  F_or : Fun K "__or__" "Lags.__or__" scOr_st a.or d.or
  b_or : Binds K d.or ["self", "other"] []
  F_and : Fun K "__and__" "Lags.__and__" scAnd_st a.and d.and
  b_and : Binds K d.and ["self", "other"] []
  F_add : Fun K "__add__" "Lags.__add__" scAdd_st a.add d.add
  b_add : Binds K d.add ["self", "other"] []
  F_sub : Fun K "__sub__" "Lags.__sub__" scSub_st a.sub d.sub
  b_sub : Binds K d.sub ["self", "other"] []
  F_neg : Fun K "__neg__" "Lags.__neg__" scNeg_st a.neg d.neg
  b_neg : Binds K d.neg ["self"] []
  F_below : Fun K "is_below" "Lags.is_below" scBelow_st a.below d.below
  b_below : Binds K d.below ["self", "other"] []
  F_abs : Fun K "__abs__" "Lags.__abs__" scAbs_st a.abs d.abs
  b_abs : Binds K d.abs ["self"] []
  F_cell : Fun K "_law_cell" "_law_cell" scCell_st a.cell d.cell
  b_cell : Binds K d.cell ["_law_script", "_law_index"] []
  mg_cell : mg "_law_cell" = some (.ref a.cell)
  F_box : Fun K "_law_bag" "_law_bag" scBox_st a.box d.box
  b_box : Binds K d.box ["_law_cell_here"] []
  mg_box : mg "_law_bag" = some (.ref a.box)
  F_take : Fun K "_law_take" "_law_take" scTake_st a.take d.take
  b_take : Binds K d.take ["_law_bag_here", "_law_many"] []
  mg_take : mg "_law_take" = some (.ref a.take)
  F_drawn : Fun K "_law_drawn" "_law_drawn" scDrawn_st a.drawn d.drawn
  b_drawn : Binds K d.drawn ["_law_bag_here"] []
  mg_drawn : mg "_law_drawn" = some (.ref a.drawn)
  F_rowsL : Fun K "_law_rows" "_law_rows" scRowsL_st a.rowsL d.rowsL
  b_rowsL : Binds K d.rowsL ["_law_rows_here"] []
  mg_rowsL : mg "_law_rows" = some (.ref a.rowsL)
  F_joined : Fun K "_law_joined" "_law_joined" scJoined_st a.joined d.joined
  b_joined : Binds K d.joined ["_law_one", "_law_other", "_law_way"] []
  mg_joined : mg "_law_joined" = some (.ref a.joined)
  F_caught : Fun K "_law_caught" "_law_caught" scCaught_st a.caught d.caught
  b_caught : Binds K d.caught ["_law_door", "_law_thing"] []
  mg_caught : mg "_law_caught" = some (.ref a.caught)
  F_right : Fun K "_law_right" "_law_right" scRight_st a.right d.right
  b_right : Binds K d.right ["_law_lags", "_law_rows_here"] []
  mg_right : mg "_law_right" = some (.ref a.right)
  F_law : Fun K "law" "law" scLaw_st a.law d.law
  b_law : Binds K d.law ["_law_script"] []
  mg_law : mg "law" = some (.ref a.law)
  mg_LETTERS : ∃ t, mg "LETTERS" = some (.str "abcdefghijklmnopqrstuvwxyz" t)
  mg_DIGITS : ∃ t, mg "DIGITS" = some (.str "0123456789" t)
  mg_LONGEST_NAME : ∃ t, mg "LONGEST_NAME" = some (.int 8 t)
  len_ : mg "len" = none
  max_ : mg "max" = none
  min_ : mg "min" = none
  isinstance_ : mg "isinstance" = none
  str_ : mg "str" = none
  int_ : mg "int" = none
  all_ : mg "all" = none
  range_ : mg "range" = none
  repr_ : mg "repr" = none
  list_ : mg "list" = none
  dict_ : mg "dict" = none
  bool_ : mg "bool" = none
  sorted_ : mg "sorted" = none
  sum_ : mg "sum" = none
  abs_ : mg "abs" = none
  zip_ : mg "zip" = none
  mg_NetError : mg "NetError" = some (.ref a.CNetError)
  ba_NetError : Tp.BaseT K a.CNetError
  mg_InvalidName : mg "InvalidName" = some (.ref a.CInvalidName)
  ox_InvalidName : OexC K a.CInvalidName
  ec_InvalidName : ExcC K a.CInvalidName
  xf_InvalidName : XfC K a.CInvalidName
  no_InvalidName : PySem.W.findIn K (.ref a.CInvalidName) "value" = some none
  iC_InvalidName : PySem.W.findIn K (.ref a.CInvalidName) "__init__" = some (some (.ref a.xName))
  tI_InvalidName : PySem.W.typeIn K (.ref a.xName) = some (.type "function")
  mg_InvalidLags : mg "InvalidLags" = some (.ref a.CInvalidLags)
  ox_InvalidLags : OexC K a.CInvalidLags
  ec_InvalidLags : ExcC K a.CInvalidLags
  xf_InvalidLags : XfC K a.CInvalidLags
  no_InvalidLags : PySem.W.findIn K (.ref a.CInvalidLags) "value" = some none
  iC_InvalidLags : PySem.W.findIn K (.ref a.CInvalidLags) "__init__" = some (some (.ref a.xLags))
  tI_InvalidLags : PySem.W.typeIn K (.ref a.xLags) = some (.type "function")
  mg_Lags : mg "Lags" = some (.ref a.CLags)
  cl_Lags : Cls K a.CLags
  mk_Lags : Mk K a.CLags a.init
  nOwn : NoAttr K a.CLags "own_lags"
  sf_Lags : PySem.W.selfFirst K a.CLags = true
  ca_Lags : PySem.W.findIn K (.ref a.CLags) "__class__" = some (some (.builtin "object.__class__"))
  cn_ : PySem.W.specialIn K (.builtin "object.__class__") "__get__" = some (some (.builtin "getset_descriptor.__get__"))
  ct_ : PySem.W.takesIn K (.builtin "object.__class__") = some true
  cm_Lags : PySem.W.mroIn K a.CLags (.type "object") = some true
  kd_Lags : PySem.W.kitOne K (.ref a.CLags) (.type "dict") = some false
  ks_Lags : PySem.W.kitOne K (.ref a.CLags) (.type "str") = some false
  ne_Lags : PySem.W.findIn K (.ref a.CLags) "__ne__" = some (some (.builtin "object.__ne__"))
  hd_Lags : PySem.W.hasDictIn K a.CLags = true
  ty_Lags : PySem.W.typeIn K (.ref a.CLags) = some (.type "type")
  me_rows : Meth K a.CLags "rows" a.rows
  me_lag : Meth K a.CLags "lag" a.lag
  me_both : Meth K a.CLags "both" a.both
  me_get : Meth K a.CLags "__getitem__" a.get
  me_eq : Meth K a.CLags "__eq__" a.eq
  me_or : Meth K a.CLags "__or__" a.or
  me_and : Meth K a.CLags "__and__" a.and
  me_add : Meth K a.CLags "__add__" a.add
  me_sub : Meth K a.CLags "__sub__" a.sub
  me_neg : Meth K a.CLags "__neg__" a.neg
  me_below : Meth K a.CLags "is_below" a.below
  me_abs : Meth K a.CLags "__abs__" a.abs
  gi_get : PySem.W.fnIn K a.get = true
  ex_InvalidLags_InvalidLags : PySem.W.exmOne K (.ref a.CInvalidLags) (.ref a.CInvalidLags) = some true
  ex_InvalidName_InvalidLags : PySem.W.exmOne K (.ref a.CInvalidName) (.ref a.CInvalidLags) = some false
  ex_InvalidName_InvalidName : PySem.W.exmOne K (.ref a.CInvalidName) (.ref a.CInvalidName) = some true
  ki_InvalidLags_NetError : PySem.W.kitOne K (.ref a.CInvalidLags) (.ref a.CNetError) = some true
  ki_InvalidName_NetError : PySem.W.kitOne K (.ref a.CInvalidName) (.ref a.CNetError) = some true

section
variable {P : Program} {w : World} {K : PySem.W.Frag} {mg : Str → Option Value} {base : Heap} {a : Ad} {d : Fd}
theorem ok_cell (T : Txt K mg a d) : FnG P w K mg base CX0 1 a.cell d.cell ["_law_script", "_law_index"] (Tp.spCell K) := by
  refine okG T.F_cell scCell (fun vs H Q E h => ?_) (fun cdv A outer s H vs Q E hr hg h => ?_)
  · obtain ⟨s, ns, k, rfl, _⟩ := h
    rfl
  · obtain ⟨s, ns, k, rfl, hS, h0, h1, q⟩ := h
    refine ⟨_, (pss_cons (ps_if (pt_cmpR op_lt (pv 1) (pe_callB call_len_seq (by rfl) T.len_ Tp.bt_len (pa_cons (pv 0) pa_nil)) (nomark _)) (pss_one (ps_ret (pe_ix ix_list (pv 0) (pv 1) (fun _ _ => rfl)))) pss_nil)
      (pss_one (ps_ret (pe_op op_add (pe_op op_mul pe_int (pv 1)) pe_int)))), ?_⟩
    refine ⟨_, rfl, _, rfl, s, _, rfl, .inl hS, _, _, rfl, rfl, _, rfl, ?_⟩
    refine ite2 (fun c => ?_) (fun c => ?_)
    · have c' := of_decide_eq_true c
      rw [List.length_map] at c'
      obtain ⟨j, rfl⟩ := Int.eq_ofNat_of_zero_le h0
      have hj : j < ns.length := by omega
      exact ⟨_, rfl, _, rfl, s, _, _, _, rfl, rfl, hS, atI_nat (by rw [List.getElem?_map, List.getElem?_eq_getElem hj]; rfl), q _⟩
    · exact ⟨_, rfl, _, _, rfl, rfl, .inl ⟨by decide, by decide⟩, _, _, rfl, rfl, q _⟩
theorem ok_box (T : Txt K mg a d) : FnG P w K mg base CX0 1 a.box d.box ["_law_cell_here"] Tp.spBox := by
  refine okG T.F_box scBox (fun vs H Q E h => ?_) (fun cdv A outer s H vs Q E hr hg h => ?_)
  · obtain ⟨c, rfl, _⟩ := h
    rfl
  · obtain ⟨c, rfl, q⟩ := h
    refine ⟨_, (pss_one (ps_ret (pe_lst (pa_cons (pe_callB (call_max2 rfl) (by rfl) T.max_ Tp.bt_max (pa_cons pe_int (pa_cons (pe_op op_sub (pv 0) (pe_op op_pow pe_int pe_int)) pa_nil))) (pa_cons (pe_op op_modN (pv 0) pe_int) (pa_cons pe_int pa_nil)))))), ?_⟩
    refine ⟨_, rfl, _, _, rfl, rfl, ⟨by decide, by decide, by decide⟩, _, _, rfl, rfl, _, _, rfl, _, rfl, _, _, rfl, rfl, (show (_ : Int) ≠ 0 from by decide), (show 3 ≤ sizeLine from by decide), fun p hp => q p _ _ hp ?_ ?_ ?_⟩
    · split <;> omega
    · rw [Int.fmod_eq_emod_of_nonneg _ (by decide)]; exact Int.emod_nonneg _ (by decide)
    · rw [Int.fmod_eq_emod_of_nonneg _ (by decide)]; exact Int.emod_lt_of_pos _ (by decide)
theorem ok_take (T : Txt K mg a d) : FnG P w K mg base CX0 1 a.take d.take ["_law_bag_here", "_law_many"] Tp.spTake := by
  refine okG T.F_take scTake (fun vs H Q E h => ?_) (fun cdv A outer s H vs Q E hr hg h => ?_)
  · obtain ⟨b, m, n, rfl, _⟩ := h
    rfl
  · obtain ⟨b, m, n, rfl, ⟨x, y, z, hb, x0, y0, y1, z0, z1⟩, hn, m0, m1, q⟩ := h
    refine ⟨_, (pss_cons (ps_if (pt_cmpR op_gt (pe_ix ix_list (pv 0) pe_int (fun _ _ => rfl)) pe_int (nomark _)) (pss_cons (ps_set (i := 2) scTake.nd rfl (Or.inl rfl) (pe_op op_modN (pe_ix ix_list (pv 0) pe_int (fun _ _ => rfl)) (pv 1)))
      (pss_cons (ps_asg (pe_op op_fdivN (pe_ix ix_list (pv 0) pe_int (fun _ _ => rfl)) (pv 1)) (pg_sub (pv 0) pe_int set_list))
      (pss_one (ps_ret (pv 2))))) pss_nil)
      (pss_cons (ps_asg (pe_op op_add (pe_ix ix_list (pv 0) pe_int (fun _ _ => rfl)) pe_int) (pg_sub (pv 0) pe_int set_list))
      (pss_cons (ps_set (i := 3) scTake.nd rfl (Or.inl rfl) (pe_op op_modN (pe_op op_pow (pe_op op_add (pe_op op_add (pe_ix ix_list (pv 0) pe_int (fun _ _ => rfl)) (pe_op op_mul pe_int (pe_ix ix_list (pv 0) pe_int (fun _ _ => rfl)))) pe_int) pe_int) pe_int))
      (pss_cons (ps_set (i := 3) scTake.nd rfl (Or.inl rfl) (pe_op op_modN (pe_op op_pow (pe_op op_add (pv 3) (pe_op op_mul pe_int (pe_ix ix_list (pv 0) pe_int (fun _ _ => rfl)))) pe_int) pe_int))
      (pss_one (ps_ret (pe_op op_modN (pe_op op_fdivN (pv 3) pe_int) (pv 1)))))))), ?_⟩
    refine ⟨_, rfl, b, _, _, _, rfl, rfl, SqL.of hb, rfl, _, _, rfl, rfl, _, rfl, ?_⟩
    refine ite2 (fun c => ?_) (fun c => ?_)
    · have c' := of_decide_eq_true c
      refine ⟨_, rfl, b, _, _, _, rfl, rfl, SqL.of hb, rfl, _, rfl, _, _, rfl, rfl, (by show m ≠ 0; omega), ?_⟩
      refine ⟨_, rfl, b, _, _, _, rfl, rfl, SqL.of hb, rfl, _, rfl, _, _, rfl, rfl, ⟨by omega, by omega⟩, _, rfl, b, _, _, _, rfl, rfl, hb, rfl, _, rfl, ?_⟩
      show Q (V.int (x.fmod m)) _
      rw [Int.fmod_eq_emod_of_nonneg _ (by omega)]
      refine q _ _ (Int.emod_nonneg _ (by omega)) (Int.emod_lt_of_pos _ m0) Kp.box ⟨x.fdiv m, y, z, upd_same, ?_, y0, y1, z0, by omega⟩
      rw [Int.fdiv_eq_ediv_of_nonneg _ (by omega)]
      exact Int.ediv_nonneg x0 (by omega)
    · refine ⟨_, rfl, b, _, _, _, rfl, rfl, SqL.of hb, rfl, _, _, rfl, rfl, _, rfl, b, _, _, _, rfl, rfl, hb, rfl, ?_⟩
      have h2 : (upd H b (.lst [V.int x, V.int y, V.int (z + 1)])) b = some (.lst [V.int x, V.int y, V.int (z + 1)]) := upd_same
      refine ⟨_, rfl, b, _, _, _, rfl, rfl, SqL.of h2, rfl, _, rfl, b, _, _, _, rfl, rfl, SqL.of h2, rfl, _, _, rfl, rfl, .inl ⟨by decide, by decide⟩, _, _, rfl, rfl, _, _, rfl, rfl, _, _, rfl, rfl, ⟨by decide, by decide, mixA y0 y1 z0 (by omega) (by decide) (by decide)⟩, _, _, rfl, rfl, (show (_ : Int) ≠ 0 from by decide), ?_⟩
      refine ⟨_, rfl, _, rfl, b, _, _, _, rfl, rfl, SqL.of h2, rfl, _, _, rfl, rfl, .inl ⟨by decide, by decide⟩, _, _, rfl, rfl, _, _, rfl, rfl, ⟨by decide, by decide, mixB z0 (by omega) (by decide)⟩, _, _, rfl, rfl, (show (_ : Int) ≠ 0 from by decide), ?_⟩
      refine ⟨_, rfl, _, _, rfl, rfl, ⟨by decide, by decide⟩, _, rfl, _, _, rfl, rfl, (by show m ≠ 0; omega), ?_⟩
      show Q (V.int (Int.fmod _ m)) _
      rw [Int.fmod_eq_emod_of_nonneg _ (by omega : (0 : Int) ≤ m)]
      exact q _ _ (Int.emod_nonneg _ (by omega)) (Int.emod_lt_of_pos _ m0) Kp.box ⟨x, y, z + 1, h2, x0, y0, y1, by omega, by omega⟩
end
end L31

set_option Elab.async false
set_option linter.all false
set_option maxRecDepth 100000
set_option maxHeartbeats 4000000
namespace L31
open PySem L2 Tp
section
variable {P : Program} {w : World} {K : PySem.W.Frag} {mg : Str → Option Value} {base : Heap} {a : Ad} {d : Fd}
theorem ok_xName (T : Txt K mg a d) : FnOk P w K mg base CX0 1 a.xName d.xName ["self", "value"] (spXI a.CInvalidName "value") := by
  refine okN T.F_xName scXName (fun vs H Q E h => ?_) (fun cdv A outer s H vs Q E hr h => ?_)
  · obtain ⟨x, v, rfl, _⟩ := h
    rfl
  · obtain ⟨x, v, rfl, hx, q⟩ := h
    refine ⟨_, (pss_cons (ps_expr (Tp.pe_ownInit (by rfl) T.mg_NetError T.ba_NetError (pa_cons (pv 0) (pa_cons pe_str pa_nil))))
      (pss_one (ps_ost (pv 0) (pv 1)))), ?_⟩
    exact ⟨_, rfl, x, _, _, rfl, by decide, T.ox_InvalidName, hx, _, rfl, _, rfl, x, _, rfl, T.ox_InvalidName, T.no_InvalidName, .inl ⟨hx, fun dx h1 h2 => q dx h1 h2⟩⟩
theorem ok_xLags (T : Txt K mg a d) : FnOk P w K mg base CX0 1 a.xLags d.xLags ["self", "value"] (spXI a.CInvalidLags "value") := by
  refine okN T.F_xLags scXLags (fun vs H Q E h => ?_) (fun cdv A outer s H vs Q E hr h => ?_)
  · obtain ⟨x, v, rfl, _⟩ := h
    rfl
  · obtain ⟨x, v, rfl, hx, q⟩ := h
    refine ⟨_, (pss_cons (ps_expr (Tp.pe_ownInit (by rfl) T.mg_NetError T.ba_NetError (pa_cons (pv 0) (pa_cons pe_str pa_nil))))
      (pss_one (ps_ost (pv 0) (pv 1)))), ?_⟩
    exact ⟨_, rfl, x, _, _, rfl, by decide, T.ox_InvalidLags, hx, _, rfl, _, rfl, x, _, rfl, T.ox_InvalidLags, T.no_InvalidLags, .inl ⟨hx, fun dx h1 h2 => q dx h1 h2⟩⟩
theorem x_Name (T : Txt K mg a d) : ExT P w K mg base a.CInvalidName a.xName d.xName "value" := ⟨T.ox_InvalidName, T.iC_InvalidName, T.tI_InvalidName, ok_xName T, T.b_xName⟩
theorem x_Lags (T : Txt K mg a d) : ExT P w K mg base a.CInvalidLags a.xLags d.xLags "value" := ⟨T.ox_InvalidLags, T.iC_InvalidLags, T.tI_InvalidLags, ok_xLags T, T.b_xLags⟩
/-- a name -/
def lowC (c : Nat) : Bool := decide (97 ≤ c) && decide (c ≤ 122)
def digC (c : Nat) : Bool := decide (48 ≤ c) && decide (c ≤ 57)
def nmB (z : Str) : Bool := match z.cps.toList with
  | [] => false
  | c :: cs => decide (cs.length + 1 ≤ 8) && (lowC c && (c :: cs).all fun x => lowC x || digC x)
def NoStr (K : PySem.W.Frag) (H : Hp) (v : V) : Prop := ∃ t, TyX K H v t ∧ PySem.W.kitOne K t (.type "str") = some false
def spName (K : PySem.W.Frag) : Sp := fun vs H Q _ => ∃ v : V, vs = [v] ∧ ((∃ z : Str, v = .str z ∧ z.length ≤ 10000 ∧ Q (.bl (nmB z)) H) ∨ (NoStr K H v ∧ Q (.bl false) H))
theorem mem_low (c : Nat) : c ∈ ("abcdefghijklmnopqrstuvwxyz" : Str).cps.toList ↔ lowC c = true := by
  have e : ("abcdefghijklmnopqrstuvwxyz" : Str).cps.toList = [97, 98, 99, 100, 101, 102, 103, 104, 105, 106, 107, 108, 109, 110, 111, 112, 113, 114, 115, 116, 117, 118, 119, 120, 121, 122] := by decide +kernel
  rw [e]
  simp only [List.mem_cons, List.not_mem_nil, or_false, lowC, Bool.and_eq_true, decide_eq_true_eq]
  omega
theorem mem_sign (c : Nat) : c ∈ (("abcdefghijklmnopqrstuvwxyz" : Str) ++ ("0123456789" : Str)).cps.toList ↔ (lowC c || digC c) = true := by
  have e : (("abcdefghijklmnopqrstuvwxyz" : Str) ++ ("0123456789" : Str)).cps.toList = [97, 98, 99, 100, 101, 102, 103, 104, 105, 106, 107, 108, 109, 110, 111, 112, 113, 114, 115, 116, 117, 118, 119, 120, 121, 122, 48, 49, 50, 51, 52, 53, 54, 55, 56, 57] := by decide +kernel
  rw [e]
  simp only [List.mem_cons, List.not_mem_nil, or_false, lowC, digC, Bool.and_eq_true, Bool.or_eq_true, decide_eq_true_eq]
  omega
theorem nm_nil {z : Str} (h : ¬ (0 : Int) < z.length) : nmB z = false := by
  unfold nmB
  have e : z.cps.toList = [] := List.eq_nil_of_length_eq_zero (by rw [len_list]; omega)
  rw [e]
theorem nm_long {z : Str} (h : ¬ (z.length : Int) ≤ 8) : nmB z = false := by
  unfold nmB
  have l := len_list z
  cases e : z.cps.toList with
  | nil => rfl
  | cons c cs =>
    rw [e] at l
    simp only [List.length_cons] at l
    have : decide (cs.length + 1 ≤ 8) = false := decide_eq_false (by omega)
    show (decide (cs.length + 1 ≤ 8) && _) = false
    rw [this, Bool.false_and]
theorem nm_cons {z : Str} {c : Nat} {cs : List Nat} (e : z.cps.toList = c :: cs) (h : (z.length : Int) ≤ 8) : nmB z = (lowC c && (c :: cs).all fun x => lowC x || digC x) := by
  unfold nmB
  have l := len_list z
  rw [e] at l ⊢
  simp only [List.length_cons] at l
  have : decide (cs.length + 1 ≤ 8) = true := decide_eq_true (by omega)
  show (decide (cs.length + 1 ≤ 8) && _) = _
  rw [this, Bool.true_and]
theorem ok_isName (T : Txt K mg a d) : FnOk P w K mg base CX0 1 a.isName d.isName ["value"] (spName K) := by
  refine okN T.F_isName scIsName (fun vs H Q E h => ?_) (fun cdv A outer s H vs Q E hr h => ?_)
  · obtain ⟨v, rfl, _⟩ := h
    rfl
  · obtain ⟨v, rfl, h⟩ := h
    refine ⟨_, (pss_cons (ps_if (PW.pt (pw_or (pt_not (pt_val (pe_callB call_isi (by rfl) T.isinstance_ Tp.bt_isinstance (pa_cons (pv 0) (pa_cons (pe_bltn (v := .ty "str") (by rfl) T.str_ Tp.bt_str rfl) pa_nil))))) (pw_or1 (pt_not (pt_chain op_lt op_le pe_int (pe_callB call_len_str (by rfl) T.len_ Tp.bt_len (pa_cons (pv 0) pa_nil)) (Tp.pe_glI (by rfl) T.mg_LONGEST_NAME)))))) (pss_one (ps_ret pe_bl)) pss_nil)
      (pss_one (ps_ret (pe_and (pe_cmpR op_in_sign (pe_ix ix_str (pv 0) pe_int (fun _ _ => rfl)) (Tp.pe_glS (by rfl) T.mg_LETTERS) (by rfl)) (pe_one (pe_cmpR op_eq (pe_bm PySem.F.plainAttrs_str PySem.F.slot_str_strip PySem.F.type_str_strip mt_stripChars (pv 0) (pa_cons (pe_op op_add_str (Tp.pe_glS (by rfl) T.mg_LETTERS) (Tp.pe_glS (by rfl) T.mg_DIGITS)) pa_nil)) pe_str (nomark _))))))), ?_⟩
    rcases h with ⟨z, rfl, hz, q⟩ | ⟨⟨t, ty, kt⟩, q⟩
    · have hz' : z.length ≤ sizeLine := Nat.le_trans hz (by decide)
      refine ⟨_, rfl, _, _, _, _, true, rfl, .ty _, .base (.str z), kit_ty (by decide +kernel), _, rfl, iteF ?_⟩
      refine ⟨_, rfl, z, rfl, hz', _, _, rfl, rfl, _, rfl, if2 (fun l0 => ?_) (fun l0 => ?_)⟩
      rotate_left
      · rw [nm_nil l0] at q
        exact ⟨_, rfl, iteT q⟩
      refine ⟨_, _, rfl, rfl, _, rfl, ifn2 (fun l1 => ?_) (fun l1 => ?_)⟩
      rotate_left
      · rw [nm_long l1] at q
        exact q
      obtain ⟨c, cs, e⟩ : ∃ c cs, z.cps.toList = c :: cs := by
        cases e : z.cps.toList with
        | nil => have l := len_list z; rw [e] at l; simp at l; omega
        | cons c cs => exact ⟨c, cs, rfl⟩
      rw [nm_cons e l1] at q
      have at0 : atI z.cps.toList 0 = some c := by rw [e]; exact atI_nat (j := 0) rfl
      refine ⟨_, rfl, z, _, c, rfl, rfl, hz', at0, c, _, rfl, rfl, ?_⟩
      rw [show decide (c ∈ (Str.ofString "abcdefghijklmnopqrstuvwxyz").cps.toList) = lowC c from by
        by_cases h : c ∈ ("abcdefghijklmnopqrstuvwxyz" : Str).cps.toList
        · exact (decide_eq_true h).trans ((mem_low c).mp h).symm
        · exact (decide_eq_false h).trans (Bool.eq_false_iff.mpr fun k => h ((mem_low c).mpr k)).symm]
      refine ⟨_, rfl, ?_⟩
      cases hl : lowC c with
      | false =>
        rw [hl, Bool.false_and] at q
        exact iteF q
      | true =>
        rw [hl, Bool.true_and] at q
        refine iteT ⟨_, rfl, rfl, _, _, rfl, rfl, (by decide), z, _, rfl, rfl, hz', rfl, ?_⟩
        have e2 : decide (V.str (Txt.stripChars z (Str.ofString "abcdefghijklmnopqrstuvwxyz" ++ Str.ofString "0123456789")) = V.str (Str.ofString "")) = (c :: cs).all fun x => lowC x || digC x := by
          cases hb : (c :: cs).all fun x => lowC x || digC x with
          | true => exact decide_eq_true (congrArg V.str ((strip_empty _ _).mpr fun x hx => (mem_sign x).mpr (List.all_eq_true.mp hb x (by rw [← e]; exact hx))))
          | false =>
            refine decide_eq_false fun k => Bool.eq_false_iff.mp hb (List.all_eq_true.mpr fun x hx => ?_)
            exact (mem_sign x).mp ((strip_empty _ _).mp (V.str.inj k) x (by rw [e]; exact hx))
        show Q (V.bl (decide _)) H
        rw [e2]
        exact q
    · exact ⟨_, rfl, _, _, _, _, false, rfl, .ty _, ty, kt, _, rfl, iteT q⟩
/-! ### rows and Lags -/
/-- a Lags with these rows -/
def LagAt (a : Ad) (H : Hp) (x : Addr) (r : Row) : Prop := ∃ dx od, H x = some (.ins a.CLags dx [("own_lags", .ref od)]) ∧ H od = some (.dK (kvR r))
theorem LagAt.same {H H' : Hp} {x : Addr} {r : Row} (h : LagAt a H x r) (S : Same H H') : LagAt a H' x r := let ⟨dx, od, h1, h2⟩ := h; ⟨dx, od, S _ _ h1, S _ _ h2⟩
/-- .. whether the dict is locked or not -/
def LagR (a : Ad) (H : Hp) (x : Addr) (r : Row) : Prop := ∃ dx od, H x = some (.ins a.CLags dx [("own_lags", .ref od)]) ∧ Rd H od (.dK (kvR r))
theorem LagAt.rd {H : Hp} {x : Addr} {r : Row} (h : LagAt a H x r) : LagR a H x r := let ⟨dx, od, h1, h2⟩ := h; ⟨dx, od, h1, .inl h2⟩
def spRows (a : Ad) : Sp := fun vs H Q _ => ∃ x r, vs = [.ref x] ∧ LagAt a H x r ∧ ∀ p, H p = none → Q (.ref p) (upd H p (.dK (kvR r)))
def spLag (a : Ad) : Sp := fun vs H Q _ => ∃ x r n, vs = [.ref x, .str n] ∧ LagR a H x r ∧ Q (.int (fnR r n)) H
theorem own_look {od : Addr} : List.lookup "own_lags" [("own_lags", V.ref od)] = some (V.ref od) := by simp [List.lookup]
theorem ok_rows (T : Txt K mg a d) : FnOk P w K mg base CX0 1 a.rows d.rows ["self"] (spRows a) := by
  refine okN T.F_rows scRows (fun vs H Q E h => ?_) (fun cdv A outer s H vs Q E hr h => ?_)
  · obtain ⟨x, r, rfl, _⟩ := h
    rfl
  · obtain ⟨x, r, rfl, ⟨dx, od, h1, h2⟩, q⟩ := h
    refine ⟨_, (pss_one (ps_ret (pe_callTy call_dictD (by rfl) T.dict_ Tp.bt_dict (pa_cons (pe_fld (pv 0) (by rfl)) pa_nil)))), ?_⟩
    exact ⟨_, rfl, x, _, _, _, _, rfl, h1, T.cl_Lags, T.nOwn, own_look, od, _, rfl, .inl h2, q⟩
theorem get_row {r : Row} {n : Str} : ((atR r n).map V.int).getD (.int 0) = .int (fnR r n) := by
  unfold fnR
  cases atR r n <;> rfl
theorem ok_lag (T : Txt K mg a d) : FnOk P w K mg base CX0 1 a.lag d.lag ["self", "name"] (spLag a) := by
  refine okN T.F_lag scLag (fun vs H Q E h => ?_) (fun cdv A outer s H vs Q E hr h => ?_)
  · obtain ⟨x, r, n, rfl, _⟩ := h
    rfl
  · obtain ⟨x, r, n, rfl, ⟨dx, od, h1, h2⟩, q⟩ := h
    refine ⟨_, (pss_one (ps_ret (pe_dget2 (Tp.hu1 hr) (pe_fld (pv 0) (by rfl)) (pv 1) pe_int ⟨rfl, rfl, rfl, rfl⟩))), ?_⟩
    refine ⟨_, rfl, x, _, _, _, _, rfl, h1, T.cl_Lags, T.nOwn, own_look, od, rfl, .inl ⟨_, h2⟩, _, rfl, (atR r n).map V.int, .inl ⟨_, Sum.inr n, h2, rfl, (val_kvR n r).symm⟩, ?_⟩
    show Q _ H
    rw [get_row]
    exact q
/-- what == says of a Lags and another thing -/
def spEq (K : PySem.W.Frag) (a : Ad) : Sp := fun vs H Q _ => ∃ x r v, vs = [.ref x, v] ∧ LagAt a H x r ∧ ((∃ y s, v = .ref y ∧ LagAt a H y s ∧ Q (.bl (eqR r s)) H) ∨ (∃ y kvs, v = .ref y ∧ H y = some (.dK kvs) ∧ Q (.bl false) H))
theorem ty_lag (T : Txt K mg a d) {H : Hp} {x dx : Addr} {fs : List (Str × V)} (h : H x = some (.ins a.CLags dx fs)) : TyX K H (.ref x) (.ref a.CLags) := .base (.ins h T.cl_Lags T.ca_Lags T.cn_ T.ct_ T.cm_Lags)
theorem kit_dict_own {C : Addr} (hd : PySem.W.hasDictIn K C = true) (ht : PySem.W.typeIn K (.ref C) = some (.type "type")) : PySem.W.kitOne K (.type "dict") (.ref C) = some false := by
  refine kit_ref (by rfl) hd ht ?_
  have e : fastBuiltinMro "dict" = some [.type "dict", .type "object"] := by decide +kernel
  show (fastBuiltinMro "dict").map (·.contains (.ref C)) = some false
  rw [e]
  first
    | rfl
    | simp
theorem ok_eq (T : Txt K mg a d) : FnOk P w K mg base CX0 1 a.eq d.eq ["self", "other"] (spEq K a) := by
  refine okN T.F_eq scEq (fun vs H Q E h => ?_) (fun cdv A outer s H vs Q E hr h => ?_)
  · obtain ⟨x, r, v, rfl, _⟩ := h
    rfl
  · obtain ⟨x, r, v, rfl, ⟨dx, od, h1, h2⟩, h⟩ := h
    refine ⟨_, (pss_one (ps_ret (pe_and (pe_callB call_isi (by rfl) T.isinstance_ Tp.bt_isinstance (pa_cons (pv 1) (pa_cons (pe_glob (v := .ref a.CLags) (by rfl) T.mg_Lags rfl) pa_nil))) (pe_one (pe_cmpR (Tp.op_eqDI (Tp.hu0 hr)) (pe_fld (pv 0) (by rfl)) (pe_fld (pv 1) (by rfl)) (nomark _)))))), ?_⟩
    rcases h with ⟨y, t, rfl, ⟨dy, oy, g1, g2⟩, q⟩ | ⟨y, kvs, rfl, g1, q⟩
    · exact ⟨_, rfl, _, _, _, _, true, rfl, .own _, ty_lag T g1, kit_self, _, rfl, iteT ⟨_, rfl, x, _, _, _, _, rfl, h1, T.cl_Lags, T.nOwn, own_look, _, rfl, y, _, _, _, _, rfl, g1, T.cl_Lags, T.nOwn, own_look, od, oy, r, t, rfl, rfl, h2, g2, q⟩⟩
    · exact ⟨_, rfl, _, _, _, _, false, rfl, .own _, .base (.dK g1), kit_dict_own T.hd_Lags T.ty_Lags, _, rfl, iteF q⟩
end
end L31

set_option Elab.async false
set_option linter.all false
set_option maxRecDepth 100000
set_option maxHeartbeats 4000000
namespace L31
open PySem L2 Tp
section
variable {P : Program} {w : World} {K : PySem.W.Frag} {mg : Str → Option Value} {base : Heap} {a : Ad} {d : Fd}
/-! ### Lags(rows) -/
/-- an entry that makes the rows refused -/
inductive BadE : Key × V → Prop
  | int (j : Int) (v : V) : BadE (.inl j, v)
  | nm {n : Str} (v : V) : nmB n = false → n.length ≤ 100 → BadE (.inr n, v)
  | bool {n : Str} (b : Bool) : nmB n = true → BadE (.inr n, .bl b)
  | str {n : Str} (z : Str) : nmB n = true → BadE (.inr n, .str z)
  | non {n : Str} : nmB n = true → BadE (.inr n, .non)
def FineE (p : Key × V) : Prop := ∃ n i, p = (.inr n, .int i) ∧ nmB n = true
theorem nm_len {n : Str} (h : nmB n = true) : n.length ≤ 8 := by
  refine Classical.byContradiction fun k => ?_
  rw [nm_long (by omega)] at h
  cases h
/-- good rows -/
def GoodR (r : Row) : Prop := NdR r ∧ ∀ p ∈ r, nmB p.1 = true
theorem good_fine {r : Row} (h : ∀ p ∈ r, nmB p.1 = true) : ∀ p ∈ kvR r, FineE p := fun p hp => by
  obtain ⟨q, hq, rfl⟩ := List.mem_map.mp hp
  exact ⟨q.1, q.2, rfl, h q hq⟩
theorem val_at {kvs : List (Key × V)} (nd : (kvs.map (·.1)).Nodup) {i : Nat} {k : Key} {v : V} (h : kvs[i]? = some (k, v)) : valV kvs k = some v := by
  induction kvs generalizing i with
  | nil => cases h
  | cons p r ih =>
    have nd' := List.nodup_cons.mp (show (p.1 :: r.map (·.1)).Nodup from nd)
    cases i with
    | zero => cases h; exact valV_pos rfl
    | succ i =>
      rw [valV_neg]
      · exact ih nd'.2 h
      · intro e
        exact nd'.1 (by rw [e]; exact List.mem_map.mpr ⟨(k, v), List.mem_of_getElem? h, rfl⟩)
def spInit (K : PySem.W.Frag) (a : Ad) : Sp := fun vs H Q E => ∃ (x dx : Addr) (v : V), vs = [.ref x, v] ∧ H x = some (.ins a.CLags dx []) ∧
  ((∃ p r, v = .ref p ∧ H p = some (.dK (kvR r)) ∧ GoodR r ∧ r.length < 64 ∧ ∀ H' r', (∀ b u, H b = some u → b ≠ x → H' b = some u) → LagAt a H' x r' → NdR r' → FullR r' → (∀ y, fnR r' y = fnR r y) → (∀ q ∈ r', q ∈ r) → (∀ dx' od, H' x = some (.ins a.CLags dx' [("own_lags", .ref od)]) → H od = none) → Q .non H') ∨
   ((∃ t, TyX K H v t ∧ PySem.W.kitOne K t (.type "dict") = some false) ∧ ∀ dd, H dd = none → E (.ref a.CInvalidLags) (some dd) (upd H dd (.xd [("value", v)]))) ∨
   (∃ (p : Addr) (kvs : List (Key × V)) (i : Nat) (q : Key × V), v = .ref p ∧ H p = some (.dK kvs) ∧ (kvs.map (·.1)).Nodup ∧ kvs[i]? = some q ∧ BadE q ∧ (∀ j e, j < i → kvs[j]? = some e → FineE e) ∧ ∀ dd, H dd = none → E (.ref a.CInvalidLags) (some dd) (upd H dd (.xd [("value", v)]))))
theorem lock_back {H : Hp} {p : Addr} {u f : HO} (hp : H p = some u) : upd (upd H p f) p u = H := by
  rw [upd_upd]
  funext b
  by_cases e : b = p
  · rw [e, upd_same, hp]
  · rw [upd_ne e]
theorem lock_new {H : Hp} {p q : Addr} {u f o : HO} (hp : H p = some u) (ne : q ≠ p) : upd (upd (upd H p f) q o) p u = upd H q o := by
  funext b
  by_cases e : b = p
  · rw [e, upd_same, upd_ne (Ne.symm ne), hp]
  · rw [upd_ne e]
    by_cases e2 : b = q
    · rw [e2, upd_same, upd_same]
    · rw [upd_ne e2, upd_ne e2, upd_ne e]
theorem ok_init (T : Txt K mg a d) : FnOk P w K mg base (L2.CX P w) 4 a.init d.init ["self", "rows"] (spInit K a) := by
  have G_isName := ok_isName (P := P) (w := w) (base := base) T
  have X_InvalidLags := x_Lags (P := P) (w := w) (base := base) T
  refine okX T.F_init scInit (fun vs H Q E h => ?_) (fun cdv A outer s H vs Q E hr h tk po => ?_)
  · obtain ⟨x, dx, v, rfl, _⟩ := h
    rfl
  · obtain ⟨x, dx, v, rfl, hx, h⟩ := h
    refine ⟨_, (pss_cons (ps_if (pt_not (pt_val (pe_callB call_isi (by rfl) T.isinstance_ Tp.bt_isinstance (pa_cons (pv 1) (pa_cons (pe_bltn (v := .ty "dict") (by rfl) T.dict_ Tp.bt_dict rfl) pa_nil))))) (pss_one (Tp.ps_raiseX (k := 0) rfl X_InvalidLags (hr.mono (by decide)) tk (by rfl) T.mg_InvalidLags (pv 1))) pss_nil)
      (pss_cons (ps_lock (ps_for po rfl (pi_keys (pv 1)) (pg_name (i := 2) scInit.nd rfl (Or.inl rfl)) (pss_one (ps_if (PW.pt (pw_or (pt_not (pt_val (pe_call G_isName (hr.mono (by decide)) (by rfl) T.mg_isName T.F_isName.kp T.b_isName .nil pass0 (pa_cons (pv 2) pa_nil)))) (pw_or (pt_not (pt_val (pe_callB call_isi (by rfl) T.isinstance_ Tp.bt_isinstance (pa_cons (pe_dget (Tp.hu1 hr) (pv 1) (pv 2) (fun _ _ => rfl)) (pa_cons (pe_bltn (v := .ty "int") (by rfl) T.int_ Tp.bt_int rfl) pa_nil))))) (pw_or1 (pt_val (pe_callB call_isi (by rfl) T.isinstance_ Tp.bt_isinstance (pa_cons (pe_dget (Tp.hu1 hr) (pv 1) (pv 2) (fun _ _ => rfl)) (pa_cons (pe_bltn (v := .ty "bool") (by rfl) T.bool_ Tp.bt_bool rfl) pa_nil)))))))) (pss_one (Tp.ps_raiseX (k := 0) rfl X_InvalidLags (hr.mono (by decide)) (Tp.takes_unlock tk) (by rfl) T.mg_InvalidLags (pv 1))) pss_nil))))
      (pss_one (ps_fld (pv 0) ((pe_dc (own := [("name", 2)]) (by rfl) scInit.nd (pi_list (pe_callB (call_sortedD rfl) (by rfl) T.sorted_ Tp.bt_sorted (pa_cons (pv 1) pa_nil))) (blkOk_by (own := [("name", 2)]) (N := scInit_N) (sc := defScope scInit_st) (by decide +kernel)) (fun _ _ _ _ _ => (pg_name (i := 2) scInit.nd rfl (Or.inl rfl))) (fun _ _ _ _ _ => (pts_one (pt_cmpR op_ne (pe_dget (Tp.hu1 hr) (pv 1) (pv 2) (fun _ _ => rfl)) pe_int (nomark _)))) (fun _ _ _ _ _ => (pv 2)) (fun _ _ _ _ _ => (pe_dget (Tp.hu1 hr) (pv 1) (pv 2) (fun _ _ => rfl))))) rfl)))), ?_⟩
    rcases h with ⟨p, r, rfl, hp, gd, h64, q⟩ | ⟨⟨t, ty, kt⟩, q⟩ | ⟨p, kvs, m, e, rfl, hp, nd, hm, be, fine, q⟩
    rotate_left
    · refine ⟨_, rfl, _, _, _, _, false, rfl, .ty _, ty, kt, _, rfl, iteT ?_⟩
      exact ⟨_, rfl, fun dd hd => q dd hd⟩
    · refine ⟨_, rfl, _, _, _, _, true, rfl, .ty _, .base (.dK hp), kit_ty (by decide +kernel), _, rfl, iteF ?_⟩
      refine ⟨p, .dK kvs, hp, trivial, fun od => ⟨_, rfl, p, od, rfl, .inl ⟨kvs, upd_same, for_it walk_keys (fun i σ H' => H' = upd H p (.frz od (.dK kvs)) ∧ i ≤ m ∧ ∃ v, σ = [some (.ref x), some (.ref p), v]) ⟨rfl, Nat.zero_le _, _, rfl⟩ ?_ ?_ ?_⟩⟩⟩
      · rintro i σ H' _ ⟨rfl, _⟩
        exact upd_same
      · rintro i y σ H' _ hi ⟨rfl, him, v, rfl⟩ ⟨rfl, k, u, hk, rfl⟩
        have dget : DGet (upd H p (.frz od (.dK kvs))) p (kV k) (some u) := .inl ⟨kvs, k, .inr ⟨od, upd_same⟩, rfl, (val_at nd hk).symm⟩
        have raised : ∀ dd, (upd H p (.frz od (.dK kvs)) : Hp) dd = none → (∃ (d' : Addr) (od' : Obj) (u' : HO), (upd (upd H p (.frz od (.dK kvs))) dd (.xd [("value", V.ref p)]) : Hp) d' = some (.frz od' u') ∧ (∀ o'' u'', H d' ≠ some (.frz o'' u'')) ∧ E (.ref a.CInvalidLags) (some dd) (upd (upd (upd H p (.frz od (.dK kvs))) dd (.xd [("value", V.ref p)])) d' u')) := by
          intro dd hd
          have ne : dd ≠ p := fun z => by rw [z, upd_same] at hd; cases hd
          refine ⟨p, od, .dK kvs, by rw [upd_ne (Ne.symm ne)]; exact upd_same, fun o' u' z => (by rw [hp] at z; cases z), ?_⟩
          rw [lock_new hp ne]
          exact q dd (by rw [upd_ne ne] at hd; exact hd)
        by_cases eq : i = m
        · subst eq
          rw [hm] at hk
          cases hk
          cases be with
          | int j v => exact ⟨_, rfl, _, rfl, .inr ⟨⟨_, .base (.int j), kit_ty (by decide +kernel)⟩, _, rfl, iteT ⟨_, rfl, raised⟩⟩⟩
          | nm v hn hl =>
            refine ⟨_, rfl, _, rfl, .inl ⟨_, rfl, by omega, _, rfl, ?_⟩⟩
            rw [hn]
            exact iteT ⟨_, rfl, raised⟩
          | bool b hn =>
            refine ⟨_, rfl, _, rfl, .inl ⟨_, rfl, Nat.le_trans (nm_len hn) (by decide), _, rfl, ?_⟩⟩
            rw [hn]
            refine iteF ⟨_, rfl, _, rfl, p, _, rfl, dget, _, _, _, _, true, rfl, .ty _, .base (.bl b), kit_ty (by decide +kernel), _, rfl, iteF ?_⟩
            exact ⟨_, rfl, _, rfl, p, _, rfl, dget, _, _, _, _, true, rfl, .ty _, .base (.bl b), kit_ty (by decide +kernel), _, rfl, iteT ⟨_, rfl, raised⟩⟩
          | str z hn =>
            refine ⟨_, rfl, _, rfl, .inl ⟨_, rfl, Nat.le_trans (nm_len hn) (by decide), _, rfl, ?_⟩⟩
            rw [hn]
            exact iteF ⟨_, rfl, _, rfl, p, _, rfl, dget, _, _, _, _, false, rfl, .ty _, .base (.str z), kit_ty (by decide +kernel), _, rfl, iteT ⟨_, rfl, raised⟩⟩
          | non hn =>
            refine ⟨_, rfl, _, rfl, .inl ⟨_, rfl, Nat.le_trans (nm_len hn) (by decide), _, rfl, ?_⟩⟩
            rw [hn]
            exact iteF ⟨_, rfl, _, rfl, p, _, rfl, dget, _, _, _, _, false, rfl, .ty _, .base .non, kit_ty (by decide +kernel), _, rfl, iteT ⟨_, rfl, raised⟩⟩
        · obtain ⟨n, iv, e', hn⟩ := fine i _ (by omega) hk
          cases e'
          refine ⟨_, rfl, _, rfl, .inl ⟨_, rfl, Nat.le_trans (nm_len hn) (by decide), _, rfl, ?_⟩⟩
          rw [hn]
          refine iteF ⟨_, rfl, _, rfl, p, _, rfl, dget, _, _, _, _, true, rfl, .ty _, .base (.int iv), kit_ty (by decide +kernel), _, rfl, iteF ?_⟩
          exact ⟨_, rfl, _, rfl, p, _, rfl, dget, _, _, _, _, false, rfl, .ty _, .base (.int iv), kit_ty (by decide +kernel), _, rfl, iteF ⟨rfl, by omega, _, rfl⟩⟩
      · rintro σ H' ⟨rfl, hl, _⟩
        exact absurd (List.getElem?_eq_some_iff.mp hm).1 (by omega)
    · refine ⟨_, rfl, _, _, _, _, true, rfl, .ty _, .base (.dK hp), kit_ty (by decide +kernel), _, rfl, iteF ?_⟩
      have fine := good_fine gd.2
      have nd := kv_nd gd.1
      refine ⟨p, .dK (kvR r), hp, trivial, fun od => ⟨_, rfl, p, od, rfl, .inl ⟨kvR r, upd_same, for_it walk_keys (fun i σ H' => H' = upd H p (.frz od (.dK (kvR r))) ∧ ∃ v, σ = [some (.ref x), some (.ref p), v]) ⟨rfl, _, rfl⟩ ?_ ?_ ?_⟩⟩⟩
      · rintro i σ H' _ ⟨rfl, _⟩
        exact upd_same
      · rintro i y σ H' _ hi ⟨rfl, v, rfl⟩ ⟨rfl, k, u, hk, rfl⟩
        have dget : DGet (upd H p (.frz od (.dK (kvR r)))) p (kV k) (some u) := .inl ⟨_, k, .inr ⟨od, upd_same⟩, rfl, (val_at nd hk).symm⟩
        obtain ⟨n, iv, e', hn⟩ := fine _ (List.mem_of_getElem? hk)
        cases e'
        refine ⟨_, rfl, _, rfl, .inl ⟨_, rfl, Nat.le_trans (nm_len hn) (by decide), _, rfl, ?_⟩⟩
        rw [hn]
        refine iteF ⟨_, rfl, _, rfl, p, _, rfl, dget, _, _, _, _, true, rfl, .ty _, .base (.int iv), kit_ty (by decide +kernel), _, rfl, iteF ?_⟩
        exact ⟨_, rfl, _, rfl, p, _, rfl, dget, _, _, _, _, false, rfl, .ty _, .base (.int iv), kit_ty (by decide +kernel), _, rfl, iteF ⟨rfl, _, rfl⟩⟩
      · rintro σ H' ⟨rfl, v, rfl⟩
        refine ⟨upd_same, ?_⟩
        rw [lock_back hp]
        refine ⟨_, rfl, p, kvR r, r.map (·.1), rfl, .inl hp, kv_names r, by rw [List.length_map]; exact h64, fun ys lp perm _ hlp => ?_⟩
        have S1 : Same H (upd H lp (.lst (ys.map V.str))) := same_new hlp
        have h1 : (upd H lp (.lst (ys.map V.str))) lp = some (.lst (ys.map V.str)) := upd_same
        generalize upd H lp (.lst (ys.map V.str)) = H1 at S1 h1
        have ysN : ys.Nodup := perm.nodup_iff.mpr gd.1
        refine ⟨lp, rfl, ⟨_, SqL.of h1⟩, fun D hD => dc_it (walk_list (xs := ys.map V.str)) (fun i H' => Same H1 H' ∧ H' D = some (.dK (kvR (pickR r (ys.take i))))) ⟨same_new hD, upd_same⟩ ?_ ?_ ?_⟩
        · rintro i H' _ ⟨S, _⟩
          exact SqL.of (S _ _ h1)
        · rintro i y _ H' hi ⟨S, hD'⟩ ⟨rfl, hy⟩
          rw [List.getElem?_map] at hy
          obtain ⟨n, hn, rfl⟩ := Option.map_eq_some_iff.mp hy
          have mem : n ∈ r.map (·.1) := perm.mem_iff.mp (List.mem_of_getElem? hn)
          have dget : DGet H' p (.str n) (some (.int (fnR r n))) := .inl ⟨_, Sum.inr n, .inl (S _ _ (S1 _ _ hp)), rfl, by rw [val_kvR, at_of_mem mem]; rfl⟩
          have hlen : (kvR (pickR r (ys.take i))).length < sizeLine := by
            rw [kvR_length]
            unfold pickR
            rw [List.length_map]
            have l1 := List.length_filter_le (fun n => decide (fnR r n ≠ 0)) (ys.take i)
            rw [List.length_take] at l1
            have l2 := perm.length_eq
            rw [List.length_map] at l2
            exact Nat.lt_of_le_of_lt (show _ ≤ 64 by omega) (by decide)
          have ne : D ≠ p := fun z => by rw [z, S1 _ _ hp] at hD; cases hD
          refine ⟨rfl, _, rfl, _, rfl, p, _, rfl, dget, rfl, _, rfl, ifn2 (fun z => ?_) (fun z => ?_)⟩
          · have z : fnR r n = 0 := V.int.inj z
            refine ⟨S, ?_⟩
            rw [pick_take hn, if_neg (fun k => k z)]
            exact hD'
          · have z : fnR r n ≠ 0 := fun k => z (by rw [k])
            refine ⟨_, rfl, _, rfl, _, rfl, p, _, rfl, dget, _, Sum.inr n, rfl, hD', hlen, Tp.Same.mut S hD, ?_⟩
            rw [upd_same, pick_put ysN hn z]
        · rintro H' ⟨S, hD'⟩
          rw [List.length_map, List.take_length] at hD'
          have hx1 := S1 _ _ hx
          have ne : D ≠ x := fun z => by rw [z, hx1] at hD; cases hD
          refine ⟨_, rfl, x, _, _, _, rfl, S _ _ hx1, T.cl_Lags, T.nOwn, (by decide), q _ (pickR r ys) (fun b u hb nb => ?_) ⟨dx, D, upd_same, ?_⟩ (pick_nd ysN) (pick_full r ys) (pick_fn ysN fun e he => perm.mem_iff.mpr (List.mem_map_of_mem he)) pick_mem fun dx' od e => ?_⟩
          · rw [upd_ne nb]
            exact S _ _ (S1 _ _ hb)
          · rw [upd_ne ne]
            exact hD'
          · rw [upd_same] at e
            cases e
            cases e2 : H D with
            | none => rfl
            | some u => rw [S1 _ _ e2] at hD; cases hD
def spGet (K : PySem.W.Frag) (a : Ad) : Sp := fun vs H Q E => ∃ (x : Addr) (r : Row) (v : V), vs = [.ref x, v] ∧ LagAt a H x r ∧
  ((∃ n, v = .str n ∧ nmB n = true ∧ Q (.int (fnR r n)) H) ∨ ((NoStr K H v ∨ ∃ n : Str, v = .str n ∧ n.length ≤ 10000 ∧ nmB n = false) ∧ ∀ dd, H dd = none → E (.ref a.CInvalidName) (some dd) (upd H dd (.xd [("value", v)]))))
theorem ok_get (T : Txt K mg a d) : FnOk P w K mg base (L2.CX P w) 4 a.get d.get ["self", "name"] (spGet K a) := by
  have G_isName := ok_isName (P := P) (w := w) (base := base) T
  have X_InvalidName := x_Name (P := P) (w := w) (base := base) T
  refine okX T.F_get scGet (fun vs H Q E h => ?_) (fun cdv A outer s H vs Q E hr h tk po => ?_)
  · obtain ⟨x, r, v, rfl, _⟩ := h
    rfl
  · obtain ⟨x, r, v, rfl, ⟨dx, od, h1, h2⟩, h⟩ := h
    refine ⟨_, (pss_cons (ps_if (pt_not (pt_val (pe_call G_isName (hr.mono (by decide)) (by rfl) T.mg_isName T.F_isName.kp T.b_isName .nil pass0 (pa_cons (pv 1) pa_nil)))) (pss_one (Tp.ps_raiseX (k := 0) rfl X_InvalidName (hr.mono (by decide)) tk (by rfl) T.mg_InvalidName (pv 1))) pss_nil)
      (pss_one (ps_ret (pe_dget2 (Tp.hu1 hr) (pe_fld (pv 0) (by rfl)) (pv 1) pe_int ⟨rfl, rfl, rfl, rfl⟩)))), ?_⟩
    rcases h with ⟨n, rfl, hn, q⟩ | ⟨hv, q⟩
    · refine ⟨_, rfl, _, rfl, .inl ⟨n, rfl, Nat.le_trans (nm_len hn) (by decide), _, rfl, ?_⟩⟩
      rw [hn]
      refine iteF ⟨_, rfl, x, _, _, _, _, rfl, h1, T.cl_Lags, T.nOwn, own_look, od, rfl, .inl ⟨_, .inl h2⟩, _, rfl, (atR r n).map V.int, .inl ⟨_, Sum.inr n, .inl h2, rfl, (val_kvR n r).symm⟩, ?_⟩
      show Q _ H
      rw [get_row]
      exact q
    · rcases hv with hv | ⟨n, rfl, hl, hn⟩
      · exact ⟨_, rfl, _, rfl, .inr ⟨hv, _, rfl, iteT ⟨_, rfl, q⟩⟩⟩
      · refine ⟨_, rfl, _, rfl, .inl ⟨n, rfl, hl, _, rfl, ?_⟩⟩
        rw [hn]
        exact iteT ⟨_, rfl, q⟩
/-- the names of one, then those of the other that are new -/
def bothN (r s : Row) : List Str := r.map (·.1) ++ (s.map (·.1)).filter fun n => (atR r n).isNone
def spBoth (a : Ad) : Sp := fun vs H Q _ => ∃ x y r s, vs = [.ref x, .ref y] ∧ LagAt a H x r ∧ LagAt a H y s ∧ r.length ≤ 1000 ∧ s.length ≤ 1000 ∧ ∀ H' p, Same H H' → H' p = some (.lst ((bothN r s).map V.str)) → Q (.ref p) H'
end
end L31

set_option Elab.async false
set_option linter.all false
set_option maxRecDepth 100000
set_option maxHeartbeats 4000000
namespace L31
open PySem L2 Tp
section
variable {P : Program} {w : World} {K : PySem.W.Frag} {mg : Str → Option Value} {base : Heap} {a : Ad} {d : Fd}
theorem no_look {od : Addr} {m : Str} (h : m ≠ "own_lags") : List.lookup m [("own_lags", V.ref od)] = none := by
  have : (m == ("own_lags" : Str)) = false := beq_eq_false_iff_ne.mpr h
  simp [List.lookup, this]
theorem kv_keys (r : Row) : ((kvR r).map fun kv => kV kv.1) = (r.map (·.1)).map V.str := by
  unfold kvR
  rw [List.map_map, List.map_map]
  rfl
theorem ok_both (T : Txt K mg a d) : FnOk P w K mg base CX0 2 a.both d.both ["self", "other"] (spBoth a) := by
  have G_rows := ok_rows (P := P) (w := w) (base := base) T
  refine okN T.F_both scBoth (fun vs H Q E h => ?_) (fun cdv A outer s H vs Q E hr h => ?_)
  · obtain ⟨x, y, r, t, rfl, _⟩ := h
    rfl
  · obtain ⟨x, y, r, t, rfl, ⟨dx, ox, h1, h2⟩, ly, lr, lt, q⟩ := h
    refine ⟨_, (pss_one (ps_ret (pe_op op_cat (pe_callTy (call_listD rfl) (by rfl) T.list_ Tp.bt_list (pa_cons (pe_fld (pv 0) (by rfl)) pa_nil)) (pe_lc (own := [("name", 2)]) (by rfl) scBoth.nd (Tp.pi_keysL (pe_meth0 (pv 1) T.cl_Lags T.me_rows G_rows (hr.mono (by decide)) T.b_rows .nil pass0)) (blkOk_by (own := [("name", 2)]) (N := scBoth_N) (sc := defScope scBoth_st) (by decide +kernel)) (fun _ _ _ _ _ => (pg_name (i := 2) scBoth.nd rfl (Or.inl rfl))) (fun _ _ _ _ _ => (pts_one (pt_cmpR (Tp.op_notInDk (Tp.hu1 hr)) (pv 2) (Tp.pe_fldK (K := K) rfl (pv 0) (by rfl)) (by rfl)))) (fun _ _ _ _ _ => (pv 2)))))), ?_⟩
    refine ⟨_, rfl, x, _, _, _, _, rfl, h1, T.cl_Lags, T.nOwn, own_look, ox, _, rfl, .inl h2, fun l hl => ?_⟩
    have S1 : Same H (upd H l (.lst ((kvR r).map fun kv => kV kv.1))) := same_new hl
    have g1 : (upd H l (.lst ((kvR r).map fun kv => kV kv.1))) l = some (.lst ((kvR r).map fun kv => kV kv.1)) := upd_same
    generalize upd H l (.lst ((kvR r).map fun kv => kV kv.1)) = H1 at S1 g1
    obtain ⟨dy, oy, k1, k2⟩ := ly.same S1
    refine ⟨_, rfl, y, _, _, rfl, k1, no_look (by decide), y, t, rfl, ⟨dy, oy, k1, k2⟩, fun p hp => ?_⟩
    refine ⟨p, kvR t, rfl, upd_same, fun o D hD => ?_⟩
    rw [upd_upd] at hD ⊢
    have S2 : Same H1 (upd H1 p (.frz o (.dK (kvR t)))) := same_new hp
    have g2 : (upd H1 p (.frz o (.dK (kvR t)))) p = some (.frz o (.dK (kvR t))) := upd_same
    generalize upd H1 p (.frz o (.dK (kvR t))) = H2 at S2 g2 hD ⊢
    refine lc_it walk_keys (fun i H' => Same H2 H' ∧ H' D = some (.lst ((((t.map (·.1)).take i).filter fun n => (atR r n).isNone).map V.str))) ⟨same_new hD, upd_same⟩ ?_ ?_ ?_
    · rintro i H' _ ⟨S, _⟩
      exact S _ _ g2
    · rintro i y _ H' hi ⟨S, hD'⟩ ⟨rfl, k, v, hk, rfl⟩
      obtain ⟨e, he, e2⟩ : ∃ e, t[i]? = some e ∧ (k, v) = (Sum.inr e.1, V.int e.2) := by
        unfold kvR at hk
        rw [List.getElem?_map] at hk
        obtain ⟨e, h1, h2⟩ := Option.map_eq_some_iff.mp hk
        exact ⟨e, h1, h2.symm⟩
      cases e2
      have hn : (t.map (·.1))[i]? = some e.1 := by rw [List.getElem?_map, he]; rfl
      have dget : DGet H' ox (.str e.1) ((atR r e.1).map V.int) := .inl ⟨_, Sum.inr e.1, .inl (S _ _ (S2 _ _ (S1 _ _ h2))), rfl, (val_kvR _ _).symm⟩
      have tk : ((t.map (·.1)).take (i + 1)).filter (fun n => (atR r n).isNone) = ((t.map (·.1)).take i).filter (fun n => (atR r n).isNone) ++ (if (atR r e.1).isNone then [e.1] else []) := by
        rw [List.take_add_one, hn, List.filter_append]
        congr 1
        cases h : atR r e.1 <;> simp [h]
      refine ⟨rfl, _, rfl, _, rfl, x, _, _, _, _, rfl, S _ _ (S2 _ _ (S1 _ _ h1)), T.cl_Lags, T.nOwn, own_look, ox, _, rfl, dget, _, rfl, ?_⟩
      have hlen : ((((t.map (·.1)).take i).filter fun n => (atR r n).isNone).map V.str).length < sizeLine := by
        rw [List.length_map]
        have l1 := List.length_filter_le (fun n => (atR r n).isNone) ((t.map (·.1)).take i)
        rw [List.length_take, List.length_map] at l1
        exact Nat.lt_of_le_of_lt (show _ ≤ 1000 by omega) (by decide)
      cases h : atR r e.1 with
      | none =>
        refine iteT ⟨_, rfl, _, hD', hlen, Tp.Same.mut S hD, ?_⟩
        rw [upd_same, tk, h, List.map_append]
        rfl
      | some j =>
        refine iteF ⟨S, ?_⟩
        rw [tk, h]
        simp only [Option.isNone_some, Bool.false_eq_true, if_false, List.append_nil]
        exact hD'
    · rintro H' ⟨S, hD'⟩
      rw [kvR_length, ← List.length_map (f := (·.1)), List.take_length] at hD'
      have gl := S _ _ (S2 _ _ g1)
      rw [kv_keys] at gl
      refine ⟨l, D, _, _, rfl, rfl, gl, hD', ?_, fun q' hq => q _ q' (fun b u hb => same_new hq _ _ (S _ _ (S2 _ _ (S1 _ _ hb)))) ?_⟩
      · rw [List.length_map, List.length_map, List.length_map]
        have l1 := List.length_filter_le (fun n => (atR r n).isNone) (t.map (·.1))
        rw [List.length_map] at l1
        exact Nat.le_trans (show _ ≤ 2000 by omega) (by decide)
      · rw [upd_same, ← List.map_append]
        rfl
end
end L31

set_option Elab.async false
set_option linter.all false
set_option maxRecDepth 100000
set_option maxHeartbeats 4000000
namespace L31
open PySem L2 Tp
section
variable {P : Program} {w : World} {K : PySem.W.Frag} {mg : Str → Option Value} {base : Heap} {a : Ad} {d : Fd}
/-! ### the operators -/
def mapR (ns : List Str) (v : Str → Int) : Row := ns.map fun n => (n, v n)
theorem mapR_names (ns : List Str) (v : Str → Int) : (mapR ns v).map (·.1) = ns := by
  unfold mapR
  rw [List.map_map]
  exact List.map_id _
theorem mapR_take {ns : List Str} {v : Str → Int} (h : ns.Nodup) {i : Nat} {n : Str} (hi : ns[i]? = some n) : putK (kvR (mapR (ns.take i) v)) (Sum.inr n) (.int (v n)) = kvR (mapR (ns.take (i + 1)) v) := by
  rw [put_kvR, put_new]
  · rw [List.take_add_one, hi]
    unfold mapR
    rw [List.map_append]
    rfl
  · rw [mapR_names]
    intro q
    obtain ⟨hlt, e⟩ := List.getElem?_eq_some_iff.mp hi
    obtain ⟨j, hj, ej⟩ := List.mem_iff_getElem.mp q
    rw [List.length_take] at hj
    rw [List.getElem_take] at ej
    exact (List.pairwise_iff_getElem.mp h) j i (by omega) hlt (by omega) (ej.trans e.symm)
theorem mapR_fn {ns : List Str} {v : Str → Int} (h : ns.Nodup) (x : Str) : fnR (mapR ns v) x = if x ∈ ns then v x else 0 := by
  by_cases m : x ∈ ns
  · rw [if_pos m]
    have := mem_at (r := mapR ns v) (p := (x, v x)) (by unfold NdR; rw [mapR_names]; exact h) (List.mem_map.mpr ⟨x, m, rfl⟩)
    show (atR (mapR ns v) x).getD 0 = v x
    rw [this]
    rfl
  · rw [if_neg m]
    show (atR (mapR ns v) x).getD 0 = 0
    rw [at_none.mpr (by rw [mapR_names]; exact m)]
    rfl
theorem both_nd {r s : Row} (nr : NdR r) (ns : NdR s) : (bothN r s).Nodup := by
  unfold bothN
  rw [List.nodup_append]
  refine ⟨nr, List.Nodup.sublist List.filter_sublist ns, fun a ha b hb e => ?_⟩
  subst e
  have := (List.mem_filter.mp hb).2
  exact at_none.mp (by simpa using this) ha
theorem both_mem {r s : Row} {x : Str} : x ∈ bothN r s ↔ x ∈ r.map (·.1) ∨ x ∈ s.map (·.1) := by
  unfold bothN
  rw [List.mem_append, List.mem_filter]
  constructor
  · rintro (h | h)
    · exact .inl h
    · exact .inr h.1
  · rintro (h | h)
    · exact .inl h
    · by_cases k : x ∈ r.map (·.1)
      · exact .inl k
      · exact .inr ⟨h, by rw [at_none.mpr k]; rfl⟩
theorem fn_none {r : Row} {x : Str} (h : x ∉ r.map (·.1)) : fnR r x = 0 := by
  unfold fnR
  rw [at_none.mpr h]
  rfl
theorem both_fn {r s : Row} (nr : NdR r) (ns : NdR s) {g : Int → Int → Int} (g0 : g 0 0 = 0) (x : Str) : fnR (mapR (bothN r s) fun n => g (fnR r n) (fnR s n)) x = g (fnR r x) (fnR s x) := by
  rw [mapR_fn (both_nd nr ns)]
  by_cases m : x ∈ bothN r s
  · rw [if_pos m]
  · rw [if_neg m, fn_none (fun h => m (both_mem.mpr (.inl h))), fn_none (fun h => m (both_mem.mpr (.inr h))), g0]
/-- a new Lags, made of others -/
def NewLag (a : Ad) (H : Hp) (Q : VK) (f : Str → Int) : Prop := ∀ H' z r', Same H H' → LagAt a H' z r' → GoodR r' → FullR r' → (∀ n, fnR r' n = f n) → Q (.ref z) H'
def spBin (a : Ad) (g : Int → Int → Int) : Sp := fun vs H Q _ => ∃ x y r s, vs = [.ref x, .ref y] ∧ LagAt a H x r ∧ LagAt a H y s ∧ GoodR r ∧ GoodR s ∧ r.length ≤ 20 ∧ s.length ≤ 20 ∧ NewLag a H Q (fun n => g (fnR r n) (fnR s n))
theorem both_len (r s : Row) : (bothN r s).length ≤ r.length + s.length := by
  unfold bothN
  rw [List.length_append, List.length_map]
  have l1 := List.length_filter_le (fun n => (atR r n).isNone) (s.map (·.1))
  rw [List.length_map] at l1
  omega
theorem new_same {H H1 H' : Hp} {x dx C : Addr} (S : Same H H1) (h1 : H1 x = none) (h2 : H1 dx = none) (ne : dx ≠ x) (k : ∀ b u, (upd (upd H1 dx (.own x)) x (.ins C dx [])) b = some u → b ≠ x → H' b = some u) : Same H H' := fun b u e => by
  have e1 := S _ _ e
  have n1 : b ≠ x := fun z => by rw [z, h1] at e1; cases e1
  have n2 : b ≠ dx := fun z => by rw [z, h2] at e1; cases e1
  exact k b u (by rw [upd_ne n1, upd_ne n2]; exact e1) n1
theorem ok_or (T : Txt K mg a d) : FnOk P w K mg base CX0 6 a.or d.or ["self", "other"] (spBin a (fun i j => if j > i then j else i)) := by
  have G_lag := ok_lag (P := P) (w := w) (base := base) T
  have G_both := ok_both (P := P) (w := w) (base := base) T
  have G_init := ok_init (P := P) (w := w) (base := base) T
  refine okN T.F_or scOr (fun vs H Q E h => ?_) (fun cdv A outer s H vs Q E hr h => ?_)
  · obtain ⟨x, y, r, t, rfl, _⟩ := h
    rfl
  · obtain ⟨x, y, r, t, rfl, lx, ly, gr, gt, lr, lt, q⟩ := h
    refine ⟨_, (pss_one (ps_ret (Tp.pe_makeE T.mk_Lags G_init (hr.mono (by decide)) (by rfl) T.mg_Lags T.b_init .nil (fun σ => Tp.passA0 σ) (pa_cons ((pe_dc (own := [("name", 2)]) (by rfl) scOr.nd (pi_list (pe_meth (pv 0) T.cl_Lags T.me_both G_both (hr.mono (by decide)) T.b_both .nil pass0 (pa_cons (pv 1) pa_nil))) (blkOk_by (own := [("name", 2)]) (N := scOr_N) (sc := defScope scOr_st) (by decide +kernel)) (fun _ _ _ _ _ => (pg_name (i := 2) scOr.nd rfl (Or.inl rfl))) (fun _ _ _ _ _ => pts_nil) (fun _ _ _ _ _ => (pv 2)) (fun _ _ _ _ _ => (pe_callB (call_max2 rfl) (by rfl) T.max_ Tp.bt_max (pa_cons (pe_meth (pv 0) T.cl_Lags T.me_lag G_lag (hr.mono (by decide)) T.b_lag .nil pass0 (pa_cons (pv 2) pa_nil)) (pa_cons (pe_meth (pv 1) T.cl_Lags T.me_lag G_lag (hr.mono (by decide)) T.b_lag .nil pass0 (pa_cons (pv 2) pa_nil)) pa_nil)))))) pa_nil)))), ?_⟩
    have lx' := lx
    obtain ⟨dx, ox, h1, h2⟩ := lx'
    refine ⟨_, rfl, x, _, _, rfl, h1, no_look (by decide), _, rfl, x, y, r, t, rfl, lx, ly, by omega, by omega, fun H1 p S1 g1 => ?_⟩
    refine ⟨p, rfl, ⟨_, SqL.of g1⟩, fun D hD => dc_it (walk_list (xs := (bothN r t).map V.str)) (fun i H' => Same H1 H' ∧ H' D = some (.dK (kvR (mapR ((bothN r t).take i) fun n => (fun i j => if j > i then j else i) (fnR r n) (fnR t n))))) ⟨same_new hD, upd_same⟩ ?_ ?_ ?_⟩
    · rintro i H' _ ⟨S, _⟩
      exact SqL.of (S _ _ g1)
    · rintro i v _ H' hi ⟨S, hD'⟩ ⟨rfl, hv⟩
      rw [List.getElem?_map] at hv
      obtain ⟨n, hn, rfl⟩ := Option.map_eq_some_iff.mp hv
      have lx1 := (lx.same S1).same S
      have ly1 := (ly.same S1).same S
      have lx2 := lx1
      have ly2 := ly1
      obtain ⟨dx1, ox1, k1, k2⟩ := lx2
      obtain ⟨dy1, oy1, m1, m2⟩ := ly2
      have hlen : (kvR (mapR ((bothN r t).take i) fun n => (fun i j => if j > i then j else i) (fnR r n) (fnR t n))).length < sizeLine := by
        rw [kvR_length]
        unfold mapR
        rw [List.length_map, List.length_take]
        have := both_len r t
        exact Nat.lt_of_le_of_lt (show _ ≤ 40 by omega) (by decide)
      refine ⟨rfl, _, rfl, _, rfl, x, _, _, rfl, k1, no_look (by decide), _, rfl, x, r, n, rfl, lx1.rd, _, rfl, y, _, _, rfl, m1, no_look (by decide), _, rfl, y, t, n, rfl, ly1.rd, _, _, rfl, _, Sum.inr n, rfl, hD', hlen, Tp.Same.mut S hD, ?_⟩
      rw [upd_same]
      exact congrArg (fun z => some (HO.dK z)) (mapR_take (v := fun n => (fun i j => if j > i then j else i) (fnR r n) (fnR t n)) (both_nd gr.1 gt.1) hn)
    · rintro H' ⟨S, hD'⟩ x' dx' n1 n2 ne
      rw [List.length_map, List.take_length] at hD'
      have nx : D ≠ x' := fun z => by rw [z, n1] at hD'; cases hD'
      have nd : D ≠ dx' := fun z => by rw [z, n2] at hD'; cases hD'
      refine ⟨x', dx', _, rfl, upd_same, .inl ⟨D, _, rfl, by rw [upd_ne nx, upd_ne nd]; exact hD', ⟨by unfold NdR; rw [mapR_names]; exact both_nd gr.1 gt.1, fun e he => ?_⟩, ?_, fun H'' r' k hl hnd hf hfn hm _ => ⟨rfl, ?_⟩⟩⟩
      · obtain ⟨n, hn, rfl⟩ := List.mem_map.mp he
        rcases both_mem.mp hn with h | h
        · obtain ⟨e, he, e2⟩ := List.mem_map.mp h
          rw [← e2]
          exact gr.2 e he
        · obtain ⟨e, he, e2⟩ := List.mem_map.mp h
          rw [← e2]
          exact gt.2 e he
      · unfold mapR
        rw [List.length_map]
        have := both_len r t
        omega
      · refine q _ _ r' (new_same (fun b u hb => S _ _ (S1 _ _ hb)) n1 n2 ne k) hl ⟨hnd, fun e he => ?_⟩ hf fun n => (hfn n).trans (both_fn (g := fun i j => if j > i then j else i) gr.1 gt.1 (by decide) n)
        obtain ⟨n, hn, rfl⟩ := List.mem_map.mp (hm e he)
        rcases both_mem.mp hn with h | h
        · obtain ⟨e, he, e2⟩ := List.mem_map.mp h
          rw [← e2]
          exact gr.2 e he
        · obtain ⟨e, he, e2⟩ := List.mem_map.mp h
          rw [← e2]
          exact gt.2 e he
theorem ok_and (T : Txt K mg a d) : FnOk P w K mg base CX0 6 a.and d.and ["self", "other"] (spBin a (fun i j => if j < i then j else i)) := by
  have G_lag := ok_lag (P := P) (w := w) (base := base) T
  have G_both := ok_both (P := P) (w := w) (base := base) T
  have G_init := ok_init (P := P) (w := w) (base := base) T
  refine okN T.F_and scAnd (fun vs H Q E h => ?_) (fun cdv A outer s H vs Q E hr h => ?_)
  · obtain ⟨x, y, r, t, rfl, _⟩ := h
    rfl
  · obtain ⟨x, y, r, t, rfl, lx, ly, gr, gt, lr, lt, q⟩ := h
    refine ⟨_, (pss_one (ps_ret (Tp.pe_makeE T.mk_Lags G_init (hr.mono (by decide)) (by rfl) T.mg_Lags T.b_init .nil (fun σ => Tp.passA0 σ) (pa_cons ((pe_dc (own := [("name", 2)]) (by rfl) scAnd.nd (pi_list (pe_meth (pv 0) T.cl_Lags T.me_both G_both (hr.mono (by decide)) T.b_both .nil pass0 (pa_cons (pv 1) pa_nil))) (blkOk_by (own := [("name", 2)]) (N := scAnd_N) (sc := defScope scAnd_st) (by decide +kernel)) (fun _ _ _ _ _ => (pg_name (i := 2) scAnd.nd rfl (Or.inl rfl))) (fun _ _ _ _ _ => pts_nil) (fun _ _ _ _ _ => (pv 2)) (fun _ _ _ _ _ => (pe_callB (call_min2 rfl) (by rfl) T.min_ Tp.bt_min (pa_cons (pe_meth (pv 0) T.cl_Lags T.me_lag G_lag (hr.mono (by decide)) T.b_lag .nil pass0 (pa_cons (pv 2) pa_nil)) (pa_cons (pe_meth (pv 1) T.cl_Lags T.me_lag G_lag (hr.mono (by decide)) T.b_lag .nil pass0 (pa_cons (pv 2) pa_nil)) pa_nil)))))) pa_nil)))), ?_⟩
    have lx' := lx
    obtain ⟨dx, ox, h1, h2⟩ := lx'
    refine ⟨_, rfl, x, _, _, rfl, h1, no_look (by decide), _, rfl, x, y, r, t, rfl, lx, ly, by omega, by omega, fun H1 p S1 g1 => ?_⟩
    refine ⟨p, rfl, ⟨_, SqL.of g1⟩, fun D hD => dc_it (walk_list (xs := (bothN r t).map V.str)) (fun i H' => Same H1 H' ∧ H' D = some (.dK (kvR (mapR ((bothN r t).take i) fun n => (fun i j => if j < i then j else i) (fnR r n) (fnR t n))))) ⟨same_new hD, upd_same⟩ ?_ ?_ ?_⟩
    · rintro i H' _ ⟨S, _⟩
      exact SqL.of (S _ _ g1)
    · rintro i v _ H' hi ⟨S, hD'⟩ ⟨rfl, hv⟩
      rw [List.getElem?_map] at hv
      obtain ⟨n, hn, rfl⟩ := Option.map_eq_some_iff.mp hv
      have lx1 := (lx.same S1).same S
      have ly1 := (ly.same S1).same S
      have lx2 := lx1
      have ly2 := ly1
      obtain ⟨dx1, ox1, k1, k2⟩ := lx2
      obtain ⟨dy1, oy1, m1, m2⟩ := ly2
      have hlen : (kvR (mapR ((bothN r t).take i) fun n => (fun i j => if j < i then j else i) (fnR r n) (fnR t n))).length < sizeLine := by
        rw [kvR_length]
        unfold mapR
        rw [List.length_map, List.length_take]
        have := both_len r t
        exact Nat.lt_of_le_of_lt (show _ ≤ 40 by omega) (by decide)
      refine ⟨rfl, _, rfl, _, rfl, x, _, _, rfl, k1, no_look (by decide), _, rfl, x, r, n, rfl, lx1.rd, _, rfl, y, _, _, rfl, m1, no_look (by decide), _, rfl, y, t, n, rfl, ly1.rd, _, _, rfl, _, Sum.inr n, rfl, hD', hlen, Tp.Same.mut S hD, ?_⟩
      rw [upd_same]
      exact congrArg (fun z => some (HO.dK z)) (mapR_take (v := fun n => (fun i j => if j < i then j else i) (fnR r n) (fnR t n)) (both_nd gr.1 gt.1) hn)
    · rintro H' ⟨S, hD'⟩ x' dx' n1 n2 ne
      rw [List.length_map, List.take_length] at hD'
      have nx : D ≠ x' := fun z => by rw [z, n1] at hD'; cases hD'
      have nd : D ≠ dx' := fun z => by rw [z, n2] at hD'; cases hD'
      refine ⟨x', dx', _, rfl, upd_same, .inl ⟨D, _, rfl, by rw [upd_ne nx, upd_ne nd]; exact hD', ⟨by unfold NdR; rw [mapR_names]; exact both_nd gr.1 gt.1, fun e he => ?_⟩, ?_, fun H'' r' k hl hnd hf hfn hm _ => ⟨rfl, ?_⟩⟩⟩
      · obtain ⟨n, hn, rfl⟩ := List.mem_map.mp he
        rcases both_mem.mp hn with h | h
        · obtain ⟨e, he, e2⟩ := List.mem_map.mp h
          rw [← e2]
          exact gr.2 e he
        · obtain ⟨e, he, e2⟩ := List.mem_map.mp h
          rw [← e2]
          exact gt.2 e he
      · unfold mapR
        rw [List.length_map]
        have := both_len r t
        omega
      · refine q _ _ r' (new_same (fun b u hb => S _ _ (S1 _ _ hb)) n1 n2 ne k) hl ⟨hnd, fun e he => ?_⟩ hf fun n => (hfn n).trans (both_fn (g := fun i j => if j < i then j else i) gr.1 gt.1 (by decide) n)
        obtain ⟨n, hn, rfl⟩ := List.mem_map.mp (hm e he)
        rcases both_mem.mp hn with h | h
        · obtain ⟨e, he, e2⟩ := List.mem_map.mp h
          rw [← e2]
          exact gr.2 e he
        · obtain ⟨e, he, e2⟩ := List.mem_map.mp h
          rw [← e2]
          exact gt.2 e he
theorem ok_add (T : Txt K mg a d) : FnOk P w K mg base CX0 6 a.add d.add ["self", "other"] (spBin a (fun i j => i + j)) := by
  have G_lag := ok_lag (P := P) (w := w) (base := base) T
  have G_both := ok_both (P := P) (w := w) (base := base) T
  have G_init := ok_init (P := P) (w := w) (base := base) T
  refine okN T.F_add scAdd (fun vs H Q E h => ?_) (fun cdv A outer s H vs Q E hr h => ?_)
  · obtain ⟨x, y, r, t, rfl, _⟩ := h
    rfl
  · obtain ⟨x, y, r, t, rfl, lx, ly, gr, gt, lr, lt, q⟩ := h
    refine ⟨_, (pss_one (ps_ret (Tp.pe_makeE T.mk_Lags G_init (hr.mono (by decide)) (by rfl) T.mg_Lags T.b_init .nil (fun σ => Tp.passA0 σ) (pa_cons ((pe_dc (own := [("name", 2)]) (by rfl) scAdd.nd (pi_list (pe_meth (pv 0) T.cl_Lags T.me_both G_both (hr.mono (by decide)) T.b_both .nil pass0 (pa_cons (pv 1) pa_nil))) (blkOk_by (own := [("name", 2)]) (N := scAdd_N) (sc := defScope scAdd_st) (by decide +kernel)) (fun _ _ _ _ _ => (pg_name (i := 2) scAdd.nd rfl (Or.inl rfl))) (fun _ _ _ _ _ => pts_nil) (fun _ _ _ _ _ => (pv 2)) (fun _ _ _ _ _ => (pe_op op_add (pe_meth (pv 0) T.cl_Lags T.me_lag G_lag (hr.mono (by decide)) T.b_lag .nil pass0 (pa_cons (pv 2) pa_nil)) (pe_meth (pv 1) T.cl_Lags T.me_lag G_lag (hr.mono (by decide)) T.b_lag .nil pass0 (pa_cons (pv 2) pa_nil)))))) pa_nil)))), ?_⟩
    have lx' := lx
    obtain ⟨dx, ox, h1, h2⟩ := lx'
    refine ⟨_, rfl, x, _, _, rfl, h1, no_look (by decide), _, rfl, x, y, r, t, rfl, lx, ly, by omega, by omega, fun H1 p S1 g1 => ?_⟩
    refine ⟨p, rfl, ⟨_, SqL.of g1⟩, fun D hD => dc_it (walk_list (xs := (bothN r t).map V.str)) (fun i H' => Same H1 H' ∧ H' D = some (.dK (kvR (mapR ((bothN r t).take i) fun n => (fun i j => i + j) (fnR r n) (fnR t n))))) ⟨same_new hD, upd_same⟩ ?_ ?_ ?_⟩
    · rintro i H' _ ⟨S, _⟩
      exact SqL.of (S _ _ g1)
    · rintro i v _ H' hi ⟨S, hD'⟩ ⟨rfl, hv⟩
      rw [List.getElem?_map] at hv
      obtain ⟨n, hn, rfl⟩ := Option.map_eq_some_iff.mp hv
      have lx1 := (lx.same S1).same S
      have ly1 := (ly.same S1).same S
      have lx2 := lx1
      have ly2 := ly1
      obtain ⟨dx1, ox1, k1, k2⟩ := lx2
      obtain ⟨dy1, oy1, m1, m2⟩ := ly2
      have hlen : (kvR (mapR ((bothN r t).take i) fun n => (fun i j => i + j) (fnR r n) (fnR t n))).length < sizeLine := by
        rw [kvR_length]
        unfold mapR
        rw [List.length_map, List.length_take]
        have := both_len r t
        exact Nat.lt_of_le_of_lt (show _ ≤ 40 by omega) (by decide)
      refine ⟨rfl, _, rfl, _, rfl, x, _, _, rfl, k1, no_look (by decide), _, rfl, x, r, n, rfl, lx1.rd, _, rfl, y, _, _, rfl, m1, no_look (by decide), _, rfl, y, t, n, rfl, ly1.rd, _, _, rfl, rfl, _, Sum.inr n, rfl, hD', hlen, Tp.Same.mut S hD, ?_⟩
      rw [upd_same]
      exact congrArg (fun z => some (HO.dK z)) (mapR_take (v := fun n => (fun i j => i + j) (fnR r n) (fnR t n)) (both_nd gr.1 gt.1) hn)
    · rintro H' ⟨S, hD'⟩ x' dx' n1 n2 ne
      rw [List.length_map, List.take_length] at hD'
      have nx : D ≠ x' := fun z => by rw [z, n1] at hD'; cases hD'
      have nd : D ≠ dx' := fun z => by rw [z, n2] at hD'; cases hD'
      refine ⟨x', dx', _, rfl, upd_same, .inl ⟨D, _, rfl, by rw [upd_ne nx, upd_ne nd]; exact hD', ⟨by unfold NdR; rw [mapR_names]; exact both_nd gr.1 gt.1, fun e he => ?_⟩, ?_, fun H'' r' k hl hnd hf hfn hm _ => ⟨rfl, ?_⟩⟩⟩
      · obtain ⟨n, hn, rfl⟩ := List.mem_map.mp he
        rcases both_mem.mp hn with h | h
        · obtain ⟨e, he, e2⟩ := List.mem_map.mp h
          rw [← e2]
          exact gr.2 e he
        · obtain ⟨e, he, e2⟩ := List.mem_map.mp h
          rw [← e2]
          exact gt.2 e he
      · unfold mapR
        rw [List.length_map]
        have := both_len r t
        omega
      · refine q _ _ r' (new_same (fun b u hb => S _ _ (S1 _ _ hb)) n1 n2 ne k) hl ⟨hnd, fun e he => ?_⟩ hf fun n => (hfn n).trans (both_fn (g := fun i j => i + j) gr.1 gt.1 (by decide) n)
        obtain ⟨n, hn, rfl⟩ := List.mem_map.mp (hm e he)
        rcases both_mem.mp hn with h | h
        · obtain ⟨e, he, e2⟩ := List.mem_map.mp h
          rw [← e2]
          exact gr.2 e he
        · obtain ⟨e, he, e2⟩ := List.mem_map.mp h
          rw [← e2]
          exact gt.2 e he
theorem ok_sub (T : Txt K mg a d) : FnOk P w K mg base CX0 6 a.sub d.sub ["self", "other"] (spBin a (fun i j => i - j)) := by
  have G_lag := ok_lag (P := P) (w := w) (base := base) T
  have G_both := ok_both (P := P) (w := w) (base := base) T
  have G_init := ok_init (P := P) (w := w) (base := base) T
  refine okN T.F_sub scSub (fun vs H Q E h => ?_) (fun cdv A outer s H vs Q E hr h => ?_)
  · obtain ⟨x, y, r, t, rfl, _⟩ := h
    rfl
  · obtain ⟨x, y, r, t, rfl, lx, ly, gr, gt, lr, lt, q⟩ := h
    refine ⟨_, (pss_one (ps_ret (Tp.pe_makeE T.mk_Lags G_init (hr.mono (by decide)) (by rfl) T.mg_Lags T.b_init .nil (fun σ => Tp.passA0 σ) (pa_cons ((pe_dc (own := [("name", 2)]) (by rfl) scSub.nd (pi_list (pe_meth (pv 0) T.cl_Lags T.me_both G_both (hr.mono (by decide)) T.b_both .nil pass0 (pa_cons (pv 1) pa_nil))) (blkOk_by (own := [("name", 2)]) (N := scSub_N) (sc := defScope scSub_st) (by decide +kernel)) (fun _ _ _ _ _ => (pg_name (i := 2) scSub.nd rfl (Or.inl rfl))) (fun _ _ _ _ _ => pts_nil) (fun _ _ _ _ _ => (pv 2)) (fun _ _ _ _ _ => (pe_op op_sub (pe_meth (pv 0) T.cl_Lags T.me_lag G_lag (hr.mono (by decide)) T.b_lag .nil pass0 (pa_cons (pv 2) pa_nil)) (pe_meth (pv 1) T.cl_Lags T.me_lag G_lag (hr.mono (by decide)) T.b_lag .nil pass0 (pa_cons (pv 2) pa_nil)))))) pa_nil)))), ?_⟩
    have lx' := lx
    obtain ⟨dx, ox, h1, h2⟩ := lx'
    refine ⟨_, rfl, x, _, _, rfl, h1, no_look (by decide), _, rfl, x, y, r, t, rfl, lx, ly, by omega, by omega, fun H1 p S1 g1 => ?_⟩
    refine ⟨p, rfl, ⟨_, SqL.of g1⟩, fun D hD => dc_it (walk_list (xs := (bothN r t).map V.str)) (fun i H' => Same H1 H' ∧ H' D = some (.dK (kvR (mapR ((bothN r t).take i) fun n => (fun i j => i - j) (fnR r n) (fnR t n))))) ⟨same_new hD, upd_same⟩ ?_ ?_ ?_⟩
    · rintro i H' _ ⟨S, _⟩
      exact SqL.of (S _ _ g1)
    · rintro i v _ H' hi ⟨S, hD'⟩ ⟨rfl, hv⟩
      rw [List.getElem?_map] at hv
      obtain ⟨n, hn, rfl⟩ := Option.map_eq_some_iff.mp hv
      have lx1 := (lx.same S1).same S
      have ly1 := (ly.same S1).same S
      have lx2 := lx1
      have ly2 := ly1
      obtain ⟨dx1, ox1, k1, k2⟩ := lx2
      obtain ⟨dy1, oy1, m1, m2⟩ := ly2
      have hlen : (kvR (mapR ((bothN r t).take i) fun n => (fun i j => i - j) (fnR r n) (fnR t n))).length < sizeLine := by
        rw [kvR_length]
        unfold mapR
        rw [List.length_map, List.length_take]
        have := both_len r t
        exact Nat.lt_of_le_of_lt (show _ ≤ 40 by omega) (by decide)
      refine ⟨rfl, _, rfl, _, rfl, x, _, _, rfl, k1, no_look (by decide), _, rfl, x, r, n, rfl, lx1.rd, _, rfl, y, _, _, rfl, m1, no_look (by decide), _, rfl, y, t, n, rfl, ly1.rd, _, _, rfl, rfl, _, Sum.inr n, rfl, hD', hlen, Tp.Same.mut S hD, ?_⟩
      rw [upd_same]
      exact congrArg (fun z => some (HO.dK z)) (mapR_take (v := fun n => (fun i j => i - j) (fnR r n) (fnR t n)) (both_nd gr.1 gt.1) hn)
    · rintro H' ⟨S, hD'⟩ x' dx' n1 n2 ne
      rw [List.length_map, List.take_length] at hD'
      have nx : D ≠ x' := fun z => by rw [z, n1] at hD'; cases hD'
      have nd : D ≠ dx' := fun z => by rw [z, n2] at hD'; cases hD'
      refine ⟨x', dx', _, rfl, upd_same, .inl ⟨D, _, rfl, by rw [upd_ne nx, upd_ne nd]; exact hD', ⟨by unfold NdR; rw [mapR_names]; exact both_nd gr.1 gt.1, fun e he => ?_⟩, ?_, fun H'' r' k hl hnd hf hfn hm _ => ⟨rfl, ?_⟩⟩⟩
      · obtain ⟨n, hn, rfl⟩ := List.mem_map.mp he
        rcases both_mem.mp hn with h | h
        · obtain ⟨e, he, e2⟩ := List.mem_map.mp h
          rw [← e2]
          exact gr.2 e he
        · obtain ⟨e, he, e2⟩ := List.mem_map.mp h
          rw [← e2]
          exact gt.2 e he
      · unfold mapR
        rw [List.length_map]
        have := both_len r t
        omega
      · refine q _ _ r' (new_same (fun b u hb => S _ _ (S1 _ _ hb)) n1 n2 ne k) hl ⟨hnd, fun e he => ?_⟩ hf fun n => (hfn n).trans (both_fn (g := fun i j => i - j) gr.1 gt.1 (by decide) n)
        obtain ⟨n, hn, rfl⟩ := List.mem_map.mp (hm e he)
        rcases both_mem.mp hn with h | h
        · obtain ⟨e, he, e2⟩ := List.mem_map.mp h
          rw [← e2]
          exact gr.2 e he
        · obtain ⟨e, he, e2⟩ := List.mem_map.mp h
          rw [← e2]
          exact gt.2 e he
end
end L31

set_option Elab.async false
set_option linter.all false
set_option maxRecDepth 100000
set_option maxHeartbeats 4000000
namespace L31
open PySem L2 Tp
section
variable {P : Program} {w : World} {K : PySem.W.Frag} {mg : Str → Option Value} {base : Heap} {a : Ad} {d : Fd}
theorem lag_lock {H H' : Hp} {x dx od : Addr} {r : Row} {o : Obj} (h1 : H x = some (.ins a.CLags dx [("own_lags", .ref od)])) (h2 : H od = some (.dK (kvR r))) (S : Same (upd H od (.frz o (.dK (kvR r)))) H') : LagR a H' x r := by
  have ne : x ≠ od := fun z => by rw [z, h2] at h1; cases h1
  exact ⟨dx, od, S _ _ (by rw [upd_ne ne]; exact h1), .inr ⟨o, S _ _ upd_same⟩⟩
theorem unlock_same {H H' : Hp} {od : Addr} {u f : HO} (h : H od = some u) (S : Same (upd H od f) H') : Same H (upd H' od u) := fun b v e => by
  by_cases z : b = od
  · rw [z, upd_same, ← h, ← z, e]
  · rw [upd_ne z]
    exact S _ _ (by rw [upd_ne z]; exact e)
def spNeg (a : Ad) : Sp := fun vs H Q _ => ∃ x r, vs = [.ref x] ∧ LagAt a H x r ∧ GoodR r ∧ r.length ≤ 40 ∧ NewLag a H Q (fun n => - fnR r n)
theorem ok_neg (T : Txt K mg a d) : FnOk P w K mg base CX0 6 a.neg d.neg ["self"] (spNeg a) := by
  have G_lag := ok_lag (P := P) (w := w) (base := base) T
  have G_init := ok_init (P := P) (w := w) (base := base) T
  refine okN T.F_neg scNeg (fun vs H Q E h => ?_) (fun cdv A outer s H vs Q E hr h => ?_)
  · obtain ⟨x, r, rfl, _⟩ := h
    rfl
  · obtain ⟨x, r, rfl, ⟨dx, od, h1, h2⟩, gr, lr, q⟩ := h
    refine ⟨_, (pss_one (ps_ret (Tp.pe_makeE T.mk_Lags G_init (hr.mono (by decide)) (by rfl) T.mg_Lags T.b_init .nil (fun σ => Tp.passA0 σ) (pa_cons (pe_lock (pe_dc (own := [("name", 1)]) (by rfl) scNeg.nd (pi_keys (pe_fld (pv 0) (by rfl))) (blkOk_by (own := [("name", 1)]) (N := scNeg_N) (sc := defScope scNeg_st) (by decide +kernel)) (fun _ _ _ _ _ => (pg_name (i := 1) scNeg.nd rfl (Or.inl rfl))) (fun _ _ _ _ _ => pts_nil) (fun _ _ _ _ _ => (pv 1)) (fun _ _ _ _ _ => (pe_un un_neg (pe_meth (pv 0) T.cl_Lags T.me_lag G_lag (hr.mono (by decide)) T.b_lag .nil pass0 (pa_cons (pv 1) pa_nil)))))) pa_nil)))), ?_⟩
    have ne0 : x ≠ od := fun z => by rw [z, h2] at h1; cases h1
    refine ⟨od, .dK (kvR r), h2, trivial, fun o => ?_⟩
    have h1' : (upd H od (.frz o (.dK (kvR r)))) x = some (.ins a.CLags dx [("own_lags", .ref od)]) := by rw [upd_ne ne0]; exact h1
    refine ⟨_, rfl, x, _, _, _, _, rfl, h1', T.cl_Lags, T.nOwn, own_look, od, o, rfl, .inl ⟨_, upd_same, fun D hD => dc_it walk_keys (fun i H' => Same (upd H od (.frz o (.dK (kvR r)))) H' ∧ H' D = some (.dK (kvR (mapR ((r.map (·.1)).take i) fun n => - fnR r n)))) ⟨same_new hD, upd_same⟩ ?_ ?_ ?_⟩⟩
    · rintro i H' _ ⟨S, _⟩
      exact S _ _ upd_same
    · rintro i v _ H' hi ⟨S, hD'⟩ ⟨rfl, k, u, hk, rfl⟩
      obtain ⟨e, he, e2⟩ : ∃ e, r[i]? = some e ∧ (k, u) = (Sum.inr e.1, V.int e.2) := by
        unfold kvR at hk
        rw [List.getElem?_map] at hk
        obtain ⟨e, h1, h2⟩ := Option.map_eq_some_iff.mp hk
        exact ⟨e, h1, h2.symm⟩
      cases e2
      have hn : (r.map (·.1))[i]? = some e.1 := by rw [List.getElem?_map, he]; rfl
      have lg := lag_lock h1 h2 S
      have lg2 := lg
      obtain ⟨dx1, od1, k1, _⟩ := lg2
      have hlen : (kvR (mapR ((r.map (·.1)).take i) fun n => - fnR r n)).length < sizeLine := by
        rw [kvR_length]
        unfold mapR
        rw [List.length_map, List.length_take, List.length_map]
        exact Nat.lt_of_le_of_lt (show _ ≤ 40 by omega) (by decide)
      refine ⟨rfl, _, rfl, _, rfl, x, _, _, rfl, k1, no_look (by decide), _, rfl, x, r, e.1, rfl, lg, _, rfl, _, Sum.inr e.1, rfl, hD', hlen, Tp.Same.mut S hD, ?_⟩
      rw [upd_same]
      exact congrArg (fun z => some (HO.dK z)) (mapR_take (v := fun n => - fnR r n) gr.1 hn)
    · rintro H' ⟨S, hD'⟩
      refine ⟨S _ _ upd_same, ?_⟩
      rintro x' dx' n1 n2 ne
      rw [kvR_length, ← List.length_map (f := (·.1)), List.take_length] at hD'
      have nD : D ≠ od := fun z => by rw [z, upd_same] at hD; cases hD
      have hD2 : (upd H' od (.dK (kvR r))) D = some (.dK (kvR (mapR (r.map (·.1)) fun n => - fnR r n))) := by rw [upd_ne nD]; exact hD'
      have S2 := unlock_same h2 S
      generalize upd H' od (.dK (kvR r)) = H2 at hD2 S2 n1 n2 ⊢
      have nx : D ≠ x' := fun z => by rw [z, n1] at hD2; cases hD2
      have nd : D ≠ dx' := fun z => by rw [z, n2] at hD2; cases hD2
      have nm : ∀ e ∈ mapR (r.map (·.1)) (fun n => - fnR r n), nmB e.1 = true := fun e he => by
        obtain ⟨n, hn, rfl⟩ := List.mem_map.mp he
        obtain ⟨e, he, e2⟩ := List.mem_map.mp hn
        rw [← e2]
        exact gr.2 e he
      refine ⟨x', dx', _, rfl, upd_same, .inl ⟨D, _, rfl, by rw [upd_ne nx, upd_ne nd]; exact hD2, ⟨by unfold NdR; rw [mapR_names]; exact gr.1, nm⟩, ?_, fun H'' r' k hl hnd hf hfn hm _ => ⟨rfl, ?_⟩⟩⟩
      · unfold mapR
        rw [List.length_map, List.length_map]
        omega
      · refine q _ _ r' (new_same S2 n1 n2 ne k) hl ⟨hnd, fun e he => nm e (hm e he)⟩ hf fun n => (hfn n).trans ?_
        rw [mapR_fn gr.1]
        by_cases m : n ∈ r.map (·.1)
        · rw [if_pos m]
        · rw [if_neg m]
          show (0 : Int) = - fnR r n
          rw [fn_none m]
          rfl
end
end L31

set_option Elab.async false
set_option linter.all false
set_option maxRecDepth 100000
set_option maxHeartbeats 4000000
namespace L31
open PySem L2 Tp
section
variable {P : Program} {w : World} {K : PySem.W.Frag} {mg : Str → Option Value} {base : Heap} {a : Ad} {d : Fd}
/-- |i|, as abs has it -/
def absI (i : Int) : Int := if i < 0 then -i else i
def absR (r : Row) : Int := ((r.map (·.1)).map fun n => absI (fnR r n)).sum
def spAbs (a : Ad) : Sp := fun vs H Q _ => ∃ x r, vs = [.ref x] ∧ LagAt a H x r ∧ NdR r ∧ r.length ≤ 40 ∧ ∀ H', Same H H' → Q (.int (absR r)) H'
theorem ok_abs (T : Txt K mg a d) : FnOk P w K mg base CX0 2 a.abs d.abs ["self"] (spAbs a) := by
  have G_lag := ok_lag (P := P) (w := w) (base := base) T
  refine okN T.F_abs scAbs (fun vs H Q E h => ?_) (fun cdv A outer s H vs Q E hr h => ?_)
  · obtain ⟨x, r, rfl, _⟩ := h
    rfl
  · obtain ⟨x, r, rfl, ⟨dx, od, h1, h2⟩, gr, lr, q⟩ := h
    refine ⟨_, (pss_one (ps_ret (pe_callB (cr_sum rfl) (by rfl) T.sum_ Tp.bt_sum (pa_cons (pe_lock (pe_lc (own := [("name", 1)]) (by rfl) scAbs.nd (pi_keys (pe_fld (pv 0) (by rfl))) (blkOk_by (own := [("name", 1)]) (N := scAbs_N) (sc := defScope scAbs_st) (by decide +kernel)) (fun _ _ _ _ _ => (pg_name (i := 1) scAbs.nd rfl (Or.inl rfl))) (fun _ _ _ _ _ => pts_nil) (fun _ _ _ _ _ => (pe_callB call_abs (by rfl) T.abs_ Tp.bt_abs (pa_cons (pe_meth (pv 0) T.cl_Lags T.me_lag G_lag (hr.mono (by decide)) T.b_lag .nil pass0 (pa_cons (pv 1) pa_nil)) pa_nil))))) pa_nil)))), ?_⟩
    have ne0 : x ≠ od := fun z => by rw [z, h2] at h1; cases h1
    refine ⟨od, .dK (kvR r), h2, trivial, fun o => ?_⟩
    have h1' : (upd H od (.frz o (.dK (kvR r)))) x = some (.ins a.CLags dx [("own_lags", .ref od)]) := by rw [upd_ne ne0]; exact h1
    refine ⟨_, rfl, x, _, _, _, _, rfl, h1', T.cl_Lags, T.nOwn, own_look, od, o, rfl, .inl ⟨_, upd_same, fun D hD => lc_it walk_keys (fun i H' => Same (upd H od (.frz o (.dK (kvR r)))) H' ∧ H' D = some (.lst ((((r.map (·.1)).take i).map fun n => absI (fnR r n)).map V.int))) ⟨same_new hD, upd_same⟩ ?_ ?_ ?_⟩⟩
    · rintro i H' _ ⟨S, _⟩
      exact S _ _ upd_same
    · rintro i v _ H' hi ⟨S, hD'⟩ ⟨rfl, k, u, hk, rfl⟩
      obtain ⟨e, he, e2⟩ : ∃ e, r[i]? = some e ∧ (k, u) = (Sum.inr e.1, V.int e.2) := by
        unfold kvR at hk
        rw [List.getElem?_map] at hk
        obtain ⟨e, h1, h2⟩ := Option.map_eq_some_iff.mp hk
        exact ⟨e, h1, h2.symm⟩
      cases e2
      have hn : (r.map (·.1))[i]? = some e.1 := by rw [List.getElem?_map, he]; rfl
      have lg := lag_lock h1 h2 S
      have lg2 := lg
      obtain ⟨dx1, od1, k1, _⟩ := lg2
      have hlen : ((((r.map (·.1)).take i).map fun n => absI (fnR r n)).map V.int).length < sizeLine := by
        rw [List.length_map, List.length_map, List.length_take, List.length_map]
        exact Nat.lt_of_le_of_lt (show _ ≤ 40 by omega) (by decide)
      refine ⟨rfl, _, rfl, x, _, _, rfl, k1, no_look (by decide), _, rfl, x, r, e.1, rfl, lg, _, rfl, _, hD', hlen, Tp.Same.mut S hD, ?_⟩
      rw [upd_same, List.take_add_one, hn, List.map_append, List.map_append]
      rfl
    · rintro H' ⟨S, hD'⟩
      refine ⟨S _ _ upd_same, ?_⟩
      rw [kvR_length, ← List.length_map (f := (·.1)), List.take_length] at hD'
      have nD : D ≠ od := fun z => by rw [z, upd_same] at hD; cases hD
      have hD2 : (upd H' od (.dK (kvR r))) D = some (.lst (((r.map (·.1)).map fun n => absI (fnR r n)).map V.int)) := by rw [upd_ne nD]; exact hD'
      exact ⟨D, _, rfl, SqL.of hD2, q _ (unlock_same h2 S)⟩
def belowB (r s : Row) : Bool := (bothN r s).all fun n => decide (fnR r n ≤ fnR s n)
def spBelow (a : Ad) : Sp := fun vs H Q _ => ∃ x y r s, vs = [.ref x, .ref y] ∧ LagAt a H x r ∧ LagAt a H y s ∧ r.length ≤ 40 ∧ s.length ≤ 40 ∧ ∀ H', Same H H' → Q (.bl (belowB r s)) H'
theorem ok_below (T : Txt K mg a d) : FnOk P w K mg base CX0 3 a.below d.below ["self", "other"] (spBelow a) := by
  have G_lag := ok_lag (P := P) (w := w) (base := base) T
  have G_both := ok_both (P := P) (w := w) (base := base) T
  refine okN T.F_below scBelow (fun vs H Q E h => ?_) (fun cdv A outer s H vs Q E hr h => ?_)
  · obtain ⟨x, y, r, t, rfl, _⟩ := h
    rfl
  · obtain ⟨x, y, r, t, rfl, lx, ly, lr, lt, q⟩ := h
    refine ⟨_, (pss_one (ps_ret (pe_callB (cr_all rfl) (by rfl) T.all_ Tp.bt_all (pa_cons (pe_lc (own := [("name", 2)]) (by rfl) scBelow.nd (pi_list (pe_meth (pv 0) T.cl_Lags T.me_both G_both (hr.mono (by decide)) T.b_both .nil pass0 (pa_cons (pv 1) pa_nil))) (blkOk_by (own := [("name", 2)]) (N := scBelow_N) (sc := defScope scBelow_st) (by decide +kernel)) (fun _ _ _ _ _ => (pg_name (i := 2) scBelow.nd rfl (Or.inl rfl))) (fun _ _ _ _ _ => pts_nil) (fun _ _ _ _ _ => (pe_cmpR op_le (pe_meth (pv 0) T.cl_Lags T.me_lag G_lag (hr.mono (by decide)) T.b_lag .nil pass0 (pa_cons (pv 2) pa_nil)) (pe_meth (pv 1) T.cl_Lags T.me_lag G_lag (hr.mono (by decide)) T.b_lag .nil pass0 (pa_cons (pv 2) pa_nil)) (nomark _)))) pa_nil)))), ?_⟩
    have lx' := lx
    obtain ⟨dx, ox, h1, h2⟩ := lx'
    refine ⟨_, rfl, x, _, _, rfl, h1, no_look (by decide), _, rfl, x, y, r, t, rfl, lx, ly, by omega, by omega, fun H1 p S1 g1 => ?_⟩
    refine ⟨p, rfl, ⟨_, SqL.of g1⟩, fun D hD => lc_it (walk_list (xs := (bothN r t).map V.str)) (fun i H' => Same H1 H' ∧ H' D = some (.lst ((((bothN r t).take i).map fun n => decide (fnR r n ≤ fnR t n)).map V.bl))) ⟨same_new hD, upd_same⟩ ?_ ?_ ?_⟩
    · rintro i H' _ ⟨S, _⟩
      exact SqL.of (S _ _ g1)
    · rintro i v _ H' hi ⟨S, hD'⟩ ⟨rfl, hv⟩
      rw [List.getElem?_map] at hv
      obtain ⟨n, hn, rfl⟩ := Option.map_eq_some_iff.mp hv
      have lx1 := (lx.same S1).same S
      have ly1 := (ly.same S1).same S
      have lx2 := lx1
      have ly2 := ly1
      obtain ⟨dx1, ox1, k1, k2⟩ := lx2
      obtain ⟨dy1, oy1, m1, m2⟩ := ly2
      have hlen : ((((bothN r t).take i).map fun n => decide (fnR r n ≤ fnR t n)).map V.bl).length < sizeLine := by
        rw [List.length_map, List.length_map, List.length_take]
        have := both_len r t
        exact Nat.lt_of_le_of_lt (show _ ≤ 80 by omega) (by decide)
      refine ⟨rfl, _, rfl, x, _, _, rfl, k1, no_look (by decide), _, rfl, x, r, n, rfl, lx1.rd, _, rfl, y, _, _, rfl, m1, no_look (by decide), _, rfl, y, t, n, rfl, ly1.rd, _, _, rfl, rfl, _, hD', hlen, Tp.Same.mut S hD, ?_⟩
      rw [upd_same, List.take_add_one, hn, List.map_append, List.map_append]
      rfl
    · rintro H' ⟨S, hD'⟩
      rw [List.length_map, List.take_length] at hD'
      refine ⟨D, _, rfl, SqL.of hD', ?_⟩
      show Q (.bl ((List.map _ _).all id)) H'
      rw [List.all_map]
      exact q _ fun b u hb => S _ _ (S1 _ _ hb)
end
end L31

set_option Elab.async false
set_option linter.all false
set_option maxRecDepth 100000
set_option maxHeartbeats 4000000
namespace L31
open PySem L2 Tp
section
variable {P : Program} {w : World} {K : PySem.W.Frag} {mg : Str → Option Value} {base : Heap} {a : Ad} {d : Fd}
/-! ### the law's own defs -/
def N6 : List Str := ["a", "aa", "b1", "g0", "zzzzzzzz", "x"]
def DrawnR (r : Row) : Prop := NdR r ∧ ∀ p ∈ r, p.1 ∈ N6 ∧ p.2.natAbs ≤ 10 ^ 29 + 10
theorem n6_nm : ∀ n ∈ N6, nmB n = true := by decide +kernel
theorem DrawnR.good {r : Row} (h : DrawnR r) : GoodR r := ⟨h.1, fun p hp => n6_nm _ (h.2 p hp).1⟩
theorem DrawnR.len {r : Row} (h : DrawnR r) : r.length ≤ 6 := by
  have nd : (r.map (·.1)).Nodup := h.1
  have := sub_len (m := N6) nd fun x hx => by
    obtain ⟨p, hp, e⟩ := List.mem_map.mp hx
    rw [← e]
    exact (h.2 p hp).1
  rw [List.length_map] at this
  exact this
theorem n6_ok : ∀ n ∈ N6, PyData.strOk n = true := by decide +kernel
theorem shaped_n6 {ws : List Str} (h : ∀ y ∈ ws, y ∈ N6) : SeqAt.shaped (.list (ws.map PyData.str)) = true := by
  have key : ∀ ws : List Str, (∀ y ∈ ws, y ∈ N6) → PyData.canLayAll0 (ws.map PyData.str) = true ∧ PyData.depthAll (ws.map PyData.str) = 0 := by
    intro ws
    induction ws with
    | nil => intro _; exact ⟨by simp [PyData.canLayAll0], by simp [PyData.depthAll]⟩
    | cons y ys ih =>
      intro h
      obtain ⟨i1, i2⟩ := ih fun z hz => h z (List.mem_cons_of_mem _ hz)
      have k := n6_ok y (h y List.mem_cons_self)
      exact ⟨by simp [PyData.canLayAll0, PyData.canLay0, k, i1], by simp [PyData.depthAll, PyData.depth, i2]⟩
  obtain ⟨k1, k2⟩ := key ws h
  unfold SeqAt.shaped
  simp [PyData.canLay0, PyData.depth, k1, k2]
theorem erase_map {α β : Type} (f : α → β) : ∀ (l : List α) (k : Nat), (l.map f).eraseIdx k = (l.eraseIdx k).map f
  | [], _ => rfl
  | _ :: _, 0 => rfl
  | x :: l, k + 1 => by
    rw [List.map_cons, List.eraseIdx_cons_succ, List.eraseIdx_cons_succ, List.map_cons, erase_map f l k]
theorem mem_put {r : Row} {x : Str} {i : Int} {e : Str × Int} (h : e ∈ putR r x i) : e ∈ r ∨ e = (x, i) := by
  unfold putR at h
  split at h
  · obtain ⟨p, hp, rfl⟩ := List.mem_map.mp h
    by_cases z : p.1 = x
    · rw [if_pos z, z]; exact .inr rfl
    · rw [if_neg z]; exact .inl hp
  · rcases List.mem_append.mp h with h | h
    · exact .inl h
    · exact .inr (List.mem_singleton.mp h)
def spDrawn : Sp := fun vs H Q _ => ∃ (b : Addr) (n : Nat), vs = [.ref b] ∧ BoxAt b n H ∧ n < 900000 ∧ ∀ H' p r, H p = none → Kp b H H' → BoxAt b (n + 100) H' → H' p = some (.dK (kvR r)) → DrawnR r → Q (.ref p) H'
theorem ok_drawn (T : Txt K mg a d) : FnG P w K mg base CX0 2 a.drawn d.drawn ["_law_bag_here"] spDrawn := by
  have G_take := ok_take (P := P) (w := w) (base := base) T
  refine okG T.F_drawn scDrawn (fun vs H Q E h => ?_) (fun cdv A outer s H vs Q E hr hg h => ?_)
  · obtain ⟨b, n, rfl, _⟩ := h
    rfl
  · obtain ⟨b, n, rfl, bx, hn, q⟩ := h
    refine ⟨_, (pss_cons (ps_set (i := 1) scDrawn.nd rfl (Or.inl rfl) (pe_lst (pa_cons pe_str (pa_cons pe_str (pa_cons pe_str (pa_cons pe_str (pa_cons pe_str (pa_cons pe_str pa_nil))))))))
      (pss_cons (ps_par (i := 2) (j := 3) (by rfl) scDrawn.nd rfl rfl (by decide) rfl rfl (pa_cons pe_dnewK (pa_cons (pe_lc (own := [("_law_name", 4)]) (by rfl) scDrawn.nd (pi_list (pv 1)) (blkOk_by (own := [("_law_name", 4)]) (N := scDrawn_N) (sc := defScope scDrawn_st) (by decide +kernel)) (fun _ _ _ _ _ => (pg_name (i := 4) scDrawn.nd rfl (Or.inl rfl))) (fun _ _ _ _ _ => (pts_one (pt_cmpR op_gt (Tp.pe_callG G_take (hr.mono (by decide)) hg (by rfl) T.mg_take T.F_take.kp T.b_take .nil pass0 (pa_cons (pv 0) (pa_cons pe_int pa_nil))) pe_int (nomark _)))) (fun _ _ _ _ _ => (pv 4))) pa_nil)) (by rfl))
      (pss_cons (ps_while PassesOwn.never (pt_cmpR (op_neD hr.units) (pv 3) (pe_lst pa_nil) (nomark _)) (pss_cons (ps_par (i := 4) (j := 5) (by rfl) scDrawn.nd rfl rfl (by decide) rfl rfl (pa_cons (pe_bm PySem.F.plainAttrs_list PySem.F.slot_list_pop PySem.F.type_list_pop mt_popAt (pv 3) (pa_cons (Tp.pe_callG G_take (hr.mono (by decide)) hg (by rfl) T.mg_take T.F_take.kp T.b_take .nil pass0 (pa_cons (pv 0) (pa_cons (pe_callB call_len_seq (by rfl) T.len_ Tp.bt_len (pa_cons (pv 3) pa_nil)) pa_nil))) pa_nil)) (pa_cons (Tp.pe_callG G_take (hr.mono (by decide)) hg (by rfl) T.mg_take T.F_take.kp T.b_take .nil pass0 (pa_cons (pv 0) (pa_cons pe_int pa_nil))) pa_nil)) (by rfl))
      (pss_one (ps_dput (Tp.hu1 hr) (pv 2) (pv 4) (pe_ix ix_list (pe_lst (pa_cons pe_int (pa_cons pe_int (pa_cons (pe_un un_neg pe_int) (pa_cons (pe_op op_sub (Tp.pe_callG G_take (hr.mono (by decide)) hg (by rfl) T.mg_take T.F_take.kp T.b_take .nil pass0 (pa_cons (pv 0) (pa_cons pe_int pa_nil))) pe_int) (pa_cons (pe_op op_sub (pe_op op_pow pe_int pe_int) (Tp.pe_callG G_take (hr.mono (by decide)) hg (by rfl) T.mg_take T.F_take.kp T.b_take .nil pass0 (pa_cons (pv 0) (pa_cons pe_int pa_nil)))) (pa_cons (pe_op op_sub pe_int (pe_op op_pow pe_int pe_int)) pa_nil))))))) (pv 5) (fun _ _ => rfl)) rfl))))
      (pss_one (ps_ret (pv 2)))))), ?_⟩
    refine ⟨(show 6 ≤ sizeLine from by decide), fun ln hln => ?_⟩
    generalize hH1 : upd H ln _ = H1
    have S1 : Same H H1 := by rw [← hH1]; exact same_new hln
    have h1 : H1 ln = some (.lst (N6.map V.str)) := by rw [← hH1]; exact upd_same
    refine fun fd hfd => ?_
    generalize hH2 : upd H1 fd _ = H2
    have S2 : Same H1 H2 := by rw [← hH2]; exact same_new hfd
    have h2 : H2 fd = some (.dK (kvR [])) := by rw [← hH2]; exact upd_same
    have bx2 := (bx.same S1).same S2
    have nfd : fd ≠ b := (bx.same S1).ne hfd
    refine ⟨_, rfl, ln, rfl, ⟨_, SqL.of (S2 _ _ h1)⟩, fun D hD => lc_list (K := K) (a := ln) (xs := N6.map V.str) (fun i H' => Kp b H2 H' ∧ BoxAt b (n + i) H' ∧ ∃ ys : List Str, H' D = some (.lst (ys.map V.str)) ∧ List.Sublist ys (N6.take i)) ⟨Kp.new hD, (bx2.same (same_new hD)), [], upd_same, List.Sublist.refl _⟩ (fun i H' _ h => SqL.of (h.1 _ _ ?_ (S2 _ _ h1))) ?_ ?_⟩
    · exact bx.ne hln
    · rintro i x H' hx ⟨kp, bx3, ys, hD', sub⟩
      rw [List.getElem?_map] at hx
      obtain ⟨nm, hnm, rfl⟩ := Option.map_eq_some_iff.mp hx
      have hi : i < 6 := (List.getElem?_eq_some_iff.mp hnm).1
      have nD : D ≠ b := bx2.ne hD
      have take : N6.take (i + 1) = N6.take i ++ [nm] := by rw [List.take_add_one, hnm]; rfl
      refine ⟨rfl, _, rfl, b, 3, n + i, rfl, bx3, by omega, by decide, by decide, fun r H3 r0 r1 kp3 bx4 => ⟨_, _, rfl, rfl, _, rfl, if2 (fun c => ?_) (fun c => ?_)⟩⟩
      · refine ⟨_, rfl, _, kp3 _ _ nD hD', ?_, (kp.trans kp3).mut hD, bx4.off nD, ys ++ [nm], ?_, ?_⟩
        · rw [List.length_map]
          have := sub.length_le
          rw [List.length_take] at this
          exact Nat.lt_of_le_of_lt (show _ ≤ 6 by omega) (by decide)
        · rw [upd_same, List.map_append]
          rfl
        · rw [take]
          exact sub.append (List.Sublist.refl _)
      · refine ⟨kp.trans kp3, bx4, ys, kp3 _ _ nD hD', ?_⟩
        rw [take]
        exact sub.trans (List.sublist_append_left _ _)
    · rintro H3 ⟨kp, bx3, ys, hD', sub⟩
      have nD : D ≠ b := bx2.ne hD
      have sub : List.Sublist ys N6 := sub
      refine ⟨_, _, rfl, ?_⟩
      have kpD : Kp b H H3 := fun x u nx hx => kp _ _ nx (S2 _ _ (S1 _ _ hx))
      have hfd0 : H fd = none := by
        cases e : H fd with
        | none => rfl
        | some u => rw [S1 _ _ e] at hfd; cases hfd
      have hD0 : H D = none := by
        cases e : H D with
        | none => rfl
        | some u => rw [S2 _ _ (S1 _ _ e)] at hD; cases hD
      have nDf : D ≠ fd := fun z => by rw [z, h2] at hD; cases hD
      refine ⟨fun m σ H' => ∃ (ys : List Str) (fr : Row) (n' : Nat), m = ys.length ∧ (∃ v4 v5, σ = [some (.ref b), some (.ref ln), some (.ref fd), some (.ref D), v4, v5]) ∧ H' D = some (.lst (ys.map V.str)) ∧ H' fd = some (.dK (kvR fr)) ∧ DrawnR fr ∧ (∀ y ∈ ys, y ∈ N6) ∧ ys.length ≤ 6 ∧ BoxAt b n' H' ∧ n' + 6 * ys.length ≤ n + 60 ∧ Kp b H H',
        ⟨_, ys, [], n + 6, rfl, ⟨_, _, rfl⟩, hD', kp _ _ nfd h2, ⟨List.nodup_nil, fun p hp => nomatch hp⟩, fun y hy => sub.subset hy, sub.length_le, bx3, ?_, kpD⟩, ?_⟩
      · have := sub.length_le
        have : N6.length = 6 := rfl
        omega
      · rintro m σ H' ⟨ys, fr, n', rfl, ⟨v4, v5, rfl⟩, hL, hF, dr, mem, l6, bx', cnt, kpH⟩
        refine ⟨_, rfl, (show 0 ≤ sizeLine from by decide), fun e he => ?_⟩
        have Se : Same H' (upd H' e (.lst [])) := same_new he
        have hE : (upd H' e (.lst [])) e = some (.lst []) := upd_same
        generalize upd H' e (.lst []) = H4 at Se hE
        cases ys with
        | nil =>
          refine ⟨.list [], .list [], .lst (SqL.of (Se _ _ hL)) .nil, .lst (SqL.of hE) .nil, by decide, by decide, _, rfl, iteF ?_⟩
          exact ⟨_, rfl, q _ fd fr hfd0 (fun x u nx hx => Se _ _ (kpH _ _ nx hx)) ((bx'.same Se).up (by simp at cnt; omega)) (Se _ _ hF) dr⟩
        | cons y ys =>
          refine ⟨.list ((y :: ys).map PyData.str), .list [], .lst (SqL.of (Se _ _ hL)) (dp_strs _), .lst (SqL.of hE) .nil, ?_, by decide, _, rfl, iteT ?_⟩
          · exact shaped_n6 mem
          · have bx4 := bx'.same Se
            have nD' : D ≠ b := nD
            refine ⟨fun σ' H5 => ∃ (zs : List Str) (fr : Row) (n' : Nat), zs.length = ys.length ∧ (∃ v4 v5, σ' = [some (.ref b), some (.ref ln), some (.ref fd), some (.ref D), v4, v5]) ∧ H5 D = some (.lst (zs.map V.str)) ∧ H5 fd = some (.dK (kvR fr)) ∧ DrawnR fr ∧ (∀ y ∈ zs, y ∈ N6) ∧ zs.length ≤ 6 ∧ BoxAt b n' H5 ∧ n' + 6 * zs.length ≤ n + 60 ∧ Kp b H H5, ?_, ?_⟩
            · rintro σ' H5 ⟨zs, fr, n', e1, e2⟩
              exact ⟨zs.length, by rw [e1]; exact Nat.lt_succ_self _, zs, fr, n', rfl, e2⟩
            · have hL4 := Se _ _ hL
              refine ⟨_, rfl, .inl ⟨rfl, _, SqL.of hL4⟩, _, rfl, _, rfl, D, _, rfl, .inl (SqL.of hL4), ?_⟩
              refine ⟨b, _, n', rfl, bx4, by omega, by simp, by simp at l6 ⊢; omega, fun r H5 r0 r1 kp5 bx5 => ?_⟩
              have hL5 := kp5 _ _ nD hL4
              rw [List.length_map] at r1
              obtain ⟨v, hv, _⟩ := at_some (P := fun v => True) (xs := (y :: ys).map V.str) (r := r) (fun _ _ => trivial) r0 (by rw [List.length_map]; exact r1)
              obtain ⟨k, hk1, hk2, hk3, _, _⟩ := atI_get hv
              obtain ⟨nm, hnm, rfl⟩ := Option.map_eq_some_iff.mp ((List.getElem?_map ..).symm.trans hk2)
              have r2 : r < 2 ^ 63 := by simp at l6 r1; omega
              refine ⟨D, _, r, k, _, rfl, rfl, hL5, by omega, r2, hk1, hk2, ?_⟩
              have hL6 : (upd H5 D (.lst (((y :: ys).map V.str).eraseIdx k))) D = some (.lst (((y :: ys).eraseIdx k).map V.str)) := by rw [upd_same]; congr 2; exact erase_map _ _ _
              have kp6 : Kp D H5 (upd H5 D (.lst (((y :: ys).map V.str).eraseIdx k))) := Kp.box
              have bx6 : BoxAt b (n' + 1) (upd H5 D (.lst (((y :: ys).map V.str).eraseIdx k))) := bx5.off nD
              generalize upd H5 D (.lst (((y :: ys).map V.str).eraseIdx k)) = H6 at hL6 kp6 bx6
              refine ⟨_, rfl, b, 6, n' + 1, rfl, bx6, by omega, by decide, by decide, fun way H7 w0 w1 kp7 bx7 => ?_⟩
              refine ⟨_, _, rfl, ?_⟩
              refine ⟨_, rfl, _, rfl, b, 9, n' + 2, rfl, bx7, by omega, by decide, by decide, fun r8 H8 a0 a1 kp8 bx8 => ⟨_, _, rfl, rfl, _, _, rfl, rfl, ⟨by decide, by decide, by decide⟩, _, rfl, b, 9, n' + 3, rfl, bx8, by omega, by decide, by decide, fun r9 H9 c0 c1 kp9 bx9 => ?_⟩⟩
              refine ⟨_, _, rfl, rfl, _, _, rfl, rfl, ⟨by decide, by decide, by decide⟩, _, _, rfl, rfl, (show 6 ≤ sizeLine from by decide), fun L hL9 => ?_⟩
              generalize hxs : ([_, _, _, _, _, _] : List V) = xs at hL9 ⊢
              have each : ∀ v ∈ xs, ∃ i : Int, v = .int i ∧ i.natAbs ≤ 10 ^ 29 + 10 := by
                subst hxs
                intro v hv
                simp only [List.mem_cons, List.not_mem_nil, or_false] at hv
                rcases hv with rfl | rfl | rfl | rfl | rfl | rfl
                · exact ⟨_, rfl, by decide⟩
                · exact ⟨_, rfl, by decide⟩
                · exact ⟨_, rfl, by decide⟩
                · exact ⟨_, rfl, by omega⟩
                · refine ⟨_, rfl, ?_⟩
                  have e29 : (10 : Int) ^ (29 : Int).toNat = 100000000000000000000000000000 := by decide
                  rw [e29]
                  omega
                · refine ⟨_, rfl, ?_⟩
                  have e29 : (10 : Int) ^ (29 : Int).toNat = 100000000000000000000000000000 := by decide
                  rw [e29]
                  omega
              have hlen : xs.length = 6 := by rw [← hxs]; rfl
              obtain ⟨v, hv', i, rfl, hib⟩ := at_some each w0 (by rw [hlen]; exact w1)
              have fdb : fd ≠ b := nfd
              have hF9 : H9 fd = some (.dK (kvR fr)) := kp9 _ _ fdb (kp8 _ _ fdb (kp7 _ _ fdb (kp6 _ _ (Ne.symm nDf) (kp5 _ _ fdb (Se _ _ hF)))))
              have hD9 : H9 D = some (.lst (((y :: ys).eraseIdx k).map V.str)) := kp9 _ _ nD (kp8 _ _ nD (kp7 _ _ nD hL6))
              have SL : Same H9 (upd H9 L (.lst xs)) := same_new hL9
              have hLL : (upd H9 L (.lst xs)) L = some (.lst xs) := upd_same
              generalize upd H9 L (.lst xs) = HL at SL hLL ⊢
              have hl2 : (kvR fr).length < sizeLine := by
                rw [kvR_length]
                exact Nat.lt_of_le_of_lt dr.len (by decide)
              refine ⟨_, rfl, L, xs, way, _, rfl, rfl, SqL.of hLL, hv', _, rfl, _, rfl, fd, _, rfl, .inl ⟨_, Sum.inr nm, SL _ _ hF9, rfl, hl2, rfl⟩, ?_⟩
              have ekl : ((y :: ys).eraseIdx k).length = ys.length := by
                rw [List.length_eraseIdx]
                have : k < (y :: ys).length := (List.getElem?_eq_some_iff.mp hnm).1
                rw [if_pos this]
                rfl
              refine ⟨(y :: ys).eraseIdx k, putR fr nm i, n' + 4, ekl, ⟨_, _, rfl⟩, ?_, ?_, ⟨nd_put dr.1 _ _, fun e he => ?_⟩, fun z hz => mem z ((List.eraseIdx_sublist _ _).subset hz), ?_, ?_, ?_, ?_⟩
              · rw [upd_ne nDf]
                exact SL _ _ hD9
              · rw [upd_same, put_kvR]
              · rcases mem_put he with h | rfl
                · exact dr.2 e h
                · exact ⟨mem _ (List.mem_of_getElem? hnm), hib⟩
              · rw [ekl]
                simp at l6
                omega
              · exact (bx9.same SL).off nfd
              · rw [ekl]
                simp at cnt
                omega
              · refine Kp.mut (fun x u nx hx => ?_) hfd0
                have nxD : x ≠ D := fun z => by rw [z, hD0] at hx; cases hx
                exact SL _ _ (kp9 _ _ nx (kp8 _ _ nx (kp7 _ _ nx (kp6 _ _ nxD (kp5 _ _ nx (Se _ _ (kpH _ _ nx hx)))))))
end
end L31

set_option Elab.async false
set_option linter.all false
set_option maxRecDepth 100000
set_option maxHeartbeats 4000000
namespace L31
open PySem L2 Tp
section
variable {P : Program} {w : World} {K : PySem.W.Frag} {mg : Str → Option Value} {base : Heap} {a : Ad} {d : Fd}
def spRowsL : Sp := fun vs H Q _ => ∃ (p : Addr) (r : Row), vs = [.ref p] ∧ H p = some (.dK (kvR r)) ∧ NdR r ∧ r.length ≤ 100 ∧ ∀ H' q, Same H H' → H q = none → H' q = some (.dK (kvR (nzR r))) → Q (.ref q) H'
theorem nz_take {r : Row} (nd : NdR r) {i : Nat} {e : Str × Int} (hi : r[i]? = some e) (z : e.2 ≠ 0) : putK (kvR (nzR (r.take i))) (Sum.inr e.1) (.int e.2) = kvR (nzR (r.take (i + 1))) := by
  rw [put_kvR, put_new, List.take_add_one, hi]
  · unfold nzR
    rw [List.filter_append]
    simp [z]
  · intro q
    obtain ⟨p, hp, e2⟩ := List.mem_map.mp q
    obtain ⟨j, hj, ej⟩ := List.mem_iff_getElem.mp (List.mem_filter.mp hp).1
    rw [List.length_take] at hj
    rw [List.getElem_take] at ej
    obtain ⟨hlt, e3⟩ := List.getElem?_eq_some_iff.mp hi
    have nd' : (r.map (·.1)).Nodup := nd
    refine (List.pairwise_iff_getElem.mp nd') j i (by rw [List.length_map]; omega) (by rw [List.length_map]; exact hlt) (by omega) ?_
    rw [List.getElem_map, List.getElem_map, ej, e3, e2]
theorem nz_skip {r : Row} {i : Nat} {e : Str × Int} (hi : r[i]? = some e) (z : e.2 = 0) : nzR (r.take (i + 1)) = nzR (r.take i) := by
  rw [List.take_add_one, hi]
  unfold nzR
  rw [List.filter_append]
  simp [z]
theorem kv_at {r : Row} {i : Nat} {k : Key} {v : V} (h : (kvR r)[i]? = some (k, v)) : ∃ e, r[i]? = some e ∧ (k, v) = (Sum.inr e.1, V.int e.2) := by
  unfold kvR at h
  rw [List.getElem?_map] at h
  obtain ⟨e, h1, h2⟩ := Option.map_eq_some_iff.mp h
  exact ⟨e, h1, h2.symm⟩
theorem ok_rowsL (T : Txt K mg a d) : FnG P w K mg base CX0 1 a.rowsL d.rowsL ["_law_rows_here"] spRowsL := by
  refine okG T.F_rowsL scRowsL (fun vs H Q E h => ?_) (fun cdv A outer s H vs Q E hr hg h => ?_)
  · obtain ⟨p, r, rfl, _⟩ := h
    rfl
  · obtain ⟨p, r, rfl, hp, nd, lr, q⟩ := h
    refine ⟨_, (pss_cons (ps_set (i := 1) scRowsL.nd rfl (Or.inl rfl) pe_dnewK)
      (pss_cons (ps_lock (ps_for PassesOwn.never rfl (pi_keys (pv 0)) (pg_name (i := 2) scRowsL.nd rfl (Or.inl rfl)) (pss_one (ps_if (pt_cmpR op_ne (pe_dget (Tp.hu1 hr) (pv 0) (pv 2) (fun _ _ => rfl)) pe_int (nomark _)) (pss_one (ps_dput (Tp.hu1 hr) (pv 1) (pv 2) (pe_dget (Tp.hu1 hr) (pv 0) (pv 2) (fun _ _ => rfl)) rfl)) pss_nil))))
      (pss_one (ps_ret (pv 1))))), ?_⟩
    refine fun fd hfd => ?_
    have S1 : Same H (upd H fd (.dK [])) := same_new hfd
    have h1 : (upd H fd (.dK [])) fd = some (.dK (kvR [])) := upd_same
    generalize upd H fd (.dK []) = H1 at S1 h1
    have hp1 := S1 _ _ hp
    have ne : fd ≠ p := fun z => by rw [z, hp] at hfd; cases hfd
    refine ⟨p, .dK (kvR r), hp1, trivial, fun o => ⟨_, rfl, p, o, rfl, .inl ⟨kvR r, upd_same, for_it walk_keys (fun i σ H' => (∃ v, σ = [some (.ref p), some (.ref fd), v]) ∧ H' p = some (.frz o (.dK (kvR r))) ∧ H' fd = some (.dK (kvR (nzR (r.take i)))) ∧ ∀ b u, H b = some u → b ≠ p → H' b = some u) ⟨⟨_, rfl⟩, upd_same, ?_, ?_⟩ ?_ ?_ ?_⟩⟩⟩
    · rw [upd_ne ne]
      exact h1
    · intro b u hb nb
      rw [upd_ne nb]
      exact S1 _ _ hb
    · rintro i σ H' _ ⟨_, h, _⟩
      exact h
    · rintro i y σ _ H' hi ⟨⟨v, rfl⟩, hP, hF, kp⟩ ⟨rfl, k, u, hk, rfl⟩
      have hv := val_at (kv_nd nd) hk
      obtain ⟨e, he, e2⟩ := kv_at hk
      cases e2
      have dget : DGet H' p (.str e.1) (some (.int e.2)) := .inl ⟨_, Sum.inr e.1, .inr ⟨o, hP⟩, rfl, hv.symm⟩
      have hlen : (kvR (nzR (r.take i))).length < sizeLine := by
        rw [kvR_length]
        have l1 := List.length_filter_le (fun p : Str × Int => decide (p.2 ≠ 0)) (r.take i)
        rw [List.length_take] at l1
        exact Nat.lt_of_le_of_lt (show _ ≤ 100 by unfold nzR; omega) (by decide)
      refine ⟨_, rfl, _, rfl, p, _, rfl, dget, rfl, _, rfl, ifn2 (fun z => ?_) (fun z => ?_)⟩
      · have z : e.2 = 0 := V.int.inj z
        refine ⟨⟨_, rfl⟩, hP, ?_, kp⟩
        rw [nz_skip he z]
        exact hF
      · have z : e.2 ≠ 0 := fun k => z (by rw [k])
        refine ⟨_, rfl, _, rfl, p, _, rfl, dget, _, rfl, _, rfl, fd, _, rfl, .inl ⟨_, Sum.inr e.1, hF, rfl, hlen, rfl⟩, ⟨_, rfl⟩, ?_, ?_, ?_⟩
        · rw [upd_ne (Ne.symm ne)]
          exact hP
        · rw [upd_same, nz_take nd he z]
        · intro b u hb nb
          rw [upd_ne (fun z => by rw [z, hfd] at hb; cases hb)]
          exact kp _ _ hb nb
    · rintro σ H' ⟨⟨v, rfl⟩, hP, hF, kp⟩
      rw [kvR_length, List.take_length] at hF
      refine ⟨hP, _, rfl, q _ fd (fun b u hb => ?_) hfd (by rw [upd_ne ne]; exact hF)⟩
      by_cases z : b = p
      · rw [z, upd_same, ← hp, ← z, hb]
      · rw [upd_ne z]
        exact kp _ _ hb z
end
end L31

set_option Elab.async false
set_option linter.all false
set_option maxRecDepth 100000
set_option maxHeartbeats 4000000
namespace L31
open PySem L2 Tp
section
variable {P : Program} {w : World} {K : PySem.W.Frag} {mg : Str → Option Value} {base : Heap} {a : Ad} {d : Fd}
def gW (way : Int) (i j : Int) : Int := if way = 0 then (if j > i then j else i) else if way = 1 then (if j < i then j else i) else if way = 2 then i + j else i - j
def spJoined : Sp := fun vs H Q _ => ∃ (p1 p2 : Addr) (r s : Row) (way : Int), vs = [.ref p1, .ref p2, .int way] ∧ 0 ≤ way ∧ way < 4 ∧ H p1 = some (.dK (kvR r)) ∧ H p2 = some (.dK (kvR s)) ∧ r.length ≤ 20 ∧ s.length ≤ 20 ∧
  ∀ H' q j, Same H H' → H q = none → H' q = some (.dK (kvR j)) → NdR j → FullR j → (∀ n, fnR j n = gW way (fnR r n) (fnR s n)) → (∀ e ∈ j, e.1 ∈ r.map (·.1) ∨ e.1 ∈ s.map (·.1)) → Q (.ref q) H'
theorem gW0 (way : Int) : gW way 0 0 = 0 := by
  unfold gW
  repeat' split
  all_goals first | rfl | omega
theorem length_put (r : Row) (x : Str) (i : Int) : (putR r x i).length ≤ r.length + 1 := by
  unfold putR
  split
  · rw [List.length_map]; omega
  · rw [List.length_append]; exact Nat.le_refl _
theorem ok_joined (T : Txt K mg a d) : FnG P w K mg base CX0 2 a.joined d.joined ["_law_one", "_law_other", "_law_way"] spJoined := by
  have G_rowsL := ok_rowsL (P := P) (w := w) (base := base) T
  refine okG T.F_joined scJoined (fun vs H Q E h => ?_) (fun cdv A outer s H vs Q E hr hg h => ?_)
  · obtain ⟨p1, p2, r, t, way, rfl, _⟩ := h
    rfl
  · obtain ⟨p1, p2, r, t, way, rfl, w0, w1, h1, h2, lr, lt, q⟩ := h
    refine ⟨_, (pss_cons (ps_set (i := 3) scJoined.nd rfl (Or.inl rfl) pe_dnewK)
      (pss_cons (ps_for PassesOwn.never rfl (pi_list (pe_op op_cat (pe_callTy (call_listD rfl) (by rfl) T.list_ Tp.bt_list (pa_cons (pv 0) pa_nil)) (pe_callTy (call_listD rfl) (by rfl) T.list_ Tp.bt_list (pa_cons (pv 1) pa_nil)))) (pg_name (i := 4) scJoined.nd rfl (Or.inl rfl)) (pss_cons (ps_par (i := 5) (j := 6) (by rfl) scJoined.nd rfl rfl (by decide) rfl rfl (pa_cons (pe_dget2 (Tp.hu1 hr) (pv 0) (pv 4) pe_int ⟨rfl, rfl, rfl, rfl⟩) (pa_cons (pe_dget2 (Tp.hu1 hr) (pv 1) (pv 4) pe_int ⟨rfl, rfl, rfl, rfl⟩) pa_nil)) (by rfl))
      (pss_one (ps_dput (Tp.hu1 hr) (pv 3) (pv 4) (pe_ix ix_list (pe_lst (pa_cons (pe_callB (call_max2 rfl) (by rfl) T.max_ Tp.bt_max (pa_cons (pv 5) (pa_cons (pv 6) pa_nil))) (pa_cons (pe_callB (call_min2 rfl) (by rfl) T.min_ Tp.bt_min (pa_cons (pv 5) (pa_cons (pv 6) pa_nil))) (pa_cons (pe_op op_add (pv 5) (pv 6)) (pa_cons (pe_op op_sub (pv 5) (pv 6)) pa_nil))))) (pv 2) (fun _ _ => rfl)) rfl))))
      (pss_one (ps_ret (Tp.pe_callG G_rowsL (hr.mono (by decide)) hg (by rfl) T.mg_rowsL T.F_rowsL.kp T.b_rowsL .nil pass0 (pa_cons (pv 3) pa_nil)))))), ?_⟩
    refine fun fd hfd => ?_
    have S1 : Same H (upd H fd (.dK [])) := same_new hfd
    have hF : (upd H fd (.dK [])) fd = some (.dK (kvR [])) := upd_same
    generalize upd H fd (.dK []) = H1 at S1 hF
    refine ⟨_, rfl, p1, _, rfl, .inl (S1 _ _ h1), fun l1 hl1 => ⟨_, rfl, p2, _, rfl, .inl (same_new hl1 _ _ (S1 _ _ h2)), fun l2 hl2 => ?_⟩⟩
    have S2 : Same H1 (upd H1 l1 (.lst ((kvR r).map fun kv => kV kv.1))) := same_new hl1
    have g1 : (upd H1 l1 (.lst ((kvR r).map fun kv => kV kv.1))) l1 = some (.lst ((r.map (·.1)).map V.str)) := by rw [upd_same, kv_keys]
    generalize upd H1 l1 (.lst ((kvR r).map fun kv => kV kv.1)) = H2 at S2 g1 hl2
    have S3 : Same H2 (upd H2 l2 (.lst ((kvR t).map fun kv => kV kv.1))) := same_new hl2
    have g2 : (upd H2 l2 (.lst ((kvR t).map fun kv => kV kv.1))) l2 = some (.lst ((t.map (·.1)).map V.str)) := by rw [upd_same, kv_keys]
    generalize upd H2 l2 (.lst ((kvR t).map fun kv => kV kv.1)) = H3 at S3 g2
    refine ⟨l1, l2, _, _, rfl, rfl, S3 _ _ g1, g2, ?_, fun l3 hl3 => ?_⟩
    · rw [List.length_map, List.length_map, List.length_map, List.length_map]
      exact Nat.le_trans (show _ ≤ 40 by omega) (by decide)
    rw [← List.map_append]
    have S4 : Same H3 (upd H3 l3 (.lst ((r.map (·.1) ++ t.map (·.1)).map V.str))) := same_new hl3
    have g3 : (upd H3 l3 (.lst ((r.map (·.1) ++ t.map (·.1)).map V.str))) l3 = some (.lst ((r.map (·.1) ++ t.map (·.1)).map V.str)) := upd_same
    generalize upd H3 l3 (.lst ((r.map (·.1) ++ t.map (·.1)).map V.str)) = H4 at S4 g3 ⊢
    have S0 : Same H1 H4 := fun b u hb => S4 _ _ (S3 _ _ (S2 _ _ hb))
    have nl : l3 ≠ fd := fun z => by rw [z, S3 _ _ (S2 _ _ hF)] at hl3; cases hl3
    refine ⟨l3, rfl, ⟨_, SqL.of g3⟩, for_it (walk_list (xs := (r.map (·.1) ++ t.map (·.1)).map V.str)) (fun i σ H' => (∃ v4 v5 v6, σ = [some (.ref p1), some (.ref p2), some (.int way), some (.ref fd), v4, v5, v6]) ∧ H' l3 = some (.lst ((r.map (·.1) ++ t.map (·.1)).map V.str)) ∧ Same H H' ∧
      ∃ fr : Row, H' fd = some (.dK (kvR fr)) ∧ NdR fr ∧ fr.length ≤ i ∧ ∀ n, atR fr n = if n ∈ (r.map (·.1) ++ t.map (·.1)).take i then some (gW way (fnR r n) (fnR t n)) else none) ⟨⟨_, _, _, rfl⟩, g3, fun b u hb => S0 _ _ (S1 _ _ hb), [], S0 _ _ hF, List.nodup_nil, Nat.le_refl _, fun n => rfl⟩ ?_ ?_ ?_⟩
    · rintro i σ H' _ ⟨_, h, _⟩
      exact SqL.of h
    · rintro i y σ _ H' hi ⟨⟨v4, v5, v6, rfl⟩, hL, SH, fr, hf, nd, lf, ha⟩ ⟨rfl, hy⟩
      rw [List.getElem?_map] at hy
      obtain ⟨n, hn, rfl⟩ := Option.map_eq_some_iff.mp hy
      have d1 := SH _ _ h1
      have d2 := SH _ _ h2
      refine ⟨_, rfl, p1, rfl, .inl ⟨_, .inl d1⟩, _, rfl, (atR r n).map V.int, .inl ⟨_, Sum.inr n, .inl d1, rfl, (val_kvR n r).symm⟩, ?_⟩
      rw [get_row]
      refine ⟨_, rfl, p2, rfl, .inl ⟨_, .inl d2⟩, _, rfl, (atR t n).map V.int, .inl ⟨_, Sum.inr n, .inl d2, rfl, (val_kvR n t).symm⟩, ?_⟩
      rw [get_row]
      refine ⟨_, _, rfl, ?_⟩
      refine ⟨_, rfl, _, rfl, _, _, rfl, _, rfl, _, rfl, _, _, rfl, _, rfl, _, rfl, _, _, rfl, rfl, _, rfl, _, rfl, _, _, rfl, rfl, (show 4 ≤ sizeLine from by decide), fun L hL9 => ?_⟩
      generalize hxs : ([_, _, _, _] : List V) = xs at hL9 ⊢
      have hat : atI xs way = some (.int (gW way (fnR r n) (fnR t n))) := by
        rw [← hxs]
        have : way = 0 ∨ way = 1 ∨ way = 2 ∨ way = 3 := by omega
        rcases this with rfl | rfl | rfl | rfl
        · exact atI_nat (j := 0) rfl
        · exact atI_nat (j := 1) rfl
        · exact atI_nat (j := 2) rfl
        · exact atI_nat (j := 3) rfl
      have SL : Same H' (upd H' L (.lst xs)) := same_new hL9
      have hLL : (upd H' L (.lst xs)) L = some (.lst xs) := upd_same
      generalize upd H' L (.lst xs) = HL at SL hLL ⊢
      have hi2 : i < 40 := by
        rw [List.length_map, List.length_append, List.length_map, List.length_map] at hi
        omega
      have hl2 : (kvR fr).length < sizeLine := by
        rw [kvR_length]
        exact Nat.lt_of_le_of_lt (show _ ≤ 40 by omega) (by decide)
      refine ⟨_, rfl, L, xs, way, _, rfl, rfl, SqL.of hLL, hat, _, rfl, _, rfl, fd, _, rfl, .inl ⟨_, Sum.inr n, SL _ _ hf, rfl, hl2, rfl⟩, ⟨_, _, _, rfl⟩, ?_, ?_, putR fr n (gW way (fnR r n) (fnR t n)), ?_, nd_put nd _ _, ?_, fun m => ?_⟩
      · rw [upd_ne nl]
        exact SL _ _ hL
      · exact Tp.Same.mut (fun b u hb => SL _ _ (SH _ _ hb)) hfd
      · rw [upd_same, put_kvR]
      · have := length_put fr n (gW way (fnR r n) (fnR t n))
        omega
      · rw [atR_put, ha m, List.take_add_one, hn]
        by_cases e : m = n
        · subst e; simp
        · simp [e]
    · rintro σ H' ⟨⟨v4, v5, v6, rfl⟩, hL, SH, fr, hf, nd, lf, ha⟩
      rw [List.length_map] at lf ha
      rw [List.take_length] at ha
      rw [List.length_append, List.length_map, List.length_map] at lf
      have fnn : ∀ n, fnR fr n = gW way (fnR r n) (fnR t n) := fun n => by
        unfold fnR
        rw [ha n]
        by_cases m : n ∈ r.map (·.1) ++ t.map (·.1)
        · rw [if_pos m]; rfl
        · rw [if_neg m, at_none.mpr (fun h => m (List.mem_append_left _ h)), at_none.mpr (fun h => m (List.mem_append_right _ h))]
          exact (gW0 way).symm
      refine ⟨_, rfl, fd, fr, rfl, hf, nd, by omega, fun H'' q' S'' hq' hj => q _ q' (nzR fr) (fun b u hb => S'' _ _ (SH _ _ hb)) ?_ hj (nz_nd nd) (nz_full fr) (fun n => (nz_fn nd n).trans (fnn n)) fun e he => ?_⟩
      · cases e : H q' with
        | none => rfl
        | some u => rw [SH _ _ e] at hq'; cases hq'
      · have m := (List.mem_filter.mp he).1
        have e1 := mem_at nd m
        rw [ha e.1] at e1
        by_cases k : e.1 ∈ r.map (·.1) ++ t.map (·.1)
        · exact List.mem_append.mp k
        · rw [if_neg k] at e1; cases e1
end
end L31

set_option Elab.async false
set_option linter.all false
set_option maxRecDepth 100000
set_option maxHeartbeats 4000000
set_option pp.deepTerms false
set_option pp.deepTerms.threshold 4
set_option pp.maxSteps 1000
namespace L31
open PySem L2 Tp
section
variable {P : Program} {w : World} {K : PySem.W.Frag} {mg : Str → Option Value} {base : Heap} {a : Ad} {d : Fd}
/-- what Lags(..) refuses -/
def OddL (K : PySem.W.Frag) (H : Hp) (v : V) : Prop := (∃ t, TyX K H v t ∧ PySem.W.kitOne K t (.type "dict") = some false) ∨
  (∃ (p : Addr) (kvs : List (Key × V)) (i : Nat) (q : Key × V), v = .ref p ∧ H p = some (.dK kvs) ∧ (kvs.map (·.1)).Nodup ∧ kvs[i]? = some q ∧ BadE q ∧ (∀ j e, j < i → kvs[j]? = some e → FineE e))
/-- what [..] refuses -/
def OddN (K : PySem.W.Frag) (H : Hp) (v : V) : Prop := NoStr K H v ∨ ∃ n : Str, v = .str n ∧ n.length ≤ 10000 ∧ nmB n = false
def spCaught (K : PySem.W.Frag) : Sp := fun vs H Q _ => ∃ v : V, (vs = [.int 0, v] ∧ OddL K H v ∧ ∀ H' p, Same H H' → H' p = some (.lst [.str "lags", v, .bl true]) → Q (.ref p) H') ∨
  (vs = [.int 1, v] ∧ OddN K H v ∧ ∀ H' p, Same H H' → H' p = some (.lst [.str "name", v, .bl true]) → Q (.ref p) H')
theorem OddL.same {H H' : Hp} (S : Same H H') {v : V} (h : OddL K H v) : OddL K H' v := by
  rcases h with ⟨t, ty, k⟩ | ⟨p, kvs, i, q, rfl, hp, r⟩
  · exact .inl ⟨t, ty_same S ty, k⟩
  · exact .inr ⟨p, kvs, i, q, rfl, S _ _ hp, r⟩
theorem OddN.same {H H' : Hp} (S : Same H H') {v : V} (h : OddN K H v) : OddN K H' v := by
  rcases h with ⟨t, ty, k⟩ | h
  · exact .inl ⟨t, ty_same S ty, k⟩
  · exact .inr h
theorem mk_lag {H1 : Hp} {Q' : Hp → Prop} {E : XK} {pd x dx : Addr} {s : Row} (h : H1 pd = some (.dK (kvR s))) (gs : GoodR s) (l : s.length < 64) (n1 : H1 x = none) (n2 : H1 dx = none) (ne : dx ≠ x)
    (q : ∀ H' r', Same H1 H' → LagAt a H' x r' → GoodR r' → FullR r' → (∀ n, fnR r' n = fnR s n) → (∀ dx' od, H' x = some (.ins a.CLags dx' [("own_lags", .ref od)]) → H1 od = none) → Q' H') :
    spInit K a (.ref x :: ([V.ref pd] ++ [])) (upd (upd H1 dx (.own x)) x (.ins a.CLags dx [])) (fun v H2 => v = .non ∧ Q' H2) E := by
  have z1 : pd ≠ x := fun z => by rw [z, n1] at h; cases h
  have z2 : pd ≠ dx := fun z => by rw [z, n2] at h; cases h
  refine ⟨x, dx, _, rfl, upd_same, .inl ⟨pd, s, rfl, by rw [upd_ne z1, upd_ne z2]; exact h, gs, l, fun H' r' k hl nd f fn m fs => ⟨rfl, ?_⟩⟩⟩
  exact q _ r' (new_same (Same.refl H1) n1 n2 ne k) hl ⟨nd, fun e he => gs.2 e (m e he)⟩ f fn fun dx' od e => by
    have h2 := fs dx' od e
    have a1 : od ≠ x := fun z => by rw [z, upd_same] at h2; cases h2
    rw [upd_ne a1] at h2
    have a2 : od ≠ dx := fun z => by rw [z, upd_same] at h2; cases h2
    rw [upd_ne a2] at h2
    exact h2
theorem good_one : GoodR [("a", 1)] := ⟨List.nodup_cons.mpr ⟨List.not_mem_nil, List.nodup_nil⟩, by decide +kernel⟩
theorem init_odd {H1 : Hp} {Q : VK} {E : XK} {x dx : Addr} {v : V} (h1 : H1 x = some (.ins a.CLags dx [])) (odd : OddL K H1 v) (out : ∀ dd, H1 dd = none → E (.ref a.CInvalidLags) (some dd) (upd H1 dd (.xd [("value", v)]))) : spInit K a (.ref x :: ([v] ++ [])) H1 Q E := by
  refine ⟨x, dx, v, rfl, h1, ?_⟩
  rcases odd with h | ⟨p, kvs, i, e, ev, r1, r2, r3, r4, r5⟩
  · exact .inr (.inl ⟨h, out⟩)
  · exact .inr (.inr ⟨p, kvs, i, e, ev, r1, r2, r3, r4, r5, out⟩)
theorem ok_caught (T : Txt K mg a d) : FnG P w K mg base CX0 7 a.caught d.caught ["_law_door", "_law_thing"] (spCaught K) := by
  have G_init := ok_init (P := P) (w := w) (base := base) T
  have G_rows := ok_rows (P := P) (w := w) (base := base) T
  have G_get := ok_get (P := P) (w := w) (base := base) T
  refine okG T.F_caught scCaught (fun vs H Q E h => ?_) (fun cdv A outer s H vs Q E hr hg h => ?_)
  · obtain ⟨v, ⟨rfl, _⟩ | ⟨rfl, _⟩⟩ := h
    · rfl
    · rfl
  · obtain ⟨v, h⟩ := h
    refine ⟨_, (pss_one (Tp.ps_tryA rfl rfl Tp.takes0 (fun W pn xe tk po => (pss_one (ps_ret (pe_lst (pa_cons pe_str (pa_cons (pe_ifExp (pt_cmpR op_eq (pv 0) pe_int (nomark _)) (pe_meth0 (Tp.pe_makeE T.mk_Lags G_init (hr.mono (by decide)) (by rfl) T.mg_Lags T.b_init .nil (fun σ => passAt tk σ) (pa_cons (pv 1) pa_nil)) T.cl_Lags T.me_rows G_rows (hr.mono (by decide)) T.b_rows .nil pass0) (Tp.pe_subE (Tp.pe_makeE T.mk_Lags G_init (hr.mono (by decide)) (by rfl) T.mg_Lags T.b_init .nil (fun σ => passAt tk σ) (pa_cons (pe_disp (pps_cons pe_str pe_int pps_nil) (by rfl) (by rfl) (fun z => by cases z) (by decide)) pa_nil)) (pv 1) T.me_get.at_ T.gi_get T.me_get.fn G_get (hr.mono (by decide)) T.b_get (fun σ => passAt tk σ))) pa_nil)))))) (.as_ (i := 2) scCaught.nd rfl rfl ⟨rfl, by decide, Or.inl T.mg_InvalidLags⟩ (fun ea oe cls ed pn hz hf => (pss_one (ps_ret (pe_lst (pa_cons pe_str (pa_cons (pe_xf T.xf_InvalidLags T.no_InvalidLags hz hf (pv 2)) (pa_cons (pe_callB (Tp.call_isX hz hf) (by rfl) T.isinstance_ Tp.bt_isinstance (pa_cons (pv 2) (pa_cons (pe_glob (v := .ref a.CNetError) (by rfl) T.mg_NetError rfl) pa_nil))) pa_nil))))))) (.as_ (i := 2) scCaught.nd rfl rfl ⟨rfl, by decide, Or.inl T.mg_InvalidName⟩ (fun ea oe cls ed pn hz hf => (pss_one (ps_ret (pe_lst (pa_cons pe_str (pa_cons (pe_xf T.xf_InvalidName T.no_InvalidName hz hf (pv 2)) (pa_cons (pe_callB (Tp.call_isX hz hf) (by rfl) T.isinstance_ Tp.bt_isinstance (pa_cons (pv 2) (pa_cons (pe_glob (v := .ref a.CNetError) (by rfl) T.mg_NetError rfl) pa_nil))) pa_nil))))))) .nil)))), ?_⟩
    rcases h with ⟨rfl, odd, q⟩ | ⟨rfl, odd, q⟩
    · refine ⟨_, rfl, rfl, _, rfl, ifY rfl ?_⟩
      refine ⟨_, rfl, fun x dx hx hdx ne => ?_⟩
      have S1 : Same H (upd (upd H dx (.own x)) x (.ins a.CLags dx [])) := fun b u hb => by
        rw [upd_ne (ne_of_none hb hx), upd_ne (ne_of_none hb hdx)]
        exact hb
      have h1 : (upd (upd H dx (.own x)) x (.ins a.CLags dx [])) x = some (.ins a.CLags dx []) := upd_same
      generalize upd (upd H dx (.own x)) x (.ins a.CLags dx []) = H1 at S1 h1
      refine init_odd h1 (odd.same S1) fun dd hdd => ?_
      have S2 : Same H1 (upd H1 dd (.xd [("value", v)])) := same_new hdd
      have h2 : (upd H1 dd (.xd [("value", v)])) dd = some (.xd [("value", v)]) := upd_same
      generalize upd H1 dd (.xd [("value", v)]) = H2 at S2 h2
      refine ⟨true, T.ex_InvalidLags_InvalidLags, fun _ ea hea => ?_, fun z => Bool.noConfusion z⟩
      refine ⟨_, rfl, rfl, rfl, dd, _, _, rfl, h2, rfl, ?_⟩
      refine ⟨_, rfl, _, dd, _, _, _, _, rfl, rfl, T.ec_InvalidLags, rfl, h2, ?_, T.ki_InvalidLags_NetError, ?_⟩
      · intro u hu
        exact hu
      · exact ⟨(show 3 ≤ sizeLine from by decide), fun l hl => q _ l (S1.trans (S2.trans (same_new hl))) upd_same⟩
    · refine ⟨_, rfl, rfl, _, rfl, ifN (fun z => by cases z) ?_⟩
      refine fun p0 hp0 => ⟨upd_same, kvR [("a", 1)], rfl, (by decide), ?_⟩
      have S1 : Same H (upd (upd H p0 (.dK [])) p0 (.dK (mergeK [] (kvR [("a", 1)])))) := by rw [upd_upd]; exact same_new hp0
      have h1 : (upd (upd H p0 (.dK [])) p0 (.dK (mergeK [] (kvR [("a", 1)])))) p0 = some (.dK (kvR [("a", 1)])) := upd_same
      generalize upd (upd H p0 (.dK [])) p0 (.dK (mergeK [] (kvR [("a", 1)]))) = H1 at S1 h1 ⊢
      refine fun z dx n1 n2 ne => mk_lag h1 good_one (by decide) n1 n2 ne fun H2 r S2 lz gz fz fnz _ => ?_
      have lz' := lz
      obtain ⟨dz, oz, k1, k2⟩ := lz'
      refine ⟨_, rfl, z, dz, _, rfl, k1, z, r, v, rfl, lz, .inr ⟨odd.same (S1.trans S2), fun dd hdd => ?_⟩⟩
      have S3 : Same H2 (upd H2 dd (.xd [("value", v)])) := same_new hdd
      have h3 : (upd H2 dd (.xd [("value", v)])) dd = some (.xd [("value", v)]) := upd_same
      generalize upd H2 dd (.xd [("value", v)]) = H3 at S3 h3
      refine ⟨false, T.ex_InvalidName_InvalidLags, fun z => Bool.noConfusion z, fun _ => ?_⟩
      refine ⟨true, T.ex_InvalidName_InvalidName, fun _ ea hea => ?_, fun z => Bool.noConfusion z⟩
      refine ⟨_, rfl, rfl, rfl, dd, _, _, rfl, h3, rfl, ?_⟩
      refine ⟨_, rfl, _, dd, _, _, _, _, rfl, rfl, T.ec_InvalidName, rfl, h3, ?_, T.ki_InvalidName_NetError, ?_⟩
      · intro u hu
        exact hu
      · exact ⟨(show 3 ≤ sizeLine from by decide), fun l hl => q _ l (S1.trans (S2.trans (S3.trans (same_new hl)))) upd_same⟩
end
end L31

set_option Elab.async false
set_option linter.all false
set_option maxRecDepth 100000
set_option maxHeartbeats 4000000
set_option pp.deepTerms false
set_option pp.deepTerms.threshold 4
set_option pp.maxSteps 1000
namespace L31
open PySem L2 Tp
section
variable {P : Program} {w : World} {K : PySem.W.Frag} {mg : Str → Option Value} {base : Heap} {a : Ad} {d : Fd}
theorem nm_sm {n : Str} (h : nmB n = true) : Sm 8 n := by
  refine ⟨nm_len h, fun c hc => ?_⟩
  unfold nmB at h
  cases e : n.cps.toList with
  | nil => rw [e] at hc; cases hc
  | cons x xs =>
    rw [e] at h hc
    have h := (Bool.and_eq_true_iff.mp (Bool.and_eq_true_iff.mp (show (decide (xs.length + 1 ≤ 8) && (lowC x && (x :: xs).all fun y => lowC y || digC y)) = true from h)).2).2
    have := List.all_eq_true.mp h c hc
    simp only [lowC, digC, Bool.or_eq_true, Bool.and_eq_true, decide_eq_true_eq] at this
    omega
def N7 : List Str := ["a", "aa", "b1", "g0", "zzzzzzzz", "x", "q"]
theorem n7_nm : ∀ n ∈ N7, nmB n = true := by decide +kernel
def spRight (a : Ad) : Sp := fun vs H Q _ => ∃ (x p : Addr) (r t : Row), vs = [.ref x, .ref p] ∧ LagAt a H x r ∧ H p = some (.dK (kvR t)) ∧ GoodR r ∧ FullR r ∧ GoodR t ∧ (∀ n, fnR r n = fnR t n) ∧ t.length ≤ 20 ∧ (∀ n, (fnR r n).natAbs ≤ 10 ^ 31) ∧ ∀ H', Same H H' → Q (.bl true) H'
theorem absR_bound {m : Nat} {v : Str → Int} (h : ∀ n, (v n).natAbs ≤ m) : ∀ ns : List Str, 0 ≤ (ns.map fun n => absI (v n)).sum ∧ (ns.map fun n => absI (v n)).sum ≤ ns.length * m
  | [] => by simp
  | n :: ns => by
    obtain ⟨h1, h2⟩ := absR_bound h ns
    have h3 := h n
    simp only [List.map_cons, List.sum_cons, List.length_cons]
    have h4 : 0 ≤ absI (v n) ∧ absI (v n) ≤ m := by
      unfold absI
      split <;> omega
    have e : (((ns.length + 1 : Nat) : Int)) * (m : Int) = ns.length * m + m := by
      rw [Int.natCast_add, Int.add_mul]
      simp
    rw [e]
    omega
theorem sum_perm {l m : List Int} (h : l.Perm m) : l.sum = m.sum := by
  induction h with
  | nil => rfl
  | cons x _ ih => simp only [List.sum_cons, ih]
  | swap x y l => simp only [List.sum_cons]; omega
  | trans _ _ h1 h2 => exact h1.trans h2
theorem first_self {C : Addr} : PySem.W.notFirst K C (.ref C) = true := by
  unfold PySem.W.notFirst
  rw [beq_self_eq_true, Bool.true_or]
theorem first_dict {C : Addr} : PySem.W.notFirst K C (.type "dict") = true := by
  unfold PySem.W.notFirst
  have e : fastBuiltinMro "dict" = some [.type "dict", .type "object"] := by decide +kernel
  have : PySem.W.subIn K (.type "dict") (.ref C) = some false := by
    show (fastBuiltinMro "dict").map (·.contains (.ref C)) = some false
    rw [e]
    first
      | rfl
      | simp
  rw [this]
  first
    | rfl
    | simp
theorem eq_go (T : Txt K mg a d) {H : Hp} {x z : Addr} {r s : Row} {Q : VK} {E : XK} (lx : LagAt a H x r) (lz : LagAt a H z s) (q : Q (.bl (eqR r s)) H) : rEqE K a.CLags (spEq K a) E (.ref x) (.ref z) H Q := by
  have lx' := lx
  have lz' := lz
  obtain ⟨dx, ox, h1, h2⟩ := lx
  obtain ⟨dz, oz, g1, g2⟩ := lz
  exact ⟨x, dx, _, _, rfl, h1, ty_lag T g1, first_self, x, r, _, rfl, lx', .inl ⟨z, s, rfl, lz', q⟩⟩
theorem eq_no {H : Hp} {x z : Addr} {r : Row} {kvs : List (Key × V)} {Q : VK} {E : XK} (lx : LagAt a H x r) (lz : H z = some (.dK kvs)) (q : Q (.bl false) H) : rEqE K a.CLags (spEq K a) E (.ref x) (.ref z) H Q := by
  have lx' := lx
  obtain ⟨dx, ox, h1, h2⟩ := lx
  exact ⟨x, dx, _, _, rfl, h1, .base (.dK lz), first_dict, x, r, _, rfl, lx', .inr ⟨z, kvs, rfl, lz, q⟩⟩
theorem ne_go (T : Txt K mg a d) {H : Hp} {x z : Addr} {r s : Row} {Q : VK} {E : XK} (lx : LagAt a H x r) (lz : LagAt a H z s) (q : Q (.bl (!eqR r s)) H) : rNeE K a.CLags (spEq K a) E (.ref x) (.ref z) H Q := by
  have lx' := lx
  have lz' := lz
  obtain ⟨dx, ox, h1, h2⟩ := lx
  obtain ⟨dz, oz, g1, g2⟩ := lz
  exact ⟨x, dx, _, _, rfl, h1, ty_lag T g1, first_self, x, r, _, rfl, lx', .inl ⟨z, s, rfl, lz', _, rfl, q⟩⟩
theorem neg_go {H : Hp} {x : Addr} {r : Row} {Q : VK} {E : XK} (lx : LagAt a H x r) (gr : GoodR r) (l : r.length ≤ 40) (q : NewLag a H Q (fun n => - fnR r n)) : rUnE a.CLags (spNeg a) E (.ref x) H Q := by
  have lx' := lx
  obtain ⟨dx, ox, h1, h2⟩ := lx
  exact ⟨x, dx, _, rfl, h1, x, r, rfl, lx', gr, l, q⟩
theorem full_len {r s : Row} (nd : NdR s) (f : FullR s) (h : ∀ n, fnR r n = 0 → fnR s n = 0) : s.length ≤ r.length := by
  have nd' : (s.map (·.1)).Nodup := nd
  have := sub_len (m := r.map (·.1)) nd' fun n hn => by
    refine Classical.byContradiction fun k => ?_
    have e := at_of_mem hn
    rw [fn_at f, h n (fn_none k), if_pos rfl] at e
    cases e
  rw [List.length_map, List.length_map] at this
  exact this
theorem ok_right (T : Txt K mg a d) : FnG P w K mg base CX0 7 a.right d.right ["_law_lags", "_law_rows_here"] (spRight a) := by
  have G_init := ok_init (P := P) (w := w) (base := base) T
  have G_rows := ok_rows (P := P) (w := w) (base := base) T
  have G_get := ok_get (P := P) (w := w) (base := base) T
  have G_neg := ok_neg (P := P) (w := w) (base := base) T
  have G_abs := ok_abs (P := P) (w := w) (base := base) T
  have G_eq := ok_eq (P := P) (w := w) (base := base) T
  have G_rowsL := ok_rowsL (P := P) (w := w) (base := base) T
  refine okG T.F_right scRight (fun vs H Q E h => ?_) (fun cdv A outer s H vs Q E hr hg h => ?_)
  · obtain ⟨x, p, r, t, rfl, _⟩ := h
    rfl
  · obtain ⟨x, p, r, t, rfl, lx, hp, gr, fr, gt, hrt, lt, bd, q⟩ := h
    refine ⟨_, (pss_cons (ps_set (i := 2) scRight.nd rfl (Or.inr rfl) (Tp.pe_callG G_rowsL (hr.mono (by decide)) hg (by rfl) T.mg_rowsL T.F_rowsL.kp T.b_rowsL .nil pass0 (pa_cons (pv 1) pa_nil)))
      (pss_cons (ps_for PassesOwn.never rfl (pi_range1 (by rfl) T.range_ (pa_cons pe_int pa_nil)) (pg_name (i := 3) scRight.nd rfl (Or.inl rfl)) (pss_cons (ps_set (i := 4) scRight.nd rfl (Or.inl rfl) (pe_meth0 (pv 0) T.cl_Lags T.me_rows G_rows (hr.mono (by decide)) T.b_rows .nil pass0))
      (pss_cons (ps_if (PW.pt (pw_or (pt_not (pt_val (pe_callB call_isi (by rfl) T.isinstance_ Tp.bt_isinstance (pa_cons (pv 4) (pa_cons (pe_bltn (v := .ty "dict") (by rfl) T.dict_ Tp.bt_dict rfl) pa_nil))))) (pw_or (pt_cmpR (Tp.op_neDI (Tp.hu0 hr)) (pv 4) (pv 2) (nomark _)) (pw_or1 (pt_cmpR op_ne (pe_callB (Tp.call_reprD hr hg) (by rfl) T.repr_ Tp.bt_repr (pa_cons (pe_callB (call_sortedD rfl) (by rfl) T.sorted_ Tp.bt_sorted (pa_cons (pv 4) pa_nil)) pa_nil)) (pe_callB (Tp.call_reprD hr hg) (by rfl) T.repr_ Tp.bt_repr (pa_cons (pe_callB (call_sortedD rfl) (by rfl) T.sorted_ Tp.bt_sorted (pa_cons (pv 2) pa_nil)) pa_nil)) (nomark _)))))) (pss_one (ps_ret pe_bl)) pss_nil)
      (pss_one (ps_dput (Tp.hu1 hr) (pv 4) pe_str pe_int rfl)))))
      (pss_cons (ps_for PassesOwn.never rfl (pi_list (pe_lst (pa_cons pe_str (pa_cons pe_str (pa_cons pe_str (pa_cons pe_str (pa_cons pe_str (pa_cons pe_str (pa_cons pe_str pa_nil))))))))) (pg_name (i := 5) scRight.nd rfl (Or.inl rfl)) (pss_one (ps_if (pt_cmpR op_ne (pe_callB (Tp.call_reprD hr hg) (by rfl) T.repr_ Tp.bt_repr (pa_cons (Tp.pe_subE (pv 0) (pv 5) T.me_get.at_ T.gi_get T.me_get.fn G_get (hr.mono (by decide)) T.b_get (fun σ => Tp.passA0 σ)) pa_nil)) (pe_callB (Tp.call_reprD hr hg) (by rfl) T.repr_ Tp.bt_repr (pa_cons (pe_dget2 (Tp.hu1 hr) (pv 2) (pv 5) pe_int ⟨rfl, rfl, rfl, rfl⟩) pa_nil)) (nomark _)) (pss_one (ps_ret pe_bl)) pss_nil)))
      (pss_cons (ps_set (i := 6) scRight.nd rfl (Or.inl rfl) pe_dnewK)
      (pss_cons (ps_lock (ps_for PassesOwn.never rfl (pi_keys (pv 2)) (pg_name (i := 5) scRight.nd rfl (Or.inl rfl)) (pss_one (ps_dput (Tp.hu1 hr) (pv 6) (pv 5) (pe_op op_sub pe_int (pe_dget (Tp.hu1 hr) (pv 2) (pv 5) (fun _ _ => rfl))) rfl))))
      (pss_cons (ps_if (PW.pt (pw_or (pt_cmpR (Tp.op_neDI (Tp.hu0 hr)) (pe_meth0 (pe_un (Tp.un_negE T.me_neg.at_ T.me_neg.fn G_neg (hr.mono (by decide)) T.b_neg pass0) (pv 0)) T.cl_Lags T.me_rows G_rows (hr.mono (by decide)) T.b_rows .nil pass0) (pv 6) (nomark _)) (pw_or1 (pt_cmpR op_ne (pe_callB (Tp.call_reprD hr hg) (by rfl) T.repr_ Tp.bt_repr (pa_cons (pe_callB (Tp.call_absE T.me_abs.at_ T.me_abs.fn G_abs (hr.mono (by decide)) T.b_abs pass0) (by rfl) T.abs_ Tp.bt_abs (pa_cons (pv 0) pa_nil)) pa_nil)) (pe_callB (Tp.call_reprD hr hg) (by rfl) T.repr_ Tp.bt_repr (pa_cons (pe_callB (cr_sum rfl) (by rfl) T.sum_ Tp.bt_sum (pa_cons (pe_lock (pe_lc (own := [("_law_name", 5)]) (by rfl) scRight.nd (pi_keys (pv 2)) (blkOk_by (own := [("_law_name", 5)]) (N := scRight_N) (sc := defScope scRight_st) (by decide +kernel)) (fun _ _ _ _ _ => (pg_name (i := 5) scRight.nd rfl (Or.inl rfl))) (fun _ _ _ _ _ => pts_nil) (fun _ _ _ _ _ => (pe_callB call_abs (by rfl) T.abs_ Tp.bt_abs (pa_cons (pe_dget (Tp.hu1 hr) (pv 2) (pv 5) (fun _ _ => rfl)) pa_nil))))) pa_nil)) pa_nil)) (nomark _))))) (pss_one (ps_ret pe_bl)) pss_nil)
      (pss_one (ps_ret (pe_and (pe_cmpR (Tp.op_eqE T.me_eq.at_ T.me_eq.fn G_eq (hr.mono (by decide)) T.b_eq pass0) (pv 0) (Tp.pe_makeE T.mk_Lags G_init (hr.mono (by decide)) (by rfl) T.mg_Lags T.b_init .nil (fun σ => Tp.passA0 σ) (pa_cons (pv 2) pa_nil)) (nomark _)) (pe_and (pe_cmpR (Tp.op_eqE T.me_eq.at_ T.me_eq.fn G_eq (hr.mono (by decide)) T.b_eq pass0) (pv 0) (pe_un (Tp.un_negE T.me_neg.at_ T.me_neg.fn G_neg (hr.mono (by decide)) T.b_neg pass0) (pe_un (Tp.un_negE T.me_neg.at_ T.me_neg.fn G_neg (hr.mono (by decide)) T.b_neg pass0) (pv 0))) (nomark _)) (pe_and (pe_not (pe_cmpR (Tp.op_eqE T.me_eq.at_ T.me_eq.fn G_eq (hr.mono (by decide)) T.b_eq pass0) (pv 0) (pv 2) (nomark _))) (pe_one (pe_not (pe_cmpR (Tp.op_neE T.me_eq.at_ T.me_eq.fn T.ne_Lags T.cm_Lags G_eq (hr.mono (by decide)) T.b_eq pass0) (pv 0) (Tp.pe_makeE T.mk_Lags G_init (hr.mono (by decide)) (by rfl) T.mg_Lags T.b_init .nil (fun σ => Tp.passA0 σ) (pa_cons (pv 1) pa_nil)) (nomark _))))))))))))))), ?_⟩
    refine ⟨_, rfl, p, t, rfl, hp, gt.1, by omega, fun H1 pd S1 hpd h1 => ?_⟩
    have lx1 := lx.same S1
    have nds := nz_nd gt.1
    have fls := nz_full t
    have fnn : ∀ n, fnR r n = fnR (nzR t) n := fun n => (hrt n).trans (nz_fn gt.1 n).symm
    have gs : GoodR (nzR t) := ⟨nds, fun e he => gt.2 e (List.mem_filter.mp he).1⟩
    have lnz : (nzR t).length ≤ 20 := Nat.le_trans (List.length_filter_le _ _) lt
    have hp1 := S1 _ _ hp
    generalize hsE : nzR t = s at h1 nds fls fnn gs lnz
    have pm := full_names gr.1 nds fr fls fnn
    have lr : r.length ≤ 20 := by
      have := pm.length_eq
      rw [List.length_map, List.length_map] at this
      omega
    have eqT : eqR r s = true := (eqR_iff gr.1 nds fr fls).mpr fnn
    refine ⟨2, rfl, by decide, by decide, for_range (lo := 0) (n := 2) (fun i σ H' => (∃ v3 v4, σ = [some (.ref x), some (.ref p), some (.ref pd), v3, v4, none, none]) ∧ Same H1 H') ⟨⟨_, _, rfl⟩, fun _ _ h => h⟩ ?_ ?_⟩
    · rintro i σ H' hi ⟨⟨v3, v4, rfl⟩, S⟩
      obtain ⟨dx, od, hx, ho⟩ := lx1.same S
      refine ⟨_, rfl, x, _, _, rfl, hx, no_look (by decide), x, r, rfl, ⟨dx, od, hx, ho⟩, fun pf hpf => ?_⟩
      have S2 : Same H' (upd H' pf (.dK (kvR r))) := same_new hpf
      have h2 : (upd H' pf (.dK (kvR r))) pf = some (.dK (kvR r)) := upd_same
      generalize upd H' pf (.dK (kvR r)) = H2 at S2 h2
      have hd2 := S2 _ _ (S _ _ h1)
      refine ⟨_, rfl, _, _, _, _, true, rfl, .ty _, .base (.dK h2), kit_ty (by decide +kernel), _, rfl, iteF ?_⟩
      refine ⟨_, rfl, _, rfl, pf, pd, r, s, rfl, rfl, h2, hd2, _, rfl, ?_⟩
      rw [eqT]
      refine iteF ⟨_, rfl, pf, _, _, rfl, .inl h2, kv_names r, by rw [List.length_map]; omega, fun ys l1 p1 s1 hl1 => ?_⟩
      have e1 : ∀ n ∈ ys, Sm 8 n := fun n hn => by
        obtain ⟨e, he, e2⟩ := List.mem_map.mp (p1.mem_iff.mp hn)
        rw [← e2]
        exact nm_sm (gr.2 e he)
      have ly : ys.length ≤ 20 := by
        have := p1.length_eq
        rw [List.length_map] at this
        omega
      have w1 := wt_strs ys e1
      have w2 : wt (.list (ys.map PyData.str)) ≤ 16000000 := by
        simp only [wt]
        have : ys.length * (10 * 8 + 4) ≤ 20 * 84 := Nat.mul_le_mul_right _ ly
        omega
      have fl := fit4 (d := .list (ys.map PyData.str)) (n := 1) (fit_strs e1) (by decide) w2
      refine ⟨_, .list (ys.map PyData.str), rfl, .lst (SqL.of upd_same) (dp_strs ys), fl.1, fl.2.1, fl.2.2.1, fl.2.2.2, ?_⟩
      have S3 : Same H2 (upd H2 l1 (.lst (ys.map V.str))) := same_new hl1
      generalize upd H2 l1 (.lst (ys.map V.str)) = H3 at S3
      refine ⟨_, rfl, pd, _, _, rfl, .inl (S3 _ _ hd2), kv_names s, by rw [List.length_map]; omega, fun zs l2 p2 s2 hl2 => ?_⟩
      have eyz : ys = zs := sorted_one s1 s2 (p1.trans (pm.trans p2.symm))
      subst eyz
      refine ⟨_, .list (ys.map PyData.str), rfl, .lst (SqL.of upd_same) (dp_strs ys), fl.1, fl.2.1, fl.2.2.1, fl.2.2.2, ?_⟩
      have S4 : Same H3 (upd H3 l2 (.lst (ys.map V.str))) := same_new hl2
      generalize upd H3 l2 (.lst (ys.map V.str)) = H4 at S4
      refine ⟨rfl, _, rfl, ifnY rfl ?_⟩
      refine ⟨_, rfl, pf, _, rfl, .inl ⟨_, Sum.inr "late1", S4 _ _ (S3 _ _ h2), rfl, ?_, rfl⟩, ⟨_, _, rfl⟩, ?_⟩
      · rw [kvR_length]
        exact Nat.lt_of_le_of_lt (show _ ≤ 20 from lr) (by decide)
      · exact Tp.Same.mut (fun b u hb => S4 _ _ (S3 _ _ (S2 _ _ (S _ _ hb)))) (by
          cases e : H1 pf with
          | none => rfl
          | some u => rw [S _ _ e] at hpf; cases hpf)
    · rintro σ H2 ⟨⟨v3, v4, rfl⟩, S2⟩
      refine ⟨(show 7 ≤ sizeLine from by decide), fun l hl => ⟨l, rfl, ⟨_, SqL.of upd_same⟩, for_it (walk_list (xs := N7.map V.str)) (fun i σ H' => (∃ v5, σ = [some (.ref x), some (.ref p), some (.ref pd), v3, v4, v5, none]) ∧ H' l = some (.lst (N7.map V.str)) ∧ Same H1 H') ⟨⟨_, rfl⟩, upd_same, fun b u hb => same_new hl _ _ (S2 _ _ hb)⟩ ?_ ?_ ?_⟩⟩
      · rintro i σ H' _ ⟨_, h, _⟩
        exact SqL.of h
      · rintro i y σ _ H' hi ⟨⟨v5, rfl⟩, hL, S⟩ ⟨rfl, hy⟩
        rw [List.getElem?_map] at hy
        obtain ⟨n, hn, rfl⟩ := Option.map_eq_some_iff.mp hy
        have nmn : nmB n = true := n7_nm n (List.mem_of_getElem? hn)
        obtain ⟨dx, od, hx, ho⟩ := lx1.same S
        have b1 : (fnR r n).natAbs < 10 ^ 40 := Nat.lt_of_le_of_lt (bd n) (by decide)
        have fi := fit4 (d := .int (fnR r n)) (n := 0) (.int b1) (by decide) (by simp only [wt]; omega)
        refine ⟨_, rfl, _, rfl, x, dx, _, rfl, hx, x, r, _, rfl, ⟨dx, od, hx, ho⟩, .inl ⟨n, rfl, nmn, ?_⟩⟩
        refine ⟨_, .int (fnR r n), rfl, .int _, fi.1, fi.2.1, fi.2.2.1, fi.2.2.2, ?_⟩
        refine ⟨_, rfl, pd, rfl, .inl ⟨_, .inl (S _ _ h1)⟩, _, rfl, (atR s n).map V.int, .inl ⟨_, Sum.inr n, .inl (S _ _ h1), rfl, (val_kvR n s).symm⟩, ?_⟩
        rw [get_row, ← fnn n]
        refine ⟨_, .int (fnR r n), rfl, .int _, fi.1, fi.2.1, fi.2.2.1, fi.2.2.2, ?_⟩
        exact ⟨rfl, _, rfl, ifnY rfl ⟨⟨_, rfl⟩, hL, S⟩⟩
      · rintro σ H3 ⟨⟨v5, rfl⟩, hL, S3⟩
        refine fun fb hfb => ?_
        have S4 : Same H3 (upd H3 fb (.dK [])) := same_new hfb
        have h4 : (upd H3 fb (.dK [])) fb = some (.dK (kvR (mapR [] fun n => 0 - fnR s n))) := upd_same
        generalize upd H3 fb (.dK []) = H4 at S4 h4
        have S14 : Same H1 H4 := fun b u hb => S4 _ _ (S3 _ _ hb)
        have hd4 := S14 _ _ h1
        have ne : fb ≠ pd := fun z => by rw [z, S3 _ _ h1] at hfb; cases hfb
        have nfb : H1 fb = none := by
          cases e : H1 fb with
          | none => rfl
          | some u => rw [S3 _ _ e] at hfb; cases hfb
        refine ⟨pd, .dK (kvR s), hd4, trivial, fun o => ⟨_, rfl, pd, o, rfl, .inl ⟨kvR s, upd_same, for_it walk_keys (fun i σ H' => (∃ v5, σ = [some (.ref x), some (.ref p), some (.ref pd), v3, v4, v5, some (.ref fb)]) ∧ H' pd = some (.frz o (.dK (kvR s))) ∧ H' fb = some (.dK (kvR (mapR ((s.map (·.1)).take i) fun n => 0 - fnR s n))) ∧ ∀ b u, H1 b = some u → b ≠ pd → H' b = some u) ⟨⟨_, rfl⟩, upd_same, ?_, ?_⟩ ?_ ?_ ?_⟩⟩⟩
        · rw [upd_ne ne]
          exact h4
        · intro b u hb nb
          rw [upd_ne nb]
          exact S14 _ _ hb
        · rintro i σ H' _ ⟨_, h, _⟩
          exact h
        · rintro i y σ _ H' hi ⟨⟨v, rfl⟩, hP, hF, kp⟩ ⟨rfl, k, u, hk, rfl⟩
          have hv := val_at (kv_nd nds) hk
          obtain ⟨e, he, e2⟩ := kv_at hk
          cases e2
          have hn : (s.map (·.1))[i]? = some e.1 := by rw [List.getElem?_map, he]; rfl
          have ev : fnR s e.1 = e.2 := by
            have := mem_at nds (List.mem_of_getElem? he)
            unfold fnR
            rw [this]
            rfl
          have dget : DGet H' pd (.str e.1) (some (.int e.2)) := .inl ⟨_, Sum.inr e.1, .inr ⟨o, hP⟩, rfl, hv.symm⟩
          have hlen : (kvR (mapR ((s.map (·.1)).take i) fun n => 0 - fnR s n)).length < sizeLine := by
            rw [kvR_length]
            unfold mapR
            rw [List.length_map, List.length_take, List.length_map]
            exact Nat.lt_of_le_of_lt (show _ ≤ 20 by omega) (by decide)
          refine ⟨_, rfl, _, rfl, pd, _, rfl, dget, _, _, rfl, rfl, _, rfl, _, rfl, fb, _, rfl, .inl ⟨_, Sum.inr e.1, hF, rfl, hlen, rfl⟩, ⟨_, rfl⟩, ?_, ?_, ?_⟩
          · rw [upd_ne (Ne.symm ne)]
            exact hP
          · rw [upd_same, ← ev]
            exact congrArg (fun z => some (HO.dK z)) (mapR_take (v := fun n => 0 - fnR s n) nds hn)
          · intro b u hb nb
            rw [upd_ne (fun z => by rw [z, nfb] at hb; cases hb)]
            exact kp _ _ hb nb
        · rintro σ H5 ⟨⟨v5', rfl⟩, hP, hF, kp⟩
          rw [kvR_length, ← List.length_map (f := (·.1)), List.take_length] at hF
          refine ⟨hP, ?_⟩
          have S6 : Same H1 (upd H5 pd (.dK (kvR s))) := fun b u hb => by
            by_cases z : b = pd
            · rw [z, upd_same, ← h1, ← z, hb]
            · rw [upd_ne z]
              exact kp _ _ hb z
          have h6 : (upd H5 pd (.dK (kvR s))) fb = some (.dK (kvR (mapR (s.map (·.1)) fun n => 0 - fnR s n))) := by rw [upd_ne ne]; exact hF
          generalize upd H5 pd (.dK (kvR s)) = H6 at S6 h6
          obtain ⟨dx, od, hx, ho⟩ := lx1.same S6
          refine ⟨_, rfl, x, dx, _, rfl, hx, x, r, rfl, ⟨dx, od, hx, ho⟩, gr, by omega, fun H7 z rz S7 lz gz fz fnz => ?_⟩
          obtain ⟨dz, oz, hz1, hz2⟩ := lz
          refine ⟨z, _, _, rfl, hz1, no_look (by decide), z, rz, rfl, ⟨dz, oz, hz1, hz2⟩, fun pq hpq => ?_⟩
          have S8 : Same H7 (upd H7 pq (.dK (kvR rz))) := same_new hpq
          have h8 : (upd H7 pq (.dK (kvR rz))) pq = some (.dK (kvR rz)) := upd_same
          generalize upd H7 pq (.dK (kvR rz)) = H8 at S8 h8
          have eqB : eqR rz (mapR (s.map (·.1)) fun n => 0 - fnR s n) = true := by
            refine (eqR_iff gz.1 ?_ fz ?_).mpr fun n => ?_
            · unfold NdR
              rw [mapR_names]
              exact nds
            · intro e he
              obtain ⟨n, hn, rfl⟩ := List.mem_map.mp he
              have := at_of_mem hn
              rw [fn_at fls] at this
              show 0 - fnR s n ≠ 0
              intro k
              rw [if_pos (by omega)] at this
              cases this
            · rw [fnz n, mapR_fn nds]
              show - fnR r n = _
              rw [fnn n]
              by_cases m : n ∈ s.map (·.1)
              · rw [if_pos m]; omega
              · rw [if_neg m, fn_none m]; rfl
          refine ⟨_, rfl, pq, fb, _, _, rfl, rfl, h8, S8 _ _ (S7 _ _ h6), _, rfl, ?_⟩
          rw [eqB]
          have S18 : Same H1 H8 := fun b u hb => S8 _ _ (S7 _ _ (S6 _ _ hb))
          obtain ⟨dx8, od8, hx8, ho8⟩ := lx1.same S18
          have bs := absR_bound bd (r.map (·.1))
          have ba : (absR r).natAbs < 10 ^ 40 := by
            rw [List.length_map] at bs
            have : (r.length : Int) * ((10 ^ 31 : Nat) : Int) ≤ 20 * ((10 ^ 31 : Nat) : Int) := Int.mul_le_mul_of_nonneg_right (by omega) (by omega)
            unfold absR
            omega
          refine iteF ⟨_, rfl, x, dx8, _, rfl, hx8, x, r, rfl, ⟨dx8, od8, hx8, ho8⟩, gr.1, by omega, fun H9 S9 => ?_⟩
          have fa := fit4 (d := .int (absR r)) (n := 0) (.int ba) (by decide) (by simp only [wt]; omega)
          refine ⟨_, .int (absR r), rfl, .int _, fa.1, fa.2.1, fa.2.2.1, fa.2.2.2, ?_⟩
          have S19 : Same H1 H9 := fun b u hb => S9 _ _ (S18 _ _ hb)
          have hd9 := S19 _ _ h1
          refine ⟨pd, .dK (kvR s), hd9, trivial, fun o9 => ?_⟩
          refine ⟨_, rfl, pd, o9, rfl, .inl ⟨_, upd_same, fun D hD => lc_it walk_keys (fun i H' => Same (upd H9 pd (.frz o9 (.dK (kvR s)))) H' ∧ H' D = some (.lst ((((s.map (·.1)).take i).map fun n => absI (fnR s n)).map V.int))) ⟨same_new hD, upd_same⟩ ?_ ?_ ?_⟩⟩
          · rintro i H' _ ⟨S, _⟩
            exact S _ _ upd_same
          · rintro i v _ H' hi ⟨S, hD'⟩ ⟨rfl, k, u, hk, rfl⟩
            have hv := val_at (kv_nd nds) hk
            obtain ⟨e, he, e2⟩ := kv_at hk
            cases e2
            have hn : (s.map (·.1))[i]? = some e.1 := by rw [List.getElem?_map, he]; rfl
            have ev : fnR s e.1 = e.2 := by
              have := mem_at nds (List.mem_of_getElem? he)
              unfold fnR
              rw [this]
              rfl
            have dget : DGet H' pd (.str e.1) (some (.int e.2)) := .inl ⟨_, Sum.inr e.1, .inr ⟨o9, S _ _ upd_same⟩, rfl, hv.symm⟩
            have hlen : ((((s.map (·.1)).take i).map fun n => absI (fnR s n)).map V.int).length < sizeLine := by
              rw [List.length_map, List.length_map, List.length_take, List.length_map]
              exact Nat.lt_of_le_of_lt (show _ ≤ 20 by omega) (by decide)
            refine ⟨rfl, _, rfl, _, rfl, pd, _, rfl, dget, _, rfl, _, hD', hlen, Tp.Same.mut S hD, ?_⟩
            rw [upd_same, List.take_add_one, hn, List.map_append, List.map_append, ← ev]
            rfl
          · rintro H10 ⟨S, hD'⟩
            refine ⟨S _ _ upd_same, ?_⟩
            rw [kvR_length, ← List.length_map (f := (·.1)), List.take_length] at hD'
            have nD : D ≠ pd := fun z => by rw [z, upd_same] at hD; cases hD
            have h11 : (upd H10 pd (.dK (kvR s))) D = some (.lst (((s.map (·.1)).map fun n => absI (fnR s n)).map V.int)) := by rw [upd_ne nD]; exact hD'
            have S11 := unlock_same hd9 S
            generalize upd H10 pd (.dK (kvR s)) = H11 at S11 h11
            have e3 : (((s.map (·.1)).map fun n => absI (fnR s n))).sum = absR r := by
              unfold absR
              rw [← show (fun n => absI (fnR r n)) = fun n => absI (fnR s n) from funext fun n => by rw [fnn n]]
              exact (sum_perm (pm.map _)).symm
            refine ⟨D, _, rfl, SqL.of h11, ?_⟩
            rw [e3]
            refine ⟨_, .int (absR r), rfl, .int _, fa.1, fa.2.1, fa.2.2.1, fa.2.2.2, ?_⟩
            refine ⟨rfl, _, rfl, ifnY rfl ?_⟩
            have S12 : Same H1 H11 := fun b u hb => S11 _ _ (S19 _ _ hb)
            refine ⟨_, rfl, _, rfl, fun x1 dx1 n1 m1 e1 => mk_lag (S12 _ _ h1) gs (by omega) n1 m1 e1 fun H13 r1 S13 lz1 gz1 fz1 fn1 _ => eq_go T (lx1.same (S12.trans S13)) lz1 ?_⟩
            rw [(eqR_iff gr.1 gz1.1 fr fz1).mpr fun n => (fnn n).trans (fn1 n).symm]
            refine ⟨_, rfl, iteT ?_⟩
            have S113 := S12.trans S13
            refine ⟨_, rfl, _, rfl, neg_go (lx1.same S113) gr (by omega) fun H14 z2 r2 S14 lz2 gz2 fz2 fn2 => neg_go lz2 gz2 (Nat.le_trans (full_len (r := r) gz2.1 fz2 fun n k => (fn2 n).trans (by show - fnR r n = 0; rw [k]; rfl)) (by omega)) fun H15 z3 r3 S15 lz3 gz3 fz3 fn3 => eq_go T (lx1.same (S113.trans (S14.trans S15))) lz3 ?_⟩
            rw [(eqR_iff gr.1 gz3.1 fr fz3).mpr fun n => by have h2 := fn2 n; have h3 := fn3 n; simp only at h2 h3; omega]
            refine ⟨_, rfl, iteT ?_⟩
            have S115 := S113.trans (S14.trans S15)
            refine ⟨_, rfl, _, rfl, eq_no (lx1.same S115) (S115 _ _ h1) ⟨_, rfl, _, rfl, iteT ?_⟩⟩
            refine ⟨_, rfl, _, rfl, fun x4 dx4 n4 m4 e4 => mk_lag (S115 _ _ hp1) gt (by omega) n4 m4 e4 fun H16 r4 S16 lz4 gz4 fz4 fn4 _ => ne_go T (lx1.same (S115.trans S16)) lz4 ?_⟩
            rw [(eqR_iff gr.1 gz4.1 fr fz4).mpr fun n => (hrt n).trans (fn4 n).symm]
            exact ⟨_, rfl, q _ (S1.trans (S115.trans S16))⟩
end
end L31

set_option Elab.async false
set_option linter.all false
set_option maxRecDepth 100000
set_option maxHeartbeats 4000000
set_option pp.deepTerms false
set_option pp.deepTerms.threshold 4
set_option pp.maxSteps 1000
namespace L31
open PySem L2 Tp
section
variable {P : Program} {w : World} {K : PySem.W.Frag} {mg : Str → Option Value} {base : Heap} {a : Ad} {d : Fd}
theorem eqR_refl {r : Row} (nd : NdR r) : eqR r r = true :=
  Bool.and_eq_true_iff.mpr ⟨beq_self_eq_true _, List.all_eq_true.mpr fun p hp => beq_iff_eq.mpr (mem_at nd hp)⟩
theorem merge_new : ∀ (s r : Row), NdR (r ++ s) → mergeK (kvR r) (kvR s) = kvR (r ++ s)
  | [], r, _ => by rw [List.append_nil]; rfl
  | p :: s, r, nd => by
    have nd' : NdR ((r ++ [p]) ++ s) := by rw [List.append_assoc]; exact nd
    have hp : p.1 ∉ r.map (·.1) := by
      intro h
      unfold NdR at nd
      rw [List.map_append, List.nodup_append] at nd
      exact nd.2.2 _ h _ List.mem_cons_self rfl
    show mergeK (putK (kvR r) (Sum.inr p.1) (.int p.2)) (kvR s) = _
    rw [put_kvR, put_new hp, merge_new s (r ++ [p]) nd', List.append_assoc]
    rfl
theorem merge_self {r : Row} (nd : NdR r) : mergeK [] (kvR r) = kvR r := merge_new r [] nd
theorem below_iff {r s : Row} : belowB r s = true ↔ ∀ n, fnR r n ≤ fnR s n := by
  unfold belowB
  rw [List.all_eq_true]
  constructor
  · intro h n
    by_cases m : n ∈ bothN r s
    · exact of_decide_eq_true (h n m)
    · unfold bothN at m
      rw [List.mem_append, not_or] at m
      have e1 : fnR r n = 0 := fn_none m.1
      have e2 : fnR s n = 0 := fn_none fun k => m.2 (List.mem_filter.mpr ⟨k, by rw [at_none.mpr m.1]; rfl⟩)
      omega
  · intro h n _
    exact decide_eq_true (h n)
/-- what one turn of the checks needs of a Lags and its dict -/
structure Same2 (a : Ad) (H : Hp) (z p : Addr) (r s : Row) : Prop where
  lag : LagAt a H z r
  dic : H p = some (.dK (kvR s))
  gr : GoodR r
  fr : FullR r
  ds : DrawnR s
  fn : ∀ n, fnR r n = fnR s n
theorem Same2.same {H H' : Hp} {z p : Addr} {r s : Row} (h : Same2 a H z p r s) (S : Same H H') : Same2 a H' z p r s := ⟨h.lag.same S, S _ _ h.dic, h.gr, h.fr, h.ds, h.fn⟩
theorem Same2.len {H : Hp} {z p : Addr} {r s : Row} (h : Same2 a H z p r s) : r.length ≤ 6 := Nat.le_trans (full_len (r := s) h.gr.1 h.fr fun n k => (h.fn n).trans k) h.ds.len
theorem drawn_fn {r : Row} (h : DrawnR r) (n : Str) : (fnR r n).natAbs ≤ 10 ^ 29 + 10 := by
  unfold fnR
  cases e : atR r n with
  | none => exact Nat.zero_le _
  | some i => exact (h.2 _ (at_mem e)).2
theorem bin1 {H : Hp} {z1 p1 z2 p2 : Addr} {r1 s1 r2 s2 : Row} {g : Int → Int → Int} {Q : VK} {E : XK} (h1 : Same2 a H z1 p1 r1 s1) (h2 : Same2 a H z2 p2 r2 s2) (q : NewLag a H Q (fun n => g (fnR r1 n) (fnR r2 n))) :
    rBinE a.CLags (spBin a g) E (.ref z1) (.ref z2) H Q := by
  obtain ⟨dx, ox, e1, e2⟩ := h1.lag
  obtain ⟨dy, oy, e3, e4⟩ := h2.lag
  exact ⟨z1, dx, _, z2, dy, _, rfl, rfl, e1, e3, z1, z2, r1, r2, rfl, h1.lag, h2.lag, h1.gr, h2.gr, Nat.le_trans h1.len (by decide), Nat.le_trans h2.len (by decide), q⟩
theorem join1 {s1 s2 j : Row} (h1 : DrawnR s1) (h2 : DrawnR s2) (nj : NdR j) (mj : ∀ e ∈ j, e.1 ∈ s1.map (·.1) ∨ e.1 ∈ s2.map (·.1)) : GoodR j ∧ j.length ≤ 20 := by
  have mem : ∀ e ∈ j, e.1 ∈ N6 := fun e he => by
    rcases mj e he with h | h
    · obtain ⟨e', he', e2⟩ := List.mem_map.mp h
      rw [← e2]
      exact (h1.2 e' he').1
    · obtain ⟨e', he', e2⟩ := List.mem_map.mp h
      rw [← e2]
      exact (h2.2 e' he').1
  refine ⟨⟨nj, fun e he => n6_nm _ (mem e he)⟩, ?_⟩
  have nd : (j.map (·.1)).Nodup := nj
  have := sub_len (m := N6) nd fun x hx => by
    obtain ⟨e, he, e2⟩ := List.mem_map.mp hx
    rw [← e2]
    exact mem e he
  rw [List.length_map] at this
  exact Nat.le_trans this (by decide)
theorem gW_bound {way : Int} : ∀ i j : Int, i.natAbs ≤ 10 ^ 29 + 10 → j.natAbs ≤ 10 ^ 29 + 10 → (gW way i j).natAbs ≤ 10 ^ 31 := by
  intro i j hi hj
  unfold gW
  have : (10 : Nat) ^ 29 + 10 ≤ 10 ^ 30 := by decide
  have : (10 : Nat) ^ 31 = 10 * 10 ^ 30 := by decide
  repeat' split
  all_goals omega
theorem eqv_nil (ws : List Str) : PyData.eqv (.list (ws.map PyData.str)) (.list []) = ws.isEmpty := by
  cases ws with
  | nil => simp [PyData.eqv, PyData.eqvAll]
  | cons w ws => simp [PyData.eqv, PyData.eqvAll]
theorem below_eq {r1 s1 r2 s2 : Row} (h1 : ∀ n, fnR r1 n = fnR s1 n) (h2 : ∀ n, fnR r2 n = fnR s2 n) : belowB r1 r2 = ((s1.map (·.1) ++ s2.map (·.1)).filter fun n => decide (fnR s1 n > fnR s2 n)).isEmpty := by
  rw [Bool.eq_iff_iff, below_iff, List.isEmpty_iff, List.filter_eq_nil_iff]
  constructor
  · intro h n _
    have := h n
    rw [h1, h2] at this
    simp
    omega
  · intro h n
    rw [h1, h2]
    by_cases m : n ∈ s1.map (·.1) ++ s2.map (·.1)
    · have := h n m
      simp at this
      omega
    · rw [List.mem_append, not_or] at m
      rw [fn_none m.1, fn_none m.2]
      omega
theorem same_eq {r1 s1 r2 s2 : Row} (n1 : NdR r1) (n2 : NdR r2) (f1 : FullR r1) (f2 : FullR r2) (m1 : NdR s1) (m2 : NdR s2) (h1 : ∀ n, fnR r1 n = fnR s1 n) (h2 : ∀ n, fnR r2 n = fnR s2 n) : eqR r1 r2 = eqR (nzR s1) (nzR s2) := by
  rw [Bool.eq_iff_iff, eqR_iff n1 n2 f1 f2, eqR_iff (nz_nd m1) (nz_nd m2) (nz_full s1) (nz_full s2)]
  constructor
  · intro h n
    rw [nz_fn m1, nz_fn m2, ← h1, ← h2, h]
  · intro h n
    have := h n
    rw [nz_fn m1, nz_fn m2, ← h1, ← h2] at this
    exact this
def AllS (a : Ad) (H : Hp) (zs ps : List Addr) : Prop := ∀ (k : Nat) (z p : Addr), zs[k]? = some z → ps[k]? = some p → ∃ r s, Same2 a H z p r s
end
end L31

set_option Elab.async false
set_option linter.all false
set_option maxRecDepth 100000
set_option maxHeartbeats 4000000
set_option pp.deepTerms false
set_option pp.deepTerms.threshold 4
set_option pp.maxSteps 1000
namespace L31
open PySem L2 Tp
section
variable {P : Program} {w : World} {K : PySem.W.Frag} {mg : Str → Option Value} {base : Heap} {a : Ad} {d : Fd}
def spLaw (K : PySem.W.Frag) : Sp := fun vs H Q _ => ∃ (s : Addr) (ns : List Int), vs = [.ref s] ∧ Sys K H ∧ SqL K H s (ns.map V.int) ∧ ns.length ≤ 63 ∧ ∀ H', Q (.bl true) H'
/-- the drawn dicts -/
def Drw (H : Hp) (ps : List Addr) (rs : List Row) : Prop := Paired (fun p r => H p = some (.dK (kvR r)) ∧ DrawnR r) ps rs
theorem Drw.kp {b : Addr} {n : Nat} {H H' : Hp} {ps : List Addr} {rs : List Row} (h : Drw H ps rs) (bx : BoxAt b n H) (k : Kp b H H') : Drw H' ps rs := by
  refine Paired.mono (fun p r h => ⟨k _ _ (fun z => ?_) h.1, h.2⟩) h
  obtain ⟨x, y, z', e, _⟩ := bx
  rw [z, e] at h
  cases h.1
theorem Drw.same {H H' : Hp} {ps : List Addr} {rs : List Row} (h : Drw H ps rs) (S : Same H H') : Drw H' ps rs := Paired.mono (fun p r h => ⟨S _ _ h.1, h.2⟩) h
theorem paired_app {α β : Type} {F : α → β → Prop} : ∀ {xs : List α} {ys : List β} {xs' : List α} {ys' : List β}, Paired F xs ys → Paired F xs' ys' → Paired F (xs ++ xs') (ys ++ ys')
  | _, _, _, _, .nil, h => h
  | _, _, _, _, .cons r t, h => .cons r (paired_app t h)
theorem keep_lst {H : Hp} {D b : Addr} {xs ys : List V} {u : HO} (hD : H D = some (.lst xs)) (hb : H b = some u) (nu : ∀ zs, u ≠ .lst zs) : upd H D (.lst ys) b = some u := by
  rw [upd_ne (fun z => by rw [z, hD] at hb; cases hb; exact nu _ rfl)]
  exact hb
/-- the Lags made of the rows; the dicts qs are none of theirs -/
def Mad (a : Ad) (H : Hp) (qs zs : List Addr) (rs : List Row) : Prop := Paired (fun z r => ∃ dx od r', H z = some (.ins a.CLags dx [("own_lags", .ref od)]) ∧ H od = some (.dK (kvR r')) ∧ od ∉ qs ∧ GoodR r' ∧ FullR r' ∧ ∀ n, fnR r' n = fnR r n) zs rs
theorem take_one {α : Type} {l : List α} {i : Nat} {x : α} (h : l[i]? = some x) : l.take (i + 1) = l.take i ++ [x] := by
  rw [List.take_add_one, h]
  rfl
theorem full_zero {r : Row} (f : FullR r) (nd : NdR r) (h : ∀ n, fnR r n = 0) : r = [] := by
  cases r with
  | nil => rfl
  | cons e r =>
    have e1 := mem_at nd List.mem_cons_self
    have e2 := h e.1
    unfold fnR at e2
    rw [e1] at e2
    exact absurd e2 (f e List.mem_cons_self)
/-- a dict is written out -/
theorem disp_new {H : Hp} {p : Addr} {kvs ms : List (Key × V)} (h : H p = none) (e : mergeK [] kvs = ms) : Same H (upd (upd H p (.dK [])) p (.dK (mergeK [] kvs))) ∧ (upd (upd H p (.dK [])) p (.dK (mergeK [] kvs))) p = some (.dK ms) := by
  rw [upd_upd, e]
  exact ⟨same_new h, upd_same⟩
def DOk (d : PyData) : Prop := (PyData.list [.str "name", d, .bool true]).showable = true ∧ (PyData.list [.str "name", d, .bool true]).depth ≤ 60 ∧ (PyData.list [.str "name", d, .bool true]).shown.length ≤ sizeLine
theorem solid3 {x y z : V} (h1 : Solid x) (h2 : Solid y) (h3 : Solid z) : ∀ v ∈ [x, y, z], Solid v := fun v hv => by
  simp only [List.mem_cons, List.not_mem_nil, or_false] at hv
  rcases hv with rfl | rfl | rfl
  · exact h1
  · exact h2
  · exact h3
theorem odd_dict {H : Hp} {p : Addr} {kvs : List (Key × V)} {q : Key × V} (i : Nat) (h : H p = some (.dK kvs)) (nd : (kvs.map (·.1)).Nodup) (hi : kvs[i]? = some q) (b : BadE q) (f : ∀ j e, j < i → kvs[j]? = some e → FineE e) : OddL K H (.ref p) ∧ Solid (.ref p) :=
  ⟨.inr ⟨p, kvs, i, q, rfl, h, nd, hi, b, f⟩, .inr ⟨p, rfl⟩⟩
theorem ok_law (T : Txt K mg a d) : FnG P w K mg base CX0 9 a.law d.law ["_law_script"] (spLaw K) := by
  have G_init := ok_init (P := P) (w := w) (base := base) T
  have G_rows := ok_rows (P := P) (w := w) (base := base) T
  have G_abs := ok_abs (P := P) (w := w) (base := base) T
  have G_eq := ok_eq (P := P) (w := w) (base := base) T
  have G_or := ok_or (P := P) (w := w) (base := base) T
  have G_and := ok_and (P := P) (w := w) (base := base) T
  have G_add := ok_add (P := P) (w := w) (base := base) T
  have G_sub := ok_sub (P := P) (w := w) (base := base) T
  have G_below := ok_below (P := P) (w := w) (base := base) T
  have G_rowsL := ok_rowsL (P := P) (w := w) (base := base) T
  have G_joined := ok_joined (P := P) (w := w) (base := base) T
  have G_drawn := ok_drawn (P := P) (w := w) (base := base) T
  have G_cell := ok_cell (P := P) (w := w) (base := base) T
  have G_box := ok_box (P := P) (w := w) (base := base) T
  have G_take := ok_take (P := P) (w := w) (base := base) T
  have G_caught := ok_caught (P := P) (w := w) (base := base) T
  have G_right := ok_right (P := P) (w := w) (base := base) T
  refine okG T.F_law scLaw (fun vs H Q E h => ?_) (fun cdv A outer s H vs Q E hr hg h => ?_)
  · obtain ⟨s, ns, rfl, _⟩ := h
    rfl
  · obtain ⟨s, ns, rfl, sy, hS, h63, q⟩ := h
    refine ⟨_, (pss_cons (ps_for PassesOwn.never rfl (pi_range1 (by rfl) T.range_ (pa_cons (pe_callB (call_max2 rfl) (by rfl) T.max_ Tp.bt_max (pa_cons pe_int (pa_cons (pe_callB (call_min2 rfl) (by rfl) T.min_ Tp.bt_min (pa_cons pe_int (pa_cons (pe_callB call_len_seq (by rfl) T.len_ Tp.bt_len (pa_cons (pv 0) pa_nil)) pa_nil))) pa_nil))) pa_nil)) (pg_name (i := 1) scLaw.nd rfl (Or.inl rfl)) (pss_cons (ps_set (i := 2) scLaw.nd rfl (Or.inr rfl) (Tp.pe_callG G_box (hr.mono (by decide)) hg (by rfl) T.mg_box T.F_box.kp T.b_box .nil pass0 (pa_cons (Tp.pe_callG G_cell (hr.mono (by decide)) hg (by rfl) T.mg_cell T.F_cell.kp T.b_cell .nil pass0 (pa_cons (pv 0) (pa_cons (pv 1) pa_nil))) pa_nil)))
      (pss_cons (ps_setLc (i := 3) (own := [("_law_turn", 15)]) (by rfl) scLaw.nd rfl rfl (sw_true rfl rfl rfl (by decide +kernel)) (pi_range1 (by rfl) T.range_ (pa_cons (pe_op op_add pe_int (Tp.pe_callG G_take (hr.mono (by decide)) hg (by rfl) T.mg_take T.F_take.kp T.b_take .nil pass0 (pa_cons (pv 2) (pa_cons pe_int pa_nil)))) pa_nil)) (blkOk_by (own := [("_law_turn", 15)]) (N := scLaw_N) (sc := defScope scLaw_st) (by decide +kernel)) (fun _ _ _ _ _ => (pg_name (i := 15) scLaw.nd rfl (Or.inl rfl))) (fun _ _ _ _ _ => pts_nil) (fun _ _ _ _ _ => (Tp.pe_callG G_drawn (hr.mono (by decide)) hg (by rfl) T.mg_drawn T.F_drawn.kp T.b_drawn .nil pass0 (pa_cons (pv 2) pa_nil))))
      (pss_cons (ps_setLc (i := 4) (own := [("_law_rows_here", 6)]) (by rfl) scLaw.nd rfl rfl (sw_true rfl rfl rfl (by decide +kernel)) (pi_list (pv 3)) (blkOk_by (own := [("_law_rows_here", 6)]) (N := scLaw_N) (sc := defScope scLaw_st) (by decide +kernel)) (fun _ _ _ _ _ => (pg_name (i := 6) scLaw.nd rfl (Or.inl rfl))) (fun _ _ _ _ _ => pts_nil) (fun _ _ _ _ _ => (pe_callTy (Tp.call_dictPK (K := K) rfl rfl) (by rfl) T.dict_ Tp.bt_dict (pa_cons (LiI.pe_listItems rfl (pv 6) (by rfl) T.list_ Tp.bt_list) pa_nil))))
      (pss_cons (ps_setLc (i := 5) (own := [("_law_rows_here", 6)]) (by rfl) scLaw.nd rfl rfl (sw_true rfl rfl rfl (by decide +kernel)) (pi_list (pv 4)) (blkOk_by (own := [("_law_rows_here", 6)]) (N := scLaw_N) (sc := defScope scLaw_st) (by decide +kernel)) (fun _ _ _ _ _ => (pg_name (i := 6) scLaw.nd rfl (Or.inl rfl))) (fun _ _ _ _ _ => pts_nil) (fun _ _ _ _ _ => (Tp.pe_makeE T.mk_Lags G_init (hr.mono (by decide)) (by rfl) T.mg_Lags T.b_init .nil (fun σ => Tp.passA0 σ) (pa_cons (pv 6) pa_nil))))
      (pss_cons (ps_for PassesOwn.never rfl (pi_zip (by rfl) T.zip_ (pa_cons (pv 4) (pa_cons (pv 3) pa_nil))) (pg_tup (by rfl) (pgs_cons (pg_name (i := 6) scLaw.nd rfl (Or.inl rfl)) (pgs_cons (pg_name (i := 7) scLaw.nd rfl (Or.inl rfl)) pgs_nil))) (pss_cons (ps_if (PW.pt (pw_or (pt_cmpR (Tp.op_neDI (Tp.hu0 hr)) (pv 6) (pv 7) (nomark _)) (pw_or1 (pt_cmpR (op_neD hr.units) (pe_callTy (call_listD rfl) (by rfl) T.list_ Tp.bt_list (pa_cons (pv 6) pa_nil)) (pe_callTy (call_listD rfl) (by rfl) T.list_ Tp.bt_list (pa_cons (pv 7) pa_nil)) (nomark _))))) (pss_one (ps_ret pe_bl)) pss_nil)
      (pss_one (ps_dput (Tp.hu1 hr) (pv 6) pe_str pe_int rfl))))
      (pss_cons (ps_for PassesOwn.never rfl (pi_zip (by rfl) T.zip_ (pa_cons (pv 5) (pa_cons (pv 3) pa_nil))) (pg_tup (by rfl) (pgs_cons (pg_name (i := 8) scLaw.nd rfl (Or.inl rfl)) (pgs_cons (pg_name (i := 9) scLaw.nd rfl (Or.inr rfl)) pgs_nil))) (pss_cons (ps_for PassesOwn.never rfl (pi_zip (by rfl) T.zip_ (pa_cons (pv 5) (pa_cons (pv 3) pa_nil))) (pg_tup (by rfl) (pgs_cons (pg_name (i := 10) scLaw.nd rfl (Or.inl rfl)) (pgs_cons (pg_name (i := 11) scLaw.nd rfl (Or.inr rfl)) pgs_nil))) (pss_cons (ps_if (pt_not (pt_val (Tp.pe_callG G_right (hr.mono (by decide)) hg (by rfl) T.mg_right T.F_right.kp T.b_right .nil pass0 (pa_cons (pe_op (Tp.op_binE T.sf_Lags T.me_or.at_ T.me_or.fn G_or (hr.mono (by decide)) T.b_or pass0) (pv 8) (pv 10)) (pa_cons (Tp.pe_callG G_joined (hr.mono (by decide)) hg (by rfl) T.mg_joined T.F_joined.kp T.b_joined .nil pass0 (pa_cons (pv 9) (pa_cons (pv 11) (pa_cons pe_int pa_nil)))) pa_nil))))) (pss_one (ps_ret pe_bl)) pss_nil)
      (pss_cons (ps_if (pt_not (pt_val (Tp.pe_callG G_right (hr.mono (by decide)) hg (by rfl) T.mg_right T.F_right.kp T.b_right .nil pass0 (pa_cons (pe_op (Tp.op_binE T.sf_Lags T.me_and.at_ T.me_and.fn G_and (hr.mono (by decide)) T.b_and pass0) (pv 8) (pv 10)) (pa_cons (Tp.pe_callG G_joined (hr.mono (by decide)) hg (by rfl) T.mg_joined T.F_joined.kp T.b_joined .nil pass0 (pa_cons (pv 9) (pa_cons (pv 11) (pa_cons pe_int pa_nil)))) pa_nil))))) (pss_one (ps_ret pe_bl)) pss_nil)
      (pss_cons (ps_if (pt_not (pt_val (Tp.pe_callG G_right (hr.mono (by decide)) hg (by rfl) T.mg_right T.F_right.kp T.b_right .nil pass0 (pa_cons (pe_op (Tp.op_binE T.sf_Lags T.me_add.at_ T.me_add.fn G_add (hr.mono (by decide)) T.b_add pass0) (pv 8) (pv 10)) (pa_cons (Tp.pe_callG G_joined (hr.mono (by decide)) hg (by rfl) T.mg_joined T.F_joined.kp T.b_joined .nil pass0 (pa_cons (pv 9) (pa_cons (pv 11) (pa_cons pe_int pa_nil)))) pa_nil))))) (pss_one (ps_ret pe_bl)) pss_nil)
      (pss_cons (ps_if (pt_not (pt_val (Tp.pe_callG G_right (hr.mono (by decide)) hg (by rfl) T.mg_right T.F_right.kp T.b_right .nil pass0 (pa_cons (pe_op (Tp.op_binE T.sf_Lags T.me_sub.at_ T.me_sub.fn G_sub (hr.mono (by decide)) T.b_sub pass0) (pv 8) (pv 10)) (pa_cons (Tp.pe_callG G_joined (hr.mono (by decide)) hg (by rfl) T.mg_joined T.F_joined.kp T.b_joined .nil pass0 (pa_cons (pv 9) (pa_cons (pv 11) (pa_cons pe_int pa_nil)))) pa_nil))))) (pss_one (ps_ret pe_bl)) pss_nil)
      (pss_cons (ps_setLc (i := 12) (own := [("_law_name", 16)]) (by rfl) scLaw.nd rfl rfl (sw_true rfl rfl rfl (by decide +kernel)) (pi_list (pe_op op_cat (pe_callTy (call_listD rfl) (by rfl) T.list_ Tp.bt_list (pa_cons (pv 9) pa_nil)) (pe_callTy (call_listD rfl) (by rfl) T.list_ Tp.bt_list (pa_cons (pv 11) pa_nil)))) (blkOk_by (own := [("_law_name", 16)]) (N := scLaw_N) (sc := defScope scLaw_st) (by decide +kernel)) (fun _ _ _ _ _ => (pg_name (i := 16) scLaw.nd rfl (Or.inl rfl))) (fun _ _ _ _ _ => (pts_one (pt_cmpR op_gt (pe_dget2 (Tp.hu1 hr) (pv 9) (pv 16) pe_int ⟨rfl, rfl, rfl, rfl⟩) (pe_dget2 (Tp.hu1 hr) (pv 11) (pv 16) pe_int ⟨rfl, rfl, rfl, rfl⟩) (nomark _)))) (fun _ _ _ _ _ => (pv 16)))
      (pss_one (ps_if (PW.pt (pw_or (pt_cmpR op_ne (pe_meth (pv 8) T.cl_Lags T.me_below G_below (hr.mono (by decide)) T.b_below .nil pass0 (pa_cons (pv 10) pa_nil)) (pe_cmpR (op_eqD hr.units) (pv 12) (pe_lst pa_nil) (nomark _)) (nomark _)) (pw_or1 (pt_cmpR op_ne (pe_cmpR (Tp.op_eqE T.me_eq.at_ T.me_eq.fn G_eq (hr.mono (by decide)) T.b_eq pass0) (pv 8) (pv 10) (nomark _)) (pe_cmpR (Tp.op_eqDI (Tp.hu0 hr)) (Tp.pe_callG G_rowsL (hr.mono (by decide)) hg (by rfl) T.mg_rowsL T.F_rowsL.kp T.b_rowsL .nil pass0 (pa_cons (pv 9) pa_nil)) (Tp.pe_callG G_rowsL (hr.mono (by decide)) hg (by rfl) T.mg_rowsL T.F_rowsL.kp T.b_rowsL .nil pass0 (pa_cons (pv 11) pa_nil)) (nomark _)) (nomark _))))) (pss_one (ps_ret pe_bl)) pss_nil))))))))
      (pss_one (ps_if (pt_not (pt_val (Tp.pe_callG G_right (hr.mono (by decide)) hg (by rfl) T.mg_right T.F_right.kp T.b_right .nil pass0 (pa_cons (pv 8) (pa_cons (pv 9) pa_nil))))) (pss_one (ps_ret pe_bl)) pss_nil))))
      (pss_cons (ps_set (i := 13) scLaw.nd rfl (Or.inl rfl) (pe_lst (pa_cons (pe_disp (pps_cons pe_str pe_int pps_nil) (by rfl) (by rfl) (fun z => by cases z) (by decide)) (pa_cons (pe_disp (pps_cons pe_str pe_bl pps_nil) (by rfl) (by rfl) (fun z => by cases z) (by decide)) (pa_cons (pe_disp (pps_cons pe_str pe_non pps_nil) (by rfl) (by rfl) (fun z => by cases z) (by decide)) (pa_cons (pe_disp (pps_cons pe_int pe_int pps_nil) (by rfl) (by rfl) (fun z => by cases z) (by decide)) (pa_cons (pe_disp (pps_cons pe_str pe_int (pps_cons pe_str pe_int pps_nil)) (by rfl) (by rfl) (fun z => by cases z) (by decide)) (pa_cons (pe_disp (pps_cons pe_str pe_str pps_nil) (by rfl) (by rfl) (fun z => by cases z) (by decide)) (pa_cons (pe_ix ix_list (pv 5) pe_int (fun _ _ => rfl)) pa_nil)))))))))
      (pss_cons (ps_for PassesOwn.never rfl (pi_list (pe_op op_cat (pe_lst (pa_cons pe_non (pa_cons pe_bl (pa_cons pe_int (pa_cons pe_str (pa_cons (pe_lst pa_nil) pa_nil)))))) (pv 13))) (pg_name (i := 14) scLaw.nd rfl (Or.inl rfl)) (pss_one (ps_if (pt_cmpR (Tp.op_neL hr.units) (Tp.pe_callG G_caught (hr.mono (by decide)) hg (by rfl) T.mg_caught T.F_caught.kp T.b_caught .nil pass0 (pa_cons pe_int (pa_cons (pv 14) pa_nil))) (pe_lst (pa_cons pe_str (pa_cons (pv 14) (pa_cons pe_bl pa_nil)))) (nomark _)) (pss_one (ps_ret pe_bl)) pss_nil)))
      (pss_one (ps_for PassesOwn.never rfl (pi_list (pe_lst (pa_cons pe_non (pa_cons pe_bl (pa_cons pe_int (pa_cons pe_str (pa_cons pe_str (pa_cons pe_str (pa_cons (pe_lst pa_nil) (pa_cons (pe_lst (pa_cons pe_str pa_nil)) (pa_cons pe_dnewK pa_nil))))))))))) (pg_name (i := 14) scLaw.nd rfl (Or.inl rfl)) (pss_one (ps_if (pt_cmpR op_ne (pe_callB (Tp.call_reprQ hr hg) (by rfl) T.repr_ Tp.bt_repr (pa_cons (Tp.pe_callG G_caught (hr.mono (by decide)) hg (by rfl) T.mg_caught T.F_caught.kp T.b_caught .nil pass0 (pa_cons pe_int (pa_cons (pv 14) pa_nil))) pa_nil)) (pe_callB (Tp.call_reprQ hr hg) (by rfl) T.repr_ Tp.bt_repr (pa_cons (pe_lst (pa_cons pe_str (pa_cons (pv 14) (pa_cons pe_bl pa_nil)))) pa_nil)) (nomark _)) (pss_one (ps_ret pe_bl)) pss_nil)))))))))))))
      (pss_one (ps_ret (pe_and (pe_cmpR (Tp.op_eqDI (Tp.hu0 hr)) (pe_meth0 (Tp.pe_makeE T.mk_Lags G_init (hr.mono (by decide)) (by rfl) T.mg_Lags T.b_init .nil (fun σ => Tp.passA0 σ) (pa_cons pe_dnewK pa_nil)) T.cl_Lags T.me_rows G_rows (hr.mono (by decide)) T.b_rows .nil pass0) pe_dnewK (nomark _)) (pe_and (pe_cmpR op_eq (pe_callB (Tp.call_absE T.me_abs.at_ T.me_abs.fn G_abs (hr.mono (by decide)) T.b_abs pass0) (by rfl) T.abs_ Tp.bt_abs (pa_cons (Tp.pe_makeE T.mk_Lags G_init (hr.mono (by decide)) (by rfl) T.mg_Lags T.b_init .nil (fun σ => Tp.passA0 σ) (pa_cons (pe_disp (pps_cons pe_str pe_int pps_nil) (by rfl) (by rfl) (fun z => by cases z) (by decide)) pa_nil)) pa_nil)) pe_int (nomark _)) (pe_one (pe_cmpR (Tp.op_eqE T.me_eq.at_ T.me_eq.fn G_eq (hr.mono (by decide)) T.b_eq pass0) (Tp.pe_makeE T.mk_Lags G_init (hr.mono (by decide)) (by rfl) T.mg_Lags T.b_init .nil (fun σ => Tp.passA0 σ) (pa_cons pe_dnewK pa_nil)) (Tp.pe_makeE T.mk_Lags G_init (hr.mono (by decide)) (by rfl) T.mg_Lags T.b_init .nil (fun σ => Tp.passA0 σ) (pa_cons (pe_disp (pps_cons pe_str pe_int pps_nil) (by rfl) (by rfl) (fun z => by cases z) (by decide)) pa_nil)) (nomark _)))))))), ?_⟩
    refine ⟨_, rfl, s, _, rfl, .inl hS, _, _, rfl, _, _, rfl, ?_⟩
    generalize hm : (if _ > (2 : Int) then _ else (2 : Int)) = m
    have m1 : 0 ≤ m ∧ m ≤ 8 := by
      rw [← hm]
      rw [List.length_map]
      repeat' split
      all_goals omega
    refine ⟨_, rfl, by omega, by omega, for_range (lo := 0) (n := m.toNat) (fun i σ H' => Same H H' ∧ ∃ v1 v2 v3 v4 v5 v6 v7 v8 v9 v10 v11 v12 v13 v14, σ = [some (.ref s), v1, v2, v3, v4, v5, v6, v7, v8, v9, v10, v11, v12, v13, v14, none, none]) ⟨Same.refl H, none, none, none, none, none, none, none, none, none, none, none, none, none, none, rfl⟩ ?_ ?_⟩
    · rintro i σ H0 hi ⟨S0, v1, v2, v3, v4, v5, v6, v7, v8, v9, v10, v11, v12, v13, v14, rfl⟩
      refine ⟨_, rfl, _, rfl, s, ns, _, rfl, S0.seq hS, by omega, by omega, fun c => ⟨_, rfl, fun b x y hb x0 y0 y1 => ?_⟩⟩
      have S1 : Same H (upd H0 b (.lst [.int x, .int y, .int 0])) := S0.trans (same_new hb)
      have bx : BoxAt b 0 (upd H0 b (.lst [.int x, .int y, .int 0])) := ⟨x, y, 0, upd_same, x0, y0, y1, by decide, by decide⟩
      have nb : H b = none := by
        cases e : H b with
        | none => rfl
        | some u => rw [S0 _ _ e] at hb; cases hb
      generalize upd H0 b (.lst [.int x, .int y, .int 0]) = H1 at S1 bx
      refine ⟨_, rfl, b, 3, 0, rfl, bx, by decide, by decide, by decide, fun r1 H2 r0 r3 k2 bx2 => ?_⟩
      have S2 : Same H H2 := fun b' u hb' => k2 _ _ (fun z => by rw [z, nb] at hb'; cases hb') (S1 _ _ hb')
      refine ⟨_, _, rfl, rfl, 2 + r1, rfl, by omega, by omega, fun D hD => ?_⟩
      refine lc_range (lo := 0) (n := (2 + r1).toNat) (fun j H' => BoxAt b (1 + 100 * j) H' ∧ Kp b H2 H' ∧ ∃ (ps : List Addr) (rs : List Row), H' D = some (.lst (ps.map V.ref)) ∧ ps.length = j ∧ Drw H' ps rs) ?_ ?_ ?_
      · exact ⟨(bx2.off (bx2.ne hD)).up (by omega), Kp.new hD, [], [], upd_same, rfl, .nil⟩
      · rintro j H' hj ⟨bxj, kj, ps, rs, hDj, lj, dr⟩
        refine ⟨rfl, _, rfl, b, _, rfl, bxj, by omega, fun H3 p r hp k3 bx3 h3 dd => ?_⟩
        have nbD : D ≠ b := bx2.ne hD
        refine ⟨ps.map V.ref, k3 _ _ nbD hDj, ?_, ?_⟩
        · rw [List.length_map]
          exact Nat.lt_of_le_of_lt (show _ ≤ 10 by omega) (by decide)
        · refine ⟨(bx3.off nbD).up (by omega), fun c u nc hc => ?_, ps ++ [p], rs ++ [r], ?_, ?_, ?_⟩
          · rw [upd_ne (fun z => by rw [z, hD] at hc; cases hc)]
            exact k3 _ _ nc (kj _ _ nc hc)
          · rw [upd_same, List.map_append]
            rfl
          · rw [List.length_append, lj]
            rfl
          · have npD : p ≠ D := fun z => by rw [z, hDj] at hp; cases hp
            exact paired_app (Paired.mono (fun p' r' h => ⟨keep_lst (k3 _ _ nbD hDj) h.1 (by intro _ z; cases z), h.2⟩) (dr.kp bxj k3)) (.cons ⟨by rw [upd_ne npD]; exact h3, dd⟩ .nil)
      · rintro H3 ⟨bx3, k3, ps, rs, hD3, l3, dr3⟩
        have S3 : Same H H3 := fun b' u hb' => k3 _ _ (fun z => by rw [z, nb] at hb'; cases hb') (S2 _ _ hb')
        have lrs : ps.length = rs.length := Paired.length dr3
        refine ⟨_, rfl, D, rfl, ⟨_, SqL.of hD3⟩, fun D2 hD2 => ?_⟩
        refine lc_it (walk_list (xs := ps.map V.ref)) (fun j H' => Same H3 H' ∧ ∃ qs : List Addr, H' D2 = some (.lst (qs.map V.ref)) ∧ qs.length = j ∧ (∀ q ∈ qs, H3 q = none) ∧ qs.Nodup ∧ Paired (fun q r => H' q = some (.dK (kvR r))) qs (rs.take j)) ⟨same_new hD2, [], upd_same, rfl, (fun _ h => nomatch h), List.nodup_nil, .nil⟩ ?_ ?_ ?_
        · rintro j H' _ ⟨S, _⟩
          exact SqL.of (S _ _ hD3)
        · rintro j y _ H' hj ⟨S, qs, hQ, lq, nq, ndq, pq⟩ ⟨rfl, hy⟩
          rw [List.getElem?_map] at hy
          obtain ⟨p, hp, rfl⟩ := Option.map_eq_some_iff.mp hy
          obtain ⟨r, hr1, hpr, dr⟩ := LiI.paired_get dr3 hp
          refine ⟨rfl, _, rfl, p, kvR r, rfl, S _ _ hpr, fun H4 l ts keep nl nts nlt hl pt => ?_⟩
          refine ⟨l, ts, kvR r, rfl, SqL.of hl, Paired.mono (fun t e h => SqT.of h) pt, fun q hq => ?_⟩
          have S4 : Same H' H4 := keep
          have S5 : Same H4 (upd H4 q (.dK (mergeK [] (kvR r)))) := same_new hq
          have h5 : (upd H4 q (.dK (mergeK [] (kvR r)))) q = some (.dK (kvR r)) := by rw [upd_same, merge_self dr.1]
          have nq3 : H3 q = none := by
            cases e : H3 q with
            | none => rfl
            | some u => rw [keep _ _ (S _ _ e)] at hq; cases hq
          generalize upd H4 q (.dK (mergeK [] (kvR r))) = H5 at S5 h5
          have S45 := S4.trans S5
          refine ⟨_, S45 _ _ hQ, ?_, ?_⟩
          · rw [List.length_map, lq]
            rw [List.length_map] at hj
            exact Nat.lt_of_le_of_lt (show _ ≤ 10 by omega) (by decide)
          · refine ⟨Tp.Same.mut (S.trans S45) hD2, qs ++ [q], ?_, ?_, ?_, ?_, ?_⟩
            · rw [upd_same, List.map_append]
              rfl
            · rw [List.length_append, lq]
              rfl
            · intro c hc
              rcases List.mem_append.mp hc with hc | hc
              · exact nq c hc
              · rw [List.mem_singleton.mp hc]
                exact nq3
            · refine List.nodup_append.mpr ⟨ndq, List.nodup_cons.mpr ⟨List.not_mem_nil, List.nodup_nil⟩, fun c hc c' hc' => ?_⟩
              rw [List.mem_singleton.mp hc']
              intro z
              obtain ⟨i', e'⟩ := List.mem_iff_getElem?.mp hc
              obtain ⟨r', _, e''⟩ := LiI.paired_get pq e'
              rw [z] at e''
              rw [keep _ _ e''] at hq
              cases hq
            · rw [take_one hr1]
              refine paired_app (Paired.mono (fun c r' h => keep_lst (S45 _ _ hQ) (S45 _ _ h) (by intro _ z; cases z)) pq) (.cons (keep_lst (S45 _ _ hQ) h5 (by intro _ z; cases z)) .nil)
        · rintro H4 ⟨S4, qs, hQ, lq, nq, ndq, pq⟩
          rw [List.length_map] at lq pq
          rw [lrs, List.take_length] at pq
          have lqr : qs.length = rs.length := Paired.length pq
          refine ⟨_, rfl, D2, rfl, ⟨_, SqL.of hQ⟩, fun D3 hD3' => ?_⟩
          refine lc_it (walk_list (xs := qs.map V.ref)) (fun j H' => Same H4 H' ∧ ∃ zs : List Addr, H' D3 = some (.lst (zs.map V.ref)) ∧ zs.length = j ∧ Mad a H' qs zs (rs.take j)) ⟨same_new hD3', [], upd_same, rfl, .nil⟩ ?_ ?_ ?_
          · rintro j H' _ ⟨S, _⟩
            exact SqL.of (S _ _ hQ)
          · rintro j y _ H' hj ⟨S, zs, hZ, lz, pz⟩ ⟨rfl, hy⟩
            rw [List.getElem?_map] at hy
            obtain ⟨q1, hq1, rfl⟩ := Option.map_eq_some_iff.mp hy
            obtain ⟨r, hr1, hqr⟩ := LiI.paired_get pq hq1
            have hj' : j < ps.length := by rw [List.length_map] at hj; omega
            obtain ⟨r', hr2, _, dr⟩ := LiI.paired_get dr3 (List.getElem?_eq_getElem hj')
            rw [hr1] at hr2
            cases hr2
            refine ⟨rfl, _, rfl, fun x1 dx1 n1 n2 ne => mk_lag (S _ _ hqr) dr.good (Nat.lt_of_le_of_lt dr.len (by decide)) n1 n2 ne fun H5 r5 S5 l5 g5 f5 fn5 new5 => ?_⟩
            obtain ⟨dz, oz, z1, z2⟩ := l5
            refine ⟨_, S5 _ _ hZ, ?_, ?_⟩
            · rw [List.length_map, lz]
              exact Nat.lt_of_le_of_lt (show _ ≤ 10 by omega) (by decide)
            · refine ⟨Tp.Same.mut (S.trans S5) hD3', zs ++ [x1], ?_, ?_, ?_⟩
              · rw [upd_same, List.map_append]
                rfl
              · rw [List.length_append, lz]
                rfl
              · rw [take_one hr1]
                have out : oz ∉ qs := fun m => by
                  obtain ⟨i', e'⟩ := List.mem_iff_getElem?.mp m
                  obtain ⟨r', _, e''⟩ := LiI.paired_get pq e'
                  have := new5 _ _ z1
                  rw [S _ _ e''] at this
                  cases this
                refine paired_app (Paired.mono ?_ pz) (.cons ⟨dz, oz, r5, keep_lst (S5 _ _ hZ) z1 (by intro _ z; cases z), keep_lst (S5 _ _ hZ) z2 (by intro _ z; cases z), out, g5, f5, fn5⟩ .nil)
                rintro z r' ⟨dx, od, r'', k1, k2, k3⟩
                exact ⟨dx, od, r'', keep_lst (S5 _ _ hZ) (S5 _ _ k1) (by intro _ z; cases z), keep_lst (S5 _ _ hZ) (S5 _ _ k2) (by intro _ z; cases z), k3⟩
          · rintro H5 ⟨S5, zs, hZ, lz, pz⟩
            rw [List.length_map] at lz pz
            rw [lqr, List.take_length] at pz
            have hQ5 := S5 _ _ hQ
            have hD5 := S5 _ _ (S4 _ _ hD3)
            have pq5 : Paired (fun q r => H5 q = some (.dK (kvR r))) qs rs := Paired.mono (fun _ _ h => S5 _ _ h) pq
            have dr5 : Drw H5 ps rs := dr3.same (S4.trans S5)
            have S35 := S4.trans S5
            have npq : ∀ p ∈ ps, p ∉ qs := fun p hp hq => by
              obtain ⟨i', e'⟩ := List.mem_iff_getElem?.mp hp
              obtain ⟨r', _, e''⟩ := LiI.paired_get dr3 e'
              rw [nq p hq] at e''
              cases e''.1
            have nDq : ∀ {D : Addr} {xs : List V}, H5 D = some (.lst xs) → D ∉ qs := fun {D xs} h hq => by
              obtain ⟨i', e'⟩ := List.mem_iff_getElem?.mp hq
              obtain ⟨r', _, e''⟩ := LiI.paired_get pq5 e'
              rw [h] at e''
              cases e''
            refine ⟨_, rfl, _, rfl, D2, D, _, _, rfl, SqL.of hQ5, SqL.of hD5, RZ.for_zipL (xs := qs.map V.ref) (ys := ps.map V.ref) (by rw [List.length_map, List.length_map]; omega) (fun j σ H' => (∀ b' u, H5 b' = some u → b' ∉ qs → H' b' = some u) ∧ (∀ k q' r', j ≤ k → qs[k]? = some q' → rs[k]? = some r' → H' q' = some (.dK (kvR r'))) ∧
              ∃ v6 v7, σ = [some (.ref s), some (.int (0 + (i : Int))), some (.ref b), some (.ref D), some (.ref D2), some (.ref D3), v6, v7, v8, v9, v10, v11, v12, v13, v14, none, none]) ?_ ?_ ?_ ?_⟩
            · refine ⟨fun _ _ h _ => h, fun k q' r' _ hq hr => ?_, _, _, rfl⟩
              obtain ⟨r'', e, h⟩ := LiI.paired_get pq5 hq
              rw [hr] at e
              cases e
              exact h
            · rintro j σ H' ⟨kp, _⟩
              exact ⟨SqL.of (kp _ _ hQ5 (nDq hQ5)), SqL.of (kp _ _ hD5 (nDq hD5))⟩
            · rintro j x y T' σ H' hx hy ⟨kp, kq, v6', v7', rfl⟩ hT'
              rw [List.getElem?_map] at hx hy
              obtain ⟨q1, hq1, rfl⟩ := Option.map_eq_some_iff.mp hx
              obtain ⟨p1, hp1, rfl⟩ := Option.map_eq_some_iff.mp hy
              obtain ⟨r, hr1, hpr, dr⟩ := LiI.paired_get dr5 hp1
              have e1 := kq j q1 r (Nat.le_refl _) hq1 hr1
              have e2 := kp _ _ hpr (npq p1 (List.mem_of_getElem? hp1))
              have ST : Same H' (upd H' T' (.tup [.ref q1, .ref p1])) := same_new hT'
              have hT : (upd H' T' (.tup [.ref q1, .ref p1])) T' = some (.tup [.ref q1, .ref p1]) := upd_same
              generalize upd H' T' (.tup [.ref q1, .ref p1]) = H6 at ST hT ⊢
              refine ⟨T', _, rfl, SqT.of hT, rfl, _, _, rfl, _, _, rfl, rfl, ?_⟩
              refine ⟨_, rfl, _, rfl, q1, p1, r, r, rfl, rfl, ST _ _ e1, ST _ _ e2, _, rfl, ?_⟩
              rw [eqR_refl dr.1]
              refine iteF ⟨_, rfl, q1, _, rfl, .inl (ST _ _ e1), fun l1 hl1 => ?_⟩
              have S7 : Same H6 (upd H6 l1 (.lst ((kvR r).map fun kv => kV kv.1))) := same_new hl1
              have g1 : (upd H6 l1 (.lst ((kvR r).map fun kv => kV kv.1))) l1 = some (.lst ((r.map (·.1)).map V.str)) := by rw [upd_same, kv_keys]
              generalize upd H6 l1 (.lst ((kvR r).map fun kv => kV kv.1)) = H7 at S7 g1
              refine ⟨_, rfl, p1, _, rfl, .inl (S7 _ _ (ST _ _ e2)), fun l2 hl2 => ?_⟩
              have S8 : Same H7 (upd H7 l2 (.lst ((kvR r).map fun kv => kV kv.1))) := same_new hl2
              have g2 : (upd H7 l2 (.lst ((kvR r).map fun kv => kV kv.1))) l2 = some (.lst ((r.map (·.1)).map V.str)) := by rw [upd_same, kv_keys]
              generalize upd H7 l2 (.lst ((kvR r).map fun kv => kV kv.1)) = H8 at S8 g2
              have sh := shaped_n6 (ws := r.map (·.1)) fun y hy => by
                obtain ⟨e, he, e'⟩ := List.mem_map.mp hy
                rw [← e']
                exact (dr.2 e he).1
              refine ⟨.list ((r.map (·.1)).map PyData.str), .list ((r.map (·.1)).map PyData.str), .lst (SqL.of (S8 _ _ g1)) (dp_strs _), .lst (SqL.of g2) (dp_strs _), sh, sh, _, rfl, ?_⟩
              rw [SeqAt.eqv_refl _ (SeqAt.canLay_of_shaped sh)]
              refine iteF ?_
              have S68 := ST.trans (S7.trans S8)
              refine ⟨_, rfl, q1, _, rfl, .inl ⟨_, Sum.inr "late2", S68 _ _ e1, rfl, ?_, rfl⟩, ?_⟩
              · rw [kvR_length]
                exact Nat.lt_of_le_of_lt dr.len (by decide)
              · refine ⟨fun b' u hb' nb' => ?_, fun k q' r' hk hq hr => ?_, _, _, rfl⟩
                · rw [upd_ne (fun z => nb' (by rw [z]; exact List.mem_of_getElem? hq1))]
                  exact S68 _ _ (kp _ _ hb' nb')
                · have nqq : q' ≠ q1 := fun z => by
                    subst z
                    obtain ⟨h1, h2⟩ := List.getElem?_eq_some_iff.mp hq
                    obtain ⟨h3, h4⟩ := List.getElem?_eq_some_iff.mp hq1
                    exact (List.pairwise_iff_getElem.mp ndq) j k h3 h1 (by omega) (h4.trans h2.symm)
                  rw [upd_ne nqq]
                  exact S68 _ _ (kq k q' r' (by omega) hq hr)
            · rintro σ H6 ⟨kp, _, v6', v7', rfl⟩
              have S6 : Same H H6 := fun b' u hb' => kp _ _ (S35 _ _ (S3 _ _ hb')) fun m => by
                have := nq _ m
                rw [S3 _ _ hb'] at this
                cases this
              have hZ6 := kp _ _ hZ (nDq hZ)
              have hD6 := kp _ _ hD5 (nDq hD5)
              have all : AllS a H6 zs ps := fun k z p hz hp => by
                obtain ⟨r, hr1, dx, od, r', k1, k2, k3, k4, k5, k6⟩ := LiI.paired_get pz hz
                obtain ⟨r2, hr2, k7, k8⟩ := LiI.paired_get dr5 hp
                rw [hr1] at hr2
                cases hr2
                have nz' : z ∉ qs := fun m => by
                  obtain ⟨i', e'⟩ := List.mem_iff_getElem?.mp m
                  obtain ⟨r', _, e''⟩ := LiI.paired_get pq5 e'
                  rw [k1] at e''
                  cases e''
                exact ⟨r', r, ⟨dx, od, kp _ _ k1 nz', kp _ _ k2 k3⟩, kp _ _ k7 (npq p (List.mem_of_getElem? hp)), k4, k5, k8, k6⟩
              have lzp : (zs.map V.ref).length = (ps.map V.ref).length := by rw [List.length_map, List.length_map]; omega
              clear kp pz pq5 dr5 pq S35 dr3 k3 bx3 nq ndq npq nDq
              refine ⟨_, rfl, _, rfl, D3, D, _, _, rfl, SqL.of hZ6, SqL.of hD6, RZ.for_zipL (xs := zs.map V.ref) (ys := ps.map V.ref) lzp (fun j σ H' => Same H6 H' ∧
                ∃ v8 v9 v10 v11 v12, σ = [some (.ref s), some (.int (0 + (i : Int))), some (.ref b), some (.ref D), some (.ref D2), some (.ref D3), v6', v7', v8, v9, v10, v11, v12, v13, v14, none, none]) ⟨Same.refl H6, _, _, _, _, _, rfl⟩ ?_ ?_ ?_⟩
              · rintro j σ H' ⟨S, _⟩
                exact ⟨SqL.of (S _ _ hZ6), SqL.of (S _ _ hD6)⟩
              · rintro j x y T' σ H' hx hy ⟨S, v8', v9', v10', v11', v12', rfl⟩ hT'
                rw [List.getElem?_map] at hx hy
                obtain ⟨z1, hz1, rfl⟩ := Option.map_eq_some_iff.mp hx
                obtain ⟨p1, hp1, rfl⟩ := Option.map_eq_some_iff.mp hy
                obtain ⟨r1, s1, hA⟩ := all j z1 p1 hz1 hp1
                have ST : Same H6 (upd H' T' (.tup [.ref z1, .ref p1])) := S.trans (same_new hT')
                have hT : (upd H' T' (.tup [.ref z1, .ref p1])) T' = some (.tup [.ref z1, .ref p1]) := upd_same
                generalize upd H' T' (.tup [.ref z1, .ref p1]) = H7 at ST hT ⊢
                refine ⟨T', _, rfl, SqT.of hT, rfl, _, _, rfl, _, _, rfl, rfl, ?_⟩
                refine ⟨_, rfl, _, rfl, D3, D, _, _, rfl, SqL.of (ST _ _ hZ6), SqL.of (ST _ _ hD6), RZ.for_zipL (xs := zs.map V.ref) (ys := ps.map V.ref) lzp (fun j σ H' => Same H6 H' ∧
                  ∃ v10 v11 v12, σ = [some (.ref s), some (.int (0 + (i : Int))), some (.ref b), some (.ref D), some (.ref D2), some (.ref D3), v6', v7', some (.ref z1), some (.ref p1), v10, v11, v12, v13, v14, none, none]) ⟨ST, _, _, _, rfl⟩ ?_ ?_ ?_⟩
                · rintro j σ H' ⟨S, _⟩
                  exact ⟨SqL.of (S _ _ hZ6), SqL.of (S _ _ hD6)⟩
                · rintro k x2 y2 T2 σ H' hx2 hy2 ⟨S', v10, v11, v12, rfl⟩ hT2
                  rw [List.getElem?_map] at hx2 hy2
                  obtain ⟨z2, hz2, rfl⟩ := Option.map_eq_some_iff.mp hx2
                  obtain ⟨p2, hp2, rfl⟩ := Option.map_eq_some_iff.mp hy2
                  obtain ⟨r2, s2, hB⟩ := all k z2 p2 hz2 hp2
                  have S20 : Same H6 (upd H' T2 (.tup [.ref z2, .ref p2])) := S'.trans (same_new hT2)
                  have hT3 : (upd H' T2 (.tup [.ref z2, .ref p2])) T2 = some (.tup [.ref z2, .ref p2]) := upd_same
                  generalize upd H' T2 (.tup [.ref z2, .ref p2]) = H20 at S20 hT3 ⊢
                  refine ⟨T2, _, rfl, SqT.of hT3, rfl, _, _, rfl, _, _, rfl, rfl, ?_⟩
                  refine ⟨_, rfl, _, rfl, bin1 (hA.same S20) (hB.same S20) fun Ha0 za0 ra0 Sa0 la0 ga0 fa0 fna0 => ?_⟩
                  refine ⟨_, rfl, _, rfl, p1, p2, s1, s2, 0, rfl, by decide, by decide, (hA.same (S20.trans Sa0)).dic, (hB.same (S20.trans Sa0)).dic, Nat.le_trans hA.ds.len (by decide), Nat.le_trans hB.ds.len (by decide), fun Hb0 pj0 j0 Sb0 _ hj0 nj0 _ fnj0 mj0 => ?_⟩
                  obtain ⟨gj0, lj0⟩ := join1 hA.ds hB.ds nj0 mj0
                  have fe0 : ∀ n, fnR ra0 n = gW 0 (fnR s1 n) (fnR s2 n) := fun n => (fna0 n).trans (by rw [← hA.fn, ← hB.fn]; rfl)
                  refine ⟨za0, pj0, ra0, j0, rfl, la0.same Sb0, hj0, ga0, fa0, gj0, fun n => (fe0 n).trans (fnj0 n).symm, lj0, fun n => by rw [fe0 n]; exact gW_bound _ _ (drawn_fn hA.ds n) (drawn_fn hB.ds n), fun Hc0 Sc0 => ⟨_, rfl, iteF ?_⟩⟩
                  have S21 := S20.trans (Sa0.trans (Sb0.trans Sc0))
                  refine ⟨_, rfl, _, rfl, bin1 (hA.same S21) (hB.same S21) fun Ha1 za1 ra1 Sa1 la1 ga1 fa1 fna1 => ?_⟩
                  refine ⟨_, rfl, _, rfl, p1, p2, s1, s2, 1, rfl, by decide, by decide, (hA.same (S21.trans Sa1)).dic, (hB.same (S21.trans Sa1)).dic, Nat.le_trans hA.ds.len (by decide), Nat.le_trans hB.ds.len (by decide), fun Hb1 pj1 j1 Sb1 _ hj1 nj1 _ fnj1 mj1 => ?_⟩
                  obtain ⟨gj1, lj1⟩ := join1 hA.ds hB.ds nj1 mj1
                  have fe1 : ∀ n, fnR ra1 n = gW 1 (fnR s1 n) (fnR s2 n) := fun n => (fna1 n).trans (by rw [← hA.fn, ← hB.fn]; rfl)
                  refine ⟨za1, pj1, ra1, j1, rfl, la1.same Sb1, hj1, ga1, fa1, gj1, fun n => (fe1 n).trans (fnj1 n).symm, lj1, fun n => by rw [fe1 n]; exact gW_bound _ _ (drawn_fn hA.ds n) (drawn_fn hB.ds n), fun Hc1 Sc1 => ⟨_, rfl, iteF ?_⟩⟩
                  have S22 := S21.trans (Sa1.trans (Sb1.trans Sc1))
                  refine ⟨_, rfl, _, rfl, bin1 (hA.same S22) (hB.same S22) fun Ha2 za2 ra2 Sa2 la2 ga2 fa2 fna2 => ?_⟩
                  refine ⟨_, rfl, _, rfl, p1, p2, s1, s2, 2, rfl, by decide, by decide, (hA.same (S22.trans Sa2)).dic, (hB.same (S22.trans Sa2)).dic, Nat.le_trans hA.ds.len (by decide), Nat.le_trans hB.ds.len (by decide), fun Hb2 pj2 j2 Sb2 _ hj2 nj2 _ fnj2 mj2 => ?_⟩
                  obtain ⟨gj2, lj2⟩ := join1 hA.ds hB.ds nj2 mj2
                  have fe2 : ∀ n, fnR ra2 n = gW 2 (fnR s1 n) (fnR s2 n) := fun n => (fna2 n).trans (by rw [← hA.fn, ← hB.fn]; rfl)
                  refine ⟨za2, pj2, ra2, j2, rfl, la2.same Sb2, hj2, ga2, fa2, gj2, fun n => (fe2 n).trans (fnj2 n).symm, lj2, fun n => by rw [fe2 n]; exact gW_bound _ _ (drawn_fn hA.ds n) (drawn_fn hB.ds n), fun Hc2 Sc2 => ⟨_, rfl, iteF ?_⟩⟩
                  have S23 := S22.trans (Sa2.trans (Sb2.trans Sc2))
                  refine ⟨_, rfl, _, rfl, bin1 (hA.same S23) (hB.same S23) fun Ha3 za3 ra3 Sa3 la3 ga3 fa3 fna3 => ?_⟩
                  refine ⟨_, rfl, _, rfl, p1, p2, s1, s2, 3, rfl, by decide, by decide, (hA.same (S23.trans Sa3)).dic, (hB.same (S23.trans Sa3)).dic, Nat.le_trans hA.ds.len (by decide), Nat.le_trans hB.ds.len (by decide), fun Hb3 pj3 j3 Sb3 _ hj3 nj3 _ fnj3 mj3 => ?_⟩
                  obtain ⟨gj3, lj3⟩ := join1 hA.ds hB.ds nj3 mj3
                  have fe3 : ∀ n, fnR ra3 n = gW 3 (fnR s1 n) (fnR s2 n) := fun n => (fna3 n).trans (by rw [← hA.fn, ← hB.fn]; rfl)
                  refine ⟨za3, pj3, ra3, j3, rfl, la3.same Sb3, hj3, ga3, fa3, gj3, fun n => (fe3 n).trans (fnj3 n).symm, lj3, fun n => by rw [fe3 n]; exact gW_bound _ _ (drawn_fn hA.ds n) (drawn_fn hB.ds n), fun Hc3 Sc3 => ⟨_, rfl, iteF ?_⟩⟩
                  have S24 := S23.trans (Sa3.trans (Sb3.trans Sc3))
                  have hA4 := hA.same S24
                  have hB4 := hB.same S24
                  refine ⟨_, rfl, p1, _, rfl, .inl hA4.dic, fun l1 hl1 => ?_⟩
                  have S25 : Same Hc3 (upd Hc3 l1 (.lst ((kvR s1).map fun kv => kV kv.1))) := same_new hl1
                  have g1 : (upd Hc3 l1 (.lst ((kvR s1).map fun kv => kV kv.1))) l1 = some (.lst ((s1.map (·.1)).map V.str)) := by rw [upd_same, kv_keys]
                  generalize upd Hc3 l1 (.lst ((kvR s1).map fun kv => kV kv.1)) = H25 at S25 g1
                  refine ⟨_, rfl, p2, _, rfl, .inl (S25 _ _ hB4.dic), fun l2 hl2 => ?_⟩
                  have S26 : Same H25 (upd H25 l2 (.lst ((kvR s2).map fun kv => kV kv.1))) := same_new hl2
                  have g2 : (upd H25 l2 (.lst ((kvR s2).map fun kv => kV kv.1))) l2 = some (.lst ((s2.map (·.1)).map V.str)) := by rw [upd_same, kv_keys]
                  generalize upd H25 l2 (.lst ((kvR s2).map fun kv => kV kv.1)) = H26 at S26 g2
                  refine ⟨l1, l2, _, _, rfl, rfl, S26 _ _ g1, g2, ?_, fun l3 hl3 => ?_⟩
                  · rw [List.length_map, List.length_map, List.length_map, List.length_map]
                    exact Nat.le_trans (Nat.add_le_add hA.ds.len hB.ds.len) (by decide)
                  rw [← List.map_append]
                  have S27 : Same H26 (upd H26 l3 (.lst ((s1.map (·.1) ++ s2.map (·.1)).map V.str))) := same_new hl3
                  have g3 : (upd H26 l3 (.lst ((s1.map (·.1) ++ s2.map (·.1)).map V.str))) l3 = some (.lst ((s1.map (·.1) ++ s2.map (·.1)).map V.str)) := upd_same
                  generalize upd H26 l3 (.lst ((s1.map (·.1) ++ s2.map (·.1)).map V.str)) = H27 at S27 g3 ⊢
                  have S28 : Same H6 H27 := S24.trans (S25.trans (S26.trans S27))
                  refine ⟨l3, rfl, ⟨_, SqL.of g3⟩, fun D4 hD4 => ?_⟩
                  have mem12 : ∀ n ∈ s1.map (·.1) ++ s2.map (·.1), n ∈ N6 := fun n hn => by
                    rcases List.mem_append.mp hn with h | h
                    · obtain ⟨e, he, e'⟩ := List.mem_map.mp h
                      rw [← e']
                      exact (hA.ds.2 e he).1
                    · obtain ⟨e, he, e'⟩ := List.mem_map.mp h
                      rw [← e']
                      exact (hB.ds.2 e he).1
                  have l12 : (s1.map (·.1) ++ s2.map (·.1)).length ≤ 12 := by
                    rw [List.length_append, List.length_map, List.length_map]
                    exact Nat.add_le_add hA.ds.len hB.ds.len
                  refine lc_it (walk_list (xs := (s1.map (·.1) ++ s2.map (·.1)).map V.str)) (fun j H' => Same H27 H' ∧ H' D4 = some (.lst ((((s1.map (·.1) ++ s2.map (·.1)).take j).filter fun n => decide (fnR s1 n > fnR s2 n)).map V.str))) ⟨same_new hD4, upd_same⟩ ?_ ?_ ?_
                  · rintro j H' _ ⟨S, _⟩
                    exact SqL.of (S _ _ g3)
                  · rintro j y _ H' hj ⟨S, hD'⟩ ⟨rfl, hy⟩
                    rw [List.getElem?_map] at hy
                    obtain ⟨n, hn, rfl⟩ := Option.map_eq_some_iff.mp hy
                    have d1 := S _ _ (S28 _ _ hA.dic)
                    have d2 := S _ _ (S28 _ _ hB.dic)
                    refine ⟨rfl, _, rfl, p1, rfl, .inl ⟨_, .inl d1⟩, _, rfl, (atR s1 n).map V.int, .inl ⟨_, Sum.inr n, .inl d1, rfl, (val_kvR n s1).symm⟩, ?_⟩
                    rw [get_row]
                    refine ⟨_, rfl, p2, rfl, .inl ⟨_, .inl d2⟩, _, rfl, (atR s2 n).map V.int, .inl ⟨_, Sum.inr n, .inl d2, rfl, (val_kvR n s2).symm⟩, ?_⟩
                    rw [get_row]
                    have hlen : ((((s1.map (·.1) ++ s2.map (·.1)).take j).filter fun n => decide (fnR s1 n > fnR s2 n)).map V.str).length < sizeLine := by
                      rw [List.length_map]
                      refine Nat.lt_of_le_of_lt (List.length_filter_le _ _) ?_
                      rw [List.length_take]
                      exact Nat.lt_of_le_of_lt (show _ ≤ 12 by omega) (by decide)
                    refine ⟨_, _, rfl, rfl, _, rfl, if2 (fun c => ?_) (fun c => ?_)⟩
                    · refine ⟨_, rfl, _, hD', hlen, Tp.Same.mut S hD4, ?_⟩
                      rw [upd_same, take_one hn, List.filter_append, List.map_append, List.filter_cons_of_pos (p := fun n => decide (fnR s1 n > fnR s2 n)) (decide_eq_true c)]
                      rfl
                    · refine ⟨S, ?_⟩
                      rw [take_one hn, List.filter_append, List.filter_cons_of_neg (by simpa using c), List.filter_nil, List.append_nil]
                      exact hD'
                  · rintro H28 ⟨S29, hD'⟩
                    rw [List.length_map, List.take_length] at hD'
                    have S30 := S28.trans S29
                    have hA5 := hA.same S30
                    have hB5 := hB.same S30
                    obtain ⟨dxA, oxA, eA1, eA2⟩ := hA5.lag
                    refine ⟨_, rfl, z1, dxA, _, rfl, eA1, no_look (by decide), _, rfl, z1, z2, r1, r2, rfl, hA5.lag, hB5.lag, Nat.le_trans hA.len (by decide), Nat.le_trans hB.len (by decide), fun H31 S31 => ?_⟩
                    refine ⟨_, rfl, (show 0 ≤ sizeLine from by decide), fun e0 he0 => ?_⟩
                    have S32 : Same H31 (upd H31 e0 (.lst [])) := same_new he0
                    have h32 : (upd H31 e0 (.lst [])) e0 = some (.lst []) := upd_same
                    generalize upd H31 e0 (.lst []) = H32 at S32 h32
                    refine ⟨.list _, .list [], .lst (SqL.of (S32 _ _ (S31 _ _ hD'))) (dp_strs _), .lst (SqL.of h32) .nil, shaped_n6 (fun n hn => mem12 n (List.mem_filter.mp hn).1), by decide, rfl, _, rfl, ?_⟩
                    rw [eqv_nil, below_eq hA.fn hB.fn]
                    refine ifnY rfl ?_
                    have S33 := S30.trans (S31.trans S32)
                    have hA6 := hA.same S33
                    have hB6 := hB.same S33
                    refine ⟨_, rfl, _, rfl, eq_go T hA6.lag hB6.lag ?_⟩
                    refine ⟨_, rfl, p1, s1, rfl, hA6.dic, hA.ds.1, Nat.le_trans hA.ds.len (by decide), fun H34 q1 S34 hq1 e1 => ?_⟩
                    refine ⟨_, rfl, p2, s2, rfl, S34 _ _ hB6.dic, hB.ds.1, Nat.le_trans hB.ds.len (by decide), fun H35 q2 S35 hq2 e2 => ?_⟩
                    refine ⟨q1, q2, _, _, rfl, rfl, S35 _ _ e1, e2, rfl, _, rfl, ?_⟩
                    rw [same_eq hA.gr.1 hB.gr.1 hA.fr hB.fr hA.ds.1 hB.ds.1 hA.fn hB.fn]
                    exact ifnY rfl ⟨S33.trans (S34.trans S35), _, _, _, rfl⟩
                · rintro σ H8 ⟨S8, v10, v11, v12, rfl⟩
                  have hA8 := hA.same S8
                  refine ⟨_, rfl, _, rfl, z1, p1, r1, s1, rfl, hA8.lag, hA8.dic, hA.gr, hA.fr, hA.ds.good, hA.fn, Nat.le_trans hA.ds.len (by decide), fun n => by rw [hA.fn n]; exact Nat.le_trans (drawn_fn hA.ds n) (by decide), fun H9 S9 => ⟨_, rfl, iteF ⟨S8.trans S9, _, _, _, _, _, rfl⟩⟩⟩
              · rintro σ H40 ⟨S40, v8', v9', v10', v11', v12', rfl⟩
                have hZ40 := S40 _ _ hZ6
                have nb40 : ∀ {b' : Addr}, H40 b' = none → H b' = none := fun {b'} h => by
                  cases e : H b' with
                  | none => rfl
                  | some u => rw [S40 _ _ (S6 _ _ e)] at h; cases h
                refine fun d41 n41 => ⟨upd_same, [(Sum.inr "", V.int 1)], rfl, (by decide), ?_⟩
                obtain ⟨T41, g41⟩ := disp_new (kvs := [(Sum.inr "", V.int 1)]) (ms := [(Sum.inr "", V.int 1)]) n41 (by rfl)
                generalize upd (upd H40 d41 (.dK [])) d41 (.dK (mergeK [] [(Sum.inr "", V.int 1)])) = H41 at T41 g41 ⊢
                refine fun d42 n42 => ⟨upd_same, [(Sum.inr "a", V.bl true)], rfl, (by decide), ?_⟩
                obtain ⟨T42, g42⟩ := disp_new (kvs := [(Sum.inr "a", V.bl true)]) (ms := [(Sum.inr "a", V.bl true)]) n42 (by rfl)
                generalize upd (upd H41 d42 (.dK [])) d42 (.dK (mergeK [] [(Sum.inr "a", V.bl true)])) = H42 at T42 g42 ⊢
                refine fun d43 n43 => ⟨upd_same, [(Sum.inr "a", V.non)], rfl, (by decide), ?_⟩
                obtain ⟨T43, g43⟩ := disp_new (kvs := [(Sum.inr "a", V.non)]) (ms := [(Sum.inr "a", V.non)]) n43 (by rfl)
                generalize upd (upd H42 d43 (.dK [])) d43 (.dK (mergeK [] [(Sum.inr "a", V.non)])) = H43 at T43 g43 ⊢
                refine fun d44 n44 => ⟨upd_same, [(Sum.inl 1, V.int 1)], rfl, (by decide), ?_⟩
                obtain ⟨T44, g44⟩ := disp_new (kvs := [(Sum.inl 1, V.int 1)]) (ms := [(Sum.inl 1, V.int 1)]) n44 (by rfl)
                generalize upd (upd H43 d44 (.dK [])) d44 (.dK (mergeK [] [(Sum.inl 1, V.int 1)])) = H44 at T44 g44 ⊢
                refine fun d45 n45 => ⟨upd_same, [(Sum.inr "b", V.int 2), (Sum.inr "A", V.int 1)], rfl, (by decide), ?_⟩
                obtain ⟨T45, g45⟩ := disp_new (kvs := [(Sum.inr "b", V.int 2), (Sum.inr "A", V.int 1)]) (ms := [(Sum.inr "b", V.int 2), (Sum.inr "A", V.int 1)]) n45 (by rfl)
                generalize upd (upd H44 d45 (.dK [])) d45 (.dK (mergeK [] [(Sum.inr "b", V.int 2), (Sum.inr "A", V.int 1)])) = H45 at T45 g45 ⊢
                refine fun d46 n46 => ⟨upd_same, [(Sum.inr "a", V.str "1")], rfl, (by decide), ?_⟩
                obtain ⟨T46, g46⟩ := disp_new (kvs := [(Sum.inr "a", V.str "1")]) (ms := [(Sum.inr "a", V.str "1")]) n46 (by rfl)
                generalize upd (upd H45 d46 (.dK [])) d46 (.dK (mergeK [] [(Sum.inr "a", V.str "1")])) = H46 at T46 g46 ⊢
                have l0 : 0 < zs.length := by omega
                have hz0 : zs[0]? = some zs[0] := List.getElem?_eq_getElem l0
                have hp0 : ps[0]? = some ps[0] := List.getElem?_eq_getElem (by omega)
                obtain ⟨r0', s0', hZ0⟩ := all 0 _ _ hz0 hp0
                have TA : Same H40 H46 := T41.trans (T42.trans (T43.trans (T44.trans (T45.trans T46))))
                generalize zs[0] = z0 at hz0 hZ0
                refine ⟨_, rfl, D3, _, _, .ref z0, rfl, rfl, SqL.of (TA _ _ hZ40), atI_nat (j := 0) (by rw [List.getElem?_map, hz0]; rfl), ?_⟩
                refine ⟨(show 7 ≤ sizeLine from by decide), fun lo hlo => ?_⟩
                have T47 : Same H46 (upd H46 lo (.lst [.ref d41, .ref d42, .ref d43, .ref d44, .ref d45, .ref d46, .ref z0])) := same_new hlo
                have g47 : (upd H46 lo (.lst [.ref d41, .ref d42, .ref d43, .ref d44, .ref d45, .ref d46, .ref z0])) lo = some (.lst [.ref d41, .ref d42, .ref d43, .ref d44, .ref d45, .ref d46, .ref z0]) := upd_same
                generalize upd H46 lo (.lst [.ref d41, .ref d42, .ref d43, .ref d44, .ref d45, .ref d46, .ref z0]) = H47 at T47 g47
                refine ⟨(show 0 ≤ sizeLine from by decide), fun e48 n48 => ⟨(show 5 ≤ sizeLine from by decide), fun l49 n49 => ?_⟩⟩
                have T48 : Same H47 (upd H47 e48 (.lst [])) := same_new n48
                have g48 : (upd H47 e48 (.lst [])) e48 = some (.lst []) := upd_same
                generalize upd H47 e48 (.lst []) = H48 at T48 g48 n49 ⊢
                have T49 : Same H48 (upd H48 l49 (.lst [.non, .bl true, .int 0, .str "a", .ref e48])) := same_new n49
                have g49 : (upd H48 l49 (.lst [.non, .bl true, .int 0, .str "a", .ref e48])) l49 = some (.lst [.non, .bl true, .int 0, .str "a", .ref e48]) := upd_same
                generalize upd H48 l49 (.lst [.non, .bl true, .int 0, .str "a", .ref e48]) = H49 at T49 g49
                refine ⟨_, rfl, l49, lo, _, _, rfl, rfl, g49, T49 _ _ (T48 _ _ g47), (show 12 ≤ sizeLine from by decide), fun l50 n50 => ?_⟩
                generalize hxs : ([.non, .bl true, .int 0, .str "a", .ref e48] ++ [.ref d41, .ref d42, .ref d43, .ref d44, .ref d45, .ref d46, .ref z0] : List V) = xs at n50 ⊢
                have T50 : Same H49 (upd H49 l50 (.lst xs)) := same_new n50
                have g50 : (upd H49 l50 (.lst xs)) l50 = some (.lst xs) := upd_same
                generalize upd H49 l50 (.lst xs) = H50 at T50 g50 ⊢
                have U48 : Same H48 H50 := T49.trans T50
                have U46 : Same H46 H50 := T47.trans (T48.trans U48)
                have U45 := T46.trans U46
                have U44 := T45.trans U45
                have U43 := T44.trans U44
                have U42 := T43.trans U43
                have U41 := T42.trans U42
                have U40 := T41.trans U41
                have oddall : ∀ v ∈ xs, OddL K H50 v ∧ Solid v := by
                  intro v hv
                  rw [← hxs] at hv
                  simp only [List.cons_append, List.nil_append, List.mem_cons, List.not_mem_nil, or_false] at hv
                  rcases hv with rfl | rfl | rfl | rfl | rfl | rfl | rfl | rfl | rfl | rfl | rfl | rfl
                  · exact ⟨.inl ⟨_, .base .non, kit_ty (by decide +kernel)⟩, .inl rfl⟩
                  · exact ⟨.inl ⟨_, .base (.bl true), kit_ty (by decide +kernel)⟩, .inl rfl⟩
                  · exact ⟨.inl ⟨_, .base (.int 0), kit_ty (by decide +kernel)⟩, .inl rfl⟩
                  · exact ⟨.inl ⟨_, .base (.str _), kit_ty (by decide +kernel)⟩, .inl rfl⟩
                  · exact ⟨.inl ⟨_, .base (.lst (U48 _ _ g48)), kit_ty (by decide +kernel)⟩, .inr ⟨_, rfl⟩⟩
                  · exact odd_dict 0 (U41 _ _ g41) (by decide) rfl (.nm _ (by decide +kernel) (by decide)) fun j e hj => absurd hj (Nat.not_lt_zero j)
                  · exact odd_dict 0 (U42 _ _ g42) (by decide) rfl (.bool _ (by decide +kernel)) fun j e hj => absurd hj (Nat.not_lt_zero j)
                  · exact odd_dict 0 (U43 _ _ g43) (by decide) rfl (.non (by decide +kernel)) fun j e hj => absurd hj (Nat.not_lt_zero j)
                  · exact odd_dict 0 (U44 _ _ g44) (by decide) rfl (.int _ _) fun j e hj => absurd hj (Nat.not_lt_zero j)
                  · refine odd_dict 1 (U45 _ _ g45) (by decide) rfl (.nm _ (by decide +kernel) (by decide)) fun j e hj he => ?_
                    have : j = 0 := by omega
                    subst this
                    cases he
                    exact ⟨_, _, rfl, by decide +kernel⟩
                  · exact odd_dict 0 (U46 _ _ g46) (by decide) rfl (.str _ (by decide +kernel)) fun j e hj => absurd hj (Nat.not_lt_zero j)
                  · obtain ⟨dz, oz, k1, k2⟩ := (hZ0.same (S40.trans U40)).lag
                    exact ⟨.inl ⟨_, ty_lag T k1, T.kd_Lags⟩, .inr ⟨_, rfl⟩⟩
                have SA : Same H H50 := S6.trans (S40.trans U40)
                clear hxs U41 U42 U43 U44 U45 U46 U48
                refine ⟨l50, rfl, ⟨_, SqL.of g50⟩, for_it (walk_list (xs := xs)) (fun j σ H' => Same H50 H' ∧ ∃ v14, σ = [some (.ref s), some (.int (0 + (i : Int))), some (.ref b), some (.ref D), some (.ref D2), some (.ref D3), v6', v7', v8', v9', v10', v11', v12', some (.ref lo), v14, none, none]) ⟨Same.refl _, _, rfl⟩ ?_ ?_ ?_⟩
                · rintro j σ H' _ ⟨S, _⟩
                  exact SqL.of (S _ _ g50)
                · rintro j y σ _ H' hj ⟨S, v14', rfl⟩ ⟨rfl, hy⟩
                  obtain ⟨od, so⟩ := oddall y (List.mem_of_getElem? hy)
                  refine ⟨_, rfl, y, .inl ⟨rfl, od.same S, fun H51 p51 S51 g51 => ?_⟩⟩
                  refine ⟨_, rfl, (show 3 ≤ sizeLine from by decide), fun l52 n52 => ?_⟩
                  exact ⟨p51, l52, _, rfl, rfl, SqL.of (same_new n52 _ _ g51), SqL.of upd_same, solid3 (.inl rfl) so (.inl rfl), _, rfl, iteF ⟨S.trans (S51.trans (same_new n52)), _, rfl⟩⟩
                · rintro σ H53 ⟨S53, v14', rfl⟩
                  refine ⟨(show 0 ≤ sizeLine from by decide), fun e54 n54 => ⟨(show 1 ≤ sizeLine from by decide), fun e55 n55 => fun e56 n56 => ⟨(show 9 ≤ sizeLine from by decide), fun l57 n57 => ?_⟩⟩⟩
                  have T54 : Same H53 (upd H53 e54 (.lst [])) := same_new n54
                  have g54 : (upd H53 e54 (.lst [])) e54 = some (.lst []) := upd_same
                  generalize upd H53 e54 (.lst []) = H54 at T54 g54 n55 n56 n57 ⊢
                  have T55 : Same H54 (upd H54 e55 (.lst [.str "a"])) := same_new n55
                  have g55 : (upd H54 e55 (.lst [.str "a"])) e55 = some (.lst [.str "a"]) := upd_same
                  generalize upd H54 e55 (.lst [.str "a"]) = H55 at T55 g55 n56 n57 ⊢
                  have T56 : Same H55 (upd H55 e56 (.dK [])) := same_new n56
                  have g56 : (upd H55 e56 (.dK [])) e56 = some (.dK []) := upd_same
                  generalize upd H55 e56 (.dK []) = H56 at T56 g56 n57 ⊢
                  generalize hxs : ([.non, .bl true, .int 0, .str "", .str "A", .str "abcdefghi", .ref e54, .ref e55, .ref e56] : List V) = xs2 at n57 ⊢
                  have T57 : Same H56 (upd H56 l57 (.lst xs2)) := same_new n57
                  have g57 : (upd H56 l57 (.lst xs2)) l57 = some (.lst xs2) := upd_same
                  generalize upd H56 l57 (.lst xs2) = H57 at T57 g57 ⊢
                  have odn : ∀ v ∈ xs2, OddN K H57 v ∧ ∃ dd, Dq K H57 v dd ∧ DOk dd := by
                    intro v hv
                    rw [← hxs] at hv
                    simp only [List.mem_cons, List.not_mem_nil, or_false] at hv
                    rcases hv with rfl | rfl | rfl | rfl | rfl | rfl | rfl | rfl | rfl
                    · exact ⟨.inl ⟨_, .base .non, kit_ty (by decide +kernel)⟩, _, .non, by decide +kernel, by decide +kernel, by decide +kernel⟩
                    · exact ⟨.inl ⟨_, .base (.bl true), kit_ty (by decide +kernel)⟩, _, .bl true, by decide +kernel, by decide +kernel, by decide +kernel⟩
                    · exact ⟨.inl ⟨_, .base (.int 0), kit_ty (by decide +kernel)⟩, _, .int 0, by decide +kernel, by decide +kernel, by decide +kernel⟩
                    · exact ⟨.inr ⟨_, rfl, by decide, by decide +kernel⟩, _, .str _, by decide +kernel, by decide +kernel, by decide +kernel⟩
                    · exact ⟨.inr ⟨_, rfl, by decide, by decide +kernel⟩, _, .str _, by decide +kernel, by decide +kernel, by decide +kernel⟩
                    · exact ⟨.inr ⟨_, rfl, by decide, by decide +kernel⟩, _, .str _, by decide +kernel, by decide +kernel, by decide +kernel⟩
                    · exact ⟨.inl ⟨_, .base (.lst (T57 _ _ (T56 _ _ (T55 _ _ g54)))), kit_ty (by decide +kernel)⟩, .list [], .lst (SqL.of (T57 _ _ (T56 _ _ (T55 _ _ g54)))) .nil, by decide +kernel, by decide +kernel, by decide +kernel⟩
                    · exact ⟨.inl ⟨_, .base (.lst (T57 _ _ (T56 _ _ g55))), kit_ty (by decide +kernel)⟩, .list [.str "a"], .lst (SqL.of (T57 _ _ (T56 _ _ g55))) (.cons (.str _) .nil), by decide +kernel, by decide +kernel, by decide +kernel⟩
                    · exact ⟨.inl ⟨_, .base (.dK (T57 _ _ g56)), kit_ty (by decide +kernel)⟩, .dict [], .dic (.inl (T57 _ _ g56)) .nil .nil, by decide +kernel, by decide +kernel, by decide +kernel⟩
                  have SB : Same H H57 := SA.trans (S53.trans (T54.trans (T55.trans (T56.trans T57))))
                  refine ⟨l57, rfl, ⟨_, SqL.of g57⟩, for_it (walk_list (xs := xs2)) (fun j σ H' => Same H57 H' ∧ ∃ v14, σ = [some (.ref s), some (.int (0 + (i : Int))), some (.ref b), some (.ref D), some (.ref D2), some (.ref D3), v6', v7', v8', v9', v10', v11', v12', some (.ref lo), v14, none, none]) ⟨Same.refl _, _, rfl⟩ ?_ ?_ ?_⟩
                  · rintro j σ H' _ ⟨S, _⟩
                    exact SqL.of (S _ _ g57)
                  · rintro j y σ _ H' hj ⟨S, v14', rfl⟩ ⟨rfl, hy⟩
                    obtain ⟨od, dd, dq, ok1, ok2, ok3⟩ := odn y (List.mem_of_getElem? hy)
                    refine ⟨_, rfl, y, .inr ⟨rfl, od.same S, fun H58 p58 S58 g58 => ?_⟩⟩
                    have dq58 := (dq_same (S.trans S58)).1 dq
                    refine ⟨_, .list [.str "name", dd, .bool true], rfl, sy.same (SB.trans (S.trans S58)), .lst (SqL.of g58) (.cons (.str _) (.cons dq58 (.cons (.bl _) .nil))), ok1, ok2, ok3, ?_⟩
                    refine ⟨_, rfl, (show 3 ≤ sizeLine from by decide), fun l59 n59 => ?_⟩
                    have S59 := same_new (o := .lst [.str "name", y, .bl true]) n59
                    refine ⟨_, .list [.str "name", dd, .bool true], rfl, sy.same (SB.trans (S.trans (S58.trans S59))), .lst (SqL.of upd_same) (.cons (.str _) (.cons ((dq_same S59).1 dq58) (.cons (.bl _) .nil))), ok1, ok2, ok3, ?_⟩
                    exact ⟨rfl, _, rfl, ifnY rfl ⟨S.trans (S58.trans S59), _, rfl⟩⟩
                  · rintro σ H60 ⟨S60, v14', rfl⟩
                    exact ⟨SB.trans S60, _, _, _, _, _, _, _, _, _, _, _, _, _, _, rfl⟩
    · rintro σ H1 ⟨S1, v1, v2, v3, v4, v5, v6, v7, v8, v9, v10, v11, v12, v13, v14, rfl⟩
      have good0 : GoodR [] := ⟨List.nodup_nil, fun _ h => nomatch h⟩
      have good1 : GoodR [("a", 0)] := ⟨List.nodup_cons.mpr ⟨List.not_mem_nil, List.nodup_nil⟩, by decide +kernel⟩
      have fn0 : ∀ n, fnR ([("a", 0)] : Row) n = 0 := fun n => by
        unfold fnR
        rw [atR_cons]
        split <;> rfl
      refine fun d1 n1 => fun x1 dx1 a1 b1 c1 => mk_lag (s := []) upd_same good0 (by decide) a1 b1 c1 fun H2 r2 S2 l2 g2 f2 fn2 _ => ?_
      have e2 : r2 = [] := full_zero f2 g2.1 fn2
      subst e2
      obtain ⟨dz, oz, k1, k2⟩ := l2
      refine ⟨x1, _, _, rfl, k1, no_look (by decide), x1, [], rfl, ⟨dz, oz, k1, k2⟩, fun p3 n3 => ?_⟩
      refine fun d4 n4 => ⟨p3, d4, [], [], rfl, rfl, same_new n4 _ _ upd_same, upd_same, ?_⟩
      refine ⟨true, rfl, iteT ?_⟩
      generalize upd (upd H2 p3 (.dK (kvR []))) d4 (.dK []) = H4
      refine fun d5 n5 => ⟨upd_same, kvR [("a", 0)], rfl, (by decide), ?_⟩
      obtain ⟨T5, g5⟩ := disp_new (kvs := kvR [("a", 0)]) (ms := kvR [("a", 0)]) n5 (by rfl)
      generalize upd (upd H4 d5 (.dK [])) d5 (.dK (mergeK [] (kvR [("a", 0)]))) = H5 at T5 g5 ⊢
      refine fun x6 dx6 a6 b6 c6 => mk_lag (s := [("a", 0)]) g5 good1 (by decide) a6 b6 c6 fun H6 r6 S6 l6 g6 f6 fn6 _ => ?_
      have e6 : r6 = [] := full_zero f6 g6.1 fun n => (fn6 n).trans (fn0 n)
      subst e6
      have l6' := l6
      obtain ⟨dz6, oz6, k61, k62⟩ := l6
      refine ⟨x6, _, _, rfl, k61, x6, [], rfl, l6', List.nodup_nil, by decide, fun H7 S7 => ?_⟩
      refine ⟨rfl, true, rfl, iteT ?_⟩
      refine fun d8 n8 => fun x8 dx8 a8 b8 c8 => mk_lag (s := []) upd_same good0 (by decide) a8 b8 c8 fun H9 r9 S9 l9 g9 f9 fn9 _ => ?_
      refine fun d10 n10 => ⟨upd_same, kvR [("a", 0)], rfl, (by decide), ?_⟩
      obtain ⟨T10, g10⟩ := disp_new (kvs := kvR [("a", 0)]) (ms := kvR [("a", 0)]) n10 (by rfl)
      generalize upd (upd H9 d10 (.dK [])) d10 (.dK (mergeK [] (kvR [("a", 0)]))) = H10 at T10 g10 ⊢
      refine fun x11 dx11 a11 b11 c11 => mk_lag (s := [("a", 0)]) g10 good1 (by decide) a11 b11 c11 fun H12 r12 S12 l12 g12 f12 fn12 _ => ?_
      refine eq_go T (l9.same (T10.trans S12)) l12 ?_
      rw [(eqR_iff g9.1 g12.1 f9 f12).mpr fun n => (fn9 n).trans ((fn12 n).trans (fn0 n)).symm]
      exact q _
end
end L31

set_option Elab.async false
set_option linter.all false
set_option maxRecDepth 100000
set_option maxHeartbeats 4000000
set_option pp.deepTerms false
set_option pp.deepTerms.threshold 4
set_option pp.maxSteps 300
namespace L31
open PySem L2 Tp
theorem all_mk {l : PySem.W.OpenLaw} {w : World} {K : PySem.W.Frag} {h : Heap} {mg : Str → Option Value} {fa : Addr} (X : K.In h) (G : h.Ns mainGlobals mg) (hfa : mg "law" = some (.ref fa))
    {f0 : Addr} {od0 an0 : Option Addr} {sl0 : Array (Option Value)} {oc0 kV0 dc0 pm0 cd0 ct0 : Value}
    {f1 : Addr} {od1 an1 : Option Addr} {sl1 : Array (Option Value)} {oc1 kV1 dc1 pm1 cd1 ct1 : Value}
    {f2 : Addr} {od2 an2 : Option Addr} {sl2 : Array (Option Value)} {oc2 kV2 dc2 pm2 cd2 ct2 : Value}
    {f3 : Addr} {od3 an3 : Option Addr} {sl3 : Array (Option Value)} {oc3 kV3 dc3 pm3 cd3 ct3 : Value}
    {f4 : Addr} {od4 an4 : Option Addr} {sl4 : Array (Option Value)} {oc4 kV4 dc4 pm4 cd4 ct4 : Value}
    {f5 : Addr} {od5 an5 : Option Addr} {sl5 : Array (Option Value)} {oc5 kV5 dc5 pm5 cd5 ct5 : Value}
    {f6 : Addr} {od6 an6 : Option Addr} {sl6 : Array (Option Value)} {oc6 kV6 dc6 pm6 cd6 ct6 : Value}
    {f7 : Addr} {od7 an7 : Option Addr} {sl7 : Array (Option Value)} {oc7 kV7 dc7 pm7 cd7 ct7 : Value}
    {f8 : Addr} {od8 an8 : Option Addr} {sl8 : Array (Option Value)} {oc8 kV8 dc8 pm8 cd8 ct8 : Value}
    {f9 : Addr} {od9 an9 : Option Addr} {sl9 : Array (Option Value)} {oc9 kV9 dc9 pm9 cd9 ct9 : Value}
    {f10 : Addr} {od10 an10 : Option Addr} {sl10 : Array (Option Value)} {oc10 kV10 dc10 pm10 cd10 ct10 : Value}
    {f11 : Addr} {od11 an11 : Option Addr} {sl11 : Array (Option Value)} {oc11 kV11 dc11 pm11 cd11 ct11 : Value}
    {f12 : Addr} {od12 an12 : Option Addr} {sl12 : Array (Option Value)} {oc12 kV12 dc12 pm12 cd12 ct12 : Value}
    {f13 : Addr} {od13 an13 : Option Addr} {sl13 : Array (Option Value)} {oc13 kV13 dc13 pm13 cd13 ct13 : Value}
    {f14 : Addr} {od14 an14 : Option Addr} {sl14 : Array (Option Value)} {oc14 kV14 dc14 pm14 cd14 ct14 : Value}
    {f15 : Addr} {od15 an15 : Option Addr} {sl15 : Array (Option Value)} {oc15 kV15 dc15 pm15 cd15 ct15 : Value}
    {f16 : Addr} {od16 an16 : Option Addr} {sl16 : Array (Option Value)} {oc16 kV16 dc16 pm16 cd16 ct16 : Value}
    {f17 : Addr} {od17 an17 : Option Addr} {sl17 : Array (Option Value)} {oc17 kV17 dc17 pm17 cd17 ct17 : Value}
    {f18 : Addr} {od18 an18 : Option Addr} {sl18 : Array (Option Value)} {oc18 kV18 dc18 pm18 cd18 ct18 : Value}
    {f19 : Addr} {od19 an19 : Option Addr} {sl19 : Array (Option Value)} {oc19 kV19 dc19 pm19 cd19 ct19 : Value}
    {f20 : Addr} {od20 an20 : Option Addr} {sl20 : Array (Option Value)} {oc20 kV20 dc20 pm20 cd20 ct20 : Value}
    {f21 : Addr} {od21 an21 : Option Addr} {sl21 : Array (Option Value)} {oc21 kV21 dc21 pm21 cd21 ct21 : Value}
    {f22 : Addr} {od22 an22 : Option Addr} {sl22 : Array (Option Value)} {oc22 kV22 dc22 pm22 cd22 ct22 : Value}
    {f23 : Addr} {od23 an23 : Option Addr} {sl23 : Array (Option Value)} {oc23 kV23 dc23 pm23 cd23 ct23 : Value}
    {f24 : Addr} {od24 an24 : Option Addr} {sl24 : Array (Option Value)} {oc24 kV24 dc24 pm24 cd24 ct24 : Value}
    {t_LETTERS : Tok}
    {t_DIGITS : Tok}
    {t_LONGEST_NAME : Tok}
    {CNetError : Addr}
    {CInvalidName : Addr}
    {nmInvalidName qInvalidName : Str} {NInvalidName : Addr} {bsInvalidName : List Value} {snInvalidName : List Str} {subInvalidName : List Value} {abInvalidName : Bool} {colInvalidName : Option Bool} {ddInvalidName : Option Addr} {m0InvalidName m1InvalidName m2InvalidName m3InvalidName m5InvalidName : Option Value}
    {CInvalidLags : Addr}
    {nmInvalidLags qInvalidLags : Str} {NInvalidLags : Addr} {bsInvalidLags : List Value} {snInvalidLags : List Str} {subInvalidLags : List Value} {abInvalidLags : Bool} {colInvalidLags : Option Bool} {ddInvalidLags : Option Addr} {m0InvalidLags m1InvalidLags m2InvalidLags m3InvalidLags m5InvalidLags : Option Value}
    {CLags : Addr}
    (a0 : PySem.W.findIn K (.ref CInvalidName) "__init__" = some (some (.ref f0)))
    (l0 : K.lookup f0 = some ⟨oc0, od0, .func (PySem.W.fnOf "__init__" "InvalidName.__init__" (defArgs scXName_st) (defBody scXName_st) (defScope scXName_st) .none kV0 dc0 pm0 an0 cd0 ct0), sl0⟩)
    (c0 : PySem.W.codeIn K cd0 "InvalidName.__init__" = true)
    (k0 : PySem.W.keepIn K (.ref f0) = true)
    (a1 : PySem.W.findIn K (.ref CInvalidLags) "__init__" = some (some (.ref f1)))
    (l1 : K.lookup f1 = some ⟨oc1, od1, .func (PySem.W.fnOf "__init__" "InvalidLags.__init__" (defArgs scXLags_st) (defBody scXLags_st) (defScope scXLags_st) .none kV1 dc1 pm1 an1 cd1 ct1), sl1⟩)
    (c1 : PySem.W.codeIn K cd1 "InvalidLags.__init__" = true)
    (k1 : PySem.W.keepIn K (.ref f1) = true)
    (a2 : PySem.W.nsIn K mainGlobals "is_name" = some (some (.ref f2)))
    (l2 : K.lookup f2 = some ⟨oc2, od2, .func (PySem.W.fnOf "is_name" "is_name" (defArgs scIsName_st) (defBody scIsName_st) (defScope scIsName_st) .none kV2 dc2 pm2 an2 cd2 ct2), sl2⟩)
    (c2 : PySem.W.codeIn K cd2 "is_name" = true)
    (k2 : PySem.W.keepIn K (.ref f2) = true)
    (a3 : PySem.W.findIn K (.ref CLags) "__init__" = some (some (.ref f3)))
    (l3 : K.lookup f3 = some ⟨oc3, od3, .func (PySem.W.fnOf "__init__" "Lags.__init__" (defArgs scInit_st) (defBody scInit_st) (defScope scInit_st) .none kV3 dc3 pm3 an3 cd3 ct3), sl3⟩)
    (c3 : PySem.W.codeIn K cd3 "Lags.__init__" = true)
    (k3 : PySem.W.keepIn K (.ref f3) = true)
    (fn3 : PySem.W.isFn K (.ref f3) = true)
    (a4 : PySem.W.findIn K (.ref CLags) "rows" = some (some (.ref f4)))
    (l4 : K.lookup f4 = some ⟨oc4, od4, .func (PySem.W.fnOf "rows" "Lags.rows" (defArgs scRows_st) (defBody scRows_st) (defScope scRows_st) .none kV4 dc4 pm4 an4 cd4 ct4), sl4⟩)
    (c4 : PySem.W.codeIn K cd4 "Lags.rows" = true)
    (k4 : PySem.W.keepIn K (.ref f4) = true)
    (fn4 : PySem.W.isFn K (.ref f4) = true)
    (a5 : PySem.W.findIn K (.ref CLags) "lag" = some (some (.ref f5)))
    (l5 : K.lookup f5 = some ⟨oc5, od5, .func (PySem.W.fnOf "lag" "Lags.lag" (defArgs scLag_st) (defBody scLag_st) (defScope scLag_st) .none kV5 dc5 pm5 an5 cd5 ct5), sl5⟩)
    (c5 : PySem.W.codeIn K cd5 "Lags.lag" = true)
    (k5 : PySem.W.keepIn K (.ref f5) = true)
    (fn5 : PySem.W.isFn K (.ref f5) = true)
    (a6 : PySem.W.findIn K (.ref CLags) "both" = some (some (.ref f6)))
    (l6 : K.lookup f6 = some ⟨oc6, od6, .func (PySem.W.fnOf "both" "Lags.both" (defArgs scBoth_st) (defBody scBoth_st) (defScope scBoth_st) .none kV6 dc6 pm6 an6 cd6 ct6), sl6⟩)
    (c6 : PySem.W.codeIn K cd6 "Lags.both" = true)
    (k6 : PySem.W.keepIn K (.ref f6) = true)
    (fn6 : PySem.W.isFn K (.ref f6) = true)
    (a7 : PySem.W.findIn K (.ref CLags) "__getitem__" = some (some (.ref f7)))
    (l7 : K.lookup f7 = some ⟨oc7, od7, .func (PySem.W.fnOf "__getitem__" "Lags.__getitem__" (defArgs scGet_st) (defBody scGet_st) (defScope scGet_st) .none kV7 dc7 pm7 an7 cd7 ct7), sl7⟩)
    (c7 : PySem.W.codeIn K cd7 "Lags.__getitem__" = true)
    (k7 : PySem.W.keepIn K (.ref f7) = true)
    (fn7 : PySem.W.isFn K (.ref f7) = true)
    (gi7 : PySem.W.fnIn K f7 = true)
    (a8 : PySem.W.findIn K (.ref CLags) "__eq__" = some (some (.ref f8)))
    (l8 : K.lookup f8 = some ⟨oc8, od8, .func (PySem.W.fnOf "__eq__" "Lags.__eq__" (defArgs scEq_st) (defBody scEq_st) (defScope scEq_st) .none kV8 dc8 pm8 an8 cd8 ct8), sl8⟩)
    (c8 : PySem.W.codeIn K cd8 "Lags.__eq__" = true)
    (k8 : PySem.W.keepIn K (.ref f8) = true)
    (fn8 : PySem.W.isFn K (.ref f8) = true)
    (a9 : PySem.W.findIn K (.ref CLags) "__or__" = some (some (.ref f9)))
    (l9 : K.lookup f9 = some ⟨oc9, od9, .func (PySem.W.fnOf "__or__" "Lags.__or__" (defArgs scOr_st) (defBody scOr_st) (defScope scOr_st) .none kV9 dc9 pm9 an9 cd9 ct9), sl9⟩)
    (c9 : PySem.W.codeIn K cd9 "Lags.__or__" = true)
    (k9 : PySem.W.keepIn K (.ref f9) = true)
    (fn9 : PySem.W.isFn K (.ref f9) = true)
    (a10 : PySem.W.findIn K (.ref CLags) "__and__" = some (some (.ref f10)))
    (l10 : K.lookup f10 = some ⟨oc10, od10, .func (PySem.W.fnOf "__and__" "Lags.__and__" (defArgs scAnd_st) (defBody scAnd_st) (defScope scAnd_st) .none kV10 dc10 pm10 an10 cd10 ct10), sl10⟩)
    (c10 : PySem.W.codeIn K cd10 "Lags.__and__" = true)
    (k10 : PySem.W.keepIn K (.ref f10) = true)
    (fn10 : PySem.W.isFn K (.ref f10) = true)
    (a11 : PySem.W.findIn K (.ref CLags) "__add__" = some (some (.ref f11)))
    (l11 : K.lookup f11 = some ⟨oc11, od11, .func (PySem.W.fnOf "__add__" "Lags.__add__" (defArgs scAdd_st) (defBody scAdd_st) (defScope scAdd_st) .none kV11 dc11 pm11 an11 cd11 ct11), sl11⟩)
    (c11 : PySem.W.codeIn K cd11 "Lags.__add__" = true)
    (k11 : PySem.W.keepIn K (.ref f11) = true)
    (fn11 : PySem.W.isFn K (.ref f11) = true)
    (a12 : PySem.W.findIn K (.ref CLags) "__sub__" = some (some (.ref f12)))
    (l12 : K.lookup f12 = some ⟨oc12, od12, .func (PySem.W.fnOf "__sub__" "Lags.__sub__" (defArgs scSub_st) (defBody scSub_st) (defScope scSub_st) .none kV12 dc12 pm12 an12 cd12 ct12), sl12⟩)
    (c12 : PySem.W.codeIn K cd12 "Lags.__sub__" = true)
    (k12 : PySem.W.keepIn K (.ref f12) = true)
    (fn12 : PySem.W.isFn K (.ref f12) = true)
    (a13 : PySem.W.findIn K (.ref CLags) "__neg__" = some (some (.ref f13)))
    (l13 : K.lookup f13 = some ⟨oc13, od13, .func (PySem.W.fnOf "__neg__" "Lags.__neg__" (defArgs scNeg_st) (defBody scNeg_st) (defScope scNeg_st) .none kV13 dc13 pm13 an13 cd13 ct13), sl13⟩)
    (c13 : PySem.W.codeIn K cd13 "Lags.__neg__" = true)
    (k13 : PySem.W.keepIn K (.ref f13) = true)
    (fn13 : PySem.W.isFn K (.ref f13) = true)
    (a14 : PySem.W.findIn K (.ref CLags) "is_below" = some (some (.ref f14)))
    (l14 : K.lookup f14 = some ⟨oc14, od14, .func (PySem.W.fnOf "is_below" "Lags.is_below" (defArgs scBelow_st) (defBody scBelow_st) (defScope scBelow_st) .none kV14 dc14 pm14 an14 cd14 ct14), sl14⟩)
    (c14 : PySem.W.codeIn K cd14 "Lags.is_below" = true)
    (k14 : PySem.W.keepIn K (.ref f14) = true)
    (fn14 : PySem.W.isFn K (.ref f14) = true)
    (a15 : PySem.W.findIn K (.ref CLags) "__abs__" = some (some (.ref f15)))
    (l15 : K.lookup f15 = some ⟨oc15, od15, .func (PySem.W.fnOf "__abs__" "Lags.__abs__" (defArgs scAbs_st) (defBody scAbs_st) (defScope scAbs_st) .none kV15 dc15 pm15 an15 cd15 ct15), sl15⟩)
    (c15 : PySem.W.codeIn K cd15 "Lags.__abs__" = true)
    (k15 : PySem.W.keepIn K (.ref f15) = true)
    (fn15 : PySem.W.isFn K (.ref f15) = true)
    (a16 : PySem.W.nsIn K mainGlobals "_law_cell" = some (some (.ref f16)))
    (l16 : K.lookup f16 = some ⟨oc16, od16, .func (PySem.W.fnOf "_law_cell" "_law_cell" (defArgs scCell_st) (defBody scCell_st) (defScope scCell_st) .none kV16 dc16 pm16 an16 cd16 ct16), sl16⟩)
    (c16 : PySem.W.codeIn K cd16 "_law_cell" = true)
    (k16 : PySem.W.keepIn K (.ref f16) = true)
    (a17 : PySem.W.nsIn K mainGlobals "_law_bag" = some (some (.ref f17)))
    (l17 : K.lookup f17 = some ⟨oc17, od17, .func (PySem.W.fnOf "_law_bag" "_law_bag" (defArgs scBox_st) (defBody scBox_st) (defScope scBox_st) .none kV17 dc17 pm17 an17 cd17 ct17), sl17⟩)
    (c17 : PySem.W.codeIn K cd17 "_law_bag" = true)
    (k17 : PySem.W.keepIn K (.ref f17) = true)
    (a18 : PySem.W.nsIn K mainGlobals "_law_take" = some (some (.ref f18)))
    (l18 : K.lookup f18 = some ⟨oc18, od18, .func (PySem.W.fnOf "_law_take" "_law_take" (defArgs scTake_st) (defBody scTake_st) (defScope scTake_st) .none kV18 dc18 pm18 an18 cd18 ct18), sl18⟩)
    (c18 : PySem.W.codeIn K cd18 "_law_take" = true)
    (k18 : PySem.W.keepIn K (.ref f18) = true)
    (a19 : PySem.W.nsIn K mainGlobals "_law_drawn" = some (some (.ref f19)))
    (l19 : K.lookup f19 = some ⟨oc19, od19, .func (PySem.W.fnOf "_law_drawn" "_law_drawn" (defArgs scDrawn_st) (defBody scDrawn_st) (defScope scDrawn_st) .none kV19 dc19 pm19 an19 cd19 ct19), sl19⟩)
    (c19 : PySem.W.codeIn K cd19 "_law_drawn" = true)
    (k19 : PySem.W.keepIn K (.ref f19) = true)
    (a20 : PySem.W.nsIn K mainGlobals "_law_rows" = some (some (.ref f20)))
    (l20 : K.lookup f20 = some ⟨oc20, od20, .func (PySem.W.fnOf "_law_rows" "_law_rows" (defArgs scRowsL_st) (defBody scRowsL_st) (defScope scRowsL_st) .none kV20 dc20 pm20 an20 cd20 ct20), sl20⟩)
    (c20 : PySem.W.codeIn K cd20 "_law_rows" = true)
    (k20 : PySem.W.keepIn K (.ref f20) = true)
    (a21 : PySem.W.nsIn K mainGlobals "_law_joined" = some (some (.ref f21)))
    (l21 : K.lookup f21 = some ⟨oc21, od21, .func (PySem.W.fnOf "_law_joined" "_law_joined" (defArgs scJoined_st) (defBody scJoined_st) (defScope scJoined_st) .none kV21 dc21 pm21 an21 cd21 ct21), sl21⟩)
    (c21 : PySem.W.codeIn K cd21 "_law_joined" = true)
    (k21 : PySem.W.keepIn K (.ref f21) = true)
    (a22 : PySem.W.nsIn K mainGlobals "_law_caught" = some (some (.ref f22)))
    (l22 : K.lookup f22 = some ⟨oc22, od22, .func (PySem.W.fnOf "_law_caught" "_law_caught" (defArgs scCaught_st) (defBody scCaught_st) (defScope scCaught_st) .none kV22 dc22 pm22 an22 cd22 ct22), sl22⟩)
    (c22 : PySem.W.codeIn K cd22 "_law_caught" = true)
    (k22 : PySem.W.keepIn K (.ref f22) = true)
    (a23 : PySem.W.nsIn K mainGlobals "_law_right" = some (some (.ref f23)))
    (l23 : K.lookup f23 = some ⟨oc23, od23, .func (PySem.W.fnOf "_law_right" "_law_right" (defArgs scRight_st) (defBody scRight_st) (defScope scRight_st) .none kV23 dc23 pm23 an23 cd23 ct23), sl23⟩)
    (c23 : PySem.W.codeIn K cd23 "_law_right" = true)
    (k23 : PySem.W.keepIn K (.ref f23) = true)
    (a24 : PySem.W.nsIn K mainGlobals "law" = some (some (.ref f24)))
    (l24 : K.lookup f24 = some ⟨oc24, od24, .func (PySem.W.fnOf "law" "law" (defArgs scLaw_st) (defBody scLaw_st) (defScope scLaw_st) .none kV24 dc24 pm24 an24 cd24 ct24), sl24⟩)
    (c24 : PySem.W.codeIn K cd24 "law" = true)
    (k24 : PySem.W.keepIn K (.ref f24) = true)
    (m_LETTERS : PySem.W.nsIn K mainGlobals "LETTERS" = some (some (.str "abcdefghijklmnopqrstuvwxyz" t_LETTERS)))
    (m_DIGITS : PySem.W.nsIn K mainGlobals "DIGITS" = some (some (.str "0123456789" t_DIGITS)))
    (m_LONGEST_NAME : PySem.W.nsIn K mainGlobals "LONGEST_NAME" = some (some (.int 8 t_LONGEST_NAME)))
    (z_len : PySem.W.nsIn K mainGlobals "len" = some none)
    (z_max : PySem.W.nsIn K mainGlobals "max" = some none)
    (z_min : PySem.W.nsIn K mainGlobals "min" = some none)
    (z_isinstance : PySem.W.nsIn K mainGlobals "isinstance" = some none)
    (z_str : PySem.W.nsIn K mainGlobals "str" = some none)
    (z_int : PySem.W.nsIn K mainGlobals "int" = some none)
    (z_all : PySem.W.nsIn K mainGlobals "all" = some none)
    (z_range : PySem.W.nsIn K mainGlobals "range" = some none)
    (z_repr : PySem.W.nsIn K mainGlobals "repr" = some none)
    (z_list : PySem.W.nsIn K mainGlobals "list" = some none)
    (z_dict : PySem.W.nsIn K mainGlobals "dict" = some none)
    (z_bool : PySem.W.nsIn K mainGlobals "bool" = some none)
    (z_sorted : PySem.W.nsIn K mainGlobals "sorted" = some none)
    (z_sum : PySem.W.nsIn K mainGlobals "sum" = some none)
    (z_abs : PySem.W.nsIn K mainGlobals "abs" = some none)
    (z_zip : PySem.W.nsIn K mainGlobals "zip" = some none)
    (aCNetError : PySem.W.nsIn K mainGlobals "NetError" = some (some (.ref CNetError)))
    (bgNetError : PySem.W.specialIn K (.ref CNetError) "__getattribute__" = some (some (.builtin "type.__getattribute__")))
    (brNetError : PySem.W.readsIn K CNetError (.type "type") = true)
    (bfNetError : PySem.W.findCls K (.ref CNetError) (.type "type") "__init__" = some (.val (.builtin "ValueError.__init__")))
    (bhNetError : PySem.W.hasDictIn K CNetError = true)
    (btNetError : PySem.W.typeIn K (.ref CNetError) = some (.type "type"))
    (beNetError : PySem.W.subIn K (.ref CNetError) (.type "BaseException") = some true)
    (aCInvalidName : PySem.W.nsIn K mainGlobals "InvalidName" = some (some (.ref CInvalidName)))
    (xLInvalidName : K.lookup CInvalidName = some (excClassObj nmInvalidName qInvalidName CInvalidName NInvalidName bsInvalidName [.ref CNetError, .type "ValueError", .type "Exception", .type "BaseException", .type "object"] true snInvalidName subInvalidName abInvalidName colInvalidName ddInvalidName m0InvalidName m1InvalidName m2InvalidName m3InvalidName m5InvalidName "ValueError.__new__"))
    (saInvalidName : PySem.W.findIn K (.ref CInvalidName) "__setattr__" = some (some (.builtin "object.__setattr__")))
    (gaInvalidName : PySem.W.findIn K (.ref CInvalidName) "__getattribute__" = some (some (.builtin "BaseException.__getattribute__")))
    (ggInvalidName : PySem.W.findIn K (.ref CInvalidName) "__getattr__" = some none)
    (nbInvalidName : PySem.W.findIn K (.ref CInvalidName) "value" = some none)
    (kCInvalidName : PySem.W.keepIn K (.ref CInvalidName) = true)
    (eCInvalidName : PySem.W.subIn K (.ref CInvalidName) (.type "BaseException") = some true)
    (tCInvalidName : PySem.W.typeIn K (.ref CInvalidName) = some (.type "type"))
    (hCInvalidName : PySem.W.hasDictIn K CInvalidName = true)
    (caInvalidName : PySem.W.findIn K (.ref CInvalidName) "__class__" = some (some (.builtin "object.__class__")))
    (cmInvalidName : PySem.W.mroIn K CInvalidName (.type "object") = some true)
    (tIInvalidName : PySem.W.typeIn K (.ref f0) = some (.type "function"))
    (aCInvalidLags : PySem.W.nsIn K mainGlobals "InvalidLags" = some (some (.ref CInvalidLags)))
    (xLInvalidLags : K.lookup CInvalidLags = some (excClassObj nmInvalidLags qInvalidLags CInvalidLags NInvalidLags bsInvalidLags [.ref CNetError, .type "ValueError", .type "Exception", .type "BaseException", .type "object"] true snInvalidLags subInvalidLags abInvalidLags colInvalidLags ddInvalidLags m0InvalidLags m1InvalidLags m2InvalidLags m3InvalidLags m5InvalidLags "ValueError.__new__"))
    (saInvalidLags : PySem.W.findIn K (.ref CInvalidLags) "__setattr__" = some (some (.builtin "object.__setattr__")))
    (gaInvalidLags : PySem.W.findIn K (.ref CInvalidLags) "__getattribute__" = some (some (.builtin "BaseException.__getattribute__")))
    (ggInvalidLags : PySem.W.findIn K (.ref CInvalidLags) "__getattr__" = some none)
    (nbInvalidLags : PySem.W.findIn K (.ref CInvalidLags) "value" = some none)
    (kCInvalidLags : PySem.W.keepIn K (.ref CInvalidLags) = true)
    (eCInvalidLags : PySem.W.subIn K (.ref CInvalidLags) (.type "BaseException") = some true)
    (tCInvalidLags : PySem.W.typeIn K (.ref CInvalidLags) = some (.type "type"))
    (hCInvalidLags : PySem.W.hasDictIn K CInvalidLags = true)
    (caInvalidLags : PySem.W.findIn K (.ref CInvalidLags) "__class__" = some (some (.builtin "object.__class__")))
    (cmInvalidLags : PySem.W.mroIn K CInvalidLags (.type "object") = some true)
    (tIInvalidLags : PySem.W.typeIn K (.ref f1) = some (.type "function"))
    (aCLags : PySem.W.nsIn K mainGlobals "Lags" = some (some (.ref CLags)))
    (pgL : PySem.W.plainGet K CLags Str.empty = true)
    (hdL : PySem.W.hasDictIn K CLags = true)
    (poL : PySem.W.plainOver K CLags = true)
    (saL : PySem.W.findIn K (.ref CLags) "__setattr__" = some (some (.builtin "object.__setattr__")))
    (mkL : PySem.W.makesIn K CLags = true)
    (kcL : PySem.W.keepIn K (.ref CLags) = true)
    (noL : PySem.W.findIn K (.ref CLags) "own_lags" = some none)
    (sfL : PySem.W.selfFirst K CLags = true)
    (caL : PySem.W.findIn K (.ref CLags) "__class__" = some (some (.builtin "object.__class__")))
    (cmL : PySem.W.mroIn K CLags (.type "object") = some true)
    (kdL : PySem.W.subIn K (.ref CLags) (.type "dict") = some false)
    (ksL : PySem.W.subIn K (.ref CLags) (.type "str") = some false)
    (neL : PySem.W.findIn K (.ref CLags) "__ne__" = some (some (.builtin "object.__ne__")))
    (tyL : PySem.W.typeIn K (.ref CLags) = some (.type "type"))
    (ccn : PySem.W.specialIn K (.builtin "object.__class__") "__get__" = some (some (.builtin "getset_descriptor.__get__")))
    (cct : PySem.W.takesIn K (.builtin "object.__class__") = some true)
    (sxInvalidLagsInvalidLags : PySem.W.subIn K (.ref CInvalidLags) (.ref CInvalidLags) = some true)
    (sxInvalidNameInvalidLags : PySem.W.subIn K (.ref CInvalidName) (.ref CInvalidLags) = some false)
    (sxInvalidNameInvalidName : PySem.W.subIn K (.ref CInvalidName) (.ref CInvalidName) = some true)
    (skInvalidLagsNetError : PySem.W.subIn K (.ref CInvalidLags) (.ref CNetError) = some true)
    (skInvalidNameNetError : PySem.W.subIn K (.ref CInvalidName) (.ref CNetError) = some true)
    : ∃ fd : FuncData, (∀ (s : Shared) (v : Value), BindsTo s fd ⟨[v], []⟩ [("_law_script", v)]) ∧ ∀ base : Heap, K.In base → base.Ns mainGlobals mg → Tp.FnG l.prog w K mg base CX0 9 fa fd ["_law_script"] (spLaw K) := by
  have e := hfa.symm.trans (PySem.W.mg_of X G a24)
  cases e
  have F0 := fun_mk (st := scXName_st) l0 c0 k0
  have b0 := F0.binds (ps := ["self", "value"]) fun _ _ _ _ _ _ us hl => match us, hl with | [_, _], _ => rfl
  have F1 := fun_mk (st := scXLags_st) l1 c1 k1
  have b1 := F1.binds (ps := ["self", "value"]) fun _ _ _ _ _ _ us hl => match us, hl with | [_, _], _ => rfl
  have F2 := fun_mk (st := scIsName_st) l2 c2 k2
  have b2 := F2.binds (ps := ["value"]) fun _ _ _ _ _ _ us hl => match us, hl with | [_], _ => rfl
  have F3 := fun_mk (st := scInit_st) l3 c3 k3
  have b3 := F3.binds (ps := ["self", "rows"]) fun _ _ _ _ _ _ us hl => match us, hl with | [_, _], _ => rfl
  have F4 := fun_mk (st := scRows_st) l4 c4 k4
  have b4 := F4.binds (ps := ["self"]) fun _ _ _ _ _ _ us hl => match us, hl with | [_], _ => rfl
  have F5 := fun_mk (st := scLag_st) l5 c5 k5
  have b5 := F5.binds (ps := ["self", "name"]) fun _ _ _ _ _ _ us hl => match us, hl with | [_, _], _ => rfl
  have F6 := fun_mk (st := scBoth_st) l6 c6 k6
  have b6 := F6.binds (ps := ["self", "other"]) fun _ _ _ _ _ _ us hl => match us, hl with | [_, _], _ => rfl
  have F7 := fun_mk (st := scGet_st) l7 c7 k7
  have b7 := F7.binds (ps := ["self", "name"]) fun _ _ _ _ _ _ us hl => match us, hl with | [_, _], _ => rfl
  have F8 := fun_mk (st := scEq_st) l8 c8 k8
  have b8 := F8.binds (ps := ["self", "other"]) fun _ _ _ _ _ _ us hl => match us, hl with | [_, _], _ => rfl
  have F9 := fun_mk (st := scOr_st) l9 c9 k9
  have b9 := F9.binds (ps := ["self", "other"]) fun _ _ _ _ _ _ us hl => match us, hl with | [_, _], _ => rfl
  have F10 := fun_mk (st := scAnd_st) l10 c10 k10
  have b10 := F10.binds (ps := ["self", "other"]) fun _ _ _ _ _ _ us hl => match us, hl with | [_, _], _ => rfl
  have F11 := fun_mk (st := scAdd_st) l11 c11 k11
  have b11 := F11.binds (ps := ["self", "other"]) fun _ _ _ _ _ _ us hl => match us, hl with | [_, _], _ => rfl
  have F12 := fun_mk (st := scSub_st) l12 c12 k12
  have b12 := F12.binds (ps := ["self", "other"]) fun _ _ _ _ _ _ us hl => match us, hl with | [_, _], _ => rfl
  have F13 := fun_mk (st := scNeg_st) l13 c13 k13
  have b13 := F13.binds (ps := ["self"]) fun _ _ _ _ _ _ us hl => match us, hl with | [_], _ => rfl
  have F14 := fun_mk (st := scBelow_st) l14 c14 k14
  have b14 := F14.binds (ps := ["self", "other"]) fun _ _ _ _ _ _ us hl => match us, hl with | [_, _], _ => rfl
  have F15 := fun_mk (st := scAbs_st) l15 c15 k15
  have b15 := F15.binds (ps := ["self"]) fun _ _ _ _ _ _ us hl => match us, hl with | [_], _ => rfl
  have F16 := fun_mk (st := scCell_st) l16 c16 k16
  have b16 := F16.binds (ps := ["_law_script", "_law_index"]) fun _ _ _ _ _ _ us hl => match us, hl with | [_, _], _ => rfl
  have F17 := fun_mk (st := scBox_st) l17 c17 k17
  have b17 := F17.binds (ps := ["_law_cell_here"]) fun _ _ _ _ _ _ us hl => match us, hl with | [_], _ => rfl
  have F18 := fun_mk (st := scTake_st) l18 c18 k18
  have b18 := F18.binds (ps := ["_law_bag_here", "_law_many"]) fun _ _ _ _ _ _ us hl => match us, hl with | [_, _], _ => rfl
  have F19 := fun_mk (st := scDrawn_st) l19 c19 k19
  have b19 := F19.binds (ps := ["_law_bag_here"]) fun _ _ _ _ _ _ us hl => match us, hl with | [_], _ => rfl
  have F20 := fun_mk (st := scRowsL_st) l20 c20 k20
  have b20 := F20.binds (ps := ["_law_rows_here"]) fun _ _ _ _ _ _ us hl => match us, hl with | [_], _ => rfl
  have F21 := fun_mk (st := scJoined_st) l21 c21 k21
  have b21 := F21.binds (ps := ["_law_one", "_law_other", "_law_way"]) fun _ _ _ _ _ _ us hl => match us, hl with | [_, _, _], _ => rfl
  have F22 := fun_mk (st := scCaught_st) l22 c22 k22
  have b22 := F22.binds (ps := ["_law_door", "_law_thing"]) fun _ _ _ _ _ _ us hl => match us, hl with | [_, _], _ => rfl
  have F23 := fun_mk (st := scRight_st) l23 c23 k23
  have b23 := F23.binds (ps := ["_law_lags", "_law_rows_here"]) fun _ _ _ _ _ _ us hl => match us, hl with | [_, _], _ => rfl
  have F24 := fun_mk (st := scLaw_st) l24 c24 k24
  have b24 := F24.binds (ps := ["_law_script"]) fun _ _ _ _ _ _ us hl => match us, hl with | [_], _ => rfl
  have T : Txt K mg ⟨f0, f1, f2, f3, f4, f5, f6, f7, f8, f9, f10, f11, f12, f13, f14, f15, f16, f17, f18, f19, f20, f21, f22, f23, fa, CNetError, CInvalidName, CInvalidLags, CLags⟩ ⟨_, _, _, _, _, _, _, _, _, _, _, _, _, _, _, _, _, _, _, _, _, _, _, _, _⟩ := ⟨F0, b0, F1, b1, F2, b2, (PySem.W.mg_of X G a2), F3, b3, F4, b4, F5, b5, F6, b6, F7, b7, F8, b8, F9, b9, F10, b10, F11, b11, F12, b12, F13, b13, F14, b14, F15, b15, F16, b16, (PySem.W.mg_of X G a16), F17, b17, (PySem.W.mg_of X G a17), F18, b18, (PySem.W.mg_of X G a18), F19, b19, (PySem.W.mg_of X G a19), F20, b20, (PySem.W.mg_of X G a20), F21, b21, (PySem.W.mg_of X G a21), F22, b22, (PySem.W.mg_of X G a22), F23, b23, (PySem.W.mg_of X G a23), F24, b24, (PySem.W.mg_of X G a24), ⟨_, PySem.W.mg_of X G m_LETTERS⟩, ⟨_, PySem.W.mg_of X G m_DIGITS⟩, ⟨_, PySem.W.mg_of X G m_LONGEST_NAME⟩, (PySem.W.mg_none_of X G z_len), (PySem.W.mg_none_of X G z_max), (PySem.W.mg_none_of X G z_min), (PySem.W.mg_none_of X G z_isinstance), (PySem.W.mg_none_of X G z_str), (PySem.W.mg_none_of X G z_int), (PySem.W.mg_none_of X G z_all), (PySem.W.mg_none_of X G z_range), (PySem.W.mg_none_of X G z_repr), (PySem.W.mg_none_of X G z_list), (PySem.W.mg_none_of X G z_dict), (PySem.W.mg_none_of X G z_bool), (PySem.W.mg_none_of X G z_sorted), (PySem.W.mg_none_of X G z_sum), (PySem.W.mg_none_of X G z_abs), (PySem.W.mg_none_of X G z_zip), (PySem.W.mg_of X G aCNetError), ⟨bgNetError, brNetError, bfNetError⟩, (PySem.W.mg_of X G aCInvalidName), ⟨⟨_, _, _, _, _, _, _, _, _, _, _, _, _, _, _, xLInvalidName, by show HandSPX.refsVE [.type "ValueError", .type "Exception", .type "BaseException", .type "object"] = true; decide +kernel⟩, saInvalidName, eCInvalidName, tCInvalidName, kCInvalidName⟩, ⟨gaInvalidName, ggInvalidName, eCInvalidName, hCInvalidName, caInvalidName, ccn, cct, cmInvalidName⟩, ⟨gaInvalidName, ggInvalidName, eCInvalidName, hCInvalidName⟩, nbInvalidName, a0, tIInvalidName, (PySem.W.mg_of X G aCInvalidLags), ⟨⟨_, _, _, _, _, _, _, _, _, _, _, _, _, _, _, xLInvalidLags, by show HandSPX.refsVE [.type "ValueError", .type "Exception", .type "BaseException", .type "object"] = true; decide +kernel⟩, saInvalidLags, eCInvalidLags, tCInvalidLags, kCInvalidLags⟩, ⟨gaInvalidLags, ggInvalidLags, eCInvalidLags, hCInvalidLags, caInvalidLags, ccn, cct, cmInvalidLags⟩, ⟨gaInvalidLags, ggInvalidLags, eCInvalidLags, hCInvalidLags⟩, nbInvalidLags, a1, tIInvalidLags, (PySem.W.mg_of X G aCLags), ⟨pgL, hdL, poL, saL⟩, ⟨mkL, a3, fn3, kcL⟩, noL, sfL, caL, ccn, cct, cmL, (Tp.kit_own kdL (by decide +kernel)), (Tp.kit_own ksL (by decide +kernel)), neL, hdL, tyL, ⟨a4, fn4, k4⟩, ⟨a5, fn5, k5⟩, ⟨a6, fn6, k6⟩, ⟨a7, fn7, k7⟩, ⟨a8, fn8, k8⟩, ⟨a9, fn9, k9⟩, ⟨a10, fn10, k10⟩, ⟨a11, fn11, k11⟩, ⟨a12, fn12, k12⟩, ⟨a13, fn13, k13⟩, ⟨a14, fn14, k14⟩, ⟨a15, fn15, k15⟩, gi7, (PySem.W.exm_ref eCInvalidLags hCInvalidLags tCInvalidLags sxInvalidLagsInvalidLags), (PySem.W.exm_ref eCInvalidLags hCInvalidLags tCInvalidLags sxInvalidNameInvalidLags), (PySem.W.exm_ref eCInvalidName hCInvalidName tCInvalidName sxInvalidNameInvalidName), (Tp.kit_refT bhNetError btNetError skInvalidLagsNetError), (Tp.kit_refT bhNetError btNetError skInvalidNameNetError)⟩
  exact ⟨_, fun s v => .of_eq rfl, fun base _ _ => ok_law T⟩
theorem walk {l : PySem.W.OpenLaw} {q : Program} {loose : List Str} {XP : (Str → Option Value) → Heap → Prop} {YP : World → Heap → Prop} {d : DefRec} {K : Params → PySem.W.Frag} (hn : l.most = some 63) (hdf : d.params.defaults = []) (himp : PyProof.Rows.importsNone q = true)
    (hY : ∀ (w : World) (h : Heap), YP w h → (K w.params).In h)
    (F : ∀ (w : World) (mg : Str → Option Value) (fa : Addr) (h : Heap), (K w.params).In h → h.Ns mainGlobals mg → mg d.name = some (.ref fa) →
      ∃ fd : FuncData, (∀ (s : Shared) (u : Value), BindsTo s fd ⟨[u], []⟩ [("_law_script", u)]) ∧ ∀ base : Heap, (K w.params).In base → base.Ns mainGlobals mg → Tp.FnG l.prog w (K w.params) mg base CX0 9 fa fd ["_law_script"] (spLaw (K w.params))) :
    PySem.W.WalkO q loose XP YP l.row.toRowW d [] (fun f vs => PySem.call f vs) :=
  Tp.walkS (n := 63) (k := 9) (x := "_law_script") (sp := fun w => spLaw (K w.params)) hn (by decide) hdf himp ⟨rfl, by decide, by decide⟩ hY F (fun _ _ a ns hl hs hS => ⟨a, ns, rfl, hs, hS, hl, fun _ => rfl⟩)
end L31

open PySem PySem.W PyProof.Rows in
set_option maxRecDepth 100000 in
set_option maxHeartbeats 0 in
theorem PySem.Challenge.cw_toldpast_k31_rows_of_lags_holds : PySem.Challenge.rw_toldpast_k31_rows_of_lags.Holds := by
  w_on; o_law; k_head; (case hw => w_witness2)
  k_fill
  refine L31.walk (l := PySem.Challenge.rw_toldpast_k31_rows_of_lags) rfl rfl (by decide +kernel) (fun w h Y => PySem.W.kIn_of Y) ?F
  case F =>
    intro w mg fa h KX G hmg
    refine' L31.all_mk KX G hmg ?a0 ?l0 ?c0 ?k0 ?a1 ?l1 ?c1 ?k1 ?a2 ?l2 ?c2 ?k2 ?a3 ?l3 ?c3 ?k3 ?fn3 ?a4 ?l4 ?c4 ?k4 ?fn4 ?a5 ?l5 ?c5 ?k5 ?fn5 ?a6 ?l6 ?c6 ?k6 ?fn6 ?a7 ?l7 ?c7 ?k7 ?fn7 ?gi7 ?a8 ?l8 ?c8 ?k8 ?fn8 ?a9 ?l9 ?c9 ?k9 ?fn9 ?a10 ?l10 ?c10 ?k10 ?fn10 ?a11 ?l11 ?c11 ?k11 ?fn11 ?a12 ?l12 ?c12 ?k12 ?fn12 ?a13 ?l13 ?c13 ?k13 ?fn13 ?a14 ?l14 ?c14 ?k14 ?fn14 ?a15 ?l15 ?c15 ?k15 ?fn15 ?a16 ?l16 ?c16 ?k16 ?a17 ?l17 ?c17 ?k17 ?a18 ?l18 ?c18 ?k18 ?a19 ?l19 ?c19 ?k19 ?a20 ?l20 ?c20 ?k20 ?a21 ?l21 ?c21 ?k21 ?a22 ?l22 ?c22 ?k22 ?a23 ?l23 ?c23 ?k23 ?a24 ?l24 ?c24 ?k24 ?m_LETTERS ?m_DIGITS ?m_LONGEST_NAME ?z_len ?z_max ?z_min ?z_isinstance ?z_str ?z_int ?z_all ?z_range ?z_repr ?z_list ?z_dict ?z_bool ?z_sorted ?z_sum ?z_abs ?z_zip ?aCNetError ?bgNetError ?brNetError ?bfNetError ?bhNetError ?btNetError ?beNetError ?aCInvalidName ?xLInvalidName ?saInvalidName ?gaInvalidName ?ggInvalidName ?nbInvalidName ?kCInvalidName ?eCInvalidName ?tCInvalidName ?hCInvalidName ?caInvalidName ?cmInvalidName ?tIInvalidName ?aCInvalidLags ?xLInvalidLags ?saInvalidLags ?gaInvalidLags ?ggInvalidLags ?nbInvalidLags ?kCInvalidLags ?eCInvalidLags ?tCInvalidLags ?hCInvalidLags ?caInvalidLags ?cmInvalidLags ?tIInvalidLags ?aCLags ?pgL ?hdL ?poL ?saL ?mkL ?kcL ?noL ?sfL ?caL ?cmL ?kdL ?ksL ?neL ?tyL ?ccn ?cct ?sxInvalidLagsInvalidLags ?sxInvalidNameInvalidLags ?sxInvalidNameInvalidName ?skInvalidLagsNetError ?skInvalidNameNetError
    (case aCNetError => k_is)
    (case aCInvalidName => k_is)
    (case aCInvalidLags => k_is)
    (case aCLags => k_is)
    (case a0 => k_is)
    (case l0 => k_is)
    (case c0 => k_is)
    (case k0 => k_is)
    (case a1 => k_is)
    (case l1 => k_is)
    (case c1 => k_is)
    (case k1 => k_is)
    (case a2 => k_is)
    (case l2 => k_is)
    (case c2 => k_is)
    (case k2 => k_is)
    (case a3 => k_is)
    (case l3 => k_is)
    (case c3 => k_is)
    (case k3 => k_is)
    (case fn3 => k_is)
    (case a4 => k_is)
    (case l4 => k_is)
    (case c4 => k_is)
    (case k4 => k_is)
    (case fn4 => k_is)
    (case a5 => k_is)
    (case l5 => k_is)
    (case c5 => k_is)
    (case k5 => k_is)
    (case fn5 => k_is)
    (case a6 => k_is)
    (case l6 => k_is)
    (case c6 => k_is)
    (case k6 => k_is)
    (case fn6 => k_is)
    (case a7 => k_is)
    (case l7 => k_is)
    (case c7 => k_is)
    (case k7 => k_is)
    (case fn7 => k_is)
    (case gi7 => k_is)
    (case a8 => k_is)
    (case l8 => k_is)
    (case c8 => k_is)
    (case k8 => k_is)
    (case fn8 => k_is)
    (case a9 => k_is)
    (case l9 => k_is)
    (case c9 => k_is)
    (case k9 => k_is)
    (case fn9 => k_is)
    (case a10 => k_is)
    (case l10 => k_is)
    (case c10 => k_is)
    (case k10 => k_is)
    (case fn10 => k_is)
    (case a11 => k_is)
    (case l11 => k_is)
    (case c11 => k_is)
    (case k11 => k_is)
    (case fn11 => k_is)
    (case a12 => k_is)
    (case l12 => k_is)
    (case c12 => k_is)
    (case k12 => k_is)
    (case fn12 => k_is)
    (case a13 => k_is)
    (case l13 => k_is)
    (case c13 => k_is)
    (case k13 => k_is)
    (case fn13 => k_is)
    (case a14 => k_is)
    (case l14 => k_is)
    (case c14 => k_is)
    (case k14 => k_is)
    (case fn14 => k_is)
    (case a15 => k_is)
    (case l15 => k_is)
    (case c15 => k_is)
    (case k15 => k_is)
    (case fn15 => k_is)
    (case a16 => k_is)
    (case l16 => k_is)
    (case c16 => k_is)
    (case k16 => k_is)
    (case a17 => k_is)
    (case l17 => k_is)
    (case c17 => k_is)
    (case k17 => k_is)
    (case a18 => k_is)
    (case l18 => k_is)
    (case c18 => k_is)
    (case k18 => k_is)
    (case a19 => k_is)
    (case l19 => k_is)
    (case c19 => k_is)
    (case k19 => k_is)
    (case a20 => k_is)
    (case l20 => k_is)
    (case c20 => k_is)
    (case k20 => k_is)
    (case a21 => k_is)
    (case l21 => k_is)
    (case c21 => k_is)
    (case k21 => k_is)
    (case a22 => k_is)
    (case l22 => k_is)
    (case c22 => k_is)
    (case k22 => k_is)
    (case a23 => k_is)
    (case l23 => k_is)
    (case c23 => k_is)
    (case k23 => k_is)
    (case a24 => k_is)
    (case l24 => k_is)
    (case c24 => k_is)
    (case k24 => k_is)
    (case m_LETTERS => k_is)
    (case m_DIGITS => k_is)
    (case m_LONGEST_NAME => k_is)
    (case z_len => k_is)
    (case z_max => k_is)
    (case z_min => k_is)
    (case z_isinstance => k_is)
    (case z_str => k_is)
    (case z_int => k_is)
    (case z_all => k_is)
    (case z_range => k_is)
    (case z_repr => k_is)
    (case z_list => k_is)
    (case z_dict => k_is)
    (case z_bool => k_is)
    (case z_sorted => k_is)
    (case z_sum => k_is)
    (case z_abs => k_is)
    (case z_zip => k_is)
    (case bgNetError => k_is)
    (case brNetError => k_is)
    (case bfNetError => k_is)
    (case bhNetError => k_is)
    (case btNetError => k_is)
    (case beNetError => k_is)
    (case xLInvalidName => k_is)
    (case saInvalidName => k_is)
    (case gaInvalidName => k_is)
    (case ggInvalidName => k_is)
    (case nbInvalidName => k_is)
    (case kCInvalidName => k_is)
    (case eCInvalidName => k_is)
    (case tCInvalidName => k_is)
    (case hCInvalidName => k_is)
    (case caInvalidName => k_is)
    (case cmInvalidName => k_is)
    (case tIInvalidName => k_is)
    (case xLInvalidLags => k_is)
    (case saInvalidLags => k_is)
    (case gaInvalidLags => k_is)
    (case ggInvalidLags => k_is)
    (case nbInvalidLags => k_is)
    (case kCInvalidLags => k_is)
    (case eCInvalidLags => k_is)
    (case tCInvalidLags => k_is)
    (case hCInvalidLags => k_is)
    (case caInvalidLags => k_is)
    (case cmInvalidLags => k_is)
    (case tIInvalidLags => k_is)
    (case pgL => k_is)
    (case hdL => k_is)
    (case poL => k_is)
    (case saL => k_is)
    (case mkL => k_is)
    (case kcL => k_is)
    (case noL => k_is)
    (case sfL => k_is)
    (case caL => k_is)
    (case cmL => k_is)
    (case kdL => k_is)
    (case ksL => k_is)
    (case neL => k_is)
    (case tyL => k_is)
    (case ccn => k_is)
    (case cct => k_is)
    (case sxInvalidLagsInvalidLags => k_is)
    (case sxInvalidNameInvalidLags => k_is)
    (case sxInvalidNameInvalidName => k_is)
    (case skInvalidLagsNetError => k_is)
    (case skInvalidNameNetError => k_is)


