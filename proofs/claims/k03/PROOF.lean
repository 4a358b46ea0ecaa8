import PyProof.Rows.All
import Wide.All
import OpenK.AllK
import Wide.FinOn
import HandS.ForMost
import HandS.Evl
import HandS.Defaults
import HandS.IsInst
import HandS.StrMore
import KE.IntTextText
import HandS.Walk
import PyProof.ReprLen
import PySem.Challenge.RW_toldpast_k03_integers_and_words_in_strin
set_option Elab.async false
set_option linter.all false
set_option maxRecDepth 100000
set_option maxHeartbeats 4000000
/-! Tp: what all laws of this package share: promises that know that no repr runs around (FnG), repr of data, the box of draws -/
namespace Tp
open PySem PySem.Spec PyProof.Rows L2

/-! ### a def's promise where no guard (a repr that runs) stands around -/
structure FnG (P : Program) (w : World) (K : PySem.W.Frag) (mg : Str → Option Value) (base : Heap)
    (CX : CXT) (k : Nat) (f : Addr) (fd : FuncData) (ps : List Str) (sp : Sp) : Prop where
  ar : ∀ vs H Q E, sp vs H Q E → vs.length = ps.length
  go : ∀ (A : Around) (outer : List Env) (s : Shared) (H : Hp) (args : Args) (us : List Value) (vs : List V) (Q : VK) (E : XK),
    Room k A → A.guards = some [] → Env0 P w K mg base A outer s H → BindsTo s fd args (ps.zip us) → Vals vs us → sp vs H Q E →
      codeAny (model P w) A (.call (.ref f) args) (CR CX outer P w H s Q E) s

section
variable {P : Program} {w : World} {K : PySem.W.Frag} {mg : Str → Option Value} {base : Heap} {CX : CXT} {k : Nat} {f : Addr} {fd : FuncData} {ps : List Str} {sp : Sp}
theorem FnG.up {j : Nat} (F : FnG P w K mg base CX j f fd ps sp) (h : j ≤ k) : FnG P w K mg base CX k f fd ps sp :=
  ⟨F.ar, fun A o s H args us vs Q E hr => F.go A o s H args us vs Q E (hr.mono h)⟩
theorem FnG.of (F : FnOk P w K mg base CX k f fd ps sp) : FnG P w K mg base CX k f fd ps sp :=
  ⟨F.len, fun A o s H args us vs Q E hr _ => F.run A o s H args us vs Q E hr⟩

theorem fnG_of {name qual : Str} {params : Arguments} {body : List Stmt} {scope : Scope} {dV kV doc pm cdv ct oc : Value} {an od : Option Addr}
    {osl : Array (Option Value)} {N : List Str}
    (there : K.lookup f = some ⟨oc, od, .func (PySem.W.fnOf name qual params body scope dV kV doc pm an cdv ct), osl⟩)
    (code : PySem.W.codeIn K cdv qual = true) (S : FnScope N ps scope) (ar : ∀ vs H Q E, sp vs H Q E → vs.length = ps.length)
    (bd : ∀ (A : Around) (outer : List Env) (s : Shared) (H : Hp) (vs : List V) (Q : VK) (E : XK),
      Room k (A.deeper (envOfC qual scope s.heap.objs.size f cdv)) → A.guards = some [] → sp vs H Q E →
      ∃ t, PSs (cxOf CX P w K mg base N qual scope f cdv A outer s H E) body t ∧ t { nx := fun _ H' => Q .non H', rt := Q } (start N vs) H) :
    FnG P w K mg base CX (k + 1) f (PySem.W.fnOf name qual params body scope dV kV doc pm an cdv ct) ps sp := by
  refine ⟨ar, fun A outer s H args us vs Q E hr hg e0 hb r hsp => ?_⟩
  have keep : ∀ b o, base.get? b = some o → s.heap.get? b = some o := fun b o e => (e0.bs b o e).1
  have inK : K.In s.heap := e0.mod.kin.keeps keep
  have room : s.heap.NoLimit := e0.mod.nolimit.keeps keep
  have kinds : ∀ y ∈ ps.zip us, scope.names.lookup y.1 = some .local ∨
      (scope.names.lookup y.1 = some .cell ∧ ((cellsFrom (s.heap.objs.size + 1) scope.names []).lookup y.1).isSome = true) := by
    rintro ⟨n, v⟩ hy
    exact (S.par n (List.of_mem_zip hy).1).imp id fun q => ⟨q, PySem.W.cellsFrom_some _ _ _ (.inl q)⟩
  refine codeAny_call_function hr.depth (inK _ _ there) rfl S.co S.gen rfl (PySem.W.codeRec_of inK code) (hb _ _ _ _ ?_)
  refine wpAny_newFunctionEnv_cells S.kind kinds fun env eqE s1 x => ?_
  subst eqE
  refine ⟨room.keeps x.toInCall.keep, codeAny_func ?_⟩
  obtain ⟨t, ht, hq⟩ := bd A outer s H vs Q E (hr.deeper _) hg hsp
  have J0 : Inv (cxOf CX P w K mg base N qual scope f cdv A outer s H E) [] (start N vs) H s1 := inv_start S hr.hd e0 (ar _ _ _ _ hsp) r x
  refine wpAny_mono (ht.run [] s1 (start N vs) H _ J0 hq) (fun fl s' hs => ?_) fun _ _ hs => hs
  cases fl with
  | ret u => obtain ⟨v, σ', H', J, rv, q⟩ := hs; exact ⟨v, H', J.os, J.bare, J.base, J.hok, rv, q⟩
  | next => obtain ⟨σ', H', J, q⟩ := hs; exact ⟨V.non, H', J.os, J.bare, J.base, J.hok, rfl, q⟩
  | brk => obtain ⟨_, _, _, q⟩ := hs; exact q.elim
  | cont => obtain ⟨_, _, _, q⟩ := hs; exact q.elim

/-- a def of the text without defaults -/
theorem okG {x qual : Str} {st : Stmt} {N : List Str} (F : Fun K x qual st f fd) (S : FnScope N ps (defScope st)) (ar : ∀ vs H Q E, sp vs H Q E → vs.length = ps.length)
    (bd : ∀ (cdv : Value) (A : Around) (outer : List Env) (s : Shared) (H : Hp) (vs : List V) (Q : VK) (E : XK),
      Room k (A.deeper (envOfC qual (defScope st) s.heap.objs.size f cdv)) → A.guards = some [] → sp vs H Q E →
      ∃ t, PSs (cxOf CX0 P w K mg base N qual (defScope st) f cdv A outer s H E).nox (defBody st) t ∧ t { nx := fun _ H' => Q .non H', rt := Q } (start N vs) H) :
    FnG P w K mg base CX0 (k + 1) f fd ps sp := by
  obtain ⟨oc, od, kV, doc, pm, an, cdv, ct, osl, rfl, lk, hcd⟩ := F.ex
  refine fnG_of lk hcd S ar fun A outer s H vs Q E hr hg hsp => ?_
  obtain ⟨t, h, q⟩ := bd cdv A outer s H vs Q E hr hg hsp
  exact ⟨t, h.nox, q⟩
/-- a def with defaults -/
theorem okGD {x qual : Str} {st : Stmt} {dvs : List V} {kws : List (Str × V)} {N : List Str} (F : FunD K x qual (defArgs st) (defBody st) (defScope st) dvs kws f fd) (S : FnScope N ps (defScope st))
    (ar : ∀ vs H Q E, sp vs H Q E → vs.length = ps.length)
    (bd : ∀ (cdv : Value) (A : Around) (outer : List Env) (s : Shared) (H : Hp) (vs : List V) (Q : VK) (E : XK),
      Room k (A.deeper (envOfC qual (defScope st) s.heap.objs.size f cdv)) → A.guards = some [] → sp vs H Q E →
      ∃ t, PSs (cxOf CX0 P w K mg base N qual (defScope st) f cdv A outer s H E).nox (defBody st) t ∧ t { nx := fun _ H' => Q .non H', rt := Q } (start N vs) H) :
    FnG P w K mg base CX0 (k + 1) f fd ps sp := by
  obtain ⟨oc, od, dV, kV, doc, pm, an, cdv, ct, osl, rfl, lk, hcd, _, _⟩ := F.ex
  refine fnG_of lk hcd S ar fun A outer s H vs Q E hr hg hsp => ?_
  obtain ⟨t, h, q⟩ := bd cdv A outer s H vs Q E hr hg hsp
  exact ⟨t, h.nox, q⟩
end

/-! ### calls of such defs -/
section
variable {X : Cx} {CX : CXT} {k n : Nat} {f C : Addr} {fd : FuncData} {ps ks : List Str} {sp : Sp} {dvs : List V} {ds : List Value} {E : XK} {x m : Str} {p pos apos : Pos} {e o : Expr} {es : List Expr} {ta : TE} {t tk : TA} {kws : List Keyword}
  {g : List Value → List Value → List Value} {gV : List V → List V → List V}

theorem runG {pins : List (Addr × Obj)} {σ : L2.St} {H : Hp} {s : Shared} {Q : VK} {args : Args} {us : List Value} {vs : List V}
    (F : FnG X.prog X.w X.K X.mg X.base CX k f fd ps sp) (hr : Room k X.A) (hg : X.A.guards = some []) (hx : Passes CX X E) (I : Inv X pins σ H s)
    (hb : BindsTo s fd args (ps.zip us)) (r : Vals vs us) (h : sp vs H Q E) :
    wpAny (model X.prog X.w) X.A (call (.ref f) args.pos args.kw) (EP X pins σ Q) X.xe s := by
  obtain ⟨ap, ak⟩ := args
  refine wpAny_call (codeAny_mono (F.go X.A X.stack s H ⟨ap, ak⟩ us vs Q E hr hg I.env0 hb r h) fun r s' hq => ?_)
  cases r with
  | error e => exact hx pins σ H s e s' I hq
  | ok fl =>
    cases fl with
    | ret u => exact I.after hq
    | _ => exact hq.elim
theorem runG1 {pins : List (Addr × Obj)} {σ : L2.St} {H : Hp} {s : Shared} {Q : VK} {us : List Value} {vs : List V}
    (F : FnG X.prog X.w X.K X.mg X.base CX k f fd ps sp) (hr : Room k X.A) (hg : X.A.guards = some []) (hb : Binds X.K fd ps ds) (hd : Vals dvs ds) (hx : Passes CX X E)
    (I : Inv X pins σ H s) (r : Vals vs us) (h : sp (vs ++ dvs) H Q E) : wpAny (model X.prog X.w) X.A (call (.ref f) us) (EP X pins σ Q) X.xe s := by
  have r2 := r.append hd
  exact runG (args := ⟨us, []⟩) F hr hg hx I (hb s us I.kIn (r2.length.symm.trans (F.ar _ _ _ _ h))) r2 h

theorem pe_callG (F : FnG X.prog X.w X.K X.mg X.base CX k f fd ps sp) (hr : Room k X.A) (hgu : X.A.guards = some []) (hg : Gl X x) (hm : X.mg x = some (.ref f)) (hk : PySem.W.keepIn X.K (.ref f) = true)
    (hb : Binds X.K fd ps ds) (hd : Vals dvs ds) (hx : Passes CX X E) (ha : PA X (e :: es) t) (hdb : (x == ("__debug__" : Str)) = false := by decide)
    (he : starEach (e :: es) X.env = (false, eval e X.env) :: starEach es X.env := by rfl) (hpl : (backTo pos (starEach es X.env)).any (·.1) = false := by rfl) :
    PE X (.Call (.Name x p) (e :: es) [] pos) (tCall sp dvs E t) :=
  ⟨fun pins s σ H Q I h => wpAny_Call_Name_kw (ld_glob I hg hm (PySem.W.callWith_K (h₀ := X.base) I.ok.mod.kin hk
    (thn (ha.run pos pins s σ H _ I h) fun us s1 ⟨vs, H1, I1, r, q⟩ => ⟨I1.kIn, runG1 F hr hgu hb hd hx I1 r q⟩) he hpl) hdb)⟩
theorem pe_callG0 (F : FnG X.prog X.w X.K X.mg X.base CX k f fd ps sp) (hr : Room k X.A) (hgu : X.A.guards = some []) (hg : Gl X x) (hm : X.mg x = some (.ref f)) (hk : PySem.W.keepIn X.K (.ref f) = true)
    (hb : Binds X.K fd ps ds) (hd : Vals dvs ds) (hx : Passes CX X E) (hdb : (x == ("__debug__" : Str)) = false := by decide) : PE X (.Call (.Name x p) [] [] pos) (tCall sp dvs E tNil) :=
  ⟨fun pins s σ H Q I h => wpAny_Call_Name_kw (ld_glob I hg hm (PySem.W.callWith_K0 I.kIn hk (runG1 (us := []) F hr hgu hb hd hx I .nil h)) hdb)⟩
theorem pe_callGN (F : FnG X.prog X.w X.K X.mg X.base CX k f fd ps sp) (hr : Room k X.A) (hgu : X.A.guards = some []) (hg : Gl X x) (hm : X.mg x = some (.ref f)) (hk : PySem.W.keepIn X.K (.ref f) = true)
    (hb : KBn X.K fd ps n ks g gV) (hx : Passes CX X E) (ha : PA X (e :: es) t) (hkw : PK X kws tk)
    (hall : (backToKw pos (keywordEach kws X.env)).all (·.1.isSome) = true := by rfl) (hks : (backToKw pos (keywordEach kws X.env)).filterMap (·.1) = ks := by rfl)
    (hdb : (x == ("__debug__" : Str)) = false := by decide) (he : starEach (e :: es) X.env = (false, eval e X.env) :: starEach es X.env := by rfl)
    (hpl : ((backTo pos (starEach (e :: es) X.env)).any (·.1) || (backToKw pos (keywordEach kws X.env)).any (·.1.isNone)) = false := by rfl) :
    PE X (.Call (.Name x p) (e :: es) kws pos) (tCallN n ks.length sp gV E t tk) :=
  ⟨fun pins s σ H Q I h => wpAny_Call_Name_kw (ld_glob I hg hm (PySem.W.callWith_KW (h₀ := X.base) I.ok.mod.kin hk hall
    (thn (ha.run pos pins s σ H _ I h) fun us s1 ⟨vs, H1, I1, r, q⟩ => thn (hkw.run pos pins s1 σ H1 _ I1 q) fun ws s2 ⟨zs, H2, I2, rz, l1, l2, q2⟩ => ⟨I2.kIn, by
      rw [hks]
      exact runG (args := ⟨us, ks.zip ws⟩) F hr hgu hx I2 (hb.to s2 us ws I2.kIn (r.length.symm.trans l1) (rz.length.symm.trans l2)) (hb.rel r rz) q2⟩) hpl he) hdb)⟩
end

/-! ### repr of data -/
section
variable {X : Cx}
def rRepr (K : PySem.W.Frag) : List V → Hp → VK → Prop := fun xs H Q => ∃ v d, xs = [v] ∧ Dp K H v d ∧ d.showable = true ∧ d.hasDict = false ∧ d.depth ≤ 60 ∧ d.shown.length ≤ sizeLine ∧ Q (.str d.shown) H
theorem call_reprD {k : Nat} (hr : Room k X.A) (hg : X.A.guards = some []) : CallR X (.builtin "repr") (rRepr X.K) := by
  intro pins s σ H xs us Q I r h
  obtain ⟨v, d, rfl, hd, hs, hn, hp, hz, q⟩ := h
  obtain ⟨u, rfl, ru⟩ := vals1 r
  obtain ⟨as, rd⟩ := Dp.reads I d v u hd ru
  have un := hr.un
  have fin : ∀ {z : Str} {s' : Shared} {t : Tok}, Inv X pins σ H s' → d.shown = z → EP X pins σ Q (.str z t) s' := fun J e => ⟨.str d.shown, H, J, ⟨_, by rw [e]⟩, q⟩
  cases hd with
  | non => cases ru; exact PySem.P.repr_of_none (fin (I.tok _) (by simp only [PyData.shown]))
  | bl b => cases ru; exact PySem.P.repr_of_bool (fin (I.tok _) (by simp only [PyData.shown]))
  | int i => obtain ⟨t, rfl⟩ := ru; exact PySem.P.repr_of_int (by simpa [PyData.showable] using hs) (fin (I.tok _) (by simp only [PyData.shown]))
  | str x => obtain ⟨t, rfl⟩ := ru; exact PySem.P.repr_of_str (fin (I.tok _) (by simp only [PyData.shown])) (by simpa only [PyData.shown] using hz)
  | lst _ _ => cases ru; exact repr_of_reads' rd hs (PyData.noDict_hsm hn) hg (by omega) (fun _ _ e => e) (fun h' u tk kp => fin (I.kept kp) rfl) hz
  | tup _ _ => cases ru; exact repr_of_reads' rd hs (PyData.noDict_hsm hn) hg (by omega) (fun _ _ e => e) (fun h' u tk kp => fin (I.kept kp) rfl) hz
end

/-! ### the end of a law -/
section
variable {P : Program} {w : World} {K : PySem.W.Frag} {mg mb : Str → Option Value} {CX : CXT} {k : Nat} {fa a : Addr} {fd : FuncData} {x : Str} {sp : Sp} {s1 : Shared} {vs : List Value} {ns : List Int}
def LawEnd (s1 : Shared) (r : Result) (s' : Shared) : Prop := r = .ok (.ret (.bool true)) ∧ OldK s1.heap s'.heap ∧ s'.os = s1.os ∧ AllBare s'.gens
/-- from an abstract heap H that tracks the script alone, or nothing -/
theorem law_core (KX : K.In s1.heap) (hns : s1.heap.Ns mainGlobals mg) (hb : s1.heap.Ns builtinsNs mb) (hbb : ∀ x : Str, x ≠ "__name__" → mb x = bootBuiltins x)
    (hlim : s1.heap.NoLimit) (hg : s1.gens = #[]) (ha : s1.heap.get? a = some { cls := .type "list", data := .seq vs.toArray }) (hr : Room k callerA)
    (F : ∀ base : Heap, K.In base → base.Ns mainGlobals mg → FnG P w K mg base CX k fa fd [x] sp) (hbind : ∀ (s : Shared) (u : Value), BindsTo s fd ⟨[u], []⟩ [(x, u)])
    (hCX : ∀ H e s', ¬ CX [] H s1 (fun _ _ _ => False) e s') {H : Hp} (only : Only H) (hsp : sp [.ref a] H (fun v _ => v = .bl true) fun _ _ _ => False)
    (hok : HOk P w H s1.heap) (hA : ∀ b, H b ≠ none → b = a) (hK : H a ≠ none → K.lookup a = none) :
    codeAny (model P w) callerA (.call (.ref fa) ⟨[.ref a], []⟩) (LawEnd s1) s1 := by
  have free : ∀ {b : Addr} {o : Obj} {es : Array DictEntry} {ep : Nat}, s1.heap.get? b = some o → o.data = .dict es ep → H b = none := by
    intro b o es ep e d
    refine Classical.byContradiction fun q => ?_
    obtain rfl := hA b q
    rw [ha] at e
    cases e
    cases (d : Data.seq vs.toArray _ = Data.dict es ep)
  have ns : ∀ {b : Addr} {m : Str → Option Value}, s1.heap.Ns b m → (hidT s1.heap H).Ns b m := by
    rintro b m ⟨o, es, ep, e, d, r⟩
    exact ⟨o, es, ep, hidT_get e (free e d), d, r⟩
  have inK : K.In (hidT s1.heap H) := by
    intro b o e
    refine hidT_get (KX b o e) (Classical.byContradiction fun q => ?_)
    obtain rfl := hA b q
    rw [hK q] at e
    cases e
  obtain ⟨mc, l1, l2⟩ := hlim
  have M : Mod K mg (hidT s1.heap H) := ⟨inK, ns hns, ⟨mb, ns hb, hbb⟩, ⟨mc, ns l1, l2⟩⟩
  have none_in : ∀ b : Addr, b ∉ ([] : List Addr) := fun _ z => nomatch z
  have e0 : Env0 P w K mg (hidT s1.heap H) callerA [] s1 H := ⟨rfl, M, fun _ _ e => of_hidT e, Nat.le_of_eq (hidT_size _ _), trivial, fun b z => (none_in b z).elim, hok, .of_eq hg⟩
  refine codeAny_mono ((F _ inK (ns hns)).go callerA [] s1 H ⟨[.ref a], []⟩ [.ref a] [.ref a] _ _ hr rfl e0 (hbind s1 (.ref a)) (.cons rfl .nil) hsp) fun r s' h => ?_
  cases r with
  | error e => exact (hCX H e s' h).elim
  | ok fl =>
    cases fl with
    | ret u =>
      obtain ⟨v, H', os, bare, un, hok', rv, q⟩ := h
      obtain rfl : v = .bl true := q
      obtain rfl : u = Value.bool true := rv
      refine ⟨rfl, OldK.of_keep fun b o e => ?_, os, bare⟩
      rcases only b with z | ⟨ob, xs, z⟩
      · exact un.keep b o e z (none_in b) (none_in b)
      · have e2 := (hok' b _ (un.frzs b ob _ z)).1
        have e1 := (hok b _ z).1
        rw [e] at e1
        cases e1
        exact e2
    | _ => exact h.elim
theorem law_endG (KX : K.In s1.heap) (hns : s1.heap.Ns mainGlobals mg) (hb : s1.heap.Ns builtinsNs mb) (hbb : ∀ x : Str, x ≠ "__name__" → mb x = bootBuiltins x)
    (hlim : s1.heap.NoLimit) (hg : s1.gens = #[]) (ha : s1.heap.get? a = some { cls := .type "list", data := .seq vs.toArray }) (hi : IntsAre vs ns) (hl : ns.length ≤ sizeLine) (hr : Room k callerA)
    (F : ∀ base : Heap, K.In base → base.Ns mainGlobals mg → FnG P w K mg base CX k fa fd [x] sp) (hbind : ∀ (s : Shared) (u : Value), BindsTo s fd ⟨[u], []⟩ [(x, u)])
    (hCX : ∀ H e s', ¬ CX [] H s1 (fun _ _ _ => False) e s')
    (hsp : ∀ H : Hp, Only H → SqL K H a (ns.map V.int) → sp [.ref a] H (fun v _ => v = .bl true) fun _ _ _ => False) :
    codeAny (model P w) callerA (.call (.ref fa) ⟨[.ref a], []⟩) (LawEnd s1) s1 := by
  have rv := vals_ints hi
  cases hk : K.lookup a with
  | some o =>
    have e := KX a o hk
    rw [ha] at e
    cases e
    have only : Only (fun _ => none) := fun _ => .inl rfl
    refine law_core KX hns hb hbb hlim hg ha hr F hbind hCX only (hsp _ only (.inr ⟨_, vs.toArray, _, hk, rfl, rfl, rfl, ?_, by simpa using rv⟩)) (fun b u z => nomatch (z : (none : Option HO) = some u)) (fun b z => (z rfl).elim) fun z => (z rfl).elim
    rw [List.size_toArray, hi.length]
    exact hl
  | none =>
    have at_a : (upd (fun _ => none) a (.frz { cls := .type "list", data := .seq vs.toArray } (.lst (ns.map V.int))) : Hp) a = some (.frz { cls := .type "list", data := .seq vs.toArray } (.lst (ns.map V.int))) := upd_same
    have off : ∀ b, b ≠ a → (upd (fun _ => none) a (.frz { cls := .type "list", data := .seq vs.toArray } (.lst (ns.map V.int))) : Hp) b = none := fun b nb => upd_ne nb
    have only : Only (upd (fun _ => none) a (.frz { cls := .type "list", data := .seq vs.toArray } (.lst (ns.map V.int)))) := fun b => by
      by_cases nb : b = a
      · subst nb; exact .inr ⟨_, _, at_a⟩
      · exact .inl (off b nb)
    refine law_core KX hns hb hbb hlim hg ha hr F hbind hCX only (hsp _ only (.inl (.inr ⟨_, at_a⟩))) (fun b u z => ?_) (fun b z => Classical.byContradiction fun nb => z (off b nb)) fun _ => hk
    by_cases nb : b = a
    · subst nb
      rw [at_a] at z
      cases z
      exact ⟨ha, by rw [List.length_map]; exact hl, vs, _, rv, ha⟩
    · rw [off b nb] at z
      cases z
end
theorem walkG {l : PySem.W.OpenLaw} {n k : Nat} {q : Program} {loose : List Str} {XP : (Str → Option Value) → Heap → Prop} {YP : World → Heap → Prop} {d : DefRec} {K : Params → PySem.W.Frag} {sp : World → Sp} {x : Str}
    (hn : l.most = some n) (hn2 : n ≤ sizeLine) (hdf : d.params.defaults = []) (hr : Room k callerA) (hY : ∀ (w : World) (h : Heap), YP w h → (K w.params).In h)
    (F : ∀ (w : World) (mg : Str → Option Value) (fa : Addr) (h : Heap), (K w.params).In h → h.Ns mainGlobals mg → mg d.name = some (.ref fa) →
      ∃ fd : FuncData, (∀ (s : Shared) (u : Value), BindsTo s fd ⟨[u], []⟩ [(x, u)]) ∧
        ∀ base : Heap, (K w.params).In base → base.Ns mainGlobals mg → FnG l.prog w (K w.params) mg base CX0 k fa fd [x] (sp w))
    (hsp : ∀ (w : World) (H : Hp) (a : Addr) (ns : List Int), ns.length ≤ n → Only H → SqL (K w.params) H a (ns.map V.int) → sp w [.ref a] H (fun v _ => v = .bl true) fun _ _ _ => False) :
    PySem.W.WalkO q loose XP YP l.row.toRowW d [] (fun f vs => PySem.call f vs) := by
  refine Att.attach_call hn hdf fun w s₀ s₁ mg mb fa o pm cd doc a vs ns G Y ho hd hcd hmg hobj hints hlen hg => ?_
  obtain ⟨fd, hb, hF⟩ := F w mg fa _ (hY w _ Y) G.T.g hmg
  exact law_endG (hY w _ Y) G.T.g G.T.b G.T.builtins G.T.nolimit hg hobj hints (Nat.le_trans hlen hn2) hr hF hb (fun _ _ _ z => z) fun H hO hS => hsp w H a ns hlen hO hS
end Tp

set_option Elab.async false
set_option linter.all false
set_option maxRecDepth 100000
set_option maxHeartbeats 4000000
namespace Tp
open PySem PySem.Spec PyProof.Rows L2
/-! ### keywords alone -/
section
variable {X : Cx} {CX : CXT} {k : Nat} {f : Addr} {fd : FuncData} {ps ks : List Str} {sp : Sp} {E : XK} {x : Str} {p pos : Pos} {tk : TA} {kw : Keyword} {kws : List Keyword}
  {g : List Value → List Value → List Value} {gV : List V → List V → List V}
def tCallN0 (m : Nat) (sp : Sp) (gV : List V → List V → List V) (E : XK) (tk : TA) : TE := fun σ H Q => tk σ H fun zs H2 => zs.length = m ∧ sp (gV [] zs) H2 Q E
theorem pe_callGN0 (F : FnG X.prog X.w X.K X.mg X.base CX k f fd ps sp) (hr : Room k X.A) (hgu : X.A.guards = some []) (hg : Gl X x) (hm : X.mg x = some (.ref f)) (hk : PySem.W.keepIn X.K (.ref f) = true)
    (hb : KBn X.K fd ps 0 ks g gV) (hx : Passes CX X E) (hkw : PK X kws tk)
    (hall : (backToKw pos (keywordEach kws X.env)).all (·.1.isSome) = true := by rfl) (hks : (backToKw pos (keywordEach kws X.env)).filterMap (·.1) = ks := by rfl)
    (hdb : (x == ("__debug__" : Str)) = false := by decide)
    (hpl : ((backTo pos (starEach [] X.env)).any (·.1) || (backToKw pos (keywordEach kws X.env)).any (·.1.isNone)) = false := by rfl) :
    PE X (.Call (.Name x p) [] kws pos) (tCallN0 ks.length sp gV E tk) :=
  ⟨fun pins s σ H Q I h => wpAny_Call_Name_kw (ld_glob I hg hm (PySem.W.callWith_KW0 (h₀ := X.base) I.ok.mod.kin hk hall
    (thn (hkw.run pos pins s σ H _ I h) fun ws s2 ⟨zs, H2, I2, rz, l2, q2⟩ => ⟨I2.kIn, by
      rw [hks]
      exact runG (args := ⟨[], ks.zip ws⟩) F hr hgu hx I2 (hb.to s2 [] ws I2.kIn rfl (rz.length.symm.trans l2)) (hb.rel .nil rz) q2⟩) hpl) hdb)⟩
end
/-! ### keyword-only parameters, no other defaults: some given, the others from the def -/
section
variable {K : PySem.W.Frag} {x qual : Str} {st : Stmt} {kws : List (Str × V)} {f : Addr} {fd : FuncData} {ps : List Str}
theorem kb0 (F : FunD K x qual (defArgs st) (defBody st) (defScope st) [] kws f fd) (n : Nat) (ks : List Str) (ms : List (Str × V)) (g : {α : Type} → List α → List α → List α → List α) (hk : kws ≠ []) (hms : ∀ q ∈ ms, q ∈ kws)
    (hrel : ∀ {vs mz zs : List V} {us mv ws : List Value}, Vals vs us → Vals mz mv → Vals zs ws → Vals (g vs mz zs) (g us mv ws))
    (h : ∀ (D : Addr) (doc pm : Value) (an : Option Addr) (cdv ct : Value) (us mv ws : List Value), us.length = n → mv.length = ms.length → ws.length = ks.length →
      KwChain D ((ms.map (·.1)).zip mv) (bindArgs (PySem.W.fnOf x qual (defArgs st) (defBody st) (defScope st) .none (.ref D) doc pm an cdv ct) ⟨us, ks.zip ws⟩) (ps.zip (g us mv ws))) :
    ∃ mv : List Value, KBn K fd ps n ks (fun us ws => g us mv ws) (fun vs zs => g vs (ms.map (·.2)) zs) := by
  obtain ⟨oc, od, dV, kV, doc, pm, an, cdv, ct, osl, rfl, lk, hcd, hD, hK⟩ := F.ex
  rcases hD with ⟨_, rfl⟩ | ⟨z, _⟩
  · rcases hK with z | ⟨D, rfl, hq⟩
    · exact (hk z).elim
    · obtain ⟨mv, hl, rk, hks⟩ := kwd_vals (ms := ms) fun q hm => hq q (hms q hm)
      exact ⟨mv, fun s us ws X l1 l2 => BindsTo.of_looks fun M => KwChain.looks X hks (h D doc pm an cdv ct us mv ws l1 hl l2), fun r1 r2 => hrel r1 rk r2⟩
  · exact (z rfl).elim
end
/-! ### text * n -/
section
variable {X : Cx}
def repS (x : Str) (n : Nat) : Str := ⟨(List.replicate n x.cps).foldl (· ++ ·) #[]⟩
def rRepS : R2 := fun x y H Q => ∃ (a : Str) (n : Nat), x = .str a ∧ y = .int n ∧ 2 ≤ n ∧ n < 100000 ∧ 1 ≤ a.length ∧ a.length ≤ 100 ∧ Q (.str (repS a n)) H
theorem op_repS : OpR X (binaryOp .Mult) rRepS := by
  intro pins s σ H x y v u Q I rx ry h
  obtain ⟨a, n, rfl, rfl, h1, h2, h3, h4, q⟩ := h
  obtain ⟨t, rfl⟩ := rx
  obtain ⟨t', rfl⟩ := ry
  have hm : a.length * n ≤ 100 * 100000 := Nat.mul_le_mul h4 (Nat.le_of_lt h2)
  have n1 : ¬ ((n : Int) < 1) := by omega
  have n2 : ((n : Int) == 1 || a.length == 0) = false := by
    have e1 : ((n : Int) == 1) = false := beq_eq_false_iff_ne.mpr (by omega)
    have e2 : (a.length == 0) = false := beq_eq_false_iff_ne.mpr (by omega)
    rw [e1, e2]
    rfl
  refine PySem.P.mul_str ?_ (fun _ _ => ?_) (fun _ _ => ?_) ?_
  · rw [decide_eq_false (show ¬ ((n : Int) < -(2 ^ 63)) by omega), decide_eq_false (show ¬ ((n : Int) ≥ 2 ^ 63) by omega)]
    rfl
  · have : (100000 : Int) ≤ (2 ^ 63 - 1) / (n : Int) := by
      rw [Int.le_ediv_iff_mul_le (by omega)]
      have : (100000 : Int) * n ≤ 100000 * 100000 := by omega
      omega
    omega
  · exact decide_eq_false (by rw [Int.toNat_natCast]; exact Nat.not_lt.mpr (Nat.le_trans hm (by decide)))
  · rw [if_neg n1, n2, if_neg Bool.false_ne_true]
    have e : ((n : Int)).toNat = n := Int.toNat_natCast n
    rw [e]
    refine ⟨?_, ⟨.str (repS a n), H, I.tok _, ⟨_, rfl⟩, q⟩⟩
    have len : ∀ (m : Nat) (acc : Array Nat), ((List.replicate m a.cps).foldl (· ++ ·) acc).size = acc.size + m * a.length := by
      intro m
      induction m with
      | zero => intro acc; simp
      | succ m ih =>
        intro acc
        rw [List.replicate_succ, List.foldl_cons, ih, Array.size_append, Nat.succ_mul]
        show acc.size + a.length + m * a.length = _
        omega
    show ((List.replicate n a.cps).foldl (· ++ ·) #[]).size ≤ sizeLine
    rw [len n #[], Nat.mul_comm]
    exact Nat.le_trans (by simpa using hm) (by decide)
end
/-! ### built-in names, and constants of the module -/
theorem bt_len : bootBuiltins "len" = some (.builtin "len") := by decide +kernel
theorem bt_max : bootBuiltins "max" = some (.builtin "max") := by decide +kernel
theorem bt_min : bootBuiltins "min" = some (.builtin "min") := by decide +kernel
theorem bt_isinstance : bootBuiltins "isinstance" = some (.builtin "isinstance") := by decide +kernel
theorem bt_all : bootBuiltins "all" = some (.builtin "all") := by decide +kernel
theorem bt_any : bootBuiltins "any" = some (.builtin "any") := by decide +kernel
theorem bt_sum : bootBuiltins "sum" = some (.builtin "sum") := by decide +kernel
theorem bt_ord : bootBuiltins "ord" = some (.builtin "ord") := by decide +kernel
theorem bt_chr : bootBuiltins "chr" = some (.builtin "chr") := by decide +kernel
theorem bt_repr : bootBuiltins "repr" = some (.builtin "repr") := by decide +kernel
theorem bt_abs : bootBuiltins "abs" = some (.builtin "abs") := by decide +kernel
theorem bt_sorted : bootBuiltins "sorted" = some (.builtin "sorted") := by decide +kernel
theorem bt_str : bootBuiltins "str" = some (.type "str") := by decide +kernel
theorem bt_int : bootBuiltins "int" = some (.type "int") := by decide +kernel
theorem bt_list : bootBuiltins "list" = some (.type "list") := by decide +kernel
theorem bt_tuple : bootBuiltins "tuple" = some (.type "tuple") := by decide +kernel
theorem bt_dict : bootBuiltins "dict" = some (.type "dict") := by decide +kernel
theorem bt_range : bootBuiltins "range" = some (.type "range") := by decide +kernel
theorem bt_bool : bootBuiltins "bool" = some (.type "bool") := by decide +kernel
theorem bt_enumerate : bootBuiltins "enumerate" = some (.type "enumerate") := by decide +kernel
theorem bt_zip : bootBuiltins "zip" = some (.type "zip") := by decide +kernel
theorem pe_glS {X : Cx} {x z : Str} {pos : Pos} (hg : Gl X x) (hm : ∃ t, X.mg x = some (.str z t)) (hd : (x == ("__debug__" : Str)) = false := by decide) : PE X (.Name x pos) (tC (.str z)) :=
  let ⟨_, h⟩ := hm
  pe_glob hg h ⟨_, rfl⟩ hd
theorem pe_glI {X : Cx} {x : Str} {i : Int} {pos : Pos} (hg : Gl X x) (hm : ∃ t, X.mg x = some (.int i t)) (hd : (x == ("__debug__" : Str)) = false := by decide) : PE X (.Name x pos) (tC (.int i)) :=
  let ⟨_, h⟩ := hm
  pe_glob hg h ⟨_, rfl⟩ hd
/-! ### the box of draws: a list of three ints; n: at most so many draws so far -/
def Kp (b : Addr) (H H' : Hp) : Prop := ∀ a o, a ≠ b → H a = some o → H' a = some o
theorem Kp.refl (b : Addr) (H : Hp) : Kp b H H := fun _ _ _ h => h
theorem Kp.trans {b : Addr} {H H1 H2 : Hp} (p : Kp b H H1) (q : Kp b H1 H2) : Kp b H H2 := fun a o n h => q a o n (p a o n h)
theorem Kp.same {b : Addr} {H H1 H2 : Hp} (p : Kp b H H1) (q : Same H1 H2) : Kp b H H2 := fun a o n h => q a o (p a o n h)
theorem Kp.box {b : Addr} {H : Hp} {o : HO} : Kp b H (upd H b o) := fun a u n h => by rw [upd_ne n]; exact h
theorem same_new {H : Hp} {p : Addr} {o : HO} (h : H p = none) : Same H (upd H p o) := fun a u e => by rw [upd_ne (ne_of_none e h)]; exact e
theorem Kp.new {b p : Addr} {H : Hp} {o : HO} (h : H p = none) : Kp b H (upd H p o) := fun a u _ e => same_new h a u e
def BoxAt (b : Addr) (n : Nat) (H : Hp) : Prop := ∃ x y z : Int, H b = some (.lst [.int x, .int y, .int z]) ∧ 0 ≤ x ∧ 0 ≤ y ∧ y < 2147483629 ∧ 0 ≤ z ∧ z ≤ n
theorem BoxAt.same {b : Addr} {n : Nat} {H H' : Hp} (h : BoxAt b n H) (q : Same H H') : BoxAt b n H' := let ⟨x, y, z, h1, r⟩ := h; ⟨x, y, z, q _ _ h1, r⟩
theorem BoxAt.up {b : Addr} {n m : Nat} {H : Hp} (h : BoxAt b n H) (q : n ≤ m) : BoxAt b m H := by
  obtain ⟨x, y, z, h1, h2, h3, h4, h5, h6⟩ := h
  exact ⟨x, y, z, h1, h2, h3, h4, h5, by omega⟩
theorem BoxAt.ne {b p : Addr} {n : Nat} {H : Hp} (h : BoxAt b n H) (q : H p = none) : p ≠ b := by
  obtain ⟨x, y, z, h1, _⟩ := h
  exact (ne_of_none h1 q).symm
def spCell (K : PySem.W.Frag) : Sp := fun vs H Q _ => ∃ (s : Addr) (ns : List Int) (k : Int), vs = [.ref s, .int k] ∧ SqL K H s (ns.map V.int) ∧ 0 ≤ k ∧ k < 1000 ∧ ∀ n : Int, Q (.int n) H
def spBox : Sp := fun vs H Q _ => ∃ c : Int, vs = [.int c] ∧ ∀ p x y, H p = none → 0 ≤ x → 0 ≤ y → y < 2147483629 → Q (.ref p) (upd H p (.lst [.int x, .int y, .int 0]))
def spTake : Sp := fun vs H Q _ => ∃ (b : Addr) (m : Int) (n : Nat), vs = [.ref b, .int m] ∧ BoxAt b n H ∧ n < 1000000 ∧ 0 < m ∧ m < 1000000000 ∧
  ∀ r H', 0 ≤ r → r < m → Kp b H H' → BoxAt b (n + 1) H' → Q (.int r) H'
theorem mixA {y c z e : Int} (y0 : 0 ≤ y) (y1 : y < 2147483629) (z0 : 0 ≤ z) (z1 : z ≤ 1000000) (c0 : 0 ≤ c ∧ c ≤ 1000000000) (e0 : 0 ≤ e ∧ e ≤ 1000000) : (y + c * (z + 1) + e).natAbs < 2 ^ 64 := by
  have h1 : 0 ≤ c * (z + 1) := Int.mul_nonneg c0.1 (by omega)
  have h2 : c * (z + 1) ≤ 1000000000 * 1000001 := Int.mul_le_mul c0.2 (by omega) (by omega) (by omega)
  omega
theorem mixB {i c z : Int} (z0 : 0 ≤ z) (z1 : z ≤ 1000000) (c0 : 0 ≤ c ∧ c ≤ 1000000000) : (i.fmod 2147483647 + c * (z + 1)).natAbs < 2 ^ 64 := by
  have h1 : 0 ≤ c * (z + 1) := Int.mul_nonneg c0.1 (by omega)
  have h2 : c * (z + 1) ≤ 1000000000 * 1000001 := Int.mul_le_mul c0.2 (by omega) (by omega) (by omega)
  rw [Int.fmod_eq_emod_of_nonneg _ (by decide)]
  have h3 := Int.emod_nonneg i (show (2147483647 : Int) ≠ 0 by decide)
  have h4 := Int.emod_lt_of_pos i (show (0 : Int) < 2147483647 by decide)
  omega
/-! ### tests whose answer is known -/
section
variable {p : Prop} [Decidable p] {A B : Prop}
theorem ifY (h : p) (x : A) : if decide p = true then A else B := by rw [decide_eq_true h]; exact iteT x
theorem ifN (h : ¬ p) (x : B) : if decide p = true then A else B := by rw [decide_eq_false h]; exact iteF x
theorem ifnY (h : p) (x : B) : if (!decide p) = true then A else B := by rw [decide_eq_true h]; exact iteF x
theorem ifnN (h : ¬ p) (x : A) : if (!decide p) = true then A else B := by rw [decide_eq_false h]; exact iteT x
theorem if2 (h1 : p → A) (h2 : ¬ p → B) : if decide p = true then A else B := by
  by_cases h : p
  · exact ifY h (h1 h)
  · exact ifN h (h2 h)
theorem ifn2 (h1 : p → B) (h2 : ¬ p → A) : if (!decide p) = true then A else B := by
  by_cases h : p
  · exact ifnY h (h1 h)
  · exact ifnN h (h2 h)
end
theorem ifB {b : Bool} {A B : Prop} (h1 : b = true → A) (h2 : b = false → B) : if b = true then A else B := by
  cases b with
  | true => exact iteT (h1 rfl)
  | false => exact iteF (h2 rfl)
theorem ifnB {b : Bool} {A B : Prop} (h1 : b = true → B) (h2 : b = false → A) : if (!b) = true then A else B := by
  cases b with
  | true => exact iteF (h1 rfl)
  | false => exact iteT (h2 rfl)
theorem Kp.mut {b p : Addr} {H H' : Hp} {o : HO} (k : Kp b H H') (h : H p = none) : Kp b H (upd H' p o) := fun a u n e => by
  rw [upd_ne (ne_of_none e h)]
  exact k a u n e
theorem Same.mut {p : Addr} {H H' : Hp} {o : HO} (k : Same H H') (h : H p = none) : Same H (upd H' p o) := fun a u e => by
  rw [upd_ne (ne_of_none e h)]
  exact k a u e
theorem BoxAt.off {b p : Addr} {n : Nat} {H : Hp} {o : HO} (h : BoxAt b n H) (ne : p ≠ b) : BoxAt b n (upd H p o) := by
  obtain ⟨x, y, z, h1, r⟩ := h
  exact ⟨x, y, z, by rw [upd_ne ne.symm]; exact h1, r⟩
end Tp

set_option Elab.async false
set_option linter.all false
set_option maxRecDepth 100000
set_option maxHeartbeats 4000000
namespace Tp
open PySem L2 PySem.NumText
/-! ### numbers as texts -/
def numOf (z : Str) : Option Int :=
  if 0 < z.length ∧ z.length ≤ 30 ∧ (∀ c ∈ z.cps.toList, 48 ≤ c ∧ c ≤ 57) ∧ (z.cps.toList.head? = some 48 → z.length = 1) then some ((digitsVal z.cps.toList : Nat) : Int) else none
def numV (z : Str) (lo hi : Int) : V := match numOf z with
  | some n => if lo ≤ n ∧ n ≤ hi then .int n else .non
  | none => .non
theorem len_list (z : Str) : z.cps.toList.length = z.length := Array.length_toList
theorem str_ext {a b : Str} (h : a.cps.toList = b.cps.toList) : a = b := by
  obtain ⟨x⟩ := a
  obtain ⟨y⟩ := b
  have : x = y := Array.toList_inj.mp h
  rw [this]
theorem val_lt : ∀ (cs : List Nat) (a : Nat), (∀ c ∈ cs, 48 ≤ c ∧ c ≤ 57) → cs.foldl (fun acc c => acc * 10 + (c - 48)) a < (a + 1) * 10 ^ cs.length
  | [], a, _ => by simp
  | c :: cs, a, h => by
    have h1 := h c (List.mem_cons_self ..)
    have h2 := val_lt cs (a * 10 + (c - 48)) fun d hd => h d (List.mem_cons_of_mem _ hd)
    rw [List.foldl_cons, List.length_cons]
    refine Nat.lt_of_lt_of_le h2 ?_
    rw [Nat.pow_succ, Nat.mul_comm (10 ^ cs.length) 10, ← Nat.mul_assoc]
    exact Nat.mul_le_mul_right _ (by omega)
theorem num_lt {z : Str} {n : Int} (h : numOf z = some n) : 0 ≤ n ∧ n < 10 ^ 30 := by
  unfold numOf at h
  split at h
  · rename_i c
    obtain ⟨h1, h2, h3, h4⟩ := c
    have e := Option.some.inj h
    have l := val_lt z.cps.toList 0 h3
    rw [len_list] at l
    have l2 : (10 : Nat) ^ z.length ≤ 10 ^ 30 := Nat.pow_le_pow_right (by decide) h2
    have l3 : digitsVal z.cps.toList < 10 ^ 30 := by
      show List.foldl _ 0 _ < _
      omega
    rw [← e]
    omega
  · cases h
/-- str(n) of what the digits are worth -/
theorem str_val {cs : List Nat} (h : AllDigits cs) (hne : cs ≠ []) : (Str.ofString (toString ((digitsVal cs : Nat) : Int))).cps.toList = cs ↔ (cs.head? = some 48 → cs.length = 1) := by
  rw [PySem.W.KIN.signs_num]
  have back : ∀ l : List Nat, AllDigits l → (l.map Char.ofNat).map Char.toNat = l := by
    intro l hl
    rw [List.map_map]
    refine (List.map_congr_left fun c hc => ?_).trans (List.map_id l)
    have := hl c hc
    show (Char.ofNat c).toNat = c
    have key : ∀ k : Nat, k < 128 → (Char.ofNat k).toNat = k := by decide
    exact key c (by omega)
  constructor
  · intro e hd
    cases cs with
    | nil => exact (hne rfl).elim
    | cons c r =>
      have : c = 48 := by simpa using hd
      subst this
      cases r with
      | nil => rfl
      | cons c2 r2 =>
        exfalso
        have len := congrArg List.length e
        rw [List.length_map] at len
        have hv : digitsVal (48 :: c2 :: r2) < 10 ^ (r2.length + 1) := by
          have l := val_lt (c2 :: r2) 0 h.tail
          have e0 : digitsVal (48 :: c2 :: r2) = List.foldl (fun acc c => acc * 10 + (c - 48)) 0 (c2 :: r2) := rfl
          rw [e0]
          simpa using l
        have := PyProof.Rows.digits10_le (k := r2.length + 1) (n := digitsVal (48 :: c2 :: r2)) (by omega) hv
        rw [len] at this
        simp at this
        omega
  · intro hd
    have : cs.length = (cs.length - 1) + 1 := by
      cases cs with
      | nil => exact (hne rfl).elim
      | cons => rfl
    rw [toDigits_digitsVal (cs.length - 1) cs this h ?_, back cs h]
    cases cs with
    | nil => exact (hne rfl).elim
    | cons c r =>
      by_cases c0 : c = 48
      · left
        have := hd (by rw [c0]; rfl)
        omega
      · right
        have := h.head
        exact ⟨c, r, rfl, by omega⟩
/-! ### strip, count -/
theorem strip_empty (x y : Str) : Txt.stripChars x y = Str.empty ↔ ∀ c ∈ x.cps.toList, c ∈ y.cps.toList := by
  have cont : ∀ c, y.cps.contains c = true ↔ c ∈ y.cps.toList := by
    intro c
    rw [Array.contains_iff_mem, Array.mem_toList_iff]
  have tw : ∀ (p : Nat → Bool) (l : List Nat), (l.takeWhile p).length = l.length ↔ ∀ c ∈ l, p c = true := by
    intro p l
    induction l with
    | nil => simp
    | cons c l ih =>
      rw [List.takeWhile_cons]
      by_cases hc : p c = true
      · rw [if_pos hc, List.length_cons, List.length_cons]
        constructor
        · intro h d hd
          rcases List.mem_cons.mp hd with rfl | hd
          · exact hc
          · exact ih.mp (by omega) d hd
        · intro h
          have := ih.mpr fun d hd => h d (List.mem_cons_of_mem _ hd)
          omega
      · rw [if_neg hc]
        constructor
        · intro h
          simp at h
        · intro h
          exact absurd (h c (List.mem_cons_self ..)) hc
  unfold Txt.stripChars Txt.stripBy
  constructor
  · intro h
    by_cases hs : stripSame y.cps.contains true true x = true
    · rw [if_pos hs] at h
      subst h
      intro c hc
      cases hc
    · rw [if_neg hs] at h
      have hz := congrArg (fun s : Str => s.cps.size) h
      have hz : (x.cps.extract (stripLo y.cps.contains true x) (stripHi y.cps.contains true x (stripLo y.cps.contains true x))).size = 0 := hz
      rw [Array.size_extract] at hz
      have l1 : stripLo y.cps.contains true x = (x.cps.toList.takeWhile y.cps.contains).length := if_pos rfl
      have l2 : stripHi y.cps.contains true x (stripLo y.cps.contains true x) = x.length - ((x.cps.toList.drop (stripLo y.cps.contains true x)).reverse.takeWhile y.cps.contains).length := if_pos rfl
      have xl : x.length = x.cps.size := rfl
      rw [l2] at hz
      have le := (List.takeWhile_prefix y.cps.contains (l := (x.cps.toList.drop (stripLo y.cps.contains true x)).reverse)).length_le
      rw [List.length_reverse, List.length_drop, len_list] at le
      have lo_le : stripLo y.cps.contains true x ≤ x.length := by
        rw [l1, ← len_list]
        exact (List.takeWhile_prefix _).length_le
      have all : ∀ c ∈ (x.cps.toList.drop (stripLo y.cps.contains true x)).reverse, y.cps.contains c = true := by
        refine (tw _ _).mp ?_
        rw [List.length_reverse, List.length_drop, len_list]
        omega
      intro c hc
      rw [← cont]
      rw [← List.take_append_drop (stripLo y.cps.contains true x) x.cps.toList] at hc
      rcases List.mem_append.mp hc with hc | hc
      · rw [l1] at hc
        have e : x.cps.toList.take (x.cps.toList.takeWhile y.cps.contains).length = x.cps.toList.takeWhile y.cps.contains :=
          List.prefix_iff_eq_take.mp (List.takeWhile_prefix _) |>.symm
        rw [e] at hc
        exact List.all_eq_true.mp (List.all_takeWhile) c hc
      · exact all c (List.mem_reverse.mpr hc)
  · intro h
    have lo : stripLo y.cps.contains true x = x.length := by
      have e : stripLo y.cps.contains true x = (x.cps.toList.takeWhile y.cps.contains).length := if_pos rfl
      rw [e, ← len_list]
      exact (tw _ _).mpr fun c hc => (cont c).mpr (h c hc)
    by_cases hs : stripSame y.cps.contains true true x = true
    · rw [if_pos hs]
      have := (Bool.and_eq_true _ _ ▸ hs : (stripLo y.cps.contains true x == 0) = true ∧ _).1
      rw [lo] at this
      have z0 : x.cps.size = 0 := beq_iff_eq.mp this
      exact str_ext (by rw [Array.eq_empty_of_size_eq_zero z0]; rfl)
    · rw [if_neg hs]
      refine str_ext ?_
      have z0 : (stripped y.cps.contains true true x).cps.size = 0 := by
        show (x.cps.extract (stripLo y.cps.contains true x) _).size = 0
        rw [Array.size_extract, lo]
        have xl : x.length = x.cps.size := rfl
        omega
      rw [Array.eq_empty_of_size_eq_zero z0]
      rfl
theorem occ_some (s sub : Str) (hi L : Nat) (hL : 1 ≤ L) : ∀ (l : List Nat) (free : Nat), (∀ i ∈ l, free ≤ i) →
    ((forIn l ((#[] : Array Nat), free) (StrLaws.occBody s sub hi L)).run.fst = #[] ↔ ∀ i ∈ l, ¬ (i + sub.length ≤ hi ∧ Builtin.Str.subAt s sub i = true))
  | [], free, _ => by simp
  | a :: l, free, hf => by
    rw [List.forIn_cons]
    unfold StrLaws.occBody
    have ha : free ≤ a := hf a (List.mem_cons_self ..)
    by_cases hc : a + sub.length ≤ hi ∧ Builtin.Str.subAt s sub a = true
    · have c1 : (((#[] : Array Nat), free).fst.size < L ∧ ((#[] : Array Nat), free).snd ≤ a) ∧ a + sub.length ≤ hi := ⟨⟨hL, ha⟩, hc.1⟩
      rw [if_pos ⟨c1, hc.2⟩]
      exact ⟨fun h => absurd h (StrLaws.occ_grows s sub hi L l _ (by simp)), fun h => absurd hc (h a (List.mem_cons_self ..))⟩
    · rw [if_neg fun h => hc ⟨h.1.2, h.2⟩]
      have ih := occ_some s sub hi L hL l free (fun i hi' => hf i (List.mem_cons_of_mem _ hi'))
      refine ⟨fun h i hi' => ?_, fun h => ih.mpr fun i hm => h i (List.mem_cons_of_mem _ hm)⟩
      rcases List.mem_cons.mp hi' with rfl | hm
      · exact hc
      · exact ih.mp h i hm
theorem count_one (x : Str) (c : Nat) : decide (0 < Txt.count x ⟨#[c]⟩) = decide (c ∈ x.cps.toList) := by
  have key := occ_some x ⟨#[c]⟩ x.length (x.length + 1) (by omega) (List.range' 0 (x.length + 1 - 0)) 0 (fun _ _ => Nat.zero_le _)
  have e : Txt.count x ⟨#[c]⟩ = (((forIn (List.range' 0 (x.length + 1 - 0)) ((#[] : Array Nat), 0) (StrLaws.occBody x ⟨#[c]⟩ x.length (x.length + 1))).run.fst.toList.length : Nat) : Int) := by
    unfold Txt.count
    rw [StrLaws.occ_eq]
  rw [e, decide_eq_decide, List.mem_iff_getElem?]
  constructor
  · intro h
    refine Classical.byContradiction fun hn => ?_
    rw [key.mpr fun i _ hc => hn ⟨i, (StrLaws.subAt_one x c i).mp hc⟩] at h
    exact absurd h (by decide)
  · rintro ⟨i, hi⟩
    have hs := (StrLaws.subAt_one x c i).mpr hi
    have one : (⟨#[c]⟩ : Str).length = 1 := rfl
    have ne := fun h0 => key.mp h0 i (by simp [List.mem_range']; omega) hs
    have : (forIn (List.range' 0 (x.length + 1 - 0)) ((#[] : Array Nat), 0) (StrLaws.occBody x ⟨#[c]⟩ x.length (x.length + 1))).run.fst.toList ≠ [] := by simpa using ne
    have := List.length_pos_iff.mpr this
    omega
/-! ### items in bounds -/
theorem at_some {α : Type} {xs : List α} {P : α → Prop} {r : Int} (h : ∀ x ∈ xs, P x) (r0 : 0 ≤ r) (r1 : r < xs.length) : ∃ v, atI xs r = some v ∧ P v := by
  obtain ⟨j, rfl⟩ := Int.eq_ofNat_of_zero_le r0
  have hj : j < xs.length := by omega
  exact ⟨xs[j], atI_nat (List.getElem?_eq_getElem hj), h _ (List.getElem_mem hj)⟩
theorem join_len {ys : List Str} {a : Str} {m : Nat} (h : ∀ y ∈ ys, y.length ≤ m) : (Txt.join a ys).length ≤ ys.length * (m + a.length) := by
  have e : Txt.join a ys = Str.join a ys := StrLaws.glued_eq_join a ys
  rw [e]
  refine Nat.le_trans (StrLaws.join_length_le a ys) ?_
  have : (ys.map (·.length)).sum ≤ ys.length * m := by
    induction ys with
    | nil => simp
    | cons y ys ih =>
      have h1 := h y (List.mem_cons_self ..)
      have h2 := ih (fun z hz => h z (List.mem_cons_of_mem _ hz)) (StrLaws.glued_eq_join a ys)
      simp only [List.map_cons, List.sum_cons, List.length_cons, Nat.succ_mul]
      omega
  rw [Nat.mul_add]
  omega
theorem sum_len {ys : List Str} {m : Nat} (h : ∀ y ∈ ys, y.length ≤ m) : (ys.map (·.length)).sum ≤ ys.length * m := by
  induction ys with
  | nil => simp
  | cons y ys ih =>
    have h1 := h y (List.mem_cons_self ..)
    have h2 := ih (fun z hz => h z (List.mem_cons_of_mem _ hz))
    simp only [List.map_cons, List.sum_cons, List.length_cons, Nat.succ_mul]
    omega
theorem cut_len (z : Str) (lo hi : Option Int) : (cutS z lo hi).length ≤ z.length := by
  show (List.toArray _).size ≤ z.length
  rw [List.size_toArray, List.length_take, List.length_drop, len_list]
  omega
end Tp

set_option Elab.async false
set_option linter.all false
set_option maxRecDepth 100000
set_option maxHeartbeats 4000000
namespace Tp
open PySem L2
/-! ### how long a repr is -/
mutual
def wt : PyData → Nat
  | .none => 4
  | .bool _ => 5
  | .int _ => 50
  | .str z => 10 * z.length + 2
  | .list xs => wtAll xs + 3
  | .tuple xs => wtAll xs + 3
  | .dict _ => 0
def wtAll : List PyData → Nat
  | [] => 0
  | x :: xs => wt x + 2 + wtAll xs
end
inductive Fit : Nat → PyData → Prop
  | non {n : Nat} : Fit n .none
  | bl {n : Nat} (b : Bool) : Fit n (.bool b)
  | int {n : Nat} {i : Int} (h : i.natAbs < 10 ^ 40) : Fit n (.int i)
  | str {n : Nat} {z : Str} (h : ∀ c ∈ z.cps.toList, c < 16 ^ 8) : Fit n (.str z)
  | lst {n : Nat} {xs : List PyData} (h : ∀ x ∈ xs, Fit n x) : Fit (n + 1) (.list xs)
  | tup {n : Nat} {xs : List PyData} (h : ∀ x ∈ xs, Fit n x) : Fit (n + 1) (.tuple xs)
theorem shown_int_len {i : Int} (h : i.natAbs < 10 ^ 40) : (Str.ofString (toString i)).length ≤ 50 := by
  have key : ∀ m : Nat, m < 10 ^ 40 → (Nat.repr m).length ≤ 40 := fun m hm => by
    show (Nat.repr m).toList.length ≤ 40
    rw [Nat.toList_repr]
    exact PyProof.Rows.digits10_le (by decide) hm
  rw [PyProof.Rows.ofString_len]
  cases i with
  | ofNat m => exact Nat.le_trans (key m h) (by decide)
  | negSucc m =>
    have := key (m + 1) h
    show ("-" ++ Nat.repr (m + 1)).length ≤ 50
    rw [String.length_append]
    have : ("-" : String).length = 1 := by decide
    omega
theorem fit_all {n : Nat} (ih : ∀ d, Fit n d → d.showable = true ∧ d.hasDict = false ∧ d.depth ≤ n ∧ d.shown.length ≤ wt d) :
    ∀ xs : List PyData, (∀ x ∈ xs, Fit n x) → PyData.showableAll xs = true ∧ PyData.hasDictAll xs = false ∧ PyData.depthAll xs ≤ n ∧ ((PyData.shownAll xs).map (·.length)).sum + 2 * (PyData.shownAll xs).length ≤ wtAll xs
  | [], _ => ⟨by simp only [PyData.showableAll], by simp only [PyData.hasDictAll], by simp only [PyData.depthAll]; omega, by simp [PyData.shownAll, wtAll]⟩
  | x :: xs, h => by
    obtain ⟨a1, a2, a3, a4⟩ := ih x (h x (List.mem_cons_self ..))
    obtain ⟨b1, b2, b3, b4⟩ := fit_all ih xs fun y hy => h y (List.mem_cons_of_mem _ hy)
    refine ⟨by simp only [PyData.showableAll, a1, b1, Bool.and_self], by simp only [PyData.hasDictAll, a2, b2, Bool.or_self], by simp only [PyData.depthAll]; omega, ?_⟩
    simp only [PyData.shownAll, List.map_cons, List.sum_cons, List.length_cons, wtAll]
    omega
theorem fit_ok : ∀ (n : Nat) (d : PyData), Fit n d → d.showable = true ∧ d.hasDict = false ∧ d.depth ≤ n ∧ d.shown.length ≤ wt d := by
  have flat : ∀ (n : Nat) (d : PyData), Fit n d → (∀ xs, d ≠ .list xs) → (∀ xs, d ≠ .tuple xs) → d.showable = true ∧ d.hasDict = false ∧ d.depth ≤ n ∧ d.shown.length ≤ wt d := by
    intro n d h n1 n2
    cases h with
    | non => exact ⟨by simp only [PyData.showable], by simp only [PyData.hasDict], by simp only [PyData.depth]; omega, by simp only [PyData.shown, wt]; decide⟩
    | bl b => exact ⟨by simp only [PyData.showable], by simp only [PyData.hasDict], by simp only [PyData.depth]; omega, by simp only [PyData.shown, wt]; cases b <;> decide⟩
    | int h =>
      rename_i i
      refine ⟨?_, by simp only [PyData.hasDict], by simp only [PyData.depth]; omega, by simp only [PyData.shown, wt]; exact shown_int_len h⟩
      simp only [PyData.showable, decide_eq_true_eq]
      by_cases z : i.natAbs = 0
      · rw [z]; decide
      · exact (Nat.log2_lt z).mpr (Nat.lt_of_lt_of_le h (by decide +kernel))
    | str h => exact ⟨by simp only [PyData.showable], by simp only [PyData.hasDict], by simp only [PyData.depth]; omega, by simp only [PyData.shown, wt]; exact StrLaws.reprText_len _ h⟩
    | lst _ => exact (n1 _ rfl).elim
    | tup _ => exact (n2 _ rfl).elim
  intro n
  induction n with
  | zero => intro d h; exact flat 0 d h (by rintro xs rfl; cases h) (by rintro xs rfl; cases h)
  | succ n ih =>
    intro d h
    cases d with
    | list xs =>
      cases h with
      | lst h =>
        obtain ⟨b1, b2, b3, b4⟩ := fit_all ih xs h
        refine ⟨by simp only [PyData.showable, b1], by simp only [PyData.hasDict, b2], by simp only [PyData.depth]; omega, ?_⟩
        simp only [PyData.shown, wt]
        exact Nat.le_trans (listText_len_le _) (by omega)
    | tuple xs =>
      cases h with
      | tup h =>
        obtain ⟨b1, b2, b3, b4⟩ := fit_all ih xs h
        refine ⟨by simp only [PyData.showable, b1], by simp only [PyData.hasDict, b2], by simp only [PyData.depth]; omega, ?_⟩
        simp only [PyData.shown, wt]
        exact Nat.le_trans (tupleText_len_le _) (by omega)
    | _ => exact flat _ _ h (by intro xs q; cases q) (by intro xs q; cases q)
theorem repr_fit {K : PySem.W.Frag} {H : Hp} {v : V} {d : PyData} {Q : VK} {n : Nat} (hd : Dp K H v d) (hf : Fit n d) (hn : n ≤ 60) (hw : wt d ≤ 16000000) (q : Q (.str d.shown) H) : rRepr K [v] H Q := by
  obtain ⟨b1, b2, b3, b4⟩ := fit_ok n d hf
  exact ⟨v, d, rfl, hd, b1, b2, by omega, Nat.le_trans b4 (Nat.le_trans hw (by decide)), q⟩
theorem fit4 {d : PyData} {n : Nat} (hf : Fit n d) (hn : n ≤ 60) (hw : wt d ≤ 16000000) : d.showable = true ∧ d.hasDict = false ∧ d.depth ≤ 60 ∧ d.shown.length ≤ sizeLine := by
  obtain ⟨b1, b2, b3, b4⟩ := fit_ok n d hf
  exact ⟨b1, b2, by omega, Nat.le_trans b4 (Nat.le_trans hw (by decide))⟩
end Tp

set_option Elab.async false
set_option linter.all false
set_option maxRecDepth 100000
set_option maxHeartbeats 4000000
namespace Tp
open PySem L2
/-! ### small texts: at most m signs, all of them below 1000 -/
def Sm (m : Nat) (z : Str) : Prop := z.length ≤ m ∧ ∀ c ∈ z.cps.toList, c < 1000
theorem Sm.up {m n : Nat} {z : Str} (h : Sm m z) (l : m ≤ n) : Sm n z := ⟨Nat.le_trans h.1 l, h.2⟩
theorem Sm.one {c : Nat} (h : c < 1000) : Sm 1 ⟨#[c]⟩ := ⟨Nat.le_refl 1, fun x hx => by
  have : x = c := by simpa using hx
  omega⟩
theorem Sm.at {m : Nat} {z : Str} (h : Sm m z) {r : Int} (r0 : 0 ≤ r) (r1 : r < z.length) : ∃ c, atI z.cps.toList r = some c ∧ c < 1000 :=
  at_some h.2 r0 (by rw [len_list]; exact r1)
theorem Sm.app {m n : Nat} {y z : Str} (h : Sm m y) (k : Sm n z) : Sm (m + n) (y ++ z) := by
  refine ⟨by rw [Str.length_append]; exact Nat.add_le_add h.1 k.1, fun c hc => ?_⟩
  rw [Str.cps_append, Array.toList_append] at hc
  rcases List.mem_append.mp hc with hc | hc
  · exact h.2 c hc
  · exact k.2 c hc
theorem Sm.cut {m : Nat} {z : Str} (h : Sm m z) (lo hi : Option Int) : Sm m (cutS z lo hi) :=
  ⟨Nat.le_trans (cut_len z lo hi) h.1, fun c hc => h.2 c (List.mem_of_mem_drop (List.mem_of_mem_take (show c ∈ List.take _ (List.drop _ _) from hc)))⟩
theorem Sm.sub {m : Nat} {z : Str} (h : Sm m z) (i j : Nat) : Sm m (Builtin.Str.strSub z i j) := by
  refine ⟨?_, fun c hc => ?_⟩
  · show (z.cps.extract i j).size ≤ m
    rw [Array.size_extract]
    have := h.1
    have e : z.length = z.cps.size := rfl
    omega
  · refine h.2 c ?_
    have hc : c ∈ (z.cps.extract i j).toList := hc
    rw [Array.toList_extract] at hc
    exact List.mem_of_mem_drop (List.mem_of_mem_take hc)
theorem Sm.join {m n : Nat} {a : Str} {ys : List Str} (ha : Sm n a) (h : ∀ y ∈ ys, Sm m y) : Sm (ys.length * (m + n)) (Txt.join a ys) := by
  refine ⟨Nat.le_trans (join_len fun y hy => (h y hy).1) (Nat.mul_le_mul_left _ (Nat.add_le_add_left ha.1 _)), ?_⟩
  have e : Txt.join a ys = Str.join a ys := StrLaws.glued_eq_join a ys
  rw [e]
  clear e
  induction ys with
  | nil => intro c hc; cases hc
  | cons y ys ih =>
    cases ys with
    | nil => exact (h y (List.mem_cons_self ..)).2
    | cons y2 ys =>
      intro c hc
      have hc : c ∈ (y ++ a ++ Str.join a (y2 :: ys)).cps.toList := hc
      rw [Str.cps_append, Str.cps_append, Array.toList_append, Array.toList_append] at hc
      rcases List.mem_append.mp hc with hc | hc
      · rcases List.mem_append.mp hc with hc | hc
        · exact (h y (List.mem_cons_self ..)).2 c hc
        · exact ha.2 c hc
      · exact ih (fun z hz => h z (List.mem_cons_of_mem _ hz)) c hc
theorem Sm.split {m : Nat} {z y : Str} (h : Sm m z) : ∀ x ∈ Txt.split z y, Sm m x := by
  have key : ∀ (cuts : List Nat) (k a : Nat), ∀ x ∈ StrLaws.partsFrom z k a cuts, Sm m x := by
    intro cuts
    induction cuts with
    | nil =>
      intro k a x hx
      rw [List.mem_singleton.mp (show x ∈ [Builtin.Str.strSub z a z.length] from hx)]
      exact h.sub _ _
    | cons c r ih =>
      intro k a x hx
      rcases List.mem_cons.mp (show x ∈ Builtin.Str.strSub z a c :: StrLaws.partsFrom z k (c + k) r from hx) with rfl | hx
      · exact h.sub _ _
      · exact ih k (c + k) x hx
  intro x hx
  unfold Txt.split at hx
  split at hx
  · rw [List.mem_singleton.mp hx]; exact h
  · split at hx
    · rw [List.mem_singleton.mp hx]; exact h
    · rw [StrLaws.partsBetween_eq] at hx
      exact key _ _ _ x hx
theorem Sm.fit {m n : Nat} {z : Str} (h : Sm m z) : Fit n (.str z) := .str fun c hc => Nat.lt_of_lt_of_le (h.2 c hc) (by decide)
theorem dp_strs {K : PySem.W.Frag} {H : Hp} : ∀ ws : List Str, DpAll K H (ws.map V.str) (ws.map PyData.str)
  | [] => .nil
  | w :: ws => .cons (.str w) (dp_strs ws)
theorem wt_strs {m : Nat} : ∀ ws : List Str, (∀ x ∈ ws, Sm m x) → wtAll (ws.map PyData.str) ≤ ws.length * (10 * m + 4)
  | [], _ => by simp [wtAll]
  | w :: ws, h => by
    have h1 := (h w (List.mem_cons_self ..)).1
    have h2 := wt_strs ws fun x hx => h x (List.mem_cons_of_mem _ hx)
    simp only [List.map_cons, wtAll, wt, List.length_cons]
    rw [Nat.add_mul ws.length 1 (10 * m + 4), Nat.one_mul]
    omega
theorem fit_strs {m n : Nat} {ws : List Str} (h : ∀ x ∈ ws, Sm m x) : Fit (n + 1) (.list (ws.map PyData.str)) := .lst fun x hx => by
  obtain ⟨w, hw, rfl⟩ := List.mem_map.mp hx
  exact (h w hw).fit
theorem dp_same {K : PySem.W.Frag} {H H' : Hp} (S : Same H H') : (∀ {v : V} {d : PyData}, Dp K H v d → Dp K H' v d) ∧ (∀ {vs : List V} {ds : List PyData}, DpAll K H vs ds → DpAll K H' vs ds) := by
  have sq : ∀ {a : Addr} {xs : List V}, SqT K H a xs → SqT K H' a xs := by
    rintro a xs ((h | ⟨o, h⟩) | h)
    · exact .inl (.inl (S _ _ h))
    · exact .inl (.inr ⟨o, S _ _ h⟩)
    · exact .inr h
  constructor
  · intro v d h
    exact Dp.rec (motive_1 := fun v d _ => Dp K H' v d) (motive_2 := fun vs ds _ => DpAll K H' vs ds) .non .bl .int .str (fun s _ ih => .lst (S.seq s) ih) (fun s _ ih => .tup (sq s) ih) .nil (fun _ _ a b => .cons a b) h
  · intro vs ds h
    exact DpAll.rec (motive_1 := fun v d _ => Dp K H' v d) (motive_2 := fun vs ds _ => DpAll K H' vs ds) .non .bl .int .str (fun s _ ih => .lst (S.seq s) ih) (fun s _ ih => .tup (sq s) ih) .nil (fun _ _ a b => .cons a b) h
theorem fits2 {x y m n : Nat} (h : x ≤ m) (k : y ≤ n) (l : m + n ≤ 100000 := by decide) : x + y ≤ sizeLine := Nat.le_trans (Nat.add_le_add h k) (Nat.le_trans l (by decide))
/-- a value's type, as long as what stands stays -/
theorem ty_same {K : PySem.W.Frag} {H H' : Hp} (S : Same H H') {v : V} {t : Value} (h : TyX K H v t) : TyX K H' v t := by
  cases h with
  | base b =>
    cases b with
    | non => exact .base .non
    | bl x => exact .base (.bl x)
    | int i => exact .base (.int i)
    | str x => exact .base (.str x)
    | flt x => exact .base (.flt x)
    | lst e => exact .base (.lst (S _ _ e))
    | frz e => exact .base (.frz (S _ _ e))
    | tup e => exact .base (.tup (S _ _ e))
    | dK e => exact .base (.dK (S _ _ e))
    | dT e => exact .base (.dT (S _ _ e))
    | ins e x1 x2 x3 x4 x5 => exact .base (.ins (S _ _ e) x1 x2 x3 x4 x5)
  | byt b => exact .byt b
  | set e => exact .set (S _ _ e)
  | kList e c => exact .kList e c
  | kTuple e c => exact .kTuple e c
  | kDict e c => exact .kDict e c
  | fTuple e => exact .fTuple (S _ _ e)
  | fDict e => exact .fDict (S _ _ e)
end Tp

set_option Elab.async false
set_option linter.all false
set_option maxRecDepth 100000
set_option maxHeartbeats 4000000
namespace L03
open PySem L2 Tp
def top (i : Nat) : Stmt := PySem.Challenge.pw_toldpast_k03_integers_and_words_in_strin.main.body.getD i (.Pass ⟨0, 0, 0, 0⟩)
abbrev scIsList_st : Stmt := top 9
abbrev scIsList_N : List Str := ["value"]
theorem scIsList : FnScope scIsList_N ["value"] (defScope scIsList_st) := ⟨rfl, rfl, rfl, by decide +kernel, rfl, by decide +kernel, by decide +kernel⟩
abbrev scParse_st : Stmt := top 11
abbrev scParse_N : List Str := ["text", "low", "high", "number"]
theorem scParse : FnScope scParse_N ["text", "low", "high"] (defScope scParse_st) := ⟨rfl, rfl, rfl, by decide +kernel, rfl, by decide +kernel, by decide +kernel⟩
abbrev scSplit_st : Stmt := top 12
abbrev scSplit_N : List Str := ["text", "separator", "words", "word"]
theorem scSplit : FnScope scSplit_N ["text", "separator"] (defScope scSplit_st) := ⟨rfl, rfl, rfl, by decide +kernel, rfl, by decide +kernel, by decide +kernel⟩
abbrev scBookInit_st : Stmt := inClass (top 30) 0
abbrev scBookInit_N : List Str := ["self", "rows", "item"]
theorem scBookInit : FnScope scBookInit_N ["self", "rows"] (defScope scBookInit_st) := ⟨rfl, rfl, rfl, by decide +kernel, rfl, by decide +kernel, by decide +kernel⟩
abbrev scCell_st : Stmt := top 33
abbrev scCell_N : List Str := ["_law_script", "_law_k"]
theorem scCell : FnScope scCell_N ["_law_script", "_law_k"] (defScope scCell_st) := ⟨rfl, rfl, rfl, by decide +kernel, rfl, by decide +kernel, by decide +kernel⟩
abbrev scBox_st : Stmt := top 34
abbrev scBox_N : List Str := ["_law_cell_here"]
theorem scBox : FnScope scBox_N ["_law_cell_here"] (defScope scBox_st) := ⟨rfl, rfl, rfl, by decide +kernel, rfl, by decide +kernel, by decide +kernel⟩
abbrev scTake_st : Stmt := top 35
abbrev scTake_N : List Str := ["_law_box_here", "_law_many", "_law_digit", "_law_mixed"]
theorem scTake : FnScope scTake_N ["_law_box_here", "_law_many"] (defScope scTake_st) := ⟨rfl, rfl, rfl, by decide +kernel, rfl, by decide +kernel, by decide +kernel⟩
abbrev scDigits_st : Stmt := top 36
abbrev scDigits_N : List Str := ["_law_box_here", "_law_many", "_law_line", "_law_way", "_law_at", "_law_k"]
theorem scDigits : FnScope scDigits_N ["_law_box_here"] (defScope scDigits_st) := ⟨rfl, rfl, rfl, by decide +kernel, rfl, by decide +kernel, by decide +kernel⟩
abbrev scWhole_st : Stmt := top 37
abbrev scWhole_N : List Str := ["_law_line", "_law_floor", "_law_roof", "_law_found", "_law_sign"]
theorem scWhole : FnScope scWhole_N ["_law_line", "_law_floor", "_law_roof"] (defScope scWhole_st) := ⟨rfl, rfl, rfl, by decide +kernel, rfl, by decide +kernel, by decide +kernel⟩
abbrev scInts_st : Stmt := top 38
abbrev scInts_N : List Str := ["_law_box_here", "_law_line", "_law_plain", "_law_middle", "_law_floor", "_law_roof", "_law_found", "_law_due"]
theorem scInts : FnScope scInts_N ["_law_box_here"] (defScope scInts_st) := ⟨rfl, rfl, rfl, by decide +kernel, rfl, by decide +kernel, by decide +kernel⟩
abbrev scWords_st : Stmt := top 39
abbrev scWords_N : List Str := ["_law_box_here", "_law_letters", "_law_mark", "_law_words", "_law_k", "_law_word", "_law_plain", "_law_line", "_law_way", "_law_at", "_law_some", "_law_due", "_law_found", "_law_j"]
theorem scWords : FnScope scWords_N ["_law_box_here"] (defScope scWords_st) := ⟨rfl, rfl, rfl, by decide +kernel, rfl, by decide +kernel, by decide +kernel⟩
abbrev scLaw_st : Stmt := top 40
abbrev scLaw_N : List Str := ["_law_script", "_law_k", "_law_box_here", "_law_things", "_law_found", "_law_thing"]
theorem scLaw : FnScope scLaw_N ["_law_script"] (defScope scLaw_st) := ⟨rfl, rfl, rfl, by decide +kernel, rfl, by decide +kernel, by decide +kernel⟩
structure Ad where
  isList : Addr
  parse : Addr
  split : Addr
  bookInit : Addr
  cell : Addr
  box : Addr
  take : Addr
  digits : Addr
  whole : Addr
  intR : Addr
  wordR : Addr
  law : Addr
  CBook : Addr
  bkE : Addr
structure Fd where
  isList : FuncData
  parse : FuncData
  split : FuncData
  bookInit : FuncData
  cell : FuncData
  box : FuncData
  take : FuncData
  digits : FuncData
  whole : FuncData
  intR : FuncData
  wordR : FuncData
  law : FuncData
structure Txt (K : PySem.W.Frag) (mg : Str → Option Value) (a : Ad) (d : Fd) : Prop where
  F_isList : Fun K "is_list" "is_list" scIsList_st a.isList d.isList
  b_isList : Binds K d.isList ["value"] []
  mg_isList : mg "is_list" = some (.ref a.isList)
  F_parse : FunD K "parse_integer" "parse_integer" (defArgs scParse_st) (defBody scParse_st) (defScope scParse_st) [] [("low", V.int 0), ("high", V.int 999999)] a.parse d.parse
  mg_parse : mg "parse_integer" = some (.ref a.parse)
  F_split : FunD K "split_words" "split_words" (defArgs scSplit_st) (defBody scSplit_st) (defScope scSplit_st) [] [("separator", V.str " ")] a.split d.split
  mg_split : mg "split_words" = some (.ref a.split)
  F_bookInit : FunD K "__init__" "Book.__init__" (defArgs scBookInit_st) (defBody scBookInit_st) (defScope scBookInit_st) [V.ref a.bkE] [] a.bookInit d.bookInit
  F_cell : Fun K "_law_cell" "_law_cell" scCell_st a.cell d.cell
  b_cell : Binds K d.cell ["_law_script", "_law_k"] []
  mg_cell : mg "_law_cell" = some (.ref a.cell)
  F_box : Fun K "_law_box" "_law_box" scBox_st a.box d.box
  b_box : Binds K d.box ["_law_cell_here"] []
  mg_box : mg "_law_box" = some (.ref a.box)
  F_take : Fun K "_law_take" "_law_take" scTake_st a.take d.take
  b_take : Binds K d.take ["_law_box_here", "_law_many"] []
  mg_take : mg "_law_take" = some (.ref a.take)
  F_digits : Fun K "_law_digits" "_law_digits" scDigits_st a.digits d.digits
  b_digits : Binds K d.digits ["_law_box_here"] []
  mg_digits : mg "_law_digits" = some (.ref a.digits)
  F_whole : Fun K "_law_whole" "_law_whole" scWhole_st a.whole d.whole
  b_whole : Binds K d.whole ["_law_line", "_law_floor", "_law_roof"] []
  mg_whole : mg "_law_whole" = some (.ref a.whole)
  F_intR : Fun K "_law_integers_right" "_law_integers_right" scInts_st a.intR d.intR
  b_intR : Binds K d.intR ["_law_box_here"] []
  mg_intR : mg "_law_integers_right" = some (.ref a.intR)
  F_wordR : Fun K "_law_words_right" "_law_words_right" scWords_st a.wordR d.wordR
  b_wordR : Binds K d.wordR ["_law_box_here"] []
  mg_wordR : mg "_law_words_right" = some (.ref a.wordR)
  F_law : Fun K "law" "law" scLaw_st a.law d.law
  b_law : Binds K d.law ["_law_script"] []
  mg_law : mg "law" = some (.ref a.law)
  mg_DIGITS : ∃ t, mg "DIGITS" = some (.str "0123456789" t)
  mg_MOST_DIGITS : ∃ t, mg "MOST_DIGITS" = some (.int 30 t)
  len_ : mg "len" = none
  max_ : mg "max" = none
  min_ : mg "min" = none
  isinstance_ : mg "isinstance" = none
  str_ : mg "str" = none
  int_ : mg "int" = none
  all_ : mg "all" = none
  range_ : mg "range" = none
  ord_ : mg "ord" = none
  repr_ : mg "repr" = none
  list_ : mg "list" = none
  tuple_ : mg "tuple" = none
  mg_Book : mg "Book" = some (.ref a.CBook)
  cl_Book : Cls K a.CBook
  mk_Book : Mk K a.CBook a.bookInit
  nHeld : NoAttr K a.CBook "held"
  nNumb : NoAttr K a.CBook "numbers"
  ic_Book : PySem.W.findIn K (.ref a.CBook) "__class__" = some (some (.builtin "object.__class__"))
  ig_ : PySem.W.specialIn K (.builtin "object.__class__") "__get__" = some (some (.builtin "getset_descriptor.__get__"))
  it_ : PySem.W.takesIn K (.builtin "object.__class__") = some true
  im_Book : PySem.W.mroIn K a.CBook (.type "object") = some true
  ks_Book : PySem.W.kitOne K (.ref a.CBook) (.type "str") = some false
  lkE : ∃ o n, K.lookup a.bkE = some o ∧ o.cls = .type "tuple" ∧ o.data = .seq #[] n

section
variable {P : Program} {w : World} {K : PySem.W.Frag} {mg : Str → Option Value} {base : Heap} {a : Ad} {d : Fd}
theorem ok_cell (T : Txt K mg a d) : FnG P w K mg base CX0 1 a.cell d.cell ["_law_script", "_law_k"] (spCell K) := by
  refine okG T.F_cell scCell (fun vs H Q E h => ?_) (fun cdv A outer s H vs Q E hr hg h => ?_)
  · obtain ⟨s, ns, k, rfl, _⟩ := h
    rfl
  · obtain ⟨s, ns, k, rfl, hS, h0, h1, q⟩ := h
    refine ⟨_, (pss_cons (ps_if (pt_cmpR op_lt (pv 1) (pe_callB call_len_seq (by rfl) T.len_ Tp.bt_len (pa_cons (pv 0) pa_nil)) (nomark _)) (pss_one (ps_ret (pe_ix ix_list (pv 0) (pv 1) (fun _ _ => rfl)))) pss_nil)
      (pss_one (ps_ret (pe_op op_add (pe_op op_mul pe_int (pv 1)) pe_int)))), ?_⟩
    refine ⟨_, rfl, _, rfl, s, _, rfl, .inl hS, _, _, rfl, rfl, _, rfl, ?_⟩
    refine ite2 (fun c => ?_) (fun c => ?_)
    · have c' := of_decide_eq_true c
      rw [List.length_map] at c'
      obtain ⟨j, rfl⟩ := Int.eq_ofNat_of_zero_le h0
      have hj : j < ns.length := by omega
      exact ⟨_, rfl, _, rfl, s, _, _, _, rfl, rfl, hS, atI_nat (by rw [List.getElem?_map, List.getElem?_eq_getElem hj]; rfl), q _⟩
    · exact ⟨_, rfl, _, _, rfl, rfl, .inl ⟨by decide, by decide⟩, _, _, rfl, rfl, q _⟩
theorem ok_box (T : Txt K mg a d) : FnG P w K mg base CX0 1 a.box d.box ["_law_cell_here"] spBox := by
  refine okG T.F_box scBox (fun vs H Q E h => ?_) (fun cdv A outer s H vs Q E hr hg h => ?_)
  · obtain ⟨c, rfl, _⟩ := h
    rfl
  · obtain ⟨c, rfl, q⟩ := h
    refine ⟨_, (pss_one (ps_ret (pe_lst (pa_cons (pe_callB (call_max2 rfl) (by rfl) T.max_ Tp.bt_max (pa_cons pe_int (pa_cons (pe_op op_sub (pv 0) (pe_op op_pow pe_int pe_int)) pa_nil))) (pa_cons (pe_op op_modN (pv 0) pe_int) (pa_cons pe_int pa_nil)))))), ?_⟩
    refine ⟨_, rfl, _, _, rfl, rfl, ⟨by decide, by decide, by decide⟩, _, _, rfl, rfl, _, _, rfl, _, rfl, _, _, rfl, rfl, (show (_ : Int) ≠ 0 from by decide), (show 3 ≤ sizeLine from by decide), fun p hp => q p _ _ hp ?_ ?_ ?_⟩
    · split <;> omega
    · rw [Int.fmod_eq_emod_of_nonneg _ (by decide)]; exact Int.emod_nonneg _ (by decide)
    · rw [Int.fmod_eq_emod_of_nonneg _ (by decide)]; exact Int.emod_lt_of_pos _ (by decide)
theorem ok_take (T : Txt K mg a d) : FnG P w K mg base CX0 1 a.take d.take ["_law_box_here", "_law_many"] spTake := by
  refine okG T.F_take scTake (fun vs H Q E h => ?_) (fun cdv A outer s H vs Q E hr hg h => ?_)
  · obtain ⟨b, m, n, rfl, _⟩ := h
    rfl
  · obtain ⟨b, m, n, rfl, ⟨x, y, z, hb, x0, y0, y1, z0, z1⟩, hn, m0, m1, q⟩ := h
    refine ⟨_, (pss_cons (ps_if (pt_cmpR op_gt (pe_ix ix_list (pv 0) pe_int (fun _ _ => rfl)) pe_int (nomark _)) (pss_cons (ps_set (i := 2) scTake.nd rfl (Or.inl rfl) (pe_op op_modN (pe_ix ix_list (pv 0) pe_int (fun _ _ => rfl)) (pv 1)))
      (pss_cons (ps_asg (pe_op op_fdivN (pe_ix ix_list (pv 0) pe_int (fun _ _ => rfl)) (pv 1)) (pg_sub (pv 0) pe_int set_list))
      (pss_one (ps_ret (pv 2))))) pss_nil)
      (pss_cons (ps_asg (pe_op op_add (pe_ix ix_list (pv 0) pe_int (fun _ _ => rfl)) pe_int) (pg_sub (pv 0) pe_int set_list))
      (pss_cons (ps_set (i := 3) scTake.nd rfl (Or.inl rfl) (pe_op op_modN (pe_op op_pow (pe_op op_add (pe_op op_add (pe_ix ix_list (pv 0) pe_int (fun _ _ => rfl)) (pe_op op_mul pe_int (pe_ix ix_list (pv 0) pe_int (fun _ _ => rfl)))) pe_int) pe_int) pe_int))
      (pss_cons (ps_set (i := 3) scTake.nd rfl (Or.inl rfl) (pe_op op_modN (pe_op op_pow (pe_op op_add (pv 3) (pe_op op_mul pe_int (pe_ix ix_list (pv 0) pe_int (fun _ _ => rfl)))) pe_int) pe_int))
      (pss_one (ps_ret (pe_op op_modN (pe_op op_fdivN (pv 3) pe_int) (pv 1)))))))), ?_⟩
    refine ⟨_, rfl, b, _, _, _, rfl, rfl, SqL.of hb, rfl, _, _, rfl, rfl, _, rfl, ?_⟩
    refine ite2 (fun c => ?_) (fun c => ?_)
    · have c' := of_decide_eq_true c
      refine ⟨_, rfl, b, _, _, _, rfl, rfl, SqL.of hb, rfl, _, rfl, _, _, rfl, rfl, (by show m ≠ 0; omega), ?_⟩
      refine ⟨_, rfl, b, _, _, _, rfl, rfl, SqL.of hb, rfl, _, rfl, _, _, rfl, rfl, ⟨by omega, by omega⟩, _, rfl, b, _, _, _, rfl, rfl, hb, rfl, _, rfl, ?_⟩
      show Q (V.int (x.fmod m)) _
      rw [Int.fmod_eq_emod_of_nonneg _ (by omega)]
      refine q _ _ (Int.emod_nonneg _ (by omega)) (Int.emod_lt_of_pos _ m0) Kp.box ⟨x.fdiv m, y, z, upd_same, ?_, y0, y1, z0, by omega⟩
      rw [Int.fdiv_eq_ediv_of_nonneg _ (by omega)]
      exact Int.ediv_nonneg x0 (by omega)
    · refine ⟨_, rfl, b, _, _, _, rfl, rfl, SqL.of hb, rfl, _, _, rfl, rfl, _, rfl, b, _, _, _, rfl, rfl, hb, rfl, ?_⟩
      have h2 : (upd H b (.lst [V.int x, V.int y, V.int (z + 1)])) b = some (.lst [V.int x, V.int y, V.int (z + 1)]) := upd_same
      refine ⟨_, rfl, b, _, _, _, rfl, rfl, SqL.of h2, rfl, _, rfl, b, _, _, _, rfl, rfl, SqL.of h2, rfl, _, _, rfl, rfl, .inl ⟨by decide, by decide⟩, _, _, rfl, rfl, _, _, rfl, rfl, _, _, rfl, rfl, ⟨by decide, by decide, mixA y0 y1 z0 (by omega) (by decide) (by decide)⟩, _, _, rfl, rfl, (show (_ : Int) ≠ 0 from by decide), ?_⟩
      refine ⟨_, rfl, _, rfl, b, _, _, _, rfl, rfl, SqL.of h2, rfl, _, _, rfl, rfl, .inl ⟨by decide, by decide⟩, _, _, rfl, rfl, _, _, rfl, rfl, ⟨by decide, by decide, mixB z0 (by omega) (by decide)⟩, _, _, rfl, rfl, (show (_ : Int) ≠ 0 from by decide), ?_⟩
      refine ⟨_, rfl, _, _, rfl, rfl, ⟨by decide, by decide⟩, _, rfl, _, _, rfl, rfl, (by show m ≠ 0; omega), ?_⟩
      show Q (V.int (Int.fmod _ m)) _
      rw [Int.fmod_eq_emod_of_nonneg _ (by omega : (0 : Int) ≤ m)]
      exact q _ _ (Int.emod_nonneg _ (by omega)) (Int.emod_lt_of_pos _ m0) Kp.box ⟨x, y, z + 1, h2, x0, y0, y1, by omega, by omega⟩
end
end L03

set_option Elab.async false
set_option linter.all false
set_option maxRecDepth 100000
set_option maxHeartbeats 4000000
namespace L03
open PySem L2 Tp
section
variable {P : Program} {w : World} {K : PySem.W.Frag} {mg : Str → Option Value} {base : Heap} {a : Ad} {d : Fd}
/-- a value that is no text -/
def NoStr (K : PySem.W.Frag) (H : Hp) (v : V) : Prop := ∃ t, TyX K H v t ∧ PySem.W.kitOne K t (.type "str") = some false
def spParse (K : PySem.W.Frag) : Sp := fun vs H Q _ => ∃ (v : V) (lo hi : Int), vs = [v, .int lo, .int hi] ∧
  ((∃ z : Str, v = .str z ∧ z.length ≤ 10000 ∧ Q (numV z lo hi) H) ∨ (NoStr K H v ∧ Q .non H))
def spWhole : Sp := fun vs H Q _ => ∃ (z : Str) (lo hi : Int), vs = [.str z, .int lo, .int hi] ∧ z.length ≤ 10000 ∧ Q (numV z lo hi) H
theorem numV_none {z : Str} {lo hi : Int} (h : numOf z = none) : numV z lo hi = .non := by
  unfold numV
  rw [h]
theorem numV_some {z : Str} {n lo hi : Int} (h : numOf z = some n) : numV z lo hi = if lo ≤ n ∧ n ≤ hi then .int n else .non := by
  unfold numV
  rw [h]
theorem dec_chars (c : Nat) : c ∈ ("0123456789" : Str).cps.toList ↔ 48 ≤ c ∧ c ≤ 57 := by
  have e : ("0123456789" : Str).cps.toList = [48, 49, 50, 51, 52, 53, 54, 55, 56, 57] := by decide +kernel
  rw [e]
  simp only [List.mem_cons, List.not_mem_nil, or_false]
  omega
theorem log_small {n : Int} (h0 : 0 ≤ n) (h1 : n < 10 ^ 30) : n.natAbs.log2 < 1920 := by
  have h2 : n.natAbs < 2 ^ 1920 := Nat.lt_of_lt_of_le (show n.natAbs < 10 ^ 30 by omega) (by decide +kernel)
  by_cases z : n.natAbs = 0
  · rw [z]; decide
  · exact (Nat.log2_lt z).mpr h2
theorem ok_parse (T : Txt K mg a d) : FnG P w K mg base CX0 1 a.parse d.parse ["text", "low", "high"] (spParse K) := by
  refine okGD T.F_parse scParse (fun vs H Q E h => ?_) (fun cdv A outer s H vs Q E hr hg h => ?_)
  · obtain ⟨v, lo, hi, rfl, _⟩ := h
    rfl
  · obtain ⟨v, lo, hi, rfl, h⟩ := h
    refine ⟨_, (pss_cons (ps_if (PW.pt (pw_or (pt_not (pt_val (pe_callB call_isi (by rfl) T.isinstance_ Tp.bt_isinstance (pa_cons (pv 0) (pa_cons (pe_bltn (v := .ty "str") (by rfl) T.str_ Tp.bt_str rfl) pa_nil))))) (pw_or (pt_not (pt_chain op_lt op_le pe_int (pe_callB call_len_str (by rfl) T.len_ Tp.bt_len (pa_cons (pv 0) pa_nil)) (Tp.pe_glI (by rfl) T.mg_MOST_DIGITS))) (pw_or1 (pt_cmpR op_ne (pe_bm PySem.F.plainAttrs_str PySem.F.slot_str_strip PySem.F.type_str_strip mt_stripChars (pv 0) (pa_cons (Tp.pe_glS (by rfl) T.mg_DIGITS) pa_nil)) pe_str (nomark _)))))) (pss_one (ps_ret pe_non)) pss_nil)
      (pss_cons (ps_set (i := 3) scParse.nd rfl (Or.inl rfl) (pe_callTy call_int_str (by rfl) T.int_ Tp.bt_int (pa_cons (pv 0) pa_nil)))
      (pss_one (ps_ret (pe_ifExp (PW.pt (pw_and (pt_cmpR op_eq (pe_callTy call_str_int (by rfl) T.str_ Tp.bt_str (pa_cons (pv 3) pa_nil)) (pv 0) (nomark _)) (pw_and1 (pt_chain op_le op_le (pv 1) (pv 3) (pv 2))))) (pv 3) pe_non))))), ?_⟩
    rcases h with ⟨z, rfl, hz, q⟩ | ⟨⟨t, ty, kt⟩, q⟩
    · have hz' : z.length ≤ sizeLine := Nat.le_trans hz (by decide)
      refine ⟨_, rfl, _, _, _, _, true, rfl, .ty _, .base (.str z), kit_ty (by decide +kernel), _, rfl, iteF ?_⟩
      have bad : numOf z = none → Q .non H := fun e => by
        rw [numV_none e] at q
        exact q
      refine ⟨_, rfl, z, rfl, hz', _, _, rfl, rfl, _, rfl, if2 (fun l0 => ?_) (fun l0 => ?_)⟩
      rotate_left
      · refine ⟨_, rfl, iteT (iteT (bad ?_))⟩
        unfold numOf
        rw [if_neg]
        intro c
        have := c.1
        omega
      refine ⟨_, _, rfl, rfl, _, rfl, ifn2 (fun l1 => ?_) (fun l1 => ?_)⟩
      rotate_left
      · refine iteT (bad ?_)
        unfold numOf
        rw [if_neg]
        intro c
        have := c.2.1
        omega
      refine ⟨_, rfl, rfl, z, _, rfl, rfl, hz', rfl, _, rfl, ifn2 (fun l2 => ?_) (fun l2 => ?_)⟩
      rotate_left
      · refine bad ?_
        unfold numOf
        rw [if_neg]
        intro c
        exact l2 (congrArg V.str ((strip_empty _ _).mpr fun x hx => (dec_chars x).mpr (c.2.2.1 x hx)))
      have l2 : Txt.stripChars z "0123456789" = Str.empty := V.str.inj l2
      have dig : ∀ c ∈ z.cps.toList, 48 ≤ c ∧ c ≤ 57 := fun c hc => (dec_chars c).mp ((strip_empty _ _).mp l2 c hc)
      have ne : z.cps.toList ≠ [] := fun e => by
        have := len_list z
        rw [e] at this
        simp at this
        omega
      have hv : intText? z = some ((NumText.digitsVal z.cps.toList : Nat) : Int) := PySem.intText_digits dig ne (by omega)
      refine ⟨_, rfl, z, _, rfl, hv, by omega, ?_⟩
      have hlt : (0 : Int) ≤ (NumText.digitsVal z.cps.toList : Nat) ∧ ((NumText.digitsVal z.cps.toList : Nat) : Int) < 10 ^ 30 := by
        have l := val_lt z.cps.toList 0 dig
        rw [len_list] at l
        have l2 : (10 : Nat) ^ z.length ≤ 10 ^ 30 := Nat.pow_le_pow_right (by decide) (by omega)
        have l3 : NumText.digitsVal z.cps.toList < 10 ^ 30 := by
          show List.foldl _ 0 _ < _
          omega
        omega
      have sv := str_val dig ne
      rw [len_list] at sv
      refine ⟨_, rfl, _, rfl, log_small hlt.1 hlt.2, _, rfl, rfl, _, rfl, if2 (fun c => ?_) (fun c => ?_)⟩
      rotate_left
      · refine iteF (bad ?_)
        unfold numOf
        rw [if_neg]
        exact fun h => c (congrArg V.str (str_ext (sv.mpr h.2.2.2)))
      have hd := sv.mp (congrArg (fun s : Str => s.cps.toList) (V.str.inj c))
      have nz : numOf z = some ((NumText.digitsVal z.cps.toList : Nat) : Int) := if_pos ⟨by omega, by omega, dig, hd⟩
      rw [numV_some nz] at q
      refine ⟨_, rfl, _, rfl, _, _, rfl, rfl, _, rfl, if2 (fun c1 => ?_) (fun c1 => ?_)⟩
      · refine ⟨_, rfl, _, _, rfl, rfl, _, rfl, if2 (fun c2 => ?_) (fun c2 => ?_)⟩
        · rw [if_pos ⟨c1, c2⟩] at q
          exact ⟨_, rfl, q⟩
        · rw [if_neg fun h => c2 h.2] at q
          exact q
      · rw [if_neg fun h => c1 h.1] at q
        exact ⟨_, rfl, iteF q⟩
    · refine ⟨_, rfl, _, _, _, _, false, rfl, .ty _, ty, kt, _, rfl, iteT (iteT q)⟩
theorem val_take {cs : List Nat} {i c : Nat} (h : cs[i]? = some c) : NumText.digitsVal (cs.take (i + 1)) = NumText.digitsVal (cs.take i) * 10 + (c - 48) := by
  unfold NumText.digitsVal
  rw [List.take_add_one, h, List.foldl_append]
  rfl
theorem head_at {z : Str} {c : Nat} (h : z.cps.toList[0]? = some c) : z.cps.toList.head? = some c := by rw [List.head?_eq_getElem?]; exact h
theorem ok_whole (T : Txt K mg a d) : FnG P w K mg base CX0 1 a.whole d.whole ["_law_line", "_law_floor", "_law_roof"] spWhole := by
  refine okG T.F_whole scWhole (fun vs H Q E h => ?_) (fun cdv A outer s H vs Q E hr hg h => ?_)
  · obtain ⟨v, lo, hi, rfl, _⟩ := h
    rfl
  · obtain ⟨z, lo, hi, rfl, hz, q⟩ := h
    refine ⟨_, (pss_cons (ps_if (PW.pt (pw_or (pt_not (pt_val (pe_callB call_isi (by rfl) T.isinstance_ Tp.bt_isinstance (pa_cons (pv 0) (pa_cons (pe_bltn (v := .ty "str") (by rfl) T.str_ Tp.bt_str rfl) pa_nil))))) (pw_or (pt_not (pt_chain op_lt op_lt pe_int (pe_callB call_len_str (by rfl) T.len_ Tp.bt_len (pa_cons (pv 0) pa_nil)) pe_int)) (pw_or1 (PW.pt (pw_and (pt_cmpR op_eq (pe_ix ix_str (pv 0) pe_int (fun _ _ => rfl)) pe_str (nomark _)) (pw_and1 (pt_cmpR op_ne (pv 0) pe_str (nomark _))))))))) (pss_one (ps_ret pe_non)) pss_nil)
      (pss_cons (ps_set (i := 3) scWhole.nd rfl (Or.inl rfl) pe_int)
      (pss_cons (ps_for PassesOwn.never rfl (pi_str (pv 0)) (pg_name (i := 4) scWhole.nd rfl (Or.inl rfl)) (pss_cons (ps_if (pt_cmpR op_notIn_sign (pv 4) pe_str (by rfl)) (pss_one (ps_ret pe_non)) pss_nil)
      (pss_one (ps_set (i := 3) scWhole.nd rfl (Or.inl rfl) (pe_op op_sub (pe_op op_add (pe_op op_mul (pv 3) pe_int) (pe_callB call_ord (by rfl) T.ord_ Tp.bt_ord (pa_cons (pv 4) pa_nil))) pe_int)))))
      (pss_one (ps_ret (pe_ifExp (pt_chain op_le op_le (pv 1) (pv 3) (pv 2)) (pv 3) pe_non)))))), ?_⟩
    have hz' : z.length ≤ sizeLine := Nat.le_trans hz (by decide)
    have bad : numOf z = none → Q .non H := fun e => by
      rw [numV_none e] at q
      exact q
    refine ⟨_, rfl, _, _, _, _, true, rfl, .ty _, .base (.str z), kit_ty (by decide +kernel), _, rfl, iteF ?_⟩
    refine ⟨_, rfl, z, rfl, hz', _, _, rfl, rfl, _, rfl, if2 (fun l0 => ?_) (fun l0 => ?_)⟩
    rotate_left
    · refine ⟨_, rfl, iteT (iteT (bad ?_))⟩
      unfold numOf
      rw [if_neg]
      intro c
      have := c.1
      omega
    refine ⟨_, _, rfl, rfl, _, rfl, ifn2 (fun l1 => ?_) (fun l1 => ?_)⟩
    rotate_left
    · refine iteT (bad ?_)
      unfold numOf
      rw [if_neg]
      intro c
      have := c.2.1
      omega
    have hl : 0 < z.cps.toList.length := by rw [len_list]; omega
    have h0 : z.cps.toList[0]? = some z.cps.toList[0] := List.getElem?_eq_getElem hl
    generalize z.cps.toList[0] = c0 at h0
    refine ⟨_, rfl, z, _, c0, rfl, rfl, hz', atI_nat (j := 0) h0, rfl, _, rfl, if2 (fun c => ?_) (fun c => ?_)⟩
    · have c48 : c0 = 48 := by
        have := congrArg (fun s : Str => s.cps.toList) (V.str.inj c)
        have : [c0] = [48] := this
        simpa using this
      refine ⟨_, rfl, rfl, _, rfl, ifn2 (fun e => ?_) (fun e => ?_)⟩
      rotate_left
      · refine bad ?_
        unfold numOf
        rw [if_neg]
        intro h
        have l1 := h.2.2.2 (by rw [← c48]; exact head_at h0)
        refine e (congrArg V.str (str_ext ?_))
        rw [← len_list] at l1
        obtain ⟨x, hx⟩ := List.length_eq_one_iff.mp l1
        rw [hx] at h0 ⊢
        have : x = c0 := by simpa using h0
        rw [this, c48]
        rfl
      have e := V.str.inj e
      have hd : z.cps.toList.head? = some 48 → z.length = 1 := fun _ => by rw [e]; rfl
      clear e c c48
      refine ⟨_, rfl, z, rfl, for_it walk_str (fun i σ H' => H' = H ∧ (∀ c ∈ z.cps.toList.take i, 48 ≤ c ∧ c ≤ 57) ∧ ∃ v, σ = [some (.str z), some (.int lo), some (.int hi), some (.int (NumText.digitsVal (z.cps.toList.take i) : Nat)), v]) ⟨rfl, (by simp), none, rfl⟩ (fun _ _ _ _ _ => trivial) ?_ ?_⟩
      · rintro i x σ H1 H2 hi ⟨rfl, dig, v, rfl⟩ ⟨rfl, c, hc, rfl⟩
        have hc' : z.cps.toList[i]? = some c := by rw [Array.getElem?_toList]; exact hc
        refine ⟨_, rfl, c, _, rfl, rfl, _, rfl, ifn2 (fun m => ?_) (fun m => ?_)⟩
        · have cd := (dec_chars c).mp m
          refine ⟨_, rfl, _, _, rfl, rfl, .inr ⟨by decide, by decide⟩, _, rfl, _, rfl, rfl, _, _, rfl, rfl, _, _, rfl, rfl, ⟨rfl, ?_, some (.str ⟨#[c]⟩), ?_⟩⟩
          · intro e he
            rw [List.take_add_one, hc'] at he
            rcases List.mem_append.mp he with he | he
            · exact dig e he
            · have : e = c := by simpa using he
              omega
          · rw [val_take hc']
            have e : (((NumText.digitsVal (z.cps.toList.take i) : Nat) : Int) * 10 + (((⟨#[c]⟩ : Str).cps.getD 0 0 : Nat) : Int) - 48) = ((NumText.digitsVal (z.cps.toList.take i) * 10 + (c - 48) : Nat) : Int) := by
              have : (⟨#[c]⟩ : Str).cps.getD 0 0 = c := rfl
              rw [this]
              omega
            show [_, _, _, some (V.int (((NumText.digitsVal (z.cps.toList.take i) : Nat) : Int) * 10 + (((⟨#[c]⟩ : Str).cps.getD 0 0 : Nat) : Int) - 48)), _] = _
            rw [e]
        · refine bad ?_
          unfold numOf
          rw [if_neg]
          intro h
          exact m ((dec_chars c).mpr (h.2.2.1 c (List.mem_of_getElem? hc')))
      · rintro σ H1 ⟨rfl, dig, v, rfl⟩
        have e : z.cps.toList.take z.cps.size = z.cps.toList := List.take_of_length_le (by rw [len_list]; exact Nat.le_refl _)
        rw [e] at dig ⊢
        have nz : numOf z = some ((NumText.digitsVal z.cps.toList : Nat) : Int) := if_pos ⟨by omega, by omega, dig, hd⟩
        rw [numV_some nz] at q
        refine ⟨_, rfl, _, rfl, _, _, rfl, rfl, _, rfl, if2 (fun c1 => ?_) (fun c1 => ?_)⟩
        · refine ⟨_, rfl, _, _, rfl, rfl, _, rfl, if2 (fun c2 => ?_) (fun c2 => ?_)⟩
          · rw [if_pos ⟨c1, c2⟩] at q
            exact ⟨_, rfl, q⟩
          · rw [if_neg fun h => c2 h.2] at q
            exact q
        · rw [if_neg fun h => c1 h.1] at q
          exact ⟨_, rfl, iteF q⟩
    · refine iteF ?_
      have hd : z.cps.toList.head? = some 48 → z.length = 1 := fun h => by
        have := (head_at h0).symm.trans h
        exact (c (by rw [Option.some.inj this]; rfl)).elim
      clear c
      refine ⟨_, rfl, z, rfl, for_it walk_str (fun i σ H' => H' = H ∧ (∀ c ∈ z.cps.toList.take i, 48 ≤ c ∧ c ≤ 57) ∧ ∃ v, σ = [some (.str z), some (.int lo), some (.int hi), some (.int (NumText.digitsVal (z.cps.toList.take i) : Nat)), v]) ⟨rfl, (by simp), none, rfl⟩ (fun _ _ _ _ _ => trivial) ?_ ?_⟩
      · rintro i x σ H1 H2 hi ⟨rfl, dig, v, rfl⟩ ⟨rfl, c, hc, rfl⟩
        have hc' : z.cps.toList[i]? = some c := by rw [Array.getElem?_toList]; exact hc
        refine ⟨_, rfl, c, _, rfl, rfl, _, rfl, ifn2 (fun m => ?_) (fun m => ?_)⟩
        · have cd := (dec_chars c).mp m
          refine ⟨_, rfl, _, _, rfl, rfl, .inr ⟨by decide, by decide⟩, _, rfl, _, rfl, rfl, _, _, rfl, rfl, _, _, rfl, rfl, ⟨rfl, ?_, some (.str ⟨#[c]⟩), ?_⟩⟩
          · intro e he
            rw [List.take_add_one, hc'] at he
            rcases List.mem_append.mp he with he | he
            · exact dig e he
            · have : e = c := by simpa using he
              omega
          · rw [val_take hc']
            have e : (((NumText.digitsVal (z.cps.toList.take i) : Nat) : Int) * 10 + (((⟨#[c]⟩ : Str).cps.getD 0 0 : Nat) : Int) - 48) = ((NumText.digitsVal (z.cps.toList.take i) * 10 + (c - 48) : Nat) : Int) := by
              have : (⟨#[c]⟩ : Str).cps.getD 0 0 = c := rfl
              rw [this]
              omega
            show [_, _, _, some (V.int (((NumText.digitsVal (z.cps.toList.take i) : Nat) : Int) * 10 + (((⟨#[c]⟩ : Str).cps.getD 0 0 : Nat) : Int) - 48)), _] = _
            rw [e]
        · refine bad ?_
          unfold numOf
          rw [if_neg]
          intro h
          exact m ((dec_chars c).mpr (h.2.2.1 c (List.mem_of_getElem? hc')))
      · rintro σ H1 ⟨rfl, dig, v, rfl⟩
        have e : z.cps.toList.take z.cps.size = z.cps.toList := List.take_of_length_le (by rw [len_list]; exact Nat.le_refl _)
        rw [e] at dig ⊢
        have nz : numOf z = some ((NumText.digitsVal z.cps.toList : Nat) : Int) := if_pos ⟨by omega, by omega, dig, hd⟩
        rw [numV_some nz] at q
        refine ⟨_, rfl, _, rfl, _, _, rfl, rfl, _, rfl, if2 (fun c1 => ?_) (fun c1 => ?_)⟩
        · refine ⟨_, rfl, _, _, rfl, rfl, _, rfl, if2 (fun c2 => ?_) (fun c2 => ?_)⟩
          · rw [if_pos ⟨c1, c2⟩] at q
            exact ⟨_, rfl, q⟩
          · rw [if_neg fun h => c2 h.2] at q
            exact q
        · rw [if_neg fun h => c1 h.1] at q
          exact ⟨_, rfl, iteF q⟩
end
end L03

set_option Elab.async false
set_option linter.all false
set_option maxRecDepth 100000
set_option maxHeartbeats 4000000
namespace L03
open PySem L2 Tp
section
variable {P : Program} {w : World} {K : PySem.W.Frag} {mg : Str → Option Value} {base : Heap} {a : Ad} {d : Fd}
def spDigits : Sp := fun vs H Q _ => ∃ (b : Addr) (n : Nat), vs = [.ref b] ∧ BoxAt b n H ∧ n < 900000 ∧ ∀ z H', z.length ≤ 100 → Kp b H H' → BoxAt b (n + 100) H' → Q (.str z) H'
theorem ok_digits (T : Txt K mg a d) : FnG P w K mg base CX0 2 a.digits d.digits ["_law_box_here"] spDigits := by
  have G_take := ok_take (P := P) (w := w) (base := base) T
  refine okG T.F_digits scDigits (fun vs H Q E h => ?_) (fun cdv A outer s H vs Q E hr hg h => ?_)
  · obtain ⟨b, n, rfl, _⟩ := h
    rfl
  · obtain ⟨b, n, rfl, hB, hn, q⟩ := h
    refine ⟨_, (pss_cons (ps_set (i := 1) scDigits.nd rfl (Or.inl rfl) (pe_ix ix_list (pe_lst (pa_cons pe_int (pa_cons (pe_op op_add pe_int (Tp.pe_callG G_take (hr.mono (by decide)) hg (by rfl) T.mg_take T.F_take.kp T.b_take .nil pass0 (pa_cons (pv 0) (pa_cons pe_int pa_nil)))) (pa_cons (pe_op op_add pe_int (Tp.pe_callG G_take (hr.mono (by decide)) hg (by rfl) T.mg_take T.F_take.kp T.b_take .nil pass0 (pa_cons (pv 0) (pa_cons pe_int pa_nil)))) (pa_cons pe_int (pa_cons pe_int pa_nil)))))) (Tp.pe_callG G_take (hr.mono (by decide)) hg (by rfl) T.mg_take T.F_take.kp T.b_take .nil pass0 (pa_cons (pv 0) (pa_cons pe_int pa_nil))) (fun _ _ => rfl)))
      (pss_cons (ps_set (i := 2) scDigits.nd rfl (Or.inl rfl) (pe_join pe_str (pe_lc (own := [("_law_k", 5)]) (by rfl) scDigits.nd (pi_range1 (by rfl) T.range_ (pa_cons (pv 1) pa_nil)) (blkOk_by (own := [("_law_k", 5)]) (N := scDigits_N) (sc := defScope scDigits_st) (by decide +kernel)) (fun _ _ _ _ _ => (pg_name (i := 5) scDigits.nd rfl (Or.inl rfl))) (fun _ _ _ _ _ => pts_nil) (fun _ _ _ _ _ => (pe_ix ix_str pe_str (Tp.pe_callG G_take (hr.mono (by decide)) hg (by rfl) T.mg_take T.F_take.kp T.b_take .nil pass0 (pa_cons (pv 0) (pa_cons pe_int pa_nil))) (fun _ _ => rfl))))))
      (pss_cons (ps_par (i := 3) (j := 4) (by rfl) scDigits.nd rfl rfl (by decide) rfl rfl (pa_cons (Tp.pe_callG G_take (hr.mono (by decide)) hg (by rfl) T.mg_take T.F_take.kp T.b_take .nil pass0 (pa_cons (pv 0) (pa_cons pe_int pa_nil))) (pa_cons (Tp.pe_callG G_take (hr.mono (by decide)) hg (by rfl) T.mg_take T.F_take.kp T.b_take .nil pass0 (pa_cons (pv 0) (pa_cons (pe_op op_add (pe_callB call_len_str (by rfl) T.len_ Tp.bt_len (pa_cons (pv 2) pa_nil)) pe_int) pa_nil))) pa_nil)) (by rfl))
      (pss_cons (ps_if (pt_cmpR op_eq (pv 3) pe_int (nomark _)) (pss_one (ps_ret (pe_op op_add_str pe_str (pv 2)))) pss_nil)
      (pss_cons (ps_if (pt_cmpR op_eq (pv 3) pe_int (nomark _)) (pss_one (ps_ret (pe_op op_add_str (pe_op op_add_str (pe_slice sl_str (pv 2) po_none (po_some (pv 4))) (pe_ix ix_str pe_str (Tp.pe_callG G_take (hr.mono (by decide)) hg (by rfl) T.mg_take T.F_take.kp T.b_take .nil pass0 (pa_cons (pv 0) (pa_cons pe_int pa_nil))) (fun _ _ => rfl))) (pe_slice sl_str (pv 2) (po_some (pv 4)) po_none)))) pss_nil)
      (pss_cons (ps_if (pt_cmpR op_eq (pv 3) pe_int (nomark _)) (pss_one (ps_ret (pe_slice sl_str (pv 2) po_none (po_some (pe_callB (call_max2 rfl) (by rfl) T.max_ Tp.bt_max (pa_cons pe_int (pa_cons (pe_op op_sub (pv 4) pe_int) pa_nil))))))) pss_nil)
      (pss_one (ps_ret (pv 2))))))))), ?_⟩
    refine ⟨_, rfl, b, 6, n, rfl, hB, by omega, by decide, by decide, fun r1 H1 a1 b1 k1 B1 => ⟨_, _, rfl, rfl, ?_⟩⟩
    refine ⟨_, rfl, b, 31, n + 1, rfl, B1, by omega, by decide, by decide, fun r2 H2 a2 b2 k2 B2 => ⟨_, _, rfl, rfl, ?_⟩⟩
    refine ⟨(show 5 ≤ sizeLine from by decide), fun l hl => ?_⟩
    refine ⟨_, rfl, b, 5, n + 2, rfl, B2.same (same_new hl), by omega, by decide, by decide, fun r3 H3 a3 b3 k3 B3 => ?_⟩
    have nlb : l ≠ b := B2.ne hl
    have hl3 : H3 l = some (.lst [.int 1, .int (1 + r1), .int (1 + r2), .int 30, .int 31]) := k3 _ _ nlb upd_same
    obtain ⟨v, hv, m, rfl, m0, m1⟩ := at_some (xs := [V.int 1, .int (1 + r1), .int (1 + r2), .int 30, .int 31]) (r := r3) (P := fun v => ∃ m : Int, v = .int m ∧ 1 ≤ m ∧ m ≤ 31) (by
      intro x hx
      simp only [List.mem_cons, List.not_mem_nil, or_false] at hx
      rcases hx with rfl | rfl | rfl | rfl | rfl
      all_goals exact ⟨_, rfl, by omega, by omega⟩) a3 b3
    refine ⟨l, _, _, _, rfl, rfl, SqL.of hl3, hv, ?_⟩
    have K3 : Kp b H H3 := (((k1.trans k2).trans (Kp.new hl)).trans k3)
    clear k1 k2 k3 B1 B2 hl3 nlb hv hl hB
    refine ⟨⟨_, rfl⟩, _, rfl, m, rfl, by omega, by omega, fun D hD => lc_range (lo := 0) (n := m.toNat) (fun i H' => BoxAt b (n + 3 + i) H' ∧ Kp b H3 H' ∧ ∃ ys : List Str, H' D = some (.lst (ys.map V.str)) ∧ ys.length = i ∧ ∀ y ∈ ys, y.length ≤ 1)
      ⟨B3.same (same_new hD), Kp.new hD, [], upd_same, rfl, (by simp)⟩ ?_ ?_⟩
    · rintro i H4 hi ⟨B4, k4, ys, hy, ly, l1⟩
      have nDb : D ≠ b := B3.ne hD
      refine ⟨rfl, _, rfl, b, 10, _, rfl, B4, by omega, by decide, by decide, fun r H5 a5 b5 k5 B5 => ?_⟩
      obtain ⟨c, hc, _⟩ := at_some (xs := ("0123456789" : Str).cps.toList) (r := r) (P := fun _ => True) (fun _ _ => trivial) a5 b5
      refine ⟨_, _, c, rfl, rfl, by decide, hc, _, k5 _ _ nDb hy, ?_, B5.off nDb, (k4.trans k5).mut hD, ys ++ [⟨#[c]⟩], ?_, by simp [ly], ?_⟩
      · rw [List.length_map]
        exact Nat.lt_of_lt_of_le (show ys.length < 100 by omega) (by decide)
      · rw [upd_same, List.map_append]
        rfl
      · intro y hy
        rcases List.mem_append.mp hy with hy | hy
        · exact l1 y hy
        · rw [List.mem_singleton.mp hy]
          exact Nat.le_refl 1
    · rintro H4 ⟨B4, k4, ys, hy, ly, l1⟩
      have sl := sum_len l1
      have jl := join_len (a := "") l1
      have e0 : ("" : Str).length = 0 := by decide
      rw [e0] at jl
      refine ⟨_, D, ys, rfl, rfl, .inl (SqL.of hy), by rw [e0]; omega, ?_⟩
      generalize Txt.join "" ys = z at jl
      have zl : z.length ≤ 31 := by omega
      have zs : z.length ≤ sizeLine := Nat.le_trans zl (by decide)
      have B4' : BoxAt b (n + 50) H4 := B4.up (by omega)
      have K4 := K3.trans k4
      clear hy ly l1 sl jl k4 B4 B3 K3 hD
      refine ⟨_, rfl, b, 10, _, rfl, B4', by omega, by decide, by decide, fun w1 H5 a5 b5 k5 B5 => ?_⟩
      refine ⟨_, rfl, _, rfl, z, rfl, zs, _, _, rfl, rfl, b, _, _, rfl, B5, by omega, by omega, by omega, fun at1 H6 a6 b6 k6 B6 => ⟨_, _, rfl, ?_⟩⟩
      have K6 := (K4.trans k5).trans k6
      refine ⟨_, rfl, rfl, _, rfl, if2 (fun c => ?_) (fun c => ?_)⟩
      · refine ⟨_, rfl, _, _, rfl, rfl, ?_, q _ _ ?_ K6 (B6.up (by omega))⟩
        · exact Nat.le_trans (show 1 + z.length ≤ 100 by omega) (by decide)
        · show (_ ++ _ : Str).length ≤ 100
          rw [Str.length_append]
          exact Nat.le_trans (show 1 + z.length ≤ 100 by omega) (by decide)
      refine ⟨_, rfl, rfl, _, rfl, if2 (fun c => ?_) (fun c => ?_)⟩
      · have c1 := cut_len z none (some at1)
        have c2 := cut_len z (some at1) none
        refine ⟨_, rfl, _, rfl, _, rfl, z, rfl, zs, _, rfl, b, 10, _, rfl, B6, by omega, by decide, by decide, fun r H7 a7 b7 k7 B7 => ?_⟩
        obtain ⟨c, hc, _⟩ := at_some (xs := (" +-_.,aA\n:" : Str).cps.toList) (r := r) (P := fun _ => True) (fun _ _ => trivial) a7 b7
        have l1 : (⟨#[c]⟩ : Str).length = 1 := rfl
        refine ⟨_, _, c, rfl, rfl, by decide, hc, _, _, rfl, rfl, Nat.le_trans (show _ ≤ 100 by omega) (by decide), _, rfl, _, rfl, _, rfl, z, rfl, zs, ?_⟩
        refine ⟨_, _, rfl, rfl, ?_, q _ _ ?_ (K6.trans k7) (B7.up (by omega))⟩
        · rw [Str.length_append]
          exact Nat.le_trans (show _ ≤ 100 by omega) (by decide)
        · rw [Str.length_append, Str.length_append]
          omega
      refine ⟨_, rfl, rfl, _, rfl, if2 (fun c => ?_) (fun c => ?_)⟩
      · refine ⟨_, rfl, _, rfl, _, _, rfl, rfl, _, _, rfl, _, rfl, z, rfl, zs, q _ _ ?_ K6 (B6.up (by omega))⟩
        exact Nat.le_trans (cut_len z _ _) (by omega)
      · exact ⟨_, rfl, q _ _ (by omega) K6 (B6.up (by omega))⟩
end
end L03

set_option Elab.async false
set_option linter.all false
set_option maxRecDepth 100000
set_option maxHeartbeats 4000000
namespace L03
open PySem L2 Tp
section
variable {P : Program} {w : World} {K : PySem.W.Frag} {mg : Str → Option Value} {base : Heap} {a : Ad} {d : Fd}
/-! how the calls of parse_integer and split_words bind -/
def rev3 {α : Type} : List α → List α
  | [h, l, t] => [t, l, h]
  | x => x
theorem rev3_rel {zs : List V} {ws : List Value} (r : Vals zs ws) : Vals (rev3 zs) (rev3 ws) := by
  cases r with
  | nil => exact .nil
  | cons r1 r =>
    cases r with
    | nil => exact .cons r1 .nil
    | cons r2 r =>
      cases r with
      | nil => exact .cons r1 (.cons r2 .nil)
      | cons r3 r =>
        cases r with
        | nil => exact .cons r3 (.cons r2 (.cons r1 .nil))
        | cons r4 r => exact .cons r1 (.cons r2 (.cons r3 (.cons r4 r)))
theorem bp0 (T : Txt K mg a d) : ∃ ds, Vals [V.int 0, V.int 999999] ds ∧ Binds K d.parse ["text", "low", "high"] ds :=
  T.F_parse.binds0 1 (by simp) rfl fun D doc pm an cdv ct us ks hu hk => match us, hu, ks, hk with
    | [_], _, [_, _], _ => ⟨_, _, _, _, _, _, rfl, rfl, _, _, _, _, _, _, rfl, rfl, rfl⟩
theorem bpL (T : Txt K mg a d) : ∃ mv : List Value, KBn K d.parse ["text", "low", "high"] 1 ["low"] (fun us ws => us ++ ws ++ mv) (fun vs zs => vs ++ zs ++ [V.int 999999]) :=
  kb0 T.F_parse 1 ["low"] [("high", V.int 999999)] (fun us mv ws => us ++ ws ++ mv) (by simp) (by simp) (fun r1 r2 r3 => (r1.append r3).append r2) fun D doc pm an cdv ct us mv ws hu hm hw => match us, hu, mv, hm, ws, hw with
    | [_], _, [_], _, [_], _ => ⟨_, _, _, _, _, _, rfl, rfl, rfl⟩
theorem bpH (T : Txt K mg a d) : ∃ mv : List Value, KBn K d.parse ["text", "low", "high"] 1 ["high"] (fun us ws => us ++ mv ++ ws) (fun vs zs => vs ++ [V.int 0] ++ zs) :=
  kb0 T.F_parse 1 ["high"] [("low", V.int 0)] (fun us mv ws => us ++ mv ++ ws) (by simp) (by simp) (fun r1 r2 r3 => (r1.append r2).append r3) fun D doc pm an cdv ct us mv ws hu hm hw => match us, hu, mv, hm, ws, hw with
    | [_], _, [_], _, [_], _ => ⟨_, _, _, _, _, _, rfl, rfl, rfl⟩
theorem bpLH (T : Txt K mg a d) : ∃ mv : List Value, KBn K d.parse ["text", "low", "high"] 1 ["low", "high"] (fun us ws => us ++ ws) (fun vs zs => vs ++ zs) :=
  kb0 T.F_parse 1 ["low", "high"] [] (fun us _ ws => us ++ ws) (by simp) (by simp) (fun r1 r2 r3 => r1.append r3) fun D doc pm an cdv ct us mv ws hu hm hw => match us, hu, ws, hw with
    | [_], _, [_, _], _ => rfl
theorem bpA (T : Txt K mg a d) : ∃ mv : List Value, KBn K d.parse ["text", "low", "high"] 0 ["high", "low", "text"] (fun us ws => rev3 ws) (fun vs zs => rev3 zs) :=
  kb0 T.F_parse 0 ["high", "low", "text"] [] (fun _ _ ws => rev3 ws) (by simp) (by simp) (fun r1 r2 r3 => rev3_rel r3) fun D doc pm an cdv ct us mv ws hu hm hw => match us, hu, ws, hw with
    | [], _, [_, _, _], _ => rfl
end
end L03

set_option Elab.async false
set_option linter.all false
set_option maxRecDepth 100000
set_option maxHeartbeats 4000000
namespace L03
open PySem L2 Tp
section
variable {P : Program} {w : World} {K : PySem.W.Frag} {mg : Str → Option Value} {base : Heap} {a : Ad} {d : Fd}
theorem numV_full (z : Str) : numV z 0 (10 ^ 30) = numV z (-5) (10 ^ 30 - 1) := by
  cases e : numOf z with
  | none => rw [numV_none e, numV_none e]
  | some n =>
    have := num_lt e
    rw [numV_some e, numV_some e, if_pos (by omega), if_pos (by omega)]
theorem numV_data (z : Str) (lo hi : Int) (K : PySem.W.Frag) (H : Hp) : ∃ d, Dp K H (numV z lo hi) d ∧ Fit 0 d ∧ wt d ≤ 50 ∧ d = (match numV z lo hi with | .int n => PyData.int n | _ => PyData.none) := by
  cases e : numOf z with
  | none =>
    rw [numV_none e]
    exact ⟨.none, .non, .non, by simp only [wt]; decide, rfl⟩
  | some n =>
    have := num_lt e
    rw [numV_some e]
    by_cases c : lo ≤ n ∧ n ≤ hi
    · rw [if_pos c]
      exact ⟨.int n, .int n, .int (by omega), by simp only [wt]; decide, rfl⟩
    · rw [if_neg c]
      exact ⟨.none, .non, .non, by simp only [wt]; decide, rfl⟩
def spIntR : Sp := fun vs H Q _ => ∃ (b : Addr) (n : Nat), vs = [.ref b] ∧ BoxAt b n H ∧ n < 800000 ∧ ∀ H', Kp b H H' → BoxAt b (n + 200) H' → Q (.bl true) H'
theorem ok_intR (T : Txt K mg a d) : FnG P w K mg base CX0 3 a.intR d.intR ["_law_box_here"] spIntR := by
  have G_take := ok_take (P := P) (w := w) (base := base) T
  have G_digits := ok_digits (P := P) (w := w) (base := base) T
  have G_whole := ok_whole (P := P) (w := w) (base := base) T
  have G_parse := ok_parse (P := P) (w := w) (base := base) T
  obtain ⟨_, vparse0, bparse0⟩ := bp0 T
  obtain ⟨_, bparseL⟩ := bpL T
  obtain ⟨_, bparseH⟩ := bpH T
  obtain ⟨_, bparseLH⟩ := bpLH T
  obtain ⟨_, bparseA⟩ := bpA T
  refine okG T.F_intR scInts (fun vs H Q E h => ?_) (fun cdv A outer s H vs Q E hr hg h => ?_)
  · obtain ⟨b, n, rfl, _⟩ := h
    rfl
  · obtain ⟨b, n, rfl, hB, hn, q⟩ := h
    refine ⟨_, (pss_cons (ps_set (i := 1) scInts.nd rfl (Or.inl rfl) (Tp.pe_callG G_digits (hr.mono (by decide)) hg (by rfl) T.mg_digits T.F_digits.kp T.b_digits .nil pass0 (pa_cons (pv 0) pa_nil)))
      (pss_cons (ps_set (i := 2) scInts.nd rfl (Or.inl rfl) (Tp.pe_callG G_whole (hr.mono (by decide)) hg (by rfl) T.mg_whole T.F_whole.kp T.b_whole .nil pass0 (pa_cons (pv 1) (pa_cons pe_int (pa_cons (pe_op op_pow pe_int pe_int) pa_nil)))))
      (Evl.pss_cut (ps_set (i := 3) scInts.nd rfl (Or.inl rfl) (pe_ifExp (pt_cmpR op_notN (pv 2) pe_non (nomark _)) (pv 2) pe_int))
      (pss_cons (ps_set (i := 4) scInts.nd rfl (Or.inl rfl) (pe_callB (call_min2 rfl) (by rfl) T.min_ Tp.bt_min (pa_cons (pe_op op_sub (pe_op op_pow pe_int pe_int) pe_int) (pa_cons (pe_op op_add (pe_op op_sub (pv 3) (Tp.pe_callG G_take (hr.mono (by decide)) hg (by rfl) T.mg_take T.F_take.kp T.b_take .nil pass0 (pa_cons (pv 0) (pa_cons pe_int pa_nil)))) pe_int) pa_nil))))
      (pss_cons (ps_set (i := 5) scInts.nd rfl (Or.inl rfl) (pe_callB (call_min2 rfl) (by rfl) T.min_ Tp.bt_min (pa_cons (pe_op op_sub (pe_op op_pow pe_int pe_int) pe_int) (pa_cons (pe_op op_sub (pe_op op_add (pv 3) (Tp.pe_callG G_take (hr.mono (by decide)) hg (by rfl) T.mg_take T.F_take.kp T.b_take .nil pass0 (pa_cons (pv 0) (pa_cons pe_int pa_nil)))) pe_int) pa_nil))))
      (pss_cons (ps_set (i := 6) scInts.nd rfl (Or.inl rfl) (pe_lst (pa_cons (Tp.pe_callG G_parse (hr.mono (by decide)) hg (by rfl) T.mg_parse T.F_parse.kp bparse0 vparse0 pass0 (pa_cons (pv 1) pa_nil)) (pa_cons (Tp.pe_callGN G_parse (hr.mono (by decide)) hg (by rfl) T.mg_parse T.F_parse.kp bparseL pass0 (pa_cons (pv 1) pa_nil) (pk_cons (pv 4) pk_nil)) (pa_cons (Tp.pe_callGN G_parse (hr.mono (by decide)) hg (by rfl) T.mg_parse T.F_parse.kp bparseH pass0 (pa_cons (pv 1) pa_nil) (pk_cons (pv 5) pk_nil)) pa_nil)))))
      (pss_cons (ps_set (i := 6) scInts.nd rfl (Or.inl rfl) (pe_op op_cat (pv 6) (pe_lst (pa_cons (Tp.pe_callGN0 G_parse (hr.mono (by decide)) hg (by rfl) T.mg_parse T.F_parse.kp bparseA pass0 (pk_cons (pv 5) (pk_cons (pv 4) (pk_cons (pv 1) pk_nil)))) (pa_cons (Tp.pe_callGN G_parse (hr.mono (by decide)) hg (by rfl) T.mg_parse T.F_parse.kp bparseLH pass0 (pa_cons (pv 1) pa_nil) (pk_cons (pe_op op_sub pe_int pe_int) (pk_cons (pe_op op_sub (pe_op op_pow pe_int pe_int) pe_int) pk_nil))) pa_nil)))))
      (pss_cons (ps_set (i := 7) scInts.nd rfl (Or.inl rfl) (pe_lst (pa_cons (Tp.pe_callG G_whole (hr.mono (by decide)) hg (by rfl) T.mg_whole T.F_whole.kp T.b_whole .nil pass0 (pa_cons (pv 1) (pa_cons pe_int (pa_cons pe_int pa_nil)))) (pa_cons (Tp.pe_callG G_whole (hr.mono (by decide)) hg (by rfl) T.mg_whole T.F_whole.kp T.b_whole .nil pass0 (pa_cons (pv 1) (pa_cons (pv 4) (pa_cons pe_int pa_nil)))) (pa_cons (Tp.pe_callG G_whole (hr.mono (by decide)) hg (by rfl) T.mg_whole T.F_whole.kp T.b_whole .nil pass0 (pa_cons (pv 1) (pa_cons pe_int (pa_cons (pv 5) pa_nil)))) pa_nil)))))
      (pss_cons (ps_set (i := 7) scInts.nd rfl (Or.inl rfl) (pe_op op_cat (pv 7) (pe_lst (pa_cons (Tp.pe_callG G_whole (hr.mono (by decide)) hg (by rfl) T.mg_whole T.F_whole.kp T.b_whole .nil pass0 (pa_cons (pv 1) (pa_cons (pv 4) (pa_cons (pv 5) pa_nil)))) (pa_cons (pv 2) pa_nil)))))
      (pss_one (ps_ret (pe_cmpR op_eq (pe_callB (Tp.call_reprD hr hg) (by rfl) T.repr_ Tp.bt_repr (pa_cons (pv 6) pa_nil)) (pe_callB (Tp.call_reprD hr hg) (by rfl) T.repr_ Tp.bt_repr (pa_cons (pv 7) pa_nil)) (nomark _))))))))))))), ?_⟩
    refine ⟨_, rfl, b, n, rfl, hB, by omega, fun z H1 zl k1 B1 => ?_⟩
    have zl' : z.length ≤ 10000 := by omega
    refine ⟨_, rfl, _, _, rfl, rfl, ⟨by decide, by decide, by decide⟩, z, _, _, rfl, zl', ?_⟩
    have pz := numV_data z 0 (10 ^ 30) K H1
    refine ⟨fun σ H' => H' = H1 ∧ ∃ mid : Int, 0 ≤ mid ∧ mid < 10 ^ 30 ∧ σ = [some (.ref b), some (.str z), some (numV z 0 (10 ^ 30)), some (.int mid), none, none, none, none], ?_, ?_⟩
    · refine ⟨_, rfl, rfl, _, rfl, ifn2 (fun c => ⟨rfl, 7, by decide, by decide, rfl⟩) (fun c => ?_)⟩
      cases e : numOf z with
      | none => exact (c (numV_none e)).elim
      | some m =>
        have ml := num_lt e
        have e2 : numV z 0 (10 ^ 30) = .int m := by rw [numV_some e, if_pos (by omega)]
        refine ⟨_, rfl, rfl, m, ml.1, ml.2, ?_⟩
        show [_, _, some (numV z 0 (10 ^ 30)), some (numV z 0 (10 ^ 30)), _, _, _, _] = _
        rw [e2]
    · rintro σ H' ⟨rfl, mid, m0, m1, rfl⟩
      refine ⟨_, _, rfl, rfl, ⟨by decide, by decide, by decide⟩, _, _, rfl, rfl, _, rfl, _, rfl, b, 3, _, rfl, B1, by omega, by decide, by decide, fun r1 H2 a2 b2 k2 B2 => ?_⟩
      refine ⟨_, _, rfl, rfl, _, _, rfl, rfl, _, _, rfl, ?_⟩
      generalize hfl : (if (mid - r1 + 1 < 10 ^ Int.toNat 30 - 1) then mid - r1 + 1 else 10 ^ Int.toNat 30 - 1) = fl
      refine ⟨_, _, rfl, rfl, ⟨by decide, by decide, by decide⟩, _, _, rfl, rfl, _, rfl, _, rfl, b, 3, _, rfl, B2, by omega, by decide, by decide, fun r2 H3 a3 b3 k3 B3 => ?_⟩
      refine ⟨_, _, rfl, rfl, _, _, rfl, rfl, _, _, rfl, ?_⟩
      generalize hro : (if (mid + r2 - 1 < 10 ^ Int.toNat 30 - 1) then mid + r2 - 1 else 10 ^ Int.toNat 30 - 1) = ro
      have K3 := (k1.trans k2).trans k3
      have B3' : BoxAt b (n + 200) H3 := B3.up (by omega)
      clear hfl hro k1 k2 k3 B1 B2 B3 hB
      refine ⟨_, rfl, _, _, _, rfl, .inl ⟨z, rfl, zl', ?_⟩⟩
      refine ⟨_, rfl, _, rfl, rfl, rfl, _, _, _, rfl, .inl ⟨z, rfl, zl', ?_⟩⟩
      refine ⟨_, rfl, _, rfl, rfl, rfl, _, _, _, rfl, .inl ⟨z, rfl, zl', ?_⟩⟩
      refine ⟨(show 3 ≤ sizeLine from by decide), fun p1 n1 => ?_⟩
      have h1 : (upd H3 p1 (.lst [numV z 0 999999, numV z fl 999999, numV z 0 ro])) p1 = some (.lst [numV z 0 999999, numV z fl 999999, numV z 0 ro]) := upd_same
      have S1 := same_new (o := .lst [numV z 0 999999, numV z fl 999999, numV z 0 ro]) n1
      refine ⟨_, rfl, _, rfl, _, rfl, _, rfl, rfl, _, _, _, rfl, .inl ⟨z, rfl, zl', ?_⟩⟩
      refine ⟨_, rfl, _, _, rfl, rfl, _, _, rfl, rfl, ⟨by decide, by decide, by decide⟩, _, _, rfl, rfl, rfl, rfl, _, _, _, rfl, .inl ⟨z, rfl, zl', ?_⟩⟩
      show 2 ≤ sizeLine ∧ ∀ p, (upd H3 p1 (.lst [numV z 0 999999, numV z fl 999999, numV z 0 ro])) p = none → _
      generalize hH4 : upd H3 p1 (.lst [numV z 0 999999, numV z fl 999999, numV z 0 ro]) = H4 at h1 S1
      refine ⟨by decide, fun p2 n2 => ?_⟩
      refine ⟨_, _, _, _, rfl, rfl, same_new n2 _ _ h1, upd_same, (show 5 ≤ sizeLine from by decide), fun p3 n3 => ?_⟩
      have S3 : Same H3 (upd (upd H4 p2 (.lst [numV z fl ro, numV z (0 - 5) (10 ^ Int.toNat 30 - 1)])) p3 (.lst ([numV z 0 999999, numV z fl 999999, numV z 0 ro] ++ [numV z fl ro, numV z (0 - 5) (10 ^ Int.toNat 30 - 1)]))) := (S1.trans (same_new n2)).trans (same_new n3)
      have h3 : (upd (upd H4 p2 (.lst [numV z fl ro, numV z (0 - 5) (10 ^ Int.toNat 30 - 1)])) p3 (.lst ([numV z 0 999999, numV z fl 999999, numV z 0 ro] ++ [numV z fl ro, numV z (0 - 5) (10 ^ Int.toNat 30 - 1)]))) p3 = some (.lst [numV z 0 999999, numV z fl 999999, numV z 0 ro, numV z fl ro, numV z (0 - 5) (10 ^ Int.toNat 30 - 1)]) := upd_same
      generalize upd (upd H4 p2 _) p3 _ = H5 at S3 h3 ⊢
      clear n3 n2 h1 S1 hH4 n1
      refine ⟨_, rfl, z, _, _, rfl, zl', ?_⟩
      refine ⟨_, rfl, _, rfl, z, _, _, rfl, zl', ?_⟩
      refine ⟨_, rfl, _, rfl, z, _, _, rfl, zl', ?_⟩
      refine ⟨(show 3 ≤ sizeLine from by decide), fun p4 n4 => ?_⟩
      have h4 : (upd H5 p4 (.lst [numV z 0 999999, numV z fl 999999, numV z 0 ro])) p4 = some (.lst [numV z 0 999999, numV z fl 999999, numV z 0 ro]) := upd_same
      have S4 := same_new (o := .lst [numV z 0 999999, numV z fl 999999, numV z 0 ro]) n4
      generalize upd H5 p4 _ = H6 at S4 h4 ⊢
      refine ⟨_, rfl, _, rfl, _, rfl, _, rfl, z, _, _, rfl, zl', ?_⟩
      refine ⟨_, rfl, (show 2 ≤ sizeLine from by decide), fun p5 n5 => ?_⟩
      refine ⟨_, _, _, _, rfl, rfl, same_new n5 _ _ h4, upd_same, (show 5 ≤ sizeLine from by decide), fun p6 n6 => ?_⟩
      have S6 := (S4.trans (same_new (o := .lst [numV z fl ro, numV z 0 (10 ^ 30)]) n5)).trans (same_new (o := .lst ([numV z 0 999999, numV z fl 999999, numV z 0 ro] ++ [numV z fl ro, numV z 0 (10 ^ 30)])) n6)
      have h6 : (upd (upd H6 p5 (.lst [numV z fl ro, numV z 0 (10 ^ 30)])) p6 (.lst ([numV z 0 999999, numV z fl 999999, numV z 0 ro] ++ [numV z fl ro, numV z 0 (10 ^ 30)]))) p6 = some (.lst [numV z 0 999999, numV z fl 999999, numV z 0 ro, numV z fl ro, numV z 0 (10 ^ 30)]) := upd_same
      generalize upd (upd H6 p5 _) p6 _ = H7 at S6 h6 ⊢
      clear n6 n5 h4 S4 n4
      have e5 : numV z (0 - 5) (10 ^ Int.toNat 30 - 1) = numV z 0 (10 ^ 30) := (numV_full z).symm
      rw [e5] at h3
      have dat : ∀ p, H7 p = some (.lst [numV z 0 999999, numV z fl 999999, numV z 0 ro, numV z fl ro, numV z 0 (10 ^ 30)]) → ∃ dd, Dp K H7 (.ref p) (.list dd) ∧ Fit 1 (.list dd) ∧ wt (.list dd) ≤ 1000 ∧ dd = [numV z 0 999999, numV z fl 999999, numV z 0 ro, numV z fl ro, numV z 0 (10 ^ 30)].map (fun v => match v with | .int n => PyData.int n | _ => PyData.none) := by
        intro p hp
        obtain ⟨d1, x1, f1, w1, e1⟩ := numV_data z 0 999999 K H7
        obtain ⟨d2, x2, f2, w2, e2⟩ := numV_data z fl 999999 K H7
        obtain ⟨d3, x3, f3, w3, e3⟩ := numV_data z 0 ro K H7
        obtain ⟨d4, x4, f4, w4, e4⟩ := numV_data z fl ro K H7
        obtain ⟨d5, x5, f5, w5, e5⟩ := numV_data z 0 (10 ^ 30) K H7
        refine ⟨[d1, d2, d3, d4, d5], .lst (SqL.of hp) (.cons x1 (.cons x2 (.cons x3 (.cons x4 (.cons x5 .nil))))), .lst ?_, ?_, ?_⟩
        · intro x hx
          simp only [List.mem_cons, List.not_mem_nil, or_false] at hx
          rcases hx with rfl | rfl | rfl | rfl | rfl <;> assumption
        · simp only [wt, wtAll]
          omega
        · rw [e1, e2, e3, e4, e5]
          rfl
      obtain ⟨da, xa, fa, wa, ea⟩ := dat p3 (S6 _ _ h3)
      obtain ⟨db, xb, fb, wb, eb⟩ := dat p6 h6
      have eab : da = db := ea.trans eb.symm
      subst eab
      obtain ⟨g1, g2, g3, g4⟩ := fit4 fa (by decide) (by omega)
      refine ⟨_, rfl, _, _, rfl, xa, g1, g2, g3, g4, _, rfl, _, _, rfl, xb, g1, g2, g3, g4, rfl, ?_⟩
      show Q (.bl (decide (_ = _))) _
      rw [decide_eq_true rfl]
      exact q _ ((K3.same S3).same S6) ((B3'.same S3).same S6)
end
end L03

set_option Elab.async false
set_option linter.all false
set_option maxRecDepth 100000
set_option maxHeartbeats 4000000
namespace L03
open PySem L2 Tp
section
variable {P : Program} {w : World} {K : PySem.W.Frag} {mg : Str → Option Value} {base : Heap} {a : Ad} {d : Fd}
theorem split_len (z y : Str) : (Txt.split z y).length ≤ z.length + 2 := by
  unfold Txt.split
  split
  · simp
  · split
    · simp
    · rw [length_partsBetween]
      have := StrLaws.occ_length_le z y 0 z.length (z.length + 1)
      omega
def notE (x : Str) : Bool := !decide (V.str x = V.str "")
/-- the words are all right -/
def WOk (z y : Str) : Prop := 10 ∉ z.cps.toList ∧ (Txt.split z y).all notE = true
def spSplit (K : PySem.W.Frag) : Sp := fun vs H Q _ => ∃ (v : V) (y : Str), vs = [v, .str y] ∧ y.length ≠ 0 ∧
  ((∃ z : Str, v = .str z ∧ z.length ≤ 10000 ∧ (¬ WOk z y → ∀ H', Same H H' → Q .non H') ∧ (WOk z y → ∀ p H', H p = none → Same H H' → H' p = some (.lst ((Txt.split z y).map V.str)) → Q (.ref p) H')) ∨ (NoStr K H v ∧ Q .non H))
theorem bs0 (T : Txt K mg a d) : ∃ ds, Vals [V.str " "] ds ∧ Binds K d.split ["text", "separator"] ds :=
  T.F_split.binds0 1 (by simp) rfl fun D doc pm an cdv ct us ks hu hk => match us, hu, ks, hk with
    | [_], _, [_], _ => ⟨_, _, _, _, _, _, rfl, rfl, rfl⟩
theorem bsS (T : Txt K mg a d) : ∃ mv : List Value, KBn K d.split ["text", "separator"] 1 ["separator"] (fun us ws => us ++ ws) (fun vs zs => vs ++ zs) :=
  kb0 T.F_split 1 ["separator"] [] (fun us _ ws => us ++ ws) (by simp) (by simp) (fun r1 r2 r3 => r1.append r3) fun D doc pm an cdv ct us mv ws hu hm hw => match us, hu, ws, hw with
    | [_], _, [_], _ => rfl
def rev2 {α : Type} : List α → List α
  | [s, t] => [t, s]
  | x => x
theorem rev2_rel {zs : List V} {ws : List Value} (r : Vals zs ws) : Vals (rev2 zs) (rev2 ws) := by
  cases r with
  | nil => exact .nil
  | cons r1 r =>
    cases r with
    | nil => exact .cons r1 .nil
    | cons r2 r =>
      cases r with
      | nil => exact .cons r2 (.cons r1 .nil)
      | cons r3 r => exact .cons r1 (.cons r2 (.cons r3 r))
theorem bsA (T : Txt K mg a d) : ∃ mv : List Value, KBn K d.split ["text", "separator"] 0 ["separator", "text"] (fun us ws => rev2 ws) (fun vs zs => rev2 zs) :=
  kb0 T.F_split 0 ["separator", "text"] [] (fun _ _ ws => rev2 ws) (by simp) (by simp) (fun r1 r2 r3 => rev2_rel r3) fun D doc pm an cdv ct us mv ws hu hm hw => match us, hu, ws, hw with
    | [], _, [_, _], _ => rfl
theorem ok_split (T : Txt K mg a d) : FnG P w K mg base CX0 1 a.split d.split ["text", "separator"] (spSplit K) := by
  refine okGD T.F_split scSplit (fun vs H Q E h => ?_) (fun cdv A outer s H vs Q E hr hg h => ?_)
  · obtain ⟨v, y, rfl, _⟩ := h
    rfl
  · obtain ⟨v, y, rfl, y0, h⟩ := h
    refine ⟨_, (pss_cons (ps_if (PW.pt (pw_or (pt_not (pt_val (pe_callB call_isi (by rfl) T.isinstance_ Tp.bt_isinstance (pa_cons (pv 0) (pa_cons (pe_bltn (v := .ty "str") (by rfl) T.str_ Tp.bt_str rfl) pa_nil))))) (pw_or1 (pt_cmpR op_gt (pe_bm PySem.F.plainAttrs_str PySem.F.slot_str_count PySem.F.type_str_count mt_count (pv 0) (pa_cons pe_str pa_nil)) pe_int (nomark _))))) (pss_one (ps_ret pe_non)) pss_nil)
      (pss_cons (ps_set (i := 2) scSplit.nd rfl (Or.inl rfl) (pe_split (pv 0) (pv 1)))
      (pss_one (ps_ret (pe_ifExp (pt_val (pe_callB (cr_all rfl) (by rfl) T.all_ Tp.bt_all (pa_cons (pe_lc (own := [("word", 3)]) (by rfl) scSplit.nd (pi_list (pv 2)) (blkOk_by (own := [("word", 3)]) (N := scSplit_N) (sc := defScope scSplit_st) (by decide +kernel)) (fun _ _ _ _ _ => (pg_name (i := 3) scSplit.nd rfl (Or.inl rfl))) (fun _ _ _ _ _ => pts_nil) (fun _ _ _ _ _ => (pe_cmpR op_ne (pv 3) pe_str (nomark _)))) pa_nil))) (pv 2) pe_non))))), ?_⟩
    rcases h with ⟨z, rfl, hz, q1, q2⟩ | ⟨⟨t, ty, kt⟩, q⟩
    · have hz' : z.length ≤ sizeLine := Nat.le_trans hz (by decide)
      refine ⟨_, rfl, _, _, _, _, true, rfl, .ty _, .base (.str z), kit_ty (by decide +kernel), _, rfl, iteF ?_⟩
      have nl : ("\n" : Str) = ⟨#[10]⟩ := by decide +kernel
      have cnt : decide (0 < Txt.count z "\n") = decide (10 ∈ z.cps.toList) := by rw [nl]; exact count_one z 10
      refine ⟨_, rfl, rfl, z, _, rfl, rfl, _, _, rfl, rfl, _, rfl, ?_⟩
      show if decide (0 < Txt.count z "\n") = true then _ else _
      rw [cnt]
      refine if2 (fun c => q1 (fun h => h.1 c) H (Same.refl H)) (fun c => ?_)
      refine ⟨_, rfl, ⟨_, rfl⟩, _, rfl, z, y, rfl, rfl, beq_eq_false_iff_ne.mpr y0, Nat.le_trans (show z.length + 2 ≤ 20000 by omega) (by decide), fun p hp => ?_⟩
      have hl := split_len z y
      generalize hws : Txt.split z y = ws at hl q2
      have h1 : (upd H p (.lst (ws.map V.str))) p = some (.lst (ws.map V.str)) := upd_same
      have S1 := same_new (o := .lst (ws.map V.str)) hp
      generalize upd H p (.lst (ws.map V.str)) = H1 at h1 S1 ⊢
      refine ⟨_, rfl, p, rfl, ⟨_, SqL.of h1⟩, fun D hD => lc_list (K := K) (a := p) (xs := ws.map V.str) (fun i H' => Same H1 H' ∧ H' D = some (.lst (((ws.take i).map notE).map V.bl))) ⟨same_new hD, upd_same⟩ (fun i H' _ h => SqL.of (h.1 _ _ h1)) ?_ ?_⟩
      · rintro i x H' hx ⟨S2, h2⟩
        rw [List.getElem?_map] at hx
        obtain ⟨u, hu, rfl⟩ := Option.map_eq_some_iff.mp hx
        refine ⟨rfl, _, rfl, rfl, _, h2, ?_, Tp.Same.mut S2 hD, ?_⟩
        · rw [List.length_map, List.length_map, List.length_take]
          exact Nat.lt_of_lt_of_le (show _ < 20000 by omega) (by decide)
        · rw [upd_same, List.take_add_one, hu, List.map_append, List.map_append]
          rfl
      · rintro H' ⟨S2, h2⟩
        rw [List.length_map, List.take_length] at h2
        refine ⟨D, ws.map notE, rfl, SqL.of h2, _, rfl, ifB (fun c' => ?_) (fun c' => ?_)⟩
        · refine ⟨_, rfl, q2 ⟨c, ?_⟩ p H' hp (S1.trans S2) (S2 _ _ h1)⟩
          rw [hws]
          rw [List.all_map] at c'
          exact c'
        · refine q1 (fun h => ?_) H' (S1.trans S2)
          have h := h.2
          rw [hws] at h
          rw [List.all_map] at c'
          exact absurd (h.symm.trans c') (by decide)
    · exact ⟨_, rfl, _, _, _, _, false, rfl, .ty _, ty, kt, _, rfl, iteT q⟩
end
end L03

set_option Elab.async false
set_option linter.all false
set_option maxRecDepth 100000
set_option maxHeartbeats 4000000
namespace L03
open PySem L2 Tp
section
variable {P : Program} {w : World} {K : PySem.W.Frag} {mg : Str → Option Value} {base : Heap} {a : Ad} {d : Fd}
theorem nl_eq : ("\n" : Str) = ⟨#[10]⟩ := by decide +kernel
theorem in_empty : ∀ ws : List Str, inV (.str "") (ws.map V.str) = !(ws.all notE)
  | [] => rfl
  | x :: ws => by
    have ih := in_empty ws
    unfold inV at ih ⊢
    rw [List.map_cons, List.any_cons, ih, List.all_cons, Bool.not_and]
    have e : eqV (V.str x) (V.str "") = !(notE x) := by
      unfold notE
      rw [Bool.not_not]
      show (x == ("" : Str)) = decide (V.str x = V.str "")
      by_cases h : x = ""
      · rw [h, decide_eq_true rfl]
        exact beq_self_eq_true _
      · rw [decide_eq_false fun q => h (V.str.inj q)]
        exact beq_eq_false_iff_ne.mpr h
    rw [e]
theorem flat_strs (ws : List Str) : (ws.map V.str).all flatV = true := by
  rw [List.all_map]
  exact List.all_eq_true.mpr fun _ _ => rfl
def spWordR : Sp := fun vs H Q _ => ∃ (b : Addr) (n : Nat), vs = [.ref b] ∧ BoxAt b n H ∧ n < 800000 ∧ ∀ H', Kp b H H' → BoxAt b (n + 1000) H' → Q (.bl true) H'
theorem ok_wordR (T : Txt K mg a d) : FnG P w K mg base CX0 2 a.wordR d.wordR ["_law_box_here"] spWordR := by
  have G_take := ok_take (P := P) (w := w) (base := base) T
  have G_split := ok_split (P := P) (w := w) (base := base) T
  obtain ⟨_, vsplit0, bsplit0⟩ := bs0 T
  obtain ⟨_, bsplitS⟩ := bsS T
  obtain ⟨_, bsplitA⟩ := bsA T
  refine okG T.F_wordR scWords (fun vs H Q E h => ?_) (fun cdv A outer s H vs Q E hr hg h => ?_)
  · obtain ⟨b, n, rfl, _⟩ := h
    rfl
  · obtain ⟨b, n, rfl, hB, hn, q⟩ := h
    refine ⟨_, (pss_cons (ps_set (i := 1) scWords.nd rfl (Or.inr rfl) pe_str)
      (pss_cons (ps_set (i := 1) scWords.nd rfl (Or.inr rfl) (pe_op op_add_str (pv 1) pe_str))
      (pss_cons (ps_set (i := 2) scWords.nd rfl (Or.inr rfl) (pe_ix ix_list (pe_lst (pa_cons pe_str (pa_cons pe_str (pa_cons pe_str (pa_cons (pe_ix ix_str (pv 1) (Tp.pe_callG G_take (hr.mono (by decide)) hg (by rfl) T.mg_take T.F_take.kp T.b_take .nil pass0 (pa_cons (pv 0) (pa_cons (pe_callB call_len_str (by rfl) T.len_ Tp.bt_len (pa_cons (pv 1) pa_nil)) pa_nil))) (fun _ _ => rfl)) pa_nil))))) (Tp.pe_callG G_take (hr.mono (by decide)) hg (by rfl) T.mg_take T.F_take.kp T.b_take .nil pass0 (pa_cons (pv 0) (pa_cons pe_int pa_nil))) (fun _ _ => rfl)))
      (pss_cons (ps_set (i := 3) scWords.nd rfl (Or.inl rfl) (pe_lst pa_nil))
      (pss_cons (ps_for PassesOwn.never rfl (pi_range1 (by rfl) T.range_ (pa_cons (pe_op op_add pe_int (Tp.pe_callG G_take (hr.mono (by decide)) hg (by rfl) T.mg_take T.F_take.kp T.b_take .nil pass0 (pa_cons (pv 0) (pa_cons (pe_ix ix_list (pe_lst (pa_cons pe_int (pa_cons pe_int pa_nil))) (Tp.pe_callG G_take (hr.mono (by decide)) hg (by rfl) T.mg_take T.F_take.kp T.b_take .nil pass0 (pa_cons (pv 0) (pa_cons pe_int pa_nil))) (fun _ _ => rfl)) pa_nil)))) pa_nil)) (pg_name (i := 4) scWords.nd rfl (Or.inl rfl)) (pss_cons (ps_set (i := 5) scWords.nd rfl (Or.inl rfl) (pe_join pe_str (pe_lc (own := [("_law_j", 13)]) (by rfl) scWords.nd (pi_range1 (by rfl) T.range_ (pa_cons (pe_op op_add pe_int (Tp.pe_callG G_take (hr.mono (by decide)) hg (by rfl) T.mg_take T.F_take.kp T.b_take .nil pass0 (pa_cons (pv 0) (pa_cons pe_int pa_nil)))) pa_nil)) (blkOk_by (own := [("_law_j", 13)]) (N := scWords_N) (sc := defScope scWords_st) (by decide +kernel)) (fun _ _ _ _ _ => (pg_name (i := 13) scWords.nd rfl (Or.inl rfl))) (fun _ _ _ _ _ => pts_nil) (fun _ _ _ _ _ => (pe_ix ix_str (pv 1) (Tp.pe_callG G_take (hr.mono (by decide)) hg (by rfl) T.mg_take T.F_take.kp T.b_take .nil pass0 (pa_cons (pv 0) (pa_cons (pe_callB call_len_str (by rfl) T.len_ Tp.bt_len (pa_cons (pv 1) pa_nil)) pa_nil))) (fun _ _ => rfl))))))
      (pss_one (ps_expr (pe_bm PySem.F.plainAttrs_list PySem.F.slot_list_append PySem.F.type_list_append mt_append (pv 3) (pa_cons (pv 5) pa_nil))))))
      (pss_cons (ps_setLc (i := 6) (own := [("_law_word", 5)]) (by rfl) scWords.nd rfl rfl (sw_true rfl rfl rfl (by decide +kernel)) (pi_list (pv 3)) (blkOk_by (own := [("_law_word", 5)]) (N := scWords_N) (sc := defScope scWords_st) (by decide +kernel)) (fun _ _ _ _ _ => (pg_name (i := 5) scWords.nd rfl (Or.inl rfl))) (fun _ _ _ _ _ => (pts_one (pt_cmpR op_notIn_str (pv 2) (pv 5) (by rfl)))) (fun _ _ _ _ _ => (pv 5)))
      (pss_cons (ps_set (i := 7) scWords.nd rfl (Or.inl rfl) (pe_join (pv 2) (pv 3)))
      (pss_cons (ps_par (i := 8) (j := 9) (by rfl) scWords.nd rfl rfl (by decide) rfl rfl (pa_cons (Tp.pe_callG G_take (hr.mono (by decide)) hg (by rfl) T.mg_take T.F_take.kp T.b_take .nil pass0 (pa_cons (pv 0) (pa_cons pe_int pa_nil))) (pa_cons (Tp.pe_callG G_take (hr.mono (by decide)) hg (by rfl) T.mg_take T.F_take.kp T.b_take .nil pass0 (pa_cons (pv 0) (pa_cons (pe_op op_add (pe_callB call_len_str (by rfl) T.len_ Tp.bt_len (pa_cons (pv 7) pa_nil)) pe_int) pa_nil))) pa_nil)) (by rfl))
      (pss_cons (ps_set (i := 10) scWords.nd rfl (Or.inl rfl) (pe_lst (pa_cons (pv 7) (pa_cons (pe_op op_add_str (pe_op op_add_str (pe_slice sl_str (pv 7) po_none (po_some (pv 9))) (pv 2)) (pe_slice sl_str (pv 7) (po_some (pv 9)) po_none)) (pa_cons (pe_op op_add_str (pv 7) (pv 2)) (pa_cons (pe_op op_add_str (pv 2) (pv 7)) (pa_cons (pe_op op_add_str (pe_op op_add_str (pe_slice sl_str (pv 7) po_none (po_some (pv 9))) pe_str) (pe_slice sl_str (pv 7) (po_some (pv 9)) po_none)) pa_nil)))))))
      (pss_cons (ps_set (i := 7) scWords.nd rfl (Or.inl rfl) (pe_ix ix_list (pe_op op_cat (pv 10) (pe_lst (pa_cons (pe_join (pv 2) (pv 6)) pa_nil))) (pv 8) (fun _ _ => rfl)))
      (pss_cons (ps_set (i := 11) scWords.nd rfl (Or.inl rfl) (pe_split (pv 7) (pv 2)))
      (Evl.pss_cut (ps_if (PW.pt (pw_or (pt_cmpR op_in_seq pe_str (pv 11) (by rfl)) (pw_or1 (pt_cmpR op_in_sign pe_str (pv 7) (by rfl))))) (pss_one (ps_set (i := 11) scWords.nd rfl (Or.inl rfl) pe_non)) pss_nil)
      (pss_cons (ps_set (i := 12) scWords.nd rfl (Or.inl rfl) (pe_lst (pa_cons (Tp.pe_callGN G_split (hr.mono (by decide)) hg (by rfl) T.mg_split T.F_split.kp bsplitS pass0 (pa_cons (pv 7) pa_nil) (pk_cons (pv 2) pk_nil)) (pa_cons (Tp.pe_callGN0 G_split (hr.mono (by decide)) hg (by rfl) T.mg_split T.F_split.kp bsplitA pass0 (pk_cons (pv 2) (pk_cons (pv 7) pk_nil))) pa_nil))))
      (pss_cons (ps_if (pt_cmpR op_eq (pv 2) pe_str (nomark _)) (pss_cons (ps_expr (pe_bm PySem.F.plainAttrs_list PySem.F.slot_list_append PySem.F.type_list_append mt_append (pv 12) (pa_cons (Tp.pe_callG G_split (hr.mono (by decide)) hg (by rfl) T.mg_split T.F_split.kp bsplit0 vsplit0 pass0 (pa_cons (pv 7) pa_nil)) pa_nil)))
      (pss_one (ps_ret (pe_cmpR op_eq (pe_callB (Tp.call_reprD hr hg) (by rfl) T.repr_ Tp.bt_repr (pa_cons (pv 12) pa_nil)) (pe_callB (Tp.call_reprD hr hg) (by rfl) T.repr_ Tp.bt_repr (pa_cons (pe_lst (pa_cons (pv 11) (pa_cons (pv 11) (pa_cons (pv 11) pa_nil)))) pa_nil)) (nomark _))))) pss_nil)
      (pss_one (ps_ret (pe_cmpR op_eq (pe_callB (Tp.call_reprD hr hg) (by rfl) T.repr_ Tp.bt_repr (pa_cons (pv 12) pa_nil)) (pe_callB (Tp.call_reprD hr hg) (by rfl) T.repr_ Tp.bt_repr (pa_cons (pe_lst (pa_cons (pv 11) (pa_cons (pv 11) pa_nil))) pa_nil)) (nomark _)))))))))))))))))), ?_⟩
    refine ⟨_, rfl, _, _, rfl, rfl, by decide, ?_⟩
    generalize hL : (Str.ofString _ ++ Str.ofString _ : Str) = L
    have Ll : L.length = 94 := by rw [← hL]; decide +kernel
    have Lc : Sm 94 L := ⟨Nat.le_of_eq Ll, by rw [← hL]; decide +kernel⟩
    clear hL
    have Ls : L.length ≤ sizeLine := by rw [Ll]; decide
    refine ⟨_, rfl, _, rfl, _, rfl, L, rfl, Ls, b, _, n, rfl, hB, by omega, by omega, by omega, fun r1 H1 a1 b1 k1 B1 => ?_⟩
    obtain ⟨c1, hc1, c1s⟩ := Lc.at a1 b1
    refine ⟨_, _, c1, rfl, rfl, Ls, hc1, (show 4 ≤ sizeLine from by decide), fun l hl => ?_⟩
    refine ⟨_, rfl, b, 4, _, rfl, B1.same (same_new hl), by omega, by decide, by decide, fun r2 H2 a2 b2 k2 B2 => ?_⟩
    have hl2 := k2 _ _ (B1.ne hl) upd_same
    obtain ⟨v, hv, mk, rfl, mkl, mkc⟩ := at_some (xs := [V.str " ", .str ":", .str ",", .str ⟨#[c1]⟩]) (r := r2) (P := fun v => ∃ m : Str, v = .str m ∧ m.length = 1 ∧ Sm 1 m) (by
      intro x hx
      simp only [List.mem_cons, List.not_mem_nil, or_false] at hx
      rcases hx with rfl | rfl | rfl | rfl
      · exact ⟨_, rfl, by decide +kernel, by decide +kernel, by decide +kernel⟩
      · exact ⟨_, rfl, by decide +kernel, by decide +kernel, by decide +kernel⟩
      · exact ⟨_, rfl, by decide +kernel, by decide +kernel, by decide +kernel⟩
      · exact ⟨_, rfl, rfl, Sm.one c1s⟩) a2 b2
    refine ⟨l, _, _, _, rfl, rfl, SqL.of hl2, hv, ?_⟩
    have K2 : Kp b H H2 := (k1.trans (Kp.new hl)).trans k2
    clear hv hl2 k1 k2 hl hc1 B1 hB
    refine ⟨Nat.zero_le _, fun lw nw => ?_⟩
    have nwb : lw ≠ b := B2.ne nw
    have hw0 : (upd H2 lw (.lst [])) lw = some (.lst []) := upd_same
    have K3 : Kp b H (upd H2 lw (.lst [])) := K2.trans (Kp.new nw)
    have B3 : BoxAt b (n + 2) (upd H2 lw (.lst [])) := B2.same (same_new nw)
    have fr3 : H lw = none ∨ lw = b := by
      by_cases z : lw = b
      · exact .inr z
      · refine .inl ?_
        cases e : H lw with
        | none => rfl
        | some o =>
          rw [K2 _ _ z e] at nw
          cases nw
    have fr : H lw = none := fr3.resolve_right nwb
    clear fr3
    generalize upd H2 lw (.lst []) = H3 at hw0 K3 B3 ⊢
    clear nw K2 B2
    refine ⟨_, rfl, (show 2 ≤ sizeLine from by decide), fun l2 n2 => ?_⟩
    refine ⟨_, rfl, b, 2, _, rfl, B3.same (same_new n2), by omega, by decide, by decide, fun r3 H4 a4 b4 k4 B4 => ?_⟩
    have hl2 := k4 _ _ (B3.ne n2) upd_same
    obtain ⟨v, hv, m, rfl, m0, m1⟩ := at_some (xs := [V.int 4, .int 40]) (r := r3) (P := fun v => ∃ m : Int, v = .int m ∧ 1 ≤ m ∧ m ≤ 40) (by
      intro x hx
      simp only [List.mem_cons, List.not_mem_nil, or_false] at hx
      rcases hx with rfl | rfl
      all_goals exact ⟨_, rfl, by decide, by decide⟩) a4 b4
    refine ⟨l2, _, _, _, rfl, rfl, SqL.of hl2, hv, b, m, _, rfl, B4, by omega, by omega, by omega, fun r4 H5 a5 b5 k5 B5 => ⟨_, _, rfl, rfl, ?_⟩⟩
    have hw5 : H5 lw = some (.lst []) := k5 _ _ nwb (k4 _ _ nwb (same_new n2 _ _ hw0))
    have K5 : Kp b H H5 := ((K3.trans (Kp.new n2)).trans k4).trans k5
    clear hv hl2 k4 k5 n2 B4 B3 K3 hw0
    refine ⟨_, rfl, by omega, by omega, for_range (lo := 0) (n := (1 + r4).toNat) (fun i σ H' => BoxAt b (n + 10 + 10 * i) H' ∧ Kp b H H' ∧ ∃ (ws : List Str) (v4 v5 : Option V), H' lw = some (.lst (ws.map V.str)) ∧ ws.length = i ∧ (∀ x ∈ ws, Sm 5 x) ∧
        σ = [some (.ref b), some (.str L), some (.str mk), some (.ref lw), v4, v5, none, none, none, none, none, none, none, none])
      ⟨B5.up (by omega), K5, [], none, none, hw5, rfl, (by simp), rfl⟩ ?_ ?_⟩
    · rintro i σ H6 hi ⟨B6, K6, ws, v4, v5, hw, lw1, sm, rfl⟩
      refine ⟨⟨_, rfl⟩, _, rfl, b, 5, _, rfl, B6, by omega, by decide, by decide, fun r H7 a7 b7 k7 B7 => ⟨_, _, rfl, rfl, _, rfl, by omega, by omega, fun D hD => ?_⟩⟩
      have hw7 := k7 _ _ nwb hw
      have nDb : D ≠ b := B7.ne hD
      refine lc_range (lo := 0) (n := (1 + r).toNat) (fun j H' => BoxAt b (n + 11 + 10 * i + j) H' ∧ Kp b H7 H' ∧ ∃ ys : List Str, H' D = some (.lst (ys.map V.str)) ∧ ys.length = j ∧ ∀ y ∈ ys, Sm 1 y)
        ⟨(B7.same (same_new hD)).up (by omega), Kp.new hD, [], upd_same, rfl, (by simp)⟩ ?_ ?_
      · rintro j H8 hj ⟨B8, k8, ys, hy, ly, sy⟩
        refine ⟨rfl, _, rfl, _, rfl, _, rfl, L, rfl, Ls, b, _, _, rfl, B8, by omega, by omega, by omega, fun r9 H9 a9 b9 k9 B9 => ?_⟩
        obtain ⟨c, hc, cs⟩ := Lc.at a9 b9
        refine ⟨_, _, c, rfl, rfl, Ls, hc, _, k9 _ _ nDb hy, ?_, (B9.off nDb).up (by omega), (k8.trans k9).mut hD, ys ++ [⟨#[c]⟩], ?_, by simp [ly], ?_⟩
        · rw [List.length_map]
          exact Nat.lt_of_lt_of_le (show ys.length < 100 by omega) (by decide)
        · rw [upd_same, List.map_append]
          rfl
        · intro y hy
          rcases List.mem_append.mp hy with hy | hy
          · exact sy y hy
          · rw [List.mem_singleton.mp hy]
            exact Sm.one cs
      · rintro H8 ⟨B8, k8, ys, hy, ly, sy⟩
        have sl := sum_len fun y hy => (sy y hy).1
        have e0 : ("" : Str).length = 0 := by decide
        have jl := Sm.join (a := "") (n := 0) ⟨by decide, fun c hc => by cases hc⟩ sy
        refine ⟨_, D, ys, rfl, rfl, .inl (SqL.of hy), by rw [e0]; omega, ?_⟩
        have jl : Sm 5 (Txt.join "" ys) := jl.up (by omega)
        generalize Txt.join "" ys = z at jl
        have hw8 := k8 _ _ nwb hw7
        refine ⟨_, rfl, .inl ⟨rfl, _, SqL.of hw8⟩, _, rfl, lw, _, _, rfl, rfl, hw8, ?_, (B8.off nwb).up (by omega), ((K6.trans k7).trans k8).mut fr, ws ++ [z], _, _, ?_, by simp [lw1], ?_, rfl⟩
        · rw [List.length_map]
          exact Nat.lt_of_lt_of_le (show ws.length < 100 by omega) (by decide)
        · rw [upd_same, List.map_append]
          rfl
        · intro x hx
          rcases List.mem_append.mp hx with hx | hx
          · exact sm x hx
          · rw [List.mem_singleton.mp hx]
            exact jl
    · rintro σ H6 ⟨B6, K6, ws, v4, v5, hw, lw1, sm, rfl⟩
      have wl : ws.length ≤ 40 := by omega
      have B6' : BoxAt b (n + 500) H6 := B6.up (by omega)
      clear B6 B5 K5 hw5 lw1
      refine ⟨_, rfl, lw, rfl, ⟨_, SqL.of hw⟩, fun D hD => lc_list (K := K) (a := lw) (xs := ws.map V.str) (fun i H' => Same H6 H' ∧ ∃ ys : List Str, H' D = some (.lst (ys.map V.str)) ∧ ys.length ≤ i ∧ ∀ y ∈ ys, Sm 5 y)
        ⟨same_new hD, [], upd_same, Nat.le_refl _, (by simp)⟩ (fun i H' _ h => SqL.of (h.1 _ _ hw)) ?_ ?_⟩
      · rintro i x H' hx ⟨S2, ys, h2, ly, sy⟩
        rw [List.getElem?_map] at hx
        obtain ⟨u, hu, rfl⟩ := Option.map_eq_some_iff.mp hx
        have ui : i < ws.length := (List.getElem?_eq_some_iff.mp hu).1
        refine ⟨rfl, _, rfl, _, rfl, _, _, rfl, rfl, _, rfl, ifB (fun _ => ?_) (fun _ => ⟨S2, ys, h2, by omega, sy⟩)⟩
        refine ⟨_, rfl, _, h2, ?_, Tp.Same.mut S2 hD, ys ++ [u], ?_, by simp; omega, ?_⟩
        · rw [List.length_map]
          exact Nat.lt_of_lt_of_le (show ys.length < 100 by omega) (by decide)
        · rw [upd_same, List.map_append]
          rfl
        · intro y hy
          rcases List.mem_append.mp hy with hy | hy
          · exact sy y hy
          · rw [List.mem_singleton.mp hy]
            exact sm u (List.mem_of_getElem? hu)
      · rintro H7 ⟨S7, ys, h7, ly, sy⟩
        rw [List.length_map] at ly
        have hw7 := S7 _ _ hw
        have B7 := B6'.same S7
        have K7 := K6.same S7
        have nDb : D ≠ b := B6'.ne hD
        clear B6' K6 hw hD S7
        have j1 := Sm.join mkc sm
        have j2 := Sm.join mkc sy
        have sl := sum_len fun y hy => (sm y hy).1
        have sl2 := sum_len fun y hy => (sy y hy).1
        refine ⟨_, rfl, ⟨_, rfl⟩, _, rfl, mk, lw, ws, rfl, rfl, .inl (SqL.of hw7), by rw [mkl]; omega, ?_⟩
        have j1 : Sm 240 (Txt.join mk ws) := j1.up (by omega)
        have j2 : Sm 240 (Txt.join mk ys) := j2.up (by omega)
        generalize Txt.join mk ws = z0 at j1
        have zs : z0.length ≤ sizeLine := Nat.le_trans j1.1 (by decide)
        refine ⟨_, rfl, b, 6, _, rfl, B7, by omega, by decide, by decide, fun way H8 a8 b8 k8 B8 => ?_⟩
        have zl := j1.1
        refine ⟨_, rfl, _, rfl, z0, rfl, zs, _, _, rfl, rfl, b, _, _, rfl, B8, by omega, by omega, by omega, fun at1 H9 a9 b9 k9 B9 => ⟨_, _, rfl, ?_⟩⟩
        have h9 := k9 _ _ nDb (k8 _ _ nDb h7)
        have K9 := (K7.trans k8).trans k9
        clear k8 k9 K7 h7 B8 B7 hw7
        have nls : Sm 1 ("\n" : Str) := ⟨by decide, by decide +kernel⟩
        have u1 := j1.cut none (some at1)
        have u2 := j1.cut (some at1) none
        have u3 := u1.app mkc
        have u4 := u3.app u2
        have u5 := j1.app mkc
        have u6 := mkc.app j1
        have u7 := u1.app nls
        have u8 := u7.app u2
        refine ⟨_, rfl, _, rfl, _, rfl, _, rfl, z0, rfl, zs, _, rfl, _, _, rfl, rfl, fits2 u1.1 mkc.1, _, rfl, _, rfl, _, rfl, z0, rfl, zs, _, _, rfl, rfl, fits2 u3.1 u2.1, ?_⟩
        refine ⟨_, rfl, _, rfl, _, _, rfl, rfl, fits2 j1.1 mkc.1, _, rfl, _, rfl, _, _, rfl, rfl, fits2 mkc.1 j1.1, ?_⟩
        refine ⟨_, rfl, _, rfl, _, rfl, z0, rfl, zs, _, _, rfl, rfl, fits2 u1.1 nls.1, _, rfl, _, rfl, _, rfl, z0, rfl, zs, _, _, rfl, rfl, fits2 u7.1 u2.1, ?_⟩
        refine ⟨(show 5 ≤ sizeLine from by decide), fun ps np => ?_⟩
        have hps := upd_same (H := H9) (a := ps) (o := .lst [V.str z0, .str (cutS z0 none (some at1) ++ mk ++ cutS z0 (some at1) none), .str (z0 ++ mk), .str (mk ++ z0), .str (cutS z0 none (some at1) ++ "\n" ++ cutS z0 (some at1) none)])
        have Sps := same_new (o := .lst [V.str z0, .str (cutS z0 none (some at1) ++ mk ++ cutS z0 (some at1) none), .str (z0 ++ mk), .str (mk ++ z0), .str (cutS z0 none (some at1) ++ "\n" ++ cutS z0 (some at1) none)]) np
        generalize upd H9 ps _ = H10 at hps Sps ⊢
        have h10 := Sps _ _ h9
        refine ⟨_, rfl, _, rfl, ⟨_, rfl⟩, _, rfl, mk, D, ys, rfl, rfl, .inl (SqL.of h10), by rw [mkl]; omega, (show 1 ≤ sizeLine from by decide), fun p2 n2 => ?_⟩
        refine ⟨_, _, _, _, rfl, rfl, same_new n2 _ _ hps, upd_same, (show 6 ≤ sizeLine from by decide), fun p3 n3 => ?_⟩
        obtain ⟨v, hv, z, rfl, zsm⟩ := at_some (xs := [V.str z0, .str (cutS z0 none (some at1) ++ mk ++ cutS z0 (some at1) none), .str (z0 ++ mk), .str (mk ++ z0), .str (cutS z0 none (some at1) ++ "\n" ++ cutS z0 (some at1) none)] ++ [V.str (Txt.join mk ys)]) (r := way) (P := fun v => ∃ z : Str, v = .str z ∧ Sm 500 z) (by
          intro x hx
          simp only [List.cons_append, List.nil_append, List.mem_cons, List.not_mem_nil, or_false] at hx
          rcases hx with rfl | rfl | rfl | rfl | rfl | rfl
          · exact ⟨_, rfl, j1.up (by decide)⟩
          · exact ⟨_, rfl, u4.up (by decide)⟩
          · exact ⟨_, rfl, u5.up (by decide)⟩
          · exact ⟨_, rfl, u6.up (by decide)⟩
          · exact ⟨_, rfl, u8.up (by decide)⟩
          · exact ⟨_, rfl, j2.up (by decide)⟩) a8 b8
        refine ⟨_, rfl, p3, _, _, _, rfl, rfl, SqL.of upd_same, hv, ?_⟩
        have S11 := (Sps.trans (same_new (o := .lst [V.str (Txt.join mk ys)]) n2)).trans (same_new (o := .lst ([V.str z0, .str (cutS z0 none (some at1) ++ mk ++ cutS z0 (some at1) none), .str (z0 ++ mk), .str (mk ++ z0), .str (cutS z0 none (some at1) ++ "\n" ++ cutS z0 (some at1) none)] ++ [V.str (Txt.join mk ys)])) n3)
        generalize upd (upd H10 p2 _) p3 _ = H11 at S11 ⊢
        have K11 := K9.same S11
        have B11 := (B9.same S11).up (m := n + 600) (by omega)
        have mk0 : mk.length ≠ 0 := by omega
        have zl5 : z.length ≤ 10000 := Nat.le_trans zsm.1 (by decide)
        clear S11 hv n3 n2 h10 hps Sps np u8 u7 u6 u5 u4 u3 u2 u1 nls h9 K9 B9 zs j1 zl
        refine ⟨_, rfl, ⟨_, rfl⟩, _, rfl, z, mk, rfl, rfl, beq_eq_false_iff_ne.mpr mk0, Nat.le_trans (show z.length + 2 ≤ 20000 by omega) (by decide), fun pd nd => ?_⟩
        have hpd := upd_same (H := H11) (a := pd) (o := .lst ((Txt.split z mk).map V.str))
        have S12 := same_new (o := .lst ((Txt.split z mk).map V.str)) nd
        generalize upd H11 pd _ = H12 at hpd S12 ⊢
        have K12 := K11.same S12
        have B12 := B11.same S12
        clear S12 nd K11 B11
        refine ⟨fun σ H' => H' = H12 ∧ ∃ dv, ((WOk z mk ∧ dv = .ref pd) ∨ (¬ WOk z mk ∧ dv = .non)) ∧
          σ = [some (.ref b), some (.str L), some (.str mk), some (.ref lw), v4, v5, some (.ref D), some (.str z), some (.int way), some (.int at1), some (.ref ps), some dv, none, none], ?_, ?_⟩
        · refine ⟨_, rfl, pd, _, rfl, .inl (SqL.of hpd), rfl, flat_strs _, _, rfl, ifB (fun c => ?_) (fun c => ?_)⟩
          · have c : inV (.str "") ((Txt.split z mk).map V.str) = true := c
            rw [in_empty] at c
            refine ⟨rfl, .non, .inr ⟨fun h => ?_, rfl⟩, rfl⟩
            rw [h.2] at c
            exact absurd c (by decide)
          · have c : inV (.str "") ((Txt.split z mk).map V.str) = false := c
            rw [in_empty] at c
            refine ⟨_, rfl, 10, z, congrArg V.str nl_eq, rfl, _, rfl, if2 (fun c2 => ⟨rfl, .non, .inr ⟨fun h => h.1 c2, rfl⟩, rfl⟩) (fun c2 => ⟨rfl, .ref pd, .inl ⟨⟨c2, ?_⟩, rfl⟩, rfl⟩)⟩
            cases e : (Txt.split z mk).all notE with
            | true => rfl
            | false => rw [e] at c; exact absurd c (by decide)
        · have sp := Sm.split (y := mk) zsm
          have spl := split_len z mk
          have wtb := wt_strs _ sp
          have fz := zsm.1
          have wtb2 : wtAll ((Txt.split z mk).map PyData.str) ≤ 502 * 5004 := Nat.le_trans wtb (Nat.mul_le_mul (by omega) (by omega))
          have dpW : ∀ {H' : Hp} {p : Addr}, H' p = some (.lst ((Txt.split z mk).map V.str)) → Dp K H' (.ref p) (.list ((Txt.split z mk).map PyData.str)) := fun h => .lst (SqL.of h) (dp_strs _)
          have ftW : Fit 1 (.list ((Txt.split z mk).map PyData.str)) := fit_strs sp
          rintro σ H' ⟨rfl, dv, ⟨hW, rfl⟩ | ⟨hW, rfl⟩, rfl⟩
          · obtain ⟨x1, x2, x3, x4⟩ := fit4 (d := .list [.list ((Txt.split z mk).map PyData.str), .list ((Txt.split z mk).map PyData.str)]) (n := 2) (.lst fun x hx => by
              simp only [List.mem_cons, List.not_mem_nil, or_false, or_self] at hx
              rw [hx]
              exact ftW) (by decide) (by simp only [wt, wtAll]; omega)
            obtain ⟨y1, y2, y3, y4⟩ := fit4 (d := .list [.list ((Txt.split z mk).map PyData.str), .list ((Txt.split z mk).map PyData.str), .list ((Txt.split z mk).map PyData.str)]) (n := 2) (.lst fun x hx => by
              simp only [List.mem_cons, List.not_mem_nil, or_false, or_self] at hx
              rw [hx]
              exact ftW) (by decide) (by simp only [wt, wtAll]; omega)
            refine ⟨_, rfl, _, rfl, rfl, rfl, _, mk, rfl, mk0, .inl ⟨z, rfl, zl5, fun h => (h hW).elim, fun _ p1 H13 _ S13 h13 => ?_⟩⟩
            refine ⟨_, rfl, _, rfl, rfl, _, mk, rfl, mk0, .inl ⟨z, rfl, zl5, fun h => (h hW).elim, fun _ p2 H14 _ S14 h14 => ?_⟩⟩
            refine ⟨(show 2 ≤ sizeLine from by decide), fun pf nf => ?_⟩
            have fpf : H13 pf = none := S14.free nf
            have hpf := upd_same (H := H14) (a := pf) (o := .lst [V.ref p1, .ref p2])
            have S15 := same_new (o := .lst [V.ref p1, .ref p2]) nf
            generalize upd H14 pf _ = H15 at hpf S15 ⊢
            have hd := S15 _ _ (S14 _ _ (S13 _ _ hpd))
            have h1 := S15 _ _ (S14 _ _ h13)
            have h2 := S15 _ _ h14
            have K15 := ((K12.same S13).same S14).same S15
            have B15 := ((B12.same S13).same S14).same S15
            refine ⟨_, rfl, rfl, _, rfl, if2 (fun c => ?_) (fun c => ?_)⟩
            · have c := V.str.inj c
              subst c
              refine ⟨_, rfl, .inl ⟨rfl, _, SqL.of hpf⟩, _, rfl, _, _, rfl, mk0, .inl ⟨z, rfl, zl5, fun h => (h hW).elim, fun _ p3 H16 _ S16 h16 => ⟨pf, _, _, rfl, rfl, S16 _ _ hpf, (show 2 < sizeLine from by decide), ?_⟩⟩⟩
              have ne : ∀ {p : Addr} {o : HO}, H14 p = some o → p ≠ pf := fun h => ne_of_none h nf
              have hf : (upd H16 pf (.lst ([V.ref p1, .ref p2] ++ [V.ref p3]))) pf = some (.lst [V.ref p1, .ref p2, .ref p3]) := upd_same
              have S17 : Same H14 (upd H16 pf (.lst ([V.ref p1, .ref p2] ++ [V.ref p3]))) := Tp.Same.mut (S15.trans S16) nf
              have h17 : p3 ≠ pf → (upd H16 pf (.lst ([V.ref p1, .ref p2] ++ [V.ref p3]))) p3 = some (.lst ((Txt.split z " ").map V.str)) := fun q => by rw [upd_ne q]; exact h16
              have n3 : p3 ≠ pf := by
                intro q
                have e1 := S16 _ _ hpf
                rw [q] at h16
                rw [e1] at h16
                have e2 := HO.lst.inj (Option.some.inj h16)
                cases hs : Txt.split z " " with
                | nil => rw [hs] at e2; cases e2
                | cons x xs => rw [hs] at e2; cases e2
              have h17 := h17 n3
              generalize upd H16 pf _ = H17 at hf S17 h17 ⊢
              have K17 := ((K12.same S13).same S14).same S17
              have B17 := ((B12.same S13).same S14).same S17
              refine ⟨_, rfl, _, .list [.list ((Txt.split z " ").map PyData.str), .list ((Txt.split z " ").map PyData.str), .list ((Txt.split z " ").map PyData.str)], rfl, ?_, y1, y2, y3, y4, ?_⟩
              · exact .lst (SqL.of hf) (.cons (dpW (S17 _ _ (S14 _ _ h13))) (.cons (dpW (S17 _ _ h14)) (.cons (dpW h17) .nil)))
              refine ⟨_, rfl, _, rfl, _, rfl, (show 3 ≤ sizeLine from by decide), fun pq nq => ⟨_, .list [.list ((Txt.split z " ").map PyData.str), .list ((Txt.split z " ").map PyData.str), .list ((Txt.split z " ").map PyData.str)], rfl, ?_, y1, y2, y3, y4, rfl, ?_⟩⟩
              · have hd := dpW (same_new (o := .lst [V.ref pd, .ref pd, .ref pd]) nq _ _ (S17 _ _ (S14 _ _ (S13 _ _ hpd))))
                exact .lst (SqL.of upd_same) (.cons hd (.cons hd (.cons hd .nil)))
              · show Q (.bl (decide (_ = _))) _
                rw [decide_eq_true rfl]
                exact q _ (K17.same (same_new nq)) ((B17.same (same_new nq)).up (by omega))
            · refine ⟨_, rfl, _, .list [.list ((Txt.split z mk).map PyData.str), .list ((Txt.split z mk).map PyData.str)], rfl, ?_, x1, x2, x3, x4, ?_⟩
              · exact .lst (SqL.of hpf) (.cons (dpW h1) (.cons (dpW h2) .nil))
              refine ⟨_, rfl, _, rfl, (show 2 ≤ sizeLine from by decide), fun pq nq => ⟨_, .list [.list ((Txt.split z mk).map PyData.str), .list ((Txt.split z mk).map PyData.str)], rfl, ?_, x1, x2, x3, x4, rfl, ?_⟩⟩
              · have hd := dpW (same_new (o := .lst [V.ref pd, .ref pd]) nq _ _ hd)
                exact .lst (SqL.of upd_same) (.cons hd (.cons hd .nil))
              · show Q (.bl (decide (_ = _))) _
                rw [decide_eq_true rfl]
                exact q _ (K15.same (same_new nq)) ((B15.same (same_new nq)).up (by omega))
          · obtain ⟨x1, x2, x3, x4⟩ := fit4 (d := .list [.none, .none]) (n := 2) (.lst fun x hx => by
              simp only [List.mem_cons, List.not_mem_nil, or_false, or_self] at hx
              rw [hx]
              exact .non) (by decide) (by simp only [wt, wtAll]; decide)
            obtain ⟨y1, y2, y3, y4⟩ := fit4 (d := .list [.none, .none, .none]) (n := 2) (.lst fun x hx => by
              simp only [List.mem_cons, List.not_mem_nil, or_false, or_self] at hx
              rw [hx]
              exact .non) (by decide) (by simp only [wt, wtAll]; decide)
            refine ⟨_, rfl, _, rfl, rfl, rfl, _, mk, rfl, mk0, .inl ⟨z, rfl, zl5, fun _ H13 S13 => ?_, fun h => (hW h).elim⟩⟩
            refine ⟨_, rfl, _, rfl, rfl, _, mk, rfl, mk0, .inl ⟨z, rfl, zl5, fun _ H14 S14 => ?_, fun h => (hW h).elim⟩⟩
            refine ⟨(show 2 ≤ sizeLine from by decide), fun pf nf => ?_⟩
            have hpf := upd_same (H := H14) (a := pf) (o := .lst [V.non, .non])
            have S15 := same_new (o := .lst [V.non, .non]) nf
            generalize upd H14 pf _ = H15 at hpf S15 ⊢
            refine ⟨_, rfl, rfl, _, rfl, if2 (fun c => ?_) (fun c => ?_)⟩
            · have c := V.str.inj c
              subst c
              refine ⟨_, rfl, .inl ⟨rfl, _, SqL.of hpf⟩, _, rfl, _, _, rfl, mk0, .inl ⟨z, rfl, zl5, fun _ H16 S16 => ⟨pf, _, _, rfl, rfl, S16 _ _ hpf, (show 2 < sizeLine from by decide), ?_⟩, fun h => (hW h).elim⟩⟩
              have hf : (upd H16 pf (.lst ([V.non, .non] ++ [V.non]))) pf = some (.lst [V.non, .non, .non]) := upd_same
              have S17 : Same H14 (upd H16 pf (.lst ([V.non, .non] ++ [V.non]))) := Tp.Same.mut (S15.trans S16) nf
              generalize upd H16 pf _ = H17 at hf S17 ⊢
              refine ⟨_, rfl, _, .list [.none, .none, .none], rfl, .lst (SqL.of hf) (.cons .non (.cons .non (.cons .non .nil))), y1, y2, y3, y4, ?_⟩
              refine ⟨_, rfl, _, rfl, _, rfl, (show 3 ≤ sizeLine from by decide), fun pq nq => ⟨_, .list [.none, .none, .none], rfl, .lst (SqL.of upd_same) (.cons .non (.cons .non (.cons .non .nil))), y1, y2, y3, y4, rfl, ?_⟩⟩
              show Q (.bl (decide (_ = _))) _
              rw [decide_eq_true rfl]
              exact q _ ((((K12.same S13).same S14).same S17).same (same_new nq)) (((((B12.same S13).same S14).same S17).same (same_new nq)).up (by omega))
            · refine ⟨_, rfl, _, .list [.none, .none], rfl, .lst (SqL.of hpf) (.cons .non (.cons .non .nil)), x1, x2, x3, x4, ?_⟩
              refine ⟨_, rfl, _, rfl, (show 2 ≤ sizeLine from by decide), fun pq nq => ⟨_, .list [.none, .none], rfl, .lst (SqL.of upd_same) (.cons .non (.cons .non .nil)), x1, x2, x3, x4, rfl, ?_⟩⟩
              show Q (.bl (decide (_ = _))) _
              rw [decide_eq_true rfl]
              exact q _ ((((K12.same S13).same S14).same S15).same (same_new nq)) (((((B12.same S13).same S14).same S15).same (same_new nq)).up (by omega))
end
end L03

set_option Elab.async false
set_option linter.all false
set_option maxRecDepth 100000
set_option maxHeartbeats 4000000
namespace L03
open PySem L2 Tp
section
variable {P : Program} {w : World} {K : PySem.W.Frag} {mg : Str → Option Value} {base : Heap} {a : Ad} {d : Fd}
theorem okD {k : Nat} {f : Addr} {fd : FuncData} {ps : List Str} {sp : Sp} {x qual : Str} {st : Stmt} {dvs : List V} {kws : List (Str × V)} {N : List Str} (F : FunD K x qual (defArgs st) (defBody st) (defScope st) dvs kws f fd) (S : FnScope N ps (defScope st))
    (ar : ∀ vs H Q E, sp vs H Q E → vs.length = ps.length)
    (bd : ∀ (cdv : Value) (A : Around) (outer : List Env) (s : Shared) (H : Hp) (vs : List V) (Q : VK) (E : XK), Room k (A.deeper (PyProof.Rows.envOfC qual (defScope st) s.heap.objs.size f cdv)) → sp vs H Q E →
      ∃ t, PSs (cxOf CX0 P w K mg base N qual (defScope st) f cdv A outer s H E).nox (defBody st) t ∧ t { nx := fun _ H' => Q .non H', rt := Q } (start N vs) H) :
    FnOk P w K mg base CX0 (k + 1) f fd ps sp := F.ok S ar fun cdv A outer s H vs Q E hr h => let ⟨t, p, q⟩ := bd cdv A outer s H vs Q E hr h; ⟨t, p.nox, q⟩
def spIsList (K : PySem.W.Frag) : Sp := fun vs H Q _ => ∃ (v : V) (t : Value) (b : Bool), vs = [v] ∧ TyX K H v t ∧ PySem.W.kitAny K t [.type "list", .type "tuple"] = some b ∧ ∀ H', Same H H' → Q (.bl b) H'
theorem ok_isList (T : Txt K mg a d) : FnOk P w K mg base CX0 1 a.isList d.isList ["value"] (spIsList K) := by
  refine T.F_isList.ok scIsList (fun vs H Q E h => ?_) (fun cdv A outer s H vs Q E hr h => ?_)
  · obtain ⟨v, t, b, rfl, _⟩ := h
    rfl
  · obtain ⟨v, t, b, rfl, ty, kt, q⟩ := h
    refine ⟨_, (pss_one (ps_ret (pe_callB call_isiT (by rfl) T.isinstance_ Tp.bt_isinstance (pa_cons (pv 0) (pa_cons (pe_tup (pa_cons (pe_bltn (v := .ty "list") (by rfl) T.list_ Tp.bt_list rfl) (pa_cons (pe_bltn (v := .ty "tuple") (by rfl) T.tuple_ Tp.bt_tuple rfl) pa_nil))) pa_nil))))), ?_⟩
    refine ⟨_, rfl, (show 2 ≤ sizeLine from by decide), fun tp ntp => ?_⟩
    exact ⟨v, tp, _, t, _, b, rfl, upd_same, .cons (.ty _) (.cons (.ty _) .nil), ty_same (same_new ntp) ty, kt, q _ (same_new ntp)⟩
def spBookInit (C E : Addr) : Sp := fun vs H Q _ => ∃ (p dx : Addr), vs = [.ref p, .ref E] ∧ H p = some (.ins C dx []) ∧ ∀ H' fs, Kp p H H' → H' p = some (.ins C dx fs) → Q .non H'
theorem ok_bookInit (T : Txt K mg a d) : FnOk P w K mg base CX0 2 a.bookInit d.bookInit ["self", "rows"] (spBookInit a.CBook a.bkE) := by
  have G_isList := ok_isList (P := P) (w := w) (base := base) T
  refine okD T.F_bookInit scBookInit (fun vs H Q E h => ?_) (fun cdv A outer s H vs Q E hr h => ?_)
  · obtain ⟨p, dx, rfl, _⟩ := h
    rfl
  · obtain ⟨p, dx, rfl, hp, q⟩ := h
    obtain ⟨o, n, lE, cE, dE⟩ := T.lkE
    refine ⟨_, (pss_cons (ps_if (pt_not (pt_val (pe_call G_isList (hr.mono (by decide)) (by rfl) T.mg_isList T.F_isList.kp T.b_isList .nil pass0 (pa_cons (pv 1) pa_nil)))) (pss_one ps_never) pss_nil)
      (pss_cons (ps_fld (pv 0) (pe_lst pa_nil) rfl)
      (pss_cons (ps_fld (pv 0) pe_dnewK rfl)
      (pss_one (ps_for PassesOwn.never rfl (pi_tup (pv 1)) (pg_name (i := 2) scBookInit.nd rfl (Or.inl rfl)) (pss_one ps_never)))))), ?_⟩
    refine ⟨_, rfl, _, _, true, rfl, .kTuple lE cE, kitAny_cons (b := false) (kit_ty (by decide +kernel)) (fun _ => kitAny_cons (b := true) (kit_ty (by decide +kernel)) (fun h => nomatch h) (fun _ => rfl)) (fun h => nomatch h), fun H1 S1 => ⟨_, rfl, iteF ?_⟩⟩
    have hp1 := S1 _ _ hp
    refine ⟨Nat.zero_le _, fun l hl => ?_⟩
    have npl : p ≠ l := ne_of_none hp1 hl
    refine ⟨_, rfl, p, a.CBook, dx, [], rfl, (by rw [upd_ne npl]; exact hp1), T.cl_Book, T.nHeld, (by show 0 < 1000; decide), fun m hm => ?_⟩
    have npm : p ≠ m := fun z => by
      rw [z, upd_same] at hm
      cases hm
    refine ⟨_, rfl, p, a.CBook, dx, _, rfl, (by rw [upd_ne npm]; exact upd_same), T.cl_Book, T.nNumb, (by show 1 < 1000; decide), ?_⟩
    refine ⟨_, rfl, _, rfl, ⟨[], .inr ⟨o, #[], n, lE, cE, dE, Nat.zero_le _, .nil⟩⟩, for_tup (K := K) (a := a.bkE) (xs := []) (fun i σ H' => i = 0 ∧ Kp p H H' ∧ ∃ fs, H' p = some (.ins a.CBook dx fs)) ⟨rfl, ?_, _, upd_same⟩ (fun i σ H' _ _ => .inr ⟨o, #[], n, lE, cE, dE, Nat.zero_le _, .nil⟩) (fun i x σ H' hx => ?_) ?_⟩
    · have k1 : Kp p H H1 := fun b u _ e => S1 _ _ e
      have k2 : Kp p H1 (upd (upd H1 l (.lst [])) p (.ins a.CBook dx (putF "held" (.ref l) []))) := (Kp.new hl).trans Kp.box
      exact ((k1.trans k2).trans (Kp.new hm)).trans Kp.box
    · cases hx
    · rintro σ H' ⟨_, k, fs, e⟩
      exact q H' fs k e
theorem bk0 (T : Txt K mg a d) : ∃ ds, Vals [V.ref a.bkE] ds ∧ Binds K d.bookInit ["self", "rows"] ds :=
  T.F_bookInit.binds1 1 0 (by simp) rfl fun TT kV doc pm an cdv ct us its hu hi => match us, hu, its, hi with
    | [_], _, [_], _ => ⟨_, rfl, rfl⟩
end
end L03

set_option Elab.async false
set_option linter.all false
set_option maxRecDepth 100000
set_option maxHeartbeats 4000000
namespace L03
open PySem L2 Tp
section
variable {P : Program} {w : World} {K : PySem.W.Frag} {mg : Str → Option Value} {base : Heap} {a : Ad} {d : Fd}
theorem Kp_same {p : Addr} {H H' : Hp} (hp : H p = none) (k : Kp p H H') : Same H H' := fun x o e => k x o (ne_of_none e hp) e
theorem repS_list (x : Str) (n : Nat) : (repS x n).cps.toList = (List.replicate n x.cps.toList).flatten := by
  have key : ∀ (m : Nat) (acc : Array Nat), ((List.replicate m x.cps).foldl (· ++ ·) acc).toList = acc.toList ++ (List.replicate m x.cps.toList).flatten := by
    intro m
    induction m with
    | zero => intro acc; simp
    | succ m ih =>
      intro acc
      rw [List.replicate_succ, List.foldl_cons, ih, List.replicate_succ, List.flatten_cons, Array.toList_append, List.append_assoc]
  exact (key n #[]).trans (by simp)
theorem rep_one (c n : Nat) : (repS ⟨#[c]⟩ n).cps.toList = List.replicate n c := by
  rw [repS_list]
  induction n with
  | zero => rfl
  | succ n ih =>
    rw [List.replicate_succ, List.flatten_cons, ih, List.replicate_succ]
    rfl
theorem rep_len (c n : Nat) : (repS ⟨#[c]⟩ n).length = n := by rw [← len_list, rep_one, List.length_replicate]
theorem one_eq : ("1" : Str) = ⟨#[49]⟩ := by decide +kernel
theorem nul_eq : ("0" : Str) = ⟨#[48]⟩ := by decide +kernel
theorem sp_eq : (" " : Str) = ⟨#[32]⟩ := by decide +kernel
/-- no separator: one word -/
theorem split_none {z : Str} {c : Nat} (h : c ∉ z.cps.toList) : Txt.split z ⟨#[c]⟩ = [z] := by
  unfold Txt.split
  split
  · rfl
  · rw [if_pos]
    have key := occ_some z ⟨#[c]⟩ z.length (z.length + 1) (by omega) (List.range' 0 (z.length + 1 - 0)) 0 (fun _ _ => Nat.zero_le _)
    rw [StrLaws.occ_eq, key.mpr fun i _ hc => h (List.mem_of_getElem? ((StrLaws.subAt_one z c i).mp hc))]
    rfl
theorem dp_nones {K : PySem.W.Frag} {H : Hp} : ∀ n : Nat, DpAll K H (List.replicate n V.non) (List.replicate n PyData.none)
  | 0 => .nil
  | n + 1 => .cons .non (dp_nones n)
theorem fit_nones {n : Nat} (h : n ≤ 100) : PyData.showable (.list (List.replicate n .none)) = true ∧ PyData.hasDict (.list (List.replicate n .none)) = false ∧ PyData.depth (.list (List.replicate n .none)) ≤ 60 ∧ (PyData.shown (.list (List.replicate n .none))).length ≤ sizeLine := by
  refine fit4 (n := 1) (.lst fun x hx => by rw [List.eq_of_mem_replicate hx]; exact .non) (by decide) ?_
  have : ∀ m : Nat, wtAll (List.replicate m .none) = 6 * m := by
    intro m
    induction m with
    | zero => rfl
    | succ m ih =>
      rw [List.replicate_succ]
      simp only [wtAll, wt, ih]
      omega
  simp only [wt, this]
  omega
def spLaw (K : PySem.W.Frag) : Sp := fun vs H Q _ => ∃ (a : Addr) (ns : List Int), vs = [.ref a] ∧ SqL K H a (ns.map V.int) ∧ ns.length ≤ 63 ∧ ∀ H', Q (.bl true) H'
theorem ok_law (T : Txt K mg a d) : FnG P w K mg base CX0 5 a.law d.law ["_law_script"] (spLaw K) := by
  have G_cell := ok_cell (P := P) (w := w) (base := base) T
  have G_box := ok_box (P := P) (w := w) (base := base) T
  have G_intR := ok_intR (P := P) (w := w) (base := base) T
  have G_wordR := ok_wordR (P := P) (w := w) (base := base) T
  have G_parse := ok_parse (P := P) (w := w) (base := base) T
  have G_split := ok_split (P := P) (w := w) (base := base) T
  have G_bookInit := ok_bookInit (P := P) (w := w) (base := base) T
  obtain ⟨_, vparse0, bparse0⟩ := bp0 T
  obtain ⟨_, vsplit0, bsplit0⟩ := bs0 T
  obtain ⟨_, vBook, bBook⟩ := bk0 T
  refine okG T.F_law scLaw (fun vs H Q E h => ?_) (fun cdv A outer s H vs Q E hr hg h => ?_)
  · obtain ⟨s, ns, rfl, _⟩ := h
    rfl
  · obtain ⟨s, ns, rfl, hS, hlen, q⟩ := h
    refine ⟨_, (pss_cons (ps_for PassesOwn.never rfl (pi_range1 (by rfl) T.range_ (pa_cons (pe_callB (call_max2 rfl) (by rfl) T.max_ Tp.bt_max (pa_cons pe_int (pa_cons (pe_callB (call_min2 rfl) (by rfl) T.min_ Tp.bt_min (pa_cons pe_int (pa_cons (pe_callB call_len_seq (by rfl) T.len_ Tp.bt_len (pa_cons (pv 0) pa_nil)) pa_nil))) pa_nil))) pa_nil)) (pg_name (i := 1) scLaw.nd rfl (Or.inl rfl)) (pss_cons (ps_set (i := 2) scLaw.nd rfl (Or.inl rfl) (Tp.pe_callG G_box (hr.mono (by decide)) hg (by rfl) T.mg_box T.F_box.kp T.b_box .nil pass0 (pa_cons (Tp.pe_callG G_cell (hr.mono (by decide)) hg (by rfl) T.mg_cell T.F_cell.kp T.b_cell .nil pass0 (pa_cons (pv 0) (pa_cons (pv 1) pa_nil))) pa_nil)))
      (pss_one (ps_if (PW.pt (pw_or (pt_not (pt_val (Tp.pe_callG G_intR (hr.mono (by decide)) hg (by rfl) T.mg_intR T.F_intR.kp T.b_intR .nil pass0 (pa_cons (pv 2) pa_nil)))) (pw_or1 (pt_not (pt_val (Tp.pe_callG G_wordR (hr.mono (by decide)) hg (by rfl) T.mg_wordR T.F_wordR.kp T.b_wordR .nil pass0 (pa_cons (pv 2) pa_nil))))))) (pss_one (ps_ret pe_bl)) pss_nil))))
      (pss_cons (ps_set (i := 3) scLaw.nd rfl (Or.inl rfl) (pe_lst (pa_cons pe_non (pa_cons pe_int (pa_cons pe_bl (pa_cons (pe_lst (pa_cons pe_str pa_nil)) (pa_cons (pe_tup (pa_cons pe_str (pa_cons pe_str pa_nil))) (pa_cons (pe_disp (pps_cons pe_str pe_int pps_nil) (by rfl) (by rfl) (fun z => by cases z) (by decide)) (pa_cons (pe_lst pa_nil) (pa_cons (pe_make0 T.mk_Book G_bookInit (hr.mono (by decide)) (by rfl) T.mg_Book bBook vBook pass0) (pa_cons pe_str (pa_cons pe_str (pa_cons (pe_op Tp.op_repS pe_str pe_int) (pa_cons (pe_op Tp.op_repS pe_str pe_int) pa_nil))))))))))))))
      (pss_cons (ps_if (pt_cmpR op_ne (pe_callB (Tp.call_reprD hr hg) (by rfl) T.repr_ Tp.bt_repr (pa_cons (pe_lc (own := [("_law_thing", 5)]) (by rfl) scLaw.nd (pi_list (pv 3)) (blkOk_by (own := [("_law_thing", 5)]) (N := scLaw_N) (sc := defScope scLaw_st) (by decide +kernel)) (fun _ _ _ _ _ => (pg_name (i := 5) scLaw.nd rfl (Or.inl rfl))) (fun _ _ _ _ _ => pts_nil) (fun _ _ _ _ _ => (Tp.pe_callG G_parse (hr.mono (by decide)) hg (by rfl) T.mg_parse T.F_parse.kp bparse0 vparse0 pass0 (pa_cons (pv 5) pa_nil)))) pa_nil)) (pe_callB (Tp.call_reprD hr hg) (by rfl) T.repr_ Tp.bt_repr (pa_cons (pe_op op_rep (pe_lst (pa_cons pe_non pa_nil)) pe_int) pa_nil)) (nomark _)) (pss_one (ps_ret pe_bl)) pss_nil)
      (pss_cons (ps_setLc (i := 4) (own := [("_law_thing", 5)]) (by rfl) scLaw.nd rfl rfl (sw_true rfl rfl rfl (by decide +kernel)) (pi_list (pe_slice sl_list (pv 3) po_none (po_some pe_int))) (blkOk_by (own := [("_law_thing", 5)]) (N := scLaw_N) (sc := defScope scLaw_st) (by decide +kernel)) (fun _ _ _ _ _ => (pg_name (i := 5) scLaw.nd rfl (Or.inl rfl))) (fun _ _ _ _ _ => pts_nil) (fun _ _ _ _ _ => (Tp.pe_callG G_split (hr.mono (by decide)) hg (by rfl) T.mg_split T.F_split.kp bsplit0 vsplit0 pass0 (pa_cons (pv 5) pa_nil))))
      (pss_one (ps_ret (pe_and (pe_cmpR op_eq (pe_callB (Tp.call_reprD hr hg) (by rfl) T.repr_ Tp.bt_repr (pa_cons (pv 4) pa_nil)) (pe_callB (Tp.call_reprD hr hg) (by rfl) T.repr_ Tp.bt_repr (pa_cons (pe_op op_rep (pe_lst (pa_cons pe_non pa_nil)) pe_int) pa_nil)) (nomark _)) (pe_one (pe_cmpR (op_eqD hr.units) (Tp.pe_callG G_split (hr.mono (by decide)) hg (by rfl) T.mg_split T.F_split.kp bsplit0 vsplit0 pass0 (pa_cons (pe_op Tp.op_repS pe_str pe_int) pa_nil)) (pe_lst (pa_cons (pe_op Tp.op_repS pe_str pe_int) pa_nil)) (nomark _)))))))))), ?_⟩
    refine ⟨_, rfl, s, _, rfl, .inl hS, _, _, rfl, _, _, rfl, ?_⟩
    generalize hm : (if (_ : Int) > (2 : Int) then (_ : Int) else (2 : Int)) = m
    have m8 : 0 ≤ m ∧ m ≤ 100 := by
      rw [← hm]
      rw [List.length_map]
      split <;> split <;> omega
    clear hm
    refine ⟨_, rfl, by omega, by omega, for_range (lo := 0) (n := m.toNat) (fun i σ H' => Same H H' ∧ ∃ v1 v2, σ = [some (.ref s), v1, v2, none, none, none]) ⟨Same.refl H, none, none, rfl⟩ ?_ ?_⟩
    · rintro i σ H1 hi ⟨S1, v1, v2, rfl⟩
      refine ⟨_, rfl, _, rfl, s, ns, _, rfl, S1.seq hS, by omega, by omega, fun c => ⟨c, rfl, fun p x y np x0 y0 y1 => ?_⟩⟩
      have B : BoxAt p 0 (upd H1 p (.lst [.int x, .int y, .int 0])) := ⟨x, y, 0, upd_same, x0, y0, y1, by decide, by decide⟩
      have k1 : Kp p H1 (upd H1 p (.lst [.int x, .int y, .int 0])) := Kp.new np
      refine ⟨_, rfl, p, 0, rfl, B, by decide, fun H2 k2 B2 => ⟨_, rfl, iteF ?_⟩⟩
      refine ⟨_, rfl, p, _, rfl, B2, by decide, fun H3 k3 B3 => ⟨_, rfl, iteF ?_⟩⟩
      exact ⟨S1.trans (Kp_same np ((k1.trans k2).trans k3)), _, _, rfl⟩
    · rintro σ H1 ⟨S1, v1, v2, rfl⟩
      clear S1
      refine ⟨(show 1 ≤ sizeLine from by decide), fun p1 n1 => ?_⟩
      have h1 := upd_same (H := H1) (a := p1) (o := .lst [V.str "1"])
      generalize upd H1 p1 (.lst [V.str "1"]) = Ha at h1 ⊢
      refine ⟨(show 2 ≤ sizeLine from by decide), fun p2 n2 => ?_⟩
      have h2 := upd_same (H := Ha) (a := p2) (o := .tup [V.str "a", .str "b"])
      have h1 := same_new (o := .tup [V.str "a", .str "b"]) n2 _ _ h1
      generalize upd Ha p2 (.tup [V.str "a", .str "b"]) = Hb at h1 h2 ⊢
      refine fun p3 n3 => ⟨upd_same, [(Sum.inr "a", V.int 1)], rfl, by decide, ?_⟩
      have h3 := upd_same (H := upd Hb p3 (.dK [])) (a := p3) (o := .dK (mergeK [] [(Sum.inr "a", V.int 1)]))
      have S3 := Tp.Same.mut (o := .dK (mergeK [] [(Sum.inr "a", V.int 1)])) (same_new (o := .dK []) n3) n3
      have h1 := S3 _ _ h1
      have h2 := S3 _ _ h2
      generalize upd (upd Hb p3 (.dK [])) p3 (.dK (mergeK [] [(Sum.inr "a", V.int 1)])) = Hc at h1 h2 h3 ⊢
      refine ⟨Nat.zero_le _, fun p4 n4 => ?_⟩
      have h4 := upd_same (H := Hc) (a := p4) (o := .lst [])
      have S4 := same_new (o := .lst []) n4
      have h1 := S4 _ _ h1
      have h2 := S4 _ _ h2
      have h3 := S4 _ _ h3
      generalize upd Hc p4 (.lst []) = Hd at h1 h2 h3 h4 ⊢
      refine fun px dx nx ndx ne => ⟨px, dx, rfl, upd_same, fun H2 fs k2 hx => ⟨rfl, ?_⟩⟩
      have S5 : Same Hd H2 := fun x o e => k2 x o (ne_of_none e nx) (Tp.Same.mut (same_new ndx) nx x o e)
      have h1 := S5 _ _ h1
      have h2 := S5 _ _ h2
      have h3 := S5 _ _ h3
      have h4 := S5 _ _ h4
      clear S3 S4 S5 k2 nx ndx ne n4 n3 n2
      refine ⟨_, 4000, rfl, rfl, by decide, by decide, by decide, by decide, _, 3999, rfl, rfl, by decide, by decide, by decide, by decide, ?_⟩
      obtain ⟨zA, hzA⟩ : ∃ z, repS "1" 4000 = z := ⟨_, rfl⟩
      obtain ⟨zB, hzB⟩ : ∃ z, repS "0" 3999 = z := ⟨_, rfl⟩
      have lA : zA.length = 4000 := by rw [← hzA, one_eq]; exact rep_len _ _
      have lB : zB.length = 3999 := by rw [← hzB, nul_eq]; exact rep_len _ _
      have cA : ∀ c ∈ zA.cps.toList, c = 49 := fun c hc => by
        rw [← hzA, one_eq, rep_one] at hc
        exact List.eq_of_mem_replicate hc
      rw [hzA, hzB]
      refine ⟨(show 12 ≤ sizeLine from by decide), fun pl nl => ?_⟩
      have hpl := upd_same (H := H2) (a := pl) (o := .lst [V.non, .int 3, .bl true, .ref p1, .ref p2, .ref p3, .ref p4, .ref px, .str "", .str "\n", .str zA, .str zB])
      have S6 := same_new (o := .lst [V.non, .int 3, .bl true, .ref p1, .ref p2, .ref p3, .ref p4, .ref px, .str "", .str "\n", .str zA, .str zB]) nl
      have h1 := S6 _ _ h1
      have h2 := S6 _ _ h2
      have h3 := S6 _ _ h3
      have h4 := S6 _ _ h4
      have hx := S6 _ _ hx
      generalize upd H2 pl _ = HL at hpl h1 h2 h3 h4 hx ⊢
      clear S6 nl
      have nos : ∀ {H' : Hp}, Same HL H' → ∀ x ∈ [V.non, .int 3, .bl true, .ref p1, .ref p2, .ref p3, .ref p4, .ref px], NoStr K H' x := by
        intro H' S x hx'
        simp only [List.mem_cons, List.not_mem_nil, or_false] at hx'
        rcases hx' with rfl | rfl | rfl | rfl | rfl | rfl | rfl | rfl
        · exact ⟨_, .base .non, kit_ty (by decide +kernel)⟩
        · exact ⟨_, .base (.int _), kit_ty (by decide +kernel)⟩
        · exact ⟨_, .base (.bl _), kit_ty (by decide +kernel)⟩
        · exact ⟨_, .base (.lst (S _ _ h1)), kit_ty (by decide +kernel)⟩
        · exact ⟨_, .base (.tup (S _ _ h2)), kit_ty (by decide +kernel)⟩
        · exact ⟨_, .base (.dK (S _ _ h3)), kit_ty (by decide +kernel)⟩
        · exact ⟨_, .base (.lst (S _ _ h4)), kit_ty (by decide +kernel)⟩
        · exact ⟨_, .base (.ins (S _ _ hx) T.cl_Book T.ic_Book T.ig_ T.it_ T.im_Book), T.ks_Book⟩
      have pn : ∀ x ∈ [V.non, .int 3, .bl true, .ref p1, .ref p2, .ref p3, .ref p4, .ref px, .str "", .str "\n", .str zA, .str zB], x ∈ [V.non, .int 3, .bl true, .ref p1, .ref p2, .ref p3, .ref p4, .ref px] ∨ ∃ z : Str, x = .str z ∧ z.length ≤ 10000 ∧ numOf z = none := by
        intro x hx'
        simp only [List.mem_cons, List.not_mem_nil, or_false] at hx'
        rcases hx' with h | h | h | h | h | h | h | h | rfl | rfl | rfl | rfl
        · exact .inl (by simp [h])
        · exact .inl (by simp [h])
        · exact .inl (by simp [h])
        · exact .inl (by simp [h])
        · exact .inl (by simp [h])
        · exact .inl (by simp [h])
        · exact .inl (by simp [h])
        · exact .inl (by simp [h])
        · exact .inr ⟨_, rfl, by decide, if_neg fun c => absurd c.1 (by decide)⟩
        · exact .inr ⟨_, rfl, by decide, if_neg fun c => absurd (c.2.2.1 10 (by rw [nl_eq]; simp)) (by decide)⟩
        · exact .inr ⟨_, rfl, by omega, if_neg fun c => by have := c.2.1; omega⟩
        · exact .inr ⟨_, rfl, by omega, if_neg fun c => by have := c.2.1; omega⟩
      have sn : ∀ x ∈ [V.non, .int 3, .bl true, .ref p1, .ref p2, .ref p3, .ref p4, .ref px, .str "", .str "\n"], x ∈ [V.non, .int 3, .bl true, .ref p1, .ref p2, .ref p3, .ref p4, .ref px] ∨ ∃ z : Str, x = .str z ∧ z.length ≤ 10000 ∧ ¬ WOk z " " := by
        intro x hx'
        simp only [List.mem_cons, List.not_mem_nil, or_false] at hx'
        rcases hx' with h | h | h | h | h | h | h | h | rfl | rfl
        · exact .inl (by simp [h])
        · exact .inl (by simp [h])
        · exact .inl (by simp [h])
        · exact .inl (by simp [h])
        · exact .inl (by simp [h])
        · exact .inl (by simp [h])
        · exact .inl (by simp [h])
        · exact .inl (by simp [h])
        · refine .inr ⟨_, rfl, by decide, fun h => ?_⟩
          have h := h.2
          rw [sp_eq, split_none (by decide)] at h
          exact absurd h (by decide +kernel)
        · exact .inr ⟨_, rfl, by decide, fun h => h.1 (by rw [nl_eq]; simp)⟩
      refine ⟨_, rfl, pl, rfl, ⟨_, SqL.of hpl⟩, fun D hD => lc_list (K := K) (a := pl) (xs := [V.non, .int 3, .bl true, .ref p1, .ref p2, .ref p3, .ref p4, .ref px, .str "", .str "\n", .str zA, .str zB]) (fun i H' => Same HL H' ∧ H' D = some (.lst (List.replicate i .non)))
        ⟨same_new hD, upd_same⟩ (fun i H' _ h => SqL.of (h.1 _ _ hpl)) ?_ ?_⟩
      · rintro i x H' hx' ⟨S2, h2'⟩
        have hi : i < 12 := (List.getElem?_eq_some_iff.mp hx').1
        have go : ∃ acc, H' D = some (.lst acc) ∧ acc.length < sizeLine ∧ Same HL (upd H' D (.lst (acc ++ [V.non]))) ∧ (upd H' D (.lst (acc ++ [V.non]))) D = some (.lst (List.replicate (i + 1) .non)) :=
          ⟨_, h2', by rw [List.length_replicate]; exact Nat.lt_of_lt_of_le hi (by decide), Tp.Same.mut S2 hD, by rw [upd_same, List.replicate_succ']⟩
        rcases pn x (List.mem_of_getElem? hx') with h | ⟨z, rfl, zl, zn⟩
        · exact ⟨rfl, _, rfl, _, _, _, rfl, .inr ⟨nos S2 x h, go⟩⟩
        · refine ⟨rfl, _, rfl, _, _, _, rfl, .inl ⟨z, rfl, zl, ?_⟩⟩
          rw [numV_none zn]
          exact go
      rintro H3 ⟨S3, hD3⟩
      obtain ⟨f1, f2, f3, f4⟩ := fit_nones (n := 12) (by decide)
      refine ⟨_, .list (List.replicate 12 .none), rfl, .lst (SqL.of hD3) (dp_nones 12), f1, f2, f3, f4, ?_⟩
      refine ⟨(show 1 ≤ sizeLine from by decide), fun p5 n5 => ⟨p5, 12, _, rfl, rfl, upd_same, by decide, by decide, (show 1 * 12 ≤ sizeLine from by decide), fun p6 n6 => ?_⟩⟩
      refine ⟨_, .list (List.replicate 12 .none), rfl, .lst (xs := List.replicate 12 V.non) (SqL.of upd_same) (dp_nones 12), f1, f2, f3, f4, rfl, _, rfl, ifnY rfl ?_⟩
      have S7 : Same HL (upd (upd H3 p5 (.lst [V.non])) p6 (.lst (List.replicate 12 V.non))) := (S3.trans (same_new n5)).trans (same_new n6)
      have hpl7 := S7 _ _ hpl
      show tSeq _ _ _ _ (upd (upd H3 p5 (.lst [V.non])) p6 (.lst (List.replicate 12 V.non)))
      generalize upd (upd H3 p5 (.lst [V.non])) p6 (.lst (List.replicate 12 V.non)) = H7 at S7 hpl7 ⊢
      clear n6 n5 hD3 S3 hD f1 f2 f3 f4
      refine ⟨_, rfl, 10, rfl, pl, _, rfl, SqL.of hpl7, fun p7 n7 => ?_⟩
      have h7 : (upd H7 p7 (.lst (cutV [V.non, .int 3, .bl true, .ref p1, .ref p2, .ref p3, .ref p4, .ref px, .str "", .str "\n", .str zA, .str zB] none (some 10)))) p7 = some (.lst [V.non, .int 3, .bl true, .ref p1, .ref p2, .ref p3, .ref p4, .ref px, .str "", .str "\n"]) := upd_same
      have S8 := S7.trans (same_new (o := .lst (cutV [V.non, .int 3, .bl true, .ref p1, .ref p2, .ref p3, .ref p4, .ref px, .str "", .str "\n", .str zA, .str zB] none (some 10))) n7)
      generalize upd H7 p7 _ = H8 at S8 h7 ⊢
      clear n7 hpl7 S7
      refine ⟨p7, rfl, ⟨_, SqL.of h7⟩, fun D hD => lc_list (K := K) (a := p7) (xs := [V.non, .int 3, .bl true, .ref p1, .ref p2, .ref p3, .ref p4, .ref px, .str "", .str "\n"]) (fun i H' => Same H8 H' ∧ H' D = some (.lst (List.replicate i .non)))
        ⟨same_new hD, upd_same⟩ (fun i H' _ h => SqL.of (h.1 _ _ h7)) ?_ ?_⟩
      · rintro i x H' hx' ⟨S2, h2'⟩
        have hi : i < 10 := (List.getElem?_eq_some_iff.mp hx').1
        have go : ∀ H'', Same H' H'' → ∃ acc, H'' D = some (.lst acc) ∧ acc.length < sizeLine ∧ Same H8 (upd H'' D (.lst (acc ++ [V.non]))) ∧ (upd H'' D (.lst (acc ++ [V.non]))) D = some (.lst (List.replicate (i + 1) .non)) :=
          fun H'' S'' => ⟨_, S'' _ _ h2', by rw [List.length_replicate]; exact Nat.lt_of_lt_of_le hi (by decide), Tp.Same.mut (S2.trans S'') hD, by rw [upd_same, List.replicate_succ']⟩
        rcases sn x (List.mem_of_getElem? hx') with h | ⟨z, rfl, zl, zn⟩
        · exact ⟨rfl, _, rfl, _, _, rfl, by decide, .inr ⟨nos (S8.trans S2) x h, go H' (Same.refl H')⟩⟩
        · exact ⟨rfl, _, rfl, _, _, rfl, by decide, .inl ⟨z, rfl, zl, fun _ H'' S'' => go H'' S'', fun h => (zn h).elim⟩⟩
      rintro H9 ⟨S9, hD9⟩
      obtain ⟨f1, f2, f3, f4⟩ := fit_nones (n := 10) (by decide)
      refine ⟨_, rfl, _, .list (List.replicate 10 .none), rfl, .lst (SqL.of hD9) (dp_nones 10), f1, f2, f3, f4, ?_⟩
      refine ⟨(show 1 ≤ sizeLine from by decide), fun p5 n5 => ⟨p5, 10, _, rfl, rfl, upd_same, by decide, by decide, (show 1 * 10 ≤ sizeLine from by decide), fun p6 n6 => ?_⟩⟩
      refine ⟨_, .list (List.replicate 10 .none), rfl, .lst (xs := List.replicate 10 V.non) (SqL.of upd_same) (dp_nones 10), f1, f2, f3, f4, rfl, _, rfl, ifY rfl ?_⟩
      have nA : 32 ∉ zA.cps.toList := fun h => absurd (cA 32 h) (by decide)
      have spA : Txt.split zA " " = [zA] := by rw [sp_eq]; exact split_none nA
      have hW : WOk zA " " := by
        refine ⟨fun h => absurd (cA 10 h) (by decide), ?_⟩
        rw [spA]
        have : notE zA = true := by
          unfold notE
          rw [decide_eq_false fun e => by
            have := congrArg Str.length (V.str.inj e)
            rw [lA] at this
            exact absurd this (by decide)]
          rfl
        simp [this]
      refine ⟨_, 4000, rfl, rfl, by decide, by decide, by decide, by decide, _, _, rfl, by decide, .inl ⟨zA, congrArg V.str hzA, by omega, fun h => (h hW).elim, fun _ p8 H10 _ S10 h10 => ?_⟩⟩
      rw [spA] at h10
      refine ⟨_, 4000, rfl, rfl, by decide, by decide, by decide, by decide, (show 1 ≤ sizeLine from by decide), fun p9 n9 => ?_⟩
      rw [hzA]
      have ok : PyData.strOk zA = true := by
        unfold PyData.strOk
        rw [Array.all_eq_true']
        intro c hc
        exact decide_eq_true (by rw [cA c (Array.mem_toList_iff.mpr hc)]; decide)
      have sh : SeqAt.shaped (.list [.str zA]) = true := by
        unfold SeqAt.shaped
        simp [PyData.canLay0, PyData.canLayAll0, ok, PyData.depth, PyData.depthAll]
      refine ⟨.list [.str zA], .list [.str zA], .lst (SqL.of (same_new n9 _ _ h10)) (.cons (.str _) .nil), .lst (SqL.of upd_same) (.cons (.str _) .nil), sh, sh, ?_⟩
      have ev : PyData.eqv (.list [.str zA]) (.list [.str zA]) = true := by simp [PyData.eqv, PyData.eqvAll]
      rw [ev]
      exact q _
end
end L03

set_option Elab.async false
set_option linter.all false
set_option maxRecDepth 100000
set_option maxHeartbeats 4000000
namespace L03
open PySem L2 Tp
theorem kit_own {K : PySem.W.Frag} {C : Addr} {n : String} {b : Bool} (h : PySem.W.subIn K (.ref C) (.type n) = some b) (hm : PySem.W.kitMeta n = true) : PySem.W.kitOne K (.ref C) (.type n) = some b := by
  unfold PySem.W.kitOne PySem.W.kitCls
  rw [if_neg (by intro q; cases q)]
  show (if PySem.W.kitMeta n = true then PySem.W.subIn K (.ref C) (.type n) else none) = some b
  rw [if_pos hm]
  exact h
theorem all_mk {l : PySem.W.OpenLaw} {w : World} {K : PySem.W.Frag} {h : Heap} {mg : Str → Option Value} {fa : Addr} (X : K.In h) (G : h.Ns mainGlobals mg) (hfa : mg "law" = some (.ref fa))
    {f0 : Addr} {od0 an0 : Option Addr} {sl0 : Array (Option Value)} {oc0 kV0 dc0 pm0 cd0 ct0 : Value}
    {f1 : Addr} {od1 an1 : Option Addr} {sl1 : Array (Option Value)} {oc1 dc1 pm1 cd1 ct1 : Value}
    {D1 : Addr}
    {tl1 th1 : Tok}
    {f2 : Addr} {od2 an2 : Option Addr} {sl2 : Array (Option Value)} {oc2 dc2 pm2 cd2 ct2 : Value}
    {D2 : Addr}
    {ts2 : Tok}
    {f3 : Addr} {od3 an3 : Option Addr} {sl3 : Array (Option Value)} {oc3 kV3 dc3 pm3 cd3 ct3 : Value}
    {T3 : Addr} {dd3 : Option Addr} {nT3 : Nat} {slT3 : Array (Option Value)}
    {f4 : Addr} {od4 an4 : Option Addr} {sl4 : Array (Option Value)} {oc4 kV4 dc4 pm4 cd4 ct4 : Value}
    {f5 : Addr} {od5 an5 : Option Addr} {sl5 : Array (Option Value)} {oc5 kV5 dc5 pm5 cd5 ct5 : Value}
    {f6 : Addr} {od6 an6 : Option Addr} {sl6 : Array (Option Value)} {oc6 kV6 dc6 pm6 cd6 ct6 : Value}
    {f7 : Addr} {od7 an7 : Option Addr} {sl7 : Array (Option Value)} {oc7 kV7 dc7 pm7 cd7 ct7 : Value}
    {f8 : Addr} {od8 an8 : Option Addr} {sl8 : Array (Option Value)} {oc8 kV8 dc8 pm8 cd8 ct8 : Value}
    {f9 : Addr} {od9 an9 : Option Addr} {sl9 : Array (Option Value)} {oc9 kV9 dc9 pm9 cd9 ct9 : Value}
    {f10 : Addr} {od10 an10 : Option Addr} {sl10 : Array (Option Value)} {oc10 kV10 dc10 pm10 cd10 ct10 : Value}
    {f11 : Addr} {od11 an11 : Option Addr} {sl11 : Array (Option Value)} {oc11 kV11 dc11 pm11 cd11 ct11 : Value}
    {t_DIGITS : Tok}
    {t_MOST_DIGITS : Tok}
    {CBook : Addr}
    {bkE : Addr}
    {ddE : Option Addr} {nE : Nat} {slE : Array (Option Value)}
    (a0 : PySem.W.nsIn K mainGlobals "is_list" = some (some (.ref f0)))
    (l0 : K.lookup f0 = some ⟨oc0, od0, .func (PySem.W.fnOf "is_list" "is_list" (defArgs scIsList_st) (defBody scIsList_st) (defScope scIsList_st) .none kV0 dc0 pm0 an0 cd0 ct0), sl0⟩)
    (c0 : PySem.W.codeIn K cd0 "is_list" = true)
    (k0 : PySem.W.keepIn K (.ref f0) = true)
    (a1 : PySem.W.nsIn K mainGlobals "parse_integer" = some (some (.ref f1)))
    (l1 : K.lookup f1 = some ⟨oc1, od1, .func (PySem.W.fnOf "parse_integer" "parse_integer" (defArgs scParse_st) (defBody scParse_st) (defScope scParse_st) .none (.ref D1) dc1 pm1 an1 cd1 ct1), sl1⟩)
    (c1 : PySem.W.codeIn K cd1 "parse_integer" = true)
    (k1 : PySem.W.keepIn K (.ref f1) = true)
    (kl1 : PySem.W.nsIn K D1 "low" = some (some (.int 0 tl1)))
    (kh1 : PySem.W.nsIn K D1 "high" = some (some (.int 999999 th1)))
    (a2 : PySem.W.nsIn K mainGlobals "split_words" = some (some (.ref f2)))
    (l2 : K.lookup f2 = some ⟨oc2, od2, .func (PySem.W.fnOf "split_words" "split_words" (defArgs scSplit_st) (defBody scSplit_st) (defScope scSplit_st) .none (.ref D2) dc2 pm2 an2 cd2 ct2), sl2⟩)
    (c2 : PySem.W.codeIn K cd2 "split_words" = true)
    (k2 : PySem.W.keepIn K (.ref f2) = true)
    (ks2 : PySem.W.nsIn K D2 "separator" = some (some (.str " " ts2)))
    (a3 : PySem.W.findIn K (.ref CBook) "__init__" = some (some (.ref f3)))
    (l3 : K.lookup f3 = some ⟨oc3, od3, .func (PySem.W.fnOf "__init__" "Book.__init__" (defArgs scBookInit_st) (defBody scBookInit_st) (defScope scBookInit_st) (.ref T3) kV3 dc3 pm3 an3 cd3 ct3), sl3⟩)
    (c3 : PySem.W.codeIn K cd3 "Book.__init__" = true)
    (k3 : PySem.W.keepIn K (.ref f3) = true)
    (t3 : K.lookup T3 = some ⟨.type "tuple", dd3, .seq [Value.ref bkE].toArray nT3, slT3⟩)
    (a4 : PySem.W.nsIn K mainGlobals "_law_cell" = some (some (.ref f4)))
    (l4 : K.lookup f4 = some ⟨oc4, od4, .func (PySem.W.fnOf "_law_cell" "_law_cell" (defArgs scCell_st) (defBody scCell_st) (defScope scCell_st) .none kV4 dc4 pm4 an4 cd4 ct4), sl4⟩)
    (c4 : PySem.W.codeIn K cd4 "_law_cell" = true)
    (k4 : PySem.W.keepIn K (.ref f4) = true)
    (a5 : PySem.W.nsIn K mainGlobals "_law_box" = some (some (.ref f5)))
    (l5 : K.lookup f5 = some ⟨oc5, od5, .func (PySem.W.fnOf "_law_box" "_law_box" (defArgs scBox_st) (defBody scBox_st) (defScope scBox_st) .none kV5 dc5 pm5 an5 cd5 ct5), sl5⟩)
    (c5 : PySem.W.codeIn K cd5 "_law_box" = true)
    (k5 : PySem.W.keepIn K (.ref f5) = true)
    (a6 : PySem.W.nsIn K mainGlobals "_law_take" = some (some (.ref f6)))
    (l6 : K.lookup f6 = some ⟨oc6, od6, .func (PySem.W.fnOf "_law_take" "_law_take" (defArgs scTake_st) (defBody scTake_st) (defScope scTake_st) .none kV6 dc6 pm6 an6 cd6 ct6), sl6⟩)
    (c6 : PySem.W.codeIn K cd6 "_law_take" = true)
    (k6 : PySem.W.keepIn K (.ref f6) = true)
    (a7 : PySem.W.nsIn K mainGlobals "_law_digits" = some (some (.ref f7)))
    (l7 : K.lookup f7 = some ⟨oc7, od7, .func (PySem.W.fnOf "_law_digits" "_law_digits" (defArgs scDigits_st) (defBody scDigits_st) (defScope scDigits_st) .none kV7 dc7 pm7 an7 cd7 ct7), sl7⟩)
    (c7 : PySem.W.codeIn K cd7 "_law_digits" = true)
    (k7 : PySem.W.keepIn K (.ref f7) = true)
    (a8 : PySem.W.nsIn K mainGlobals "_law_whole" = some (some (.ref f8)))
    (l8 : K.lookup f8 = some ⟨oc8, od8, .func (PySem.W.fnOf "_law_whole" "_law_whole" (defArgs scWhole_st) (defBody scWhole_st) (defScope scWhole_st) .none kV8 dc8 pm8 an8 cd8 ct8), sl8⟩)
    (c8 : PySem.W.codeIn K cd8 "_law_whole" = true)
    (k8 : PySem.W.keepIn K (.ref f8) = true)
    (a9 : PySem.W.nsIn K mainGlobals "_law_integers_right" = some (some (.ref f9)))
    (l9 : K.lookup f9 = some ⟨oc9, od9, .func (PySem.W.fnOf "_law_integers_right" "_law_integers_right" (defArgs scInts_st) (defBody scInts_st) (defScope scInts_st) .none kV9 dc9 pm9 an9 cd9 ct9), sl9⟩)
    (c9 : PySem.W.codeIn K cd9 "_law_integers_right" = true)
    (k9 : PySem.W.keepIn K (.ref f9) = true)
    (a10 : PySem.W.nsIn K mainGlobals "_law_words_right" = some (some (.ref f10)))
    (l10 : K.lookup f10 = some ⟨oc10, od10, .func (PySem.W.fnOf "_law_words_right" "_law_words_right" (defArgs scWords_st) (defBody scWords_st) (defScope scWords_st) .none kV10 dc10 pm10 an10 cd10 ct10), sl10⟩)
    (c10 : PySem.W.codeIn K cd10 "_law_words_right" = true)
    (k10 : PySem.W.keepIn K (.ref f10) = true)
    (a11 : PySem.W.nsIn K mainGlobals "law" = some (some (.ref f11)))
    (l11 : K.lookup f11 = some ⟨oc11, od11, .func (PySem.W.fnOf "law" "law" (defArgs scLaw_st) (defBody scLaw_st) (defScope scLaw_st) .none kV11 dc11 pm11 an11 cd11 ct11), sl11⟩)
    (c11 : PySem.W.codeIn K cd11 "law" = true)
    (k11 : PySem.W.keepIn K (.ref f11) = true)
    (m_DIGITS : PySem.W.nsIn K mainGlobals "DIGITS" = some (some (.str "0123456789" t_DIGITS)))
    (m_MOST_DIGITS : PySem.W.nsIn K mainGlobals "MOST_DIGITS" = some (some (.int 30 t_MOST_DIGITS)))
    (z_len : PySem.W.nsIn K mainGlobals "len" = some none)
    (z_max : PySem.W.nsIn K mainGlobals "max" = some none)
    (z_min : PySem.W.nsIn K mainGlobals "min" = some none)
    (z_isinstance : PySem.W.nsIn K mainGlobals "isinstance" = some none)
    (z_str : PySem.W.nsIn K mainGlobals "str" = some none)
    (z_int : PySem.W.nsIn K mainGlobals "int" = some none)
    (z_all : PySem.W.nsIn K mainGlobals "all" = some none)
    (z_range : PySem.W.nsIn K mainGlobals "range" = some none)
    (z_ord : PySem.W.nsIn K mainGlobals "ord" = some none)
    (z_repr : PySem.W.nsIn K mainGlobals "repr" = some none)
    (z_list : PySem.W.nsIn K mainGlobals "list" = some none)
    (z_tuple : PySem.W.nsIn K mainGlobals "tuple" = some none)
    (aCBook : PySem.W.nsIn K mainGlobals "Book" = some (some (.ref CBook)))
    (pgB : PySem.W.plainGet K CBook Str.empty = true)
    (hdB : PySem.W.hasDictIn K CBook = true)
    (poB : PySem.W.plainOver K CBook = true)
    (saB : PySem.W.findIn K (.ref CBook) "__setattr__" = some (some (.builtin "object.__setattr__")))
    (mkB : PySem.W.makesIn K CBook = true)
    (ifB : PySem.W.isFn K (.ref f3) = true)
    (kcB : PySem.W.keepIn K (.ref CBook) = true)
    (nhB : PySem.W.findIn K (.ref CBook) "held" = some none)
    (nnB : PySem.W.findIn K (.ref CBook) "numbers" = some none)
    (icB : PySem.W.findIn K (.ref CBook) "__class__" = some (some (.builtin "object.__class__")))
    (igB : PySem.W.specialIn K (.builtin "object.__class__") "__get__" = some (some (.builtin "getset_descriptor.__get__")))
    (itB : PySem.W.takesIn K (.builtin "object.__class__") = some true)
    (imB : PySem.W.mroIn K CBook (.type "object") = some true)
    (ksB : PySem.W.subIn K (.ref CBook) (.type "str") = some false)
    (lE : K.lookup bkE = some ⟨.type "tuple", ddE, .seq #[] nE, slE⟩)
    : ∃ fd : FuncData, (∀ (s : Shared) (v : Value), BindsTo s fd ⟨[v], []⟩ [("_law_script", v)]) ∧ ∀ base : Heap, K.In base → base.Ns mainGlobals mg → Tp.FnG l.prog w K mg base CX0 5 fa fd ["_law_script"] (spLaw K) := by
  have e := hfa.symm.trans (PySem.W.mg_of X G a11)
  cases e
  have F0 := fun_mk (st := scIsList_st) l0 c0 k0
  have b0 := F0.binds (ps := ["value"]) fun _ _ _ _ _ _ us hl => match us, hl with | [_], _ => rfl
  have F1 : FunD K "parse_integer" "parse_integer" (defArgs scParse_st) (defBody scParse_st) (defScope scParse_st) [] [("low", V.int 0), ("high", V.int 999999)] f1 _ := ⟨⟨_, _, _, _, _, _, _, _, _, _, rfl, l1, c1, .inl ⟨rfl, rfl⟩, (.inr ⟨D1, rfl, by
    intro q hq
    simp only [List.mem_cons, List.not_mem_nil, or_false] at hq
    rcases hq with rfl | rfl
    · exact ⟨_, kl1, ⟨_, rfl⟩⟩
    · exact ⟨_, kh1, ⟨_, rfl⟩⟩⟩)⟩, k1⟩
  have F2 : FunD K "split_words" "split_words" (defArgs scSplit_st) (defBody scSplit_st) (defScope scSplit_st) [] [("separator", V.str " ")] f2 _ := ⟨⟨_, _, _, _, _, _, _, _, _, _, rfl, l2, c2, .inl ⟨rfl, rfl⟩, (.inr ⟨D2, rfl, by
    intro q hq
    rw [List.mem_singleton.mp hq]
    exact ⟨_, ks2, ⟨_, rfl⟩⟩⟩)⟩, k2⟩
  have F3 : FunD K "__init__" "Book.__init__" (defArgs scBookInit_st) (defBody scBookInit_st) (defScope scBookInit_st) [V.ref bkE] [] f3 _ := ⟨⟨_, _, _, _, _, _, _, _, _, _, rfl, l3, c3, .inr ⟨by simp, T3, _, [.ref bkE], _, rfl, t3, rfl, .cons rfl .nil⟩, .inl rfl⟩, k3⟩
  have F4 := fun_mk (st := scCell_st) l4 c4 k4
  have b4 := F4.binds (ps := ["_law_script", "_law_k"]) fun _ _ _ _ _ _ us hl => match us, hl with | [_, _], _ => rfl
  have F5 := fun_mk (st := scBox_st) l5 c5 k5
  have b5 := F5.binds (ps := ["_law_cell_here"]) fun _ _ _ _ _ _ us hl => match us, hl with | [_], _ => rfl
  have F6 := fun_mk (st := scTake_st) l6 c6 k6
  have b6 := F6.binds (ps := ["_law_box_here", "_law_many"]) fun _ _ _ _ _ _ us hl => match us, hl with | [_, _], _ => rfl
  have F7 := fun_mk (st := scDigits_st) l7 c7 k7
  have b7 := F7.binds (ps := ["_law_box_here"]) fun _ _ _ _ _ _ us hl => match us, hl with | [_], _ => rfl
  have F8 := fun_mk (st := scWhole_st) l8 c8 k8
  have b8 := F8.binds (ps := ["_law_line", "_law_floor", "_law_roof"]) fun _ _ _ _ _ _ us hl => match us, hl with | [_, _, _], _ => rfl
  have F9 := fun_mk (st := scInts_st) l9 c9 k9
  have b9 := F9.binds (ps := ["_law_box_here"]) fun _ _ _ _ _ _ us hl => match us, hl with | [_], _ => rfl
  have F10 := fun_mk (st := scWords_st) l10 c10 k10
  have b10 := F10.binds (ps := ["_law_box_here"]) fun _ _ _ _ _ _ us hl => match us, hl with | [_], _ => rfl
  have F11 := fun_mk (st := scLaw_st) l11 c11 k11
  have b11 := F11.binds (ps := ["_law_script"]) fun _ _ _ _ _ _ us hl => match us, hl with | [_], _ => rfl
  have T : Txt K mg ⟨f0, f1, f2, f3, f4, f5, f6, f7, f8, f9, f10, fa, CBook, bkE⟩ ⟨_, _, _, _, _, _, _, _, _, _, _, _⟩ := ⟨F0, b0, (PySem.W.mg_of X G a0), F1, (PySem.W.mg_of X G a1), F2, (PySem.W.mg_of X G a2), F3, F4, b4, (PySem.W.mg_of X G a4), F5, b5, (PySem.W.mg_of X G a5), F6, b6, (PySem.W.mg_of X G a6), F7, b7, (PySem.W.mg_of X G a7), F8, b8, (PySem.W.mg_of X G a8), F9, b9, (PySem.W.mg_of X G a9), F10, b10, (PySem.W.mg_of X G a10), F11, b11, (PySem.W.mg_of X G a11), ⟨_, PySem.W.mg_of X G m_DIGITS⟩, ⟨_, PySem.W.mg_of X G m_MOST_DIGITS⟩, (PySem.W.mg_none_of X G z_len), (PySem.W.mg_none_of X G z_max), (PySem.W.mg_none_of X G z_min), (PySem.W.mg_none_of X G z_isinstance), (PySem.W.mg_none_of X G z_str), (PySem.W.mg_none_of X G z_int), (PySem.W.mg_none_of X G z_all), (PySem.W.mg_none_of X G z_range), (PySem.W.mg_none_of X G z_ord), (PySem.W.mg_none_of X G z_repr), (PySem.W.mg_none_of X G z_list), (PySem.W.mg_none_of X G z_tuple), (PySem.W.mg_of X G aCBook), ⟨pgB, hdB, poB, saB⟩, ⟨mkB, a3, ifB, kcB⟩, nhB, nnB, icB, igB, itB, imB, (kit_own ksB (by decide +kernel)), ⟨_, _, lE, rfl, rfl⟩⟩
  exact ⟨_, fun s v => .of_eq rfl, fun base _ _ => ok_law T⟩
theorem walk {l : PySem.W.OpenLaw} {q : Program} {loose : List Str} {XP : (Str → Option Value) → Heap → Prop} {YP : World → Heap → Prop} {d : DefRec} {K : Params → PySem.W.Frag} (hn : l.most = some 63) (hdf : d.params.defaults = [])
    (hY : ∀ (w : World) (h : Heap), YP w h → (K w.params).In h)
    (F : ∀ (w : World) (mg : Str → Option Value) (fa : Addr) (h : Heap), (K w.params).In h → h.Ns mainGlobals mg → mg d.name = some (.ref fa) →
      ∃ fd : FuncData, (∀ (s : Shared) (u : Value), BindsTo s fd ⟨[u], []⟩ [("_law_script", u)]) ∧ ∀ base : Heap, (K w.params).In base → base.Ns mainGlobals mg → Tp.FnG l.prog w (K w.params) mg base CX0 5 fa fd ["_law_script"] (spLaw (K w.params))) :
    PySem.W.WalkO q loose XP YP l.row.toRowW d [] (fun f vs => PySem.call f vs) :=
  Tp.walkG (n := 63) (k := 5) (x := "_law_script") (sp := fun w => spLaw (K w.params)) hn (by decide) hdf ⟨rfl, by decide, by decide⟩ hY F (fun _ _ a ns hl _ hS => ⟨a, ns, rfl, hS, hl, fun _ => rfl⟩)
end L03

open PySem PySem.W PyProof.Rows in
set_option maxRecDepth 100000 in
set_option maxHeartbeats 0 in
theorem PySem.Challenge.cw_toldpast_k03_integers_and_words_in_strin_holds : PySem.Challenge.rw_toldpast_k03_integers_and_words_in_strin.Holds := by
  w_on; o_law; k_head; (case hw => w_witness2)
  k_fill
  refine L03.walk (l := PySem.Challenge.rw_toldpast_k03_integers_and_words_in_strin) rfl rfl (fun w h Y => PySem.W.kIn_of Y) ?F
  case F =>
    intro w mg fa h KX G hmg
    refine' L03.all_mk KX G hmg ?a0 ?l0 ?c0 ?k0 ?a1 ?l1 ?c1 ?k1 ?kl1 ?kh1 ?a2 ?l2 ?c2 ?k2 ?ks2 ?a3 ?l3 ?c3 ?k3 ?t3 ?a4 ?l4 ?c4 ?k4 ?a5 ?l5 ?c5 ?k5 ?a6 ?l6 ?c6 ?k6 ?a7 ?l7 ?c7 ?k7 ?a8 ?l8 ?c8 ?k8 ?a9 ?l9 ?c9 ?k9 ?a10 ?l10 ?c10 ?k10 ?a11 ?l11 ?c11 ?k11 ?m_DIGITS ?m_MOST_DIGITS ?z_len ?z_max ?z_min ?z_isinstance ?z_str ?z_int ?z_all ?z_range ?z_ord ?z_repr ?z_list ?z_tuple ?aCBook ?pgB ?hdB ?poB ?saB ?mkB ?ifB ?kcB ?nhB ?nnB ?icB ?igB ?itB ?imB ?ksB ?lE
    (case aCBook => k_is)
    (case a0 => k_is)
    (case l0 => k_is)
    (case c0 => k_is)
    (case k0 => k_is)
    (case a1 => k_is)
    (case l1 => k_is)
    (case c1 => k_is)
    (case k1 => k_is)
    (case kl1 => k_is)
    (case kh1 => k_is)
    (case a2 => k_is)
    (case l2 => k_is)
    (case c2 => k_is)
    (case k2 => k_is)
    (case ks2 => k_is)
    (case a3 => k_is)
    (case l3 => k_is)
    (case c3 => k_is)
    (case k3 => k_is)
    (case t3 => k_is)
    (case a4 => k_is)
    (case l4 => k_is)
    (case c4 => k_is)
    (case k4 => k_is)
    (case a5 => k_is)
    (case l5 => k_is)
    (case c5 => k_is)
    (case k5 => k_is)
    (case a6 => k_is)
    (case l6 => k_is)
    (case c6 => k_is)
    (case k6 => k_is)
    (case a7 => k_is)
    (case l7 => k_is)
    (case c7 => k_is)
    (case k7 => k_is)
    (case a8 => k_is)
    (case l8 => k_is)
    (case c8 => k_is)
    (case k8 => k_is)
    (case a9 => k_is)
    (case l9 => k_is)
    (case c9 => k_is)
    (case k9 => k_is)
    (case a10 => k_is)
    (case l10 => k_is)
    (case c10 => k_is)
    (case k10 => k_is)
    (case a11 => k_is)
    (case l11 => k_is)
    (case c11 => k_is)
    (case k11 => k_is)
    (case m_DIGITS => k_is)
    (case m_MOST_DIGITS => k_is)
    (case z_len => k_is)
    (case z_max => k_is)
    (case z_min => k_is)
    (case z_isinstance => k_is)
    (case z_str => k_is)
    (case z_int => k_is)
    (case z_all => k_is)
    (case z_range => k_is)
    (case z_ord => k_is)
    (case z_repr => k_is)
    (case z_list => k_is)
    (case z_tuple => k_is)
    (case pgB => k_is)
    (case hdB => k_is)
    (case poB => k_is)
    (case saB => k_is)
    (case mkB => k_is)
    (case ifB => k_is)
    (case kcB => k_is)
    (case nhB => k_is)
    (case nnB => k_is)
    (case icB => k_is)
    (case igB => k_is)
    (case itB => k_is)
    (case imB => k_is)
    (case ksB => k_is)
    (case lE => k_is)


