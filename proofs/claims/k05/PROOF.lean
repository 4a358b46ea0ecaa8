import PyProof.Rows.All
import Wide.All
import OpenK.AllK
import Wide.FinOn
import HandS.ForMost
import HandS.Evl
import HandS.Defaults
import HandS.IsInst
import HandS.StrMore
import KE.IntTextText
import HandS.Walk
import PyProof.ReprLen
import HandS.ForExc
import HandS.ExcInit
import HandS.ExcField
import HandS.TryMany
import HandS.ExcIs
import HandS.SlotsOwn
import HandS.ExcOwn
import PyProof.InstEq
import HandS.Spec
import HandS.DictComp
import HandS.DeepEq
import HandS.Iter
import HandS.More
import HandS.ListItems
import HandS.Zip
import KE.GoesEnum
import KE.GoesMore
import HandS.Star
import HandS.NoneIn
import HandS.Style
import HandS.Comp
import HandS.Head0
import HandS.Head1
import HandS.Head2
import HandS.HeadHook1
import HandS.HeadHook2
import HandS.EndTab
import HandS.HeadHook4
import HandS.Nested
import PyProof.DictMoreH
import PyProof.MeetsDict
import HandS.IterNext
import KE.KDictKeyed
import HandS.SortInts
import HandS.TupMul
import HandS.CallLocal
import KE.KExcInit
import KE.KExcMake
import PyProof.ExcBaseAll.LookupError
import HandS.Wide
import HandS.SortKw
import PyProof.MinMaxWalk
import HandS.SetFor
import HandS.Strs
import PyProof.Rows.SetFrom
import HandS.Deep
import PyProof.EqKinds
import KE.DataAny
import HandS.Flow
import PyProof.SumAnyB
import HandS.MapSum
import HandS.AnyAll
import PySem.Challenge.RW_toldpast_k05_values_of_terms
set_option Elab.async false
set_option linter.all false
set_option maxRecDepth 100000
set_option maxHeartbeats 4000000
namespace Tp
open PySem PySem.Spec PyProof.Rows L2
structure FnG (P : Program) (w : World) (K : PySem.W.Frag) (mg : Str → Option Value) (base : Heap)
    (CX : CXT) (k : Nat) (f : Addr) (fd : FuncData) (ps : List Str) (sp : Sp) : Prop where
  ar : ∀ vs H Q E, sp vs H Q E → vs.length = ps.length
  go : ∀ (A : Around) (outer : List Env) (s : Shared) (H : Hp) (args : Args) (us : List Value) (vs : List V) (Q : VK) (E : XK),
    Room k A → A.guards = some [] → Env0 P w K mg base A outer s H → BindsTo s fd args (ps.zip us) → Vals vs us → sp vs H Q E →
      codeAny (model P w) A (.call (.ref f) args) (CR CX outer P w H s Q E) s
section
variable {P : Program} {w : World} {K : PySem.W.Frag} {mg : Str → Option Value} {base : Heap} {CX : CXT} {k : Nat} {f : Addr} {fd : FuncData} {ps : List Str} {sp : Sp}
theorem FnG.up {j : Nat} (F : FnG P w K mg base CX j f fd ps sp) (h : j ≤ k) : FnG P w K mg base CX k f fd ps sp :=
  ⟨F.ar, fun A o s H args us vs Q E hr => F.go A o s H args us vs Q E (hr.mono h)⟩
theorem FnG.of (F : FnOk P w K mg base CX k f fd ps sp) : FnG P w K mg base CX k f fd ps sp :=
  ⟨F.len, fun A o s H args us vs Q E hr _ => F.run A o s H args us vs Q E hr⟩
theorem fnG_of {name qual : Str} {params : Arguments} {body : List Stmt} {scope : Scope} {dV kV doc pm cdv ct oc : Value} {an od : Option Addr}
    {osl : Array (Option Value)} {N : List Str}
    (there : K.lookup f = some ⟨oc, od, .func (PySem.W.fnOf name qual params body scope dV kV doc pm an cdv ct), osl⟩)
    (code : PySem.W.codeIn K cdv qual = true) (S : FnScope N ps scope) (ar : ∀ vs H Q E, sp vs H Q E → vs.length = ps.length)
    (bd : ∀ (A : Around) (outer : List Env) (s : Shared) (H : Hp) (vs : List V) (Q : VK) (E : XK),
      Room k (A.deeper (envOfC qual scope s.heap.objs.size f cdv)) → A.guards = some [] → sp vs H Q E →
      ∃ t, PSs (cxOf CX P w K mg base N qual scope f cdv A outer s H E) body t ∧ t { nx := fun _ H' => Q .non H', rt := Q } (start N vs) H) :
    FnG P w K mg base CX (k + 1) f (PySem.W.fnOf name qual params body scope dV kV doc pm an cdv ct) ps sp := by
  refine ⟨ar, fun A outer s H args us vs Q E hr hg e0 hb r hsp => ?_⟩
  have keep : ∀ b o, base.get? b = some o → s.heap.get? b = some o := fun b o e => (e0.bs b o e).1
  have inK : K.In s.heap := e0.mod.kin.keeps keep
  have room : s.heap.NoLimit := e0.mod.nolimit.keeps keep
  have kinds : ∀ y ∈ ps.zip us, scope.names.lookup y.1 = some .local ∨
      (scope.names.lookup y.1 = some .cell ∧ ((cellsFrom (s.heap.objs.size + 1) scope.names []).lookup y.1).isSome = true) := by
    rintro ⟨n, v⟩ hy
    exact (S.par n (List.of_mem_zip hy).1).imp id fun q => ⟨q, PySem.W.cellsFrom_some _ _ _ (.inl q)⟩
  refine codeAny_call_function hr.depth (inK _ _ there) rfl S.co S.gen rfl (PySem.W.codeRec_of inK code) (hb _ _ _ _ ?_)
  refine wpAny_newFunctionEnv_cells S.kind kinds fun env eqE s1 x => ?_
  subst eqE
  refine ⟨room.keeps x.toInCall.keep, codeAny_func ?_⟩
  obtain ⟨t, ht, hq⟩ := bd A outer s H vs Q E (hr.deeper _) hg hsp
  have J0 : Inv (cxOf CX P w K mg base N qual scope f cdv A outer s H E) [] (start N vs) H s1 := inv_start S hr.hd e0 (ar _ _ _ _ hsp) r x
  refine wpAny_mono (ht.run [] s1 (start N vs) H _ J0 hq) (fun fl s' hs => ?_) fun _ _ hs => hs
  cases fl with
  | ret u => obtain ⟨v, σ', H', J, rv, q⟩ := hs; exact ⟨v, H', J.os, J.bare, J.base, J.hok, rv, q⟩
  | next => obtain ⟨σ', H', J, q⟩ := hs; exact ⟨V.non, H', J.os, J.bare, J.base, J.hok, rfl, q⟩
  | brk => obtain ⟨_, _, _, q⟩ := hs; exact q.elim
  | cont => obtain ⟨_, _, _, q⟩ := hs; exact q.elim
theorem okG {x qual : Str} {st : Stmt} {N : List Str} (F : Fun K x qual st f fd) (S : FnScope N ps (defScope st)) (ar : ∀ vs H Q E, sp vs H Q E → vs.length = ps.length)
    (bd : ∀ (cdv : Value) (A : Around) (outer : List Env) (s : Shared) (H : Hp) (vs : List V) (Q : VK) (E : XK),
      Room k (A.deeper (envOfC qual (defScope st) s.heap.objs.size f cdv)) → A.guards = some [] → sp vs H Q E →
      ∃ t, PSs (cxOf CX0 P w K mg base N qual (defScope st) f cdv A outer s H E).nox (defBody st) t ∧ t { nx := fun _ H' => Q .non H', rt := Q } (start N vs) H) :
    FnG P w K mg base CX0 (k + 1) f fd ps sp := by
  obtain ⟨oc, od, kV, doc, pm, an, cdv, ct, osl, rfl, lk, hcd⟩ := F.ex
  refine fnG_of lk hcd S ar fun A outer s H vs Q E hr hg hsp => ?_
  obtain ⟨t, h, q⟩ := bd cdv A outer s H vs Q E hr hg hsp
  exact ⟨t, h.nox, q⟩
end
section
variable {X : Cx} {CX : CXT} {k n : Nat} {f C : Addr} {fd : FuncData} {ps ks : List Str} {sp : Sp} {dvs : List V} {ds : List Value} {E : XK} {x m : Str} {p pos apos : Pos} {e o : Expr} {es : List Expr} {ta : TE} {t tk : TA} {kws : List Keyword}
  {g : List Value → List Value → List Value} {gV : List V → List V → List V}
theorem runG {pins : List (Addr × Obj)} {σ : L2.St} {H : Hp} {s : Shared} {Q : VK} {args : Args} {us : List Value} {vs : List V}
    (F : FnG X.prog X.w X.K X.mg X.base CX k f fd ps sp) (hr : Room k X.A) (hg : X.A.guards = some []) (hx : Passes CX X E) (I : Inv X pins σ H s)
    (hb : BindsTo s fd args (ps.zip us)) (r : Vals vs us) (h : sp vs H Q E) :
    wpAny (model X.prog X.w) X.A (call (.ref f) args.pos args.kw) (EP X pins σ Q) X.xe s := by
  obtain ⟨ap, ak⟩ := args
  refine wpAny_call (codeAny_mono (F.go X.A X.stack s H ⟨ap, ak⟩ us vs Q E hr hg I.env0 hb r h) fun r s' hq => ?_)
  cases r with
  | error e => exact hx pins σ H s e s' I hq
  | ok fl =>
    cases fl with
    | ret u => exact I.after hq
    | _ => exact hq.elim
theorem runG1 {pins : List (Addr × Obj)} {σ : L2.St} {H : Hp} {s : Shared} {Q : VK} {us : List Value} {vs : List V}
    (F : FnG X.prog X.w X.K X.mg X.base CX k f fd ps sp) (hr : Room k X.A) (hg : X.A.guards = some []) (hb : Binds X.K fd ps ds) (hd : Vals dvs ds) (hx : Passes CX X E)
    (I : Inv X pins σ H s) (r : Vals vs us) (h : sp (vs ++ dvs) H Q E) : wpAny (model X.prog X.w) X.A (call (.ref f) us) (EP X pins σ Q) X.xe s := by
  have r2 := r.append hd
  exact runG (args := ⟨us, []⟩) F hr hg hx I (hb s us I.kIn (r2.length.symm.trans (F.ar _ _ _ _ h))) r2 h
theorem pe_callG (F : FnG X.prog X.w X.K X.mg X.base CX k f fd ps sp) (hr : Room k X.A) (hgu : X.A.guards = some []) (hg : Gl X x) (hm : X.mg x = some (.ref f)) (hk : PySem.W.keepIn X.K (.ref f) = true)
    (hb : Binds X.K fd ps ds) (hd : Vals dvs ds) (hx : Passes CX X E) (ha : PA X (e :: es) t) (hdb : (x == ("__debug__" : Str)) = false := by decide)
    (he : starEach (e :: es) X.env = (false, eval e X.env) :: starEach es X.env := by rfl) (hpl : (backTo pos (starEach es X.env)).any (·.1) = false := by rfl) :
    PE X (.Call (.Name x p) (e :: es) [] pos) (tCall sp dvs E t) :=
  ⟨fun pins s σ H Q I h => wpAny_Call_Name_kw (ld_glob I hg hm (PySem.W.callWith_K (h₀ := X.base) I.ok.mod.kin hk
    (thn (ha.run pos pins s σ H _ I h) fun us s1 ⟨vs, H1, I1, r, q⟩ => ⟨I1.kIn, runG1 F hr hgu hb hd hx I1 r q⟩) he hpl) hdb)⟩
end
section
variable {X : Cx}
end
section
variable {P : Program} {w : World} {K : PySem.W.Frag} {mg mb : Str → Option Value} {CX : CXT} {k : Nat} {fa a : Addr} {fd : FuncData} {x : Str} {sp : Sp} {s1 : Shared} {vs : List Value} {ns : List Int}
def LawEnd (s1 : Shared) (r : Result) (s' : Shared) : Prop := r = .ok (.ret (.bool true)) ∧ OldK s1.heap s'.heap ∧ s'.os = s1.os ∧ AllBare s'.gens
end
end Tp
set_option Elab.async false
set_option linter.all false
set_option maxRecDepth 100000
set_option maxHeartbeats 4000000
namespace Tp
open PySem PySem.Spec PyProof.Rows L2
section
variable {X : Cx} {CX : CXT} {k : Nat} {f : Addr} {fd : FuncData} {ps ks : List Str} {sp : Sp} {E : XK} {x : Str} {p pos : Pos} {tk : TA} {kw : Keyword} {kws : List Keyword}
  {g : List Value → List Value → List Value} {gV : List V → List V → List V}
end
section
variable {K : PySem.W.Frag} {x qual : Str} {st : Stmt} {kws : List (Str × V)} {f : Addr} {fd : FuncData} {ps : List Str}
theorem kb0 (F : FunD K x qual (defArgs st) (defBody st) (defScope st) [] kws f fd) (n : Nat) (ks : List Str) (ms : List (Str × V)) (g : {α : Type} → List α → List α → List α → List α) (hk : kws ≠ []) (hms : ∀ q ∈ ms, q ∈ kws)
    (hrel : ∀ {vs mz zs : List V} {us mv ws : List Value}, Vals vs us → Vals mz mv → Vals zs ws → Vals (g vs mz zs) (g us mv ws))
    (h : ∀ (D : Addr) (doc pm : Value) (an : Option Addr) (cdv ct : Value) (us mv ws : List Value), us.length = n → mv.length = ms.length → ws.length = ks.length →
      KwChain D ((ms.map (·.1)).zip mv) (bindArgs (PySem.W.fnOf x qual (defArgs st) (defBody st) (defScope st) .none (.ref D) doc pm an cdv ct) ⟨us, ks.zip ws⟩) (ps.zip (g us mv ws))) :
    ∃ mv : List Value, KBn K fd ps n ks (fun us ws => g us mv ws) (fun vs zs => g vs (ms.map (·.2)) zs) := by
  obtain ⟨oc, od, dV, kV, doc, pm, an, cdv, ct, osl, rfl, lk, hcd, hD, hK⟩ := F.ex
  rcases hD with ⟨_, rfl⟩ | ⟨z, _⟩
  · rcases hK with z | ⟨D, rfl, hq⟩
    · exact (hk z).elim
    · obtain ⟨mv, hl, rk, hks⟩ := kwd_vals (ms := ms) fun q hm => hq q (hms q hm)
      exact ⟨mv, fun s us ws X l1 l2 => BindsTo.of_looks fun M => KwChain.looks X hks (h D doc pm an cdv ct us mv ws l1 hl l2), fun r1 r2 => hrel r1 rk r2⟩
  · exact (z rfl).elim
end
section
variable {X : Cx}
end
theorem bt_len : bootBuiltins "len" = some (.builtin "len") := by decide +kernel
theorem bt_max : bootBuiltins "max" = some (.builtin "max") := by decide +kernel
theorem bt_min : bootBuiltins "min" = some (.builtin "min") := by decide +kernel
theorem bt_isinstance : bootBuiltins "isinstance" = some (.builtin "isinstance") := by decide +kernel
theorem bt_all : bootBuiltins "all" = some (.builtin "all") := by decide +kernel
theorem bt_sum : bootBuiltins "sum" = some (.builtin "sum") := by decide +kernel
theorem bt_repr : bootBuiltins "repr" = some (.builtin "repr") := by decide +kernel
theorem bt_sorted : bootBuiltins "sorted" = some (.builtin "sorted") := by decide +kernel
theorem bt_str : bootBuiltins "str" = some (.type "str") := by decide +kernel
theorem bt_int : bootBuiltins "int" = some (.type "int") := by decide +kernel
theorem bt_list : bootBuiltins "list" = some (.type "list") := by decide +kernel
theorem bt_tuple : bootBuiltins "tuple" = some (.type "tuple") := by decide +kernel
theorem bt_dict : bootBuiltins "dict" = some (.type "dict") := by decide +kernel
theorem bt_bool : bootBuiltins "bool" = some (.type "bool") := by decide +kernel
theorem pe_glS {X : Cx} {x z : Str} {pos : Pos} (hg : Gl X x) (hm : ∃ t, X.mg x = some (.str z t)) (hd : (x == ("__debug__" : Str)) = false := by decide) : PE X (.Name x pos) (tC (.str z)) :=
  let ⟨_, h⟩ := hm
  pe_glob hg h ⟨_, rfl⟩ hd
theorem pe_glI {X : Cx} {x : Str} {i : Int} {pos : Pos} (hg : Gl X x) (hm : ∃ t, X.mg x = some (.int i t)) (hd : (x == ("__debug__" : Str)) = false := by decide) : PE X (.Name x pos) (tC (.int i)) :=
  let ⟨_, h⟩ := hm
  pe_glob hg h ⟨_, rfl⟩ hd
def Kp (b : Addr) (H H' : Hp) : Prop := ∀ a o, a ≠ b → H a = some o → H' a = some o
theorem Kp.refl (b : Addr) (H : Hp) : Kp b H H := fun _ _ _ h => h
theorem Kp.trans {b : Addr} {H H1 H2 : Hp} (p : Kp b H H1) (q : Kp b H1 H2) : Kp b H H2 := fun a o n h => q a o n (p a o n h)
theorem Kp.same {b : Addr} {H H1 H2 : Hp} (p : Kp b H H1) (q : Same H1 H2) : Kp b H H2 := fun a o n h => q a o (p a o n h)
theorem Kp.box {b : Addr} {H : Hp} {o : HO} : Kp b H (upd H b o) := fun a u n h => by rw [upd_ne n]; exact h
theorem same_new {H : Hp} {p : Addr} {o : HO} (h : H p = none) : Same H (upd H p o) := fun a u e => by rw [upd_ne (ne_of_none e h)]; exact e
theorem Kp.new {b p : Addr} {H : Hp} {o : HO} (h : H p = none) : Kp b H (upd H p o) := fun a u _ e => same_new h a u e
def BoxAt (b : Addr) (n : Nat) (H : Hp) : Prop := ∃ x y z : Int, H b = some (.lst [.int x, .int y, .int z]) ∧ 0 ≤ x ∧ 0 ≤ y ∧ y < 2147483629 ∧ 0 ≤ z ∧ z ≤ n
theorem BoxAt.same {b : Addr} {n : Nat} {H H' : Hp} (h : BoxAt b n H) (q : Same H H') : BoxAt b n H' := let ⟨x, y, z, h1, r⟩ := h; ⟨x, y, z, q _ _ h1, r⟩
theorem BoxAt.up {b : Addr} {n m : Nat} {H : Hp} (h : BoxAt b n H) (q : n ≤ m) : BoxAt b m H := by
  obtain ⟨x, y, z, h1, h2, h3, h4, h5, h6⟩ := h
  exact ⟨x, y, z, h1, h2, h3, h4, h5, by omega⟩
theorem BoxAt.ne {b p : Addr} {n : Nat} {H : Hp} (h : BoxAt b n H) (q : H p = none) : p ≠ b := by
  obtain ⟨x, y, z, h1, _⟩ := h
  exact (ne_of_none h1 q).symm
def spCell (K : PySem.W.Frag) : Sp := fun vs H Q _ => ∃ (s : Addr) (ns : List Int) (k : Int), vs = [.ref s, .int k] ∧ SqL K H s (ns.map V.int) ∧ 0 ≤ k ∧ k < 1000 ∧ ∀ n : Int, Q (.int n) H
def spBox : Sp := fun vs H Q _ => ∃ c : Int, vs = [.int c] ∧ ∀ p x y, H p = none → 0 ≤ x → 0 ≤ y → y < 2147483629 → Q (.ref p) (upd H p (.lst [.int x, .int y, .int 0]))
def spTake : Sp := fun vs H Q _ => ∃ (b : Addr) (m : Int) (n : Nat), vs = [.ref b, .int m] ∧ BoxAt b n H ∧ n < 1000000 ∧ 0 < m ∧ m < 1000000000 ∧
  ∀ r H', 0 ≤ r → r < m → Kp b H H' → BoxAt b (n + 1) H' → Q (.int r) H'
theorem mixA {y c z e : Int} (y0 : 0 ≤ y) (y1 : y < 2147483629) (z0 : 0 ≤ z) (z1 : z ≤ 1000000) (c0 : 0 ≤ c ∧ c ≤ 1000000000) (e0 : 0 ≤ e ∧ e ≤ 1000000) : (y + c * (z + 1) + e).natAbs < 2 ^ 64 := by
  have h1 : 0 ≤ c * (z + 1) := Int.mul_nonneg c0.1 (by omega)
  have h2 : c * (z + 1) ≤ 1000000000 * 1000001 := Int.mul_le_mul c0.2 (by omega) (by omega) (by omega)
  omega
theorem mixB {i c z : Int} (z0 : 0 ≤ z) (z1 : z ≤ 1000000) (c0 : 0 ≤ c ∧ c ≤ 1000000000) : (i.fmod 2147483647 + c * (z + 1)).natAbs < 2 ^ 64 := by
  have h1 : 0 ≤ c * (z + 1) := Int.mul_nonneg c0.1 (by omega)
  have h2 : c * (z + 1) ≤ 1000000000 * 1000001 := Int.mul_le_mul c0.2 (by omega) (by omega) (by omega)
  rw [Int.fmod_eq_emod_of_nonneg _ (by decide)]
  have h3 := Int.emod_nonneg i (show (2147483647 : Int) ≠ 0 by decide)
  have h4 := Int.emod_lt_of_pos i (show (0 : Int) < 2147483647 by decide)
  omega
section
variable {p : Prop} [Decidable p] {A B : Prop}
theorem ifY (h : p) (x : A) : if decide p = true then A else B := by rw [decide_eq_true h]; exact iteT x
theorem ifN (h : ¬ p) (x : B) : if decide p = true then A else B := by rw [decide_eq_false h]; exact iteF x
theorem ifnY (h : p) (x : B) : if (!decide p) = true then A else B := by rw [decide_eq_true h]; exact iteF x
theorem ifnN (h : ¬ p) (x : A) : if (!decide p) = true then A else B := by rw [decide_eq_false h]; exact iteT x
theorem if2 (h1 : p → A) (h2 : ¬ p → B) : if decide p = true then A else B := by
  by_cases h : p
  · exact ifY h (h1 h)
  · exact ifN h (h2 h)
theorem ifn2 (h1 : p → B) (h2 : ¬ p → A) : if (!decide p) = true then A else B := by
  by_cases h : p
  · exact ifnY h (h1 h)
  · exact ifnN h (h2 h)
end
theorem Kp.mut {b p : Addr} {H H' : Hp} {o : HO} (k : Kp b H H') (h : H p = none) : Kp b H (upd H' p o) := fun a u n e => by
  rw [upd_ne (ne_of_none e h)]
  exact k a u n e
theorem Same.mut {p : Addr} {H H' : Hp} {o : HO} (k : Same H H') (h : H p = none) : Same H (upd H' p o) := fun a u e => by
  rw [upd_ne (ne_of_none e h)]
  exact k a u e
theorem BoxAt.off {b p : Addr} {n : Nat} {H : Hp} {o : HO} (h : BoxAt b n H) (ne : p ≠ b) : BoxAt b n (upd H p o) := by
  obtain ⟨x, y, z, h1, r⟩ := h
  exact ⟨x, y, z, by rw [upd_ne ne.symm]; exact h1, r⟩
end Tp
set_option Elab.async false
set_option linter.all false
set_option maxRecDepth 100000
set_option maxHeartbeats 4000000
namespace Tp
open PySem L2 PySem.NumText
theorem len_list (z : Str) : z.cps.toList.length = z.length := Array.length_toList
theorem str_ext {a b : Str} (h : a.cps.toList = b.cps.toList) : a = b := by
  obtain ⟨x⟩ := a
  obtain ⟨y⟩ := b
  have : x = y := Array.toList_inj.mp h
  rw [this]
theorem strip_empty (x y : Str) : Txt.stripChars x y = Str.empty ↔ ∀ c ∈ x.cps.toList, c ∈ y.cps.toList := by
  have cont : ∀ c, y.cps.contains c = true ↔ c ∈ y.cps.toList := by
    intro c
    rw [Array.contains_iff_mem, Array.mem_toList_iff]
  have tw : ∀ (p : Nat → Bool) (l : List Nat), (l.takeWhile p).length = l.length ↔ ∀ c ∈ l, p c = true := by
    intro p l
    induction l with
    | nil => simp
    | cons c l ih =>
      rw [List.takeWhile_cons]
      by_cases hc : p c = true
      · rw [if_pos hc, List.length_cons, List.length_cons]
        constructor
        · intro h d hd
          rcases List.mem_cons.mp hd with rfl | hd
          · exact hc
          · exact ih.mp (by omega) d hd
        · intro h
          have := ih.mpr fun d hd => h d (List.mem_cons_of_mem _ hd)
          omega
      · rw [if_neg hc]
        constructor
        · intro h
          simp at h
        · intro h
          exact absurd (h c (List.mem_cons_self ..)) hc
  unfold Txt.stripChars Txt.stripBy
  constructor
  · intro h
    by_cases hs : stripSame y.cps.contains true true x = true
    · rw [if_pos hs] at h
      subst h
      intro c hc
      cases hc
    · rw [if_neg hs] at h
      have hz := congrArg (fun s : Str => s.cps.size) h
      have hz : (x.cps.extract (stripLo y.cps.contains true x) (stripHi y.cps.contains true x (stripLo y.cps.contains true x))).size = 0 := hz
      rw [Array.size_extract] at hz
      have l1 : stripLo y.cps.contains true x = (x.cps.toList.takeWhile y.cps.contains).length := if_pos rfl
      have l2 : stripHi y.cps.contains true x (stripLo y.cps.contains true x) = x.length - ((x.cps.toList.drop (stripLo y.cps.contains true x)).reverse.takeWhile y.cps.contains).length := if_pos rfl
      have xl : x.length = x.cps.size := rfl
      rw [l2] at hz
      have le := (List.takeWhile_prefix y.cps.contains (l := (x.cps.toList.drop (stripLo y.cps.contains true x)).reverse)).length_le
      rw [List.length_reverse, List.length_drop, len_list] at le
      have lo_le : stripLo y.cps.contains true x ≤ x.length := by
        rw [l1, ← len_list]
        exact (List.takeWhile_prefix _).length_le
      have all : ∀ c ∈ (x.cps.toList.drop (stripLo y.cps.contains true x)).reverse, y.cps.contains c = true := by
        refine (tw _ _).mp ?_
        rw [List.length_reverse, List.length_drop, len_list]
        omega
      intro c hc
      rw [← cont]
      rw [← List.take_append_drop (stripLo y.cps.contains true x) x.cps.toList] at hc
      rcases List.mem_append.mp hc with hc | hc
      · rw [l1] at hc
        have e : x.cps.toList.take (x.cps.toList.takeWhile y.cps.contains).length = x.cps.toList.takeWhile y.cps.contains :=
          List.prefix_iff_eq_take.mp (List.takeWhile_prefix _) |>.symm
        rw [e] at hc
        exact List.all_eq_true.mp (List.all_takeWhile) c hc
      · exact all c (List.mem_reverse.mpr hc)
  · intro h
    have lo : stripLo y.cps.contains true x = x.length := by
      have e : stripLo y.cps.contains true x = (x.cps.toList.takeWhile y.cps.contains).length := if_pos rfl
      rw [e, ← len_list]
      exact (tw _ _).mpr fun c hc => (cont c).mpr (h c hc)
    by_cases hs : stripSame y.cps.contains true true x = true
    · rw [if_pos hs]
      have := (Bool.and_eq_true _ _ ▸ hs : (stripLo y.cps.contains true x == 0) = true ∧ _).1
      rw [lo] at this
      have z0 : x.cps.size = 0 := beq_iff_eq.mp this
      exact str_ext (by rw [Array.eq_empty_of_size_eq_zero z0]; rfl)
    · rw [if_neg hs]
      refine str_ext ?_
      have z0 : (stripped y.cps.contains true true x).cps.size = 0 := by
        show (x.cps.extract (stripLo y.cps.contains true x) _).size = 0
        rw [Array.size_extract, lo]
        have xl : x.length = x.cps.size := rfl
        omega
      rw [Array.eq_empty_of_size_eq_zero z0]
      rfl
theorem at_some {α : Type} {xs : List α} {P : α → Prop} {r : Int} (h : ∀ x ∈ xs, P x) (r0 : 0 ≤ r) (r1 : r < xs.length) : ∃ v, atI xs r = some v ∧ P v := by
  obtain ⟨j, rfl⟩ := Int.eq_ofNat_of_zero_le r0
  have hj : j < xs.length := by omega
  exact ⟨xs[j], atI_nat (List.getElem?_eq_getElem hj), h _ (List.getElem_mem hj)⟩
theorem join_len {ys : List Str} {a : Str} {m : Nat} (h : ∀ y ∈ ys, y.length ≤ m) : (Txt.join a ys).length ≤ ys.length * (m + a.length) := by
  have e : Txt.join a ys = Str.join a ys := StrLaws.glued_eq_join a ys
  rw [e]
  refine Nat.le_trans (StrLaws.join_length_le a ys) ?_
  have : (ys.map (·.length)).sum ≤ ys.length * m := by
    induction ys with
    | nil => simp
    | cons y ys ih =>
      have h1 := h y (List.mem_cons_self ..)
      have h2 := ih (fun z hz => h z (List.mem_cons_of_mem _ hz)) (StrLaws.glued_eq_join a ys)
      simp only [List.map_cons, List.sum_cons, List.length_cons, Nat.succ_mul]
      omega
  rw [Nat.mul_add]
  omega
theorem sum_len {ys : List Str} {m : Nat} (h : ∀ y ∈ ys, y.length ≤ m) : (ys.map (·.length)).sum ≤ ys.length * m := by
  induction ys with
  | nil => simp
  | cons y ys ih =>
    have h1 := h y (List.mem_cons_self ..)
    have h2 := ih (fun z hz => h z (List.mem_cons_of_mem _ hz))
    simp only [List.map_cons, List.sum_cons, List.length_cons, Nat.succ_mul]
    omega
end Tp
set_option Elab.async false
set_option linter.all false
set_option maxRecDepth 100000
set_option maxHeartbeats 4000000
namespace Tp
open PySem L2
mutual
def wt : PyData → Nat
  | .none => 4
  | .bool _ => 5
  | .int _ => 50
  | .str z => 10 * z.length + 2
  | .list xs => wtAll xs + 3
  | .tuple xs => wtAll xs + 3
  | .dict _ => 0
def wtAll : List PyData → Nat
  | [] => 0
  | x :: xs => wt x + 2 + wtAll xs
end
inductive Fit : Nat → PyData → Prop
  | non {n : Nat} : Fit n .none
  | bl {n : Nat} (b : Bool) : Fit n (.bool b)
  | int {n : Nat} {i : Int} (h : i.natAbs < 10 ^ 40) : Fit n (.int i)
  | str {n : Nat} {z : Str} (h : ∀ c ∈ z.cps.toList, c < 16 ^ 8) : Fit n (.str z)
  | lst {n : Nat} {xs : List PyData} (h : ∀ x ∈ xs, Fit n x) : Fit (n + 1) (.list xs)
  | tup {n : Nat} {xs : List PyData} (h : ∀ x ∈ xs, Fit n x) : Fit (n + 1) (.tuple xs)
theorem shown_int_len {i : Int} (h : i.natAbs < 10 ^ 40) : (Str.ofString (toString i)).length ≤ 50 := by
  have key : ∀ m : Nat, m < 10 ^ 40 → (Nat.repr m).length ≤ 40 := fun m hm => by
    show (Nat.repr m).toList.length ≤ 40
    rw [Nat.toList_repr]
    exact PyProof.Rows.digits10_le (by decide) hm
  rw [PyProof.Rows.ofString_len]
  cases i with
  | ofNat m => exact Nat.le_trans (key m h) (by decide)
  | negSucc m =>
    have := key (m + 1) h
    show ("-" ++ Nat.repr (m + 1)).length ≤ 50
    rw [String.length_append]
    have : ("-" : String).length = 1 := by decide
    omega
theorem fit_all {n : Nat} (ih : ∀ d, Fit n d → d.showable = true ∧ d.hasDict = false ∧ d.depth ≤ n ∧ d.shown.length ≤ wt d) :
    ∀ xs : List PyData, (∀ x ∈ xs, Fit n x) → PyData.showableAll xs = true ∧ PyData.hasDictAll xs = false ∧ PyData.depthAll xs ≤ n ∧ ((PyData.shownAll xs).map (·.length)).sum + 2 * (PyData.shownAll xs).length ≤ wtAll xs
  | [], _ => ⟨by simp only [PyData.showableAll], by simp only [PyData.hasDictAll], by simp only [PyData.depthAll]; omega, by simp [PyData.shownAll, wtAll]⟩
  | x :: xs, h => by
    obtain ⟨a1, a2, a3, a4⟩ := ih x (h x (List.mem_cons_self ..))
    obtain ⟨b1, b2, b3, b4⟩ := fit_all ih xs fun y hy => h y (List.mem_cons_of_mem _ hy)
    refine ⟨by simp only [PyData.showableAll, a1, b1, Bool.and_self], by simp only [PyData.hasDictAll, a2, b2, Bool.or_self], by simp only [PyData.depthAll]; omega, ?_⟩
    simp only [PyData.shownAll, List.map_cons, List.sum_cons, List.length_cons, wtAll]
    omega
theorem fit_ok : ∀ (n : Nat) (d : PyData), Fit n d → d.showable = true ∧ d.hasDict = false ∧ d.depth ≤ n ∧ d.shown.length ≤ wt d := by
  have flat : ∀ (n : Nat) (d : PyData), Fit n d → (∀ xs, d ≠ .list xs) → (∀ xs, d ≠ .tuple xs) → d.showable = true ∧ d.hasDict = false ∧ d.depth ≤ n ∧ d.shown.length ≤ wt d := by
    intro n d h n1 n2
    cases h with
    | non => exact ⟨by simp only [PyData.showable], by simp only [PyData.hasDict], by simp only [PyData.depth]; omega, by simp only [PyData.shown, wt]; decide⟩
    | bl b => exact ⟨by simp only [PyData.showable], by simp only [PyData.hasDict], by simp only [PyData.depth]; omega, by simp only [PyData.shown, wt]; cases b <;> decide⟩
    | int h =>
      rename_i i
      refine ⟨?_, by simp only [PyData.hasDict], by simp only [PyData.depth]; omega, by simp only [PyData.shown, wt]; exact shown_int_len h⟩
      simp only [PyData.showable, decide_eq_true_eq]
      by_cases z : i.natAbs = 0
      · rw [z]; decide
      · exact (Nat.log2_lt z).mpr (Nat.lt_of_lt_of_le h (by decide +kernel))
    | str h => exact ⟨by simp only [PyData.showable], by simp only [PyData.hasDict], by simp only [PyData.depth]; omega, by simp only [PyData.shown, wt]; exact StrLaws.reprText_len _ h⟩
    | lst _ => exact (n1 _ rfl).elim
    | tup _ => exact (n2 _ rfl).elim
  intro n
  induction n with
  | zero => intro d h; exact flat 0 d h (by rintro xs rfl; cases h) (by rintro xs rfl; cases h)
  | succ n ih =>
    intro d h
    cases d with
    | list xs =>
      cases h with
      | lst h =>
        obtain ⟨b1, b2, b3, b4⟩ := fit_all ih xs h
        refine ⟨by simp only [PyData.showable, b1], by simp only [PyData.hasDict, b2], by simp only [PyData.depth]; omega, ?_⟩
        simp only [PyData.shown, wt]
        exact Nat.le_trans (listText_len_le _) (by omega)
    | tuple xs =>
      cases h with
      | tup h =>
        obtain ⟨b1, b2, b3, b4⟩ := fit_all ih xs h
        refine ⟨by simp only [PyData.showable, b1], by simp only [PyData.hasDict, b2], by simp only [PyData.depth]; omega, ?_⟩
        simp only [PyData.shown, wt]
        exact Nat.le_trans (tupleText_len_le _) (by omega)
    | _ => exact flat _ _ h (by intro xs q; cases q) (by intro xs q; cases q)
end Tp
set_option Elab.async false
set_option linter.all false
set_option maxRecDepth 100000
set_option maxHeartbeats 4000000
namespace Tp
open PySem L2
def Sm (m : Nat) (z : Str) : Prop := z.length ≤ m ∧ ∀ c ∈ z.cps.toList, c < 1000
theorem Sm.up {m n : Nat} {z : Str} (h : Sm m z) (l : m ≤ n) : Sm n z := ⟨Nat.le_trans h.1 l, h.2⟩
theorem Sm.one {c : Nat} (h : c < 1000) : Sm 1 ⟨#[c]⟩ := ⟨Nat.le_refl 1, fun x hx => by
  have : x = c := by simpa using hx
  omega⟩
theorem Sm.at {m : Nat} {z : Str} (h : Sm m z) {r : Int} (r0 : 0 ≤ r) (r1 : r < z.length) : ∃ c, atI z.cps.toList r = some c ∧ c < 1000 :=
  at_some h.2 r0 (by rw [len_list]; exact r1)
theorem Sm.sub {m : Nat} {z : Str} (h : Sm m z) (i j : Nat) : Sm m (Builtin.Str.strSub z i j) := by
  refine ⟨?_, fun c hc => ?_⟩
  · show (z.cps.extract i j).size ≤ m
    rw [Array.size_extract]
    have := h.1
    have e : z.length = z.cps.size := rfl
    omega
  · refine h.2 c ?_
    have hc : c ∈ (z.cps.extract i j).toList := hc
    rw [Array.toList_extract] at hc
    exact List.mem_of_mem_drop (List.mem_of_mem_take hc)
theorem Sm.join {m n : Nat} {a : Str} {ys : List Str} (ha : Sm n a) (h : ∀ y ∈ ys, Sm m y) : Sm (ys.length * (m + n)) (Txt.join a ys) := by
  refine ⟨Nat.le_trans (join_len fun y hy => (h y hy).1) (Nat.mul_le_mul_left _ (Nat.add_le_add_left ha.1 _)), ?_⟩
  have e : Txt.join a ys = Str.join a ys := StrLaws.glued_eq_join a ys
  rw [e]
  clear e
  induction ys with
  | nil => intro c hc; cases hc
  | cons y ys ih =>
    cases ys with
    | nil => exact (h y (List.mem_cons_self ..)).2
    | cons y2 ys =>
      intro c hc
      have hc : c ∈ (y ++ a ++ Str.join a (y2 :: ys)).cps.toList := hc
      rw [Str.cps_append, Str.cps_append, Array.toList_append, Array.toList_append] at hc
      rcases List.mem_append.mp hc with hc | hc
      · rcases List.mem_append.mp hc with hc | hc
        · exact (h y (List.mem_cons_self ..)).2 c hc
        · exact ha.2 c hc
      · exact ih (fun z hz => h z (List.mem_cons_of_mem _ hz)) c hc
theorem Sm.split {m : Nat} {z y : Str} (h : Sm m z) : ∀ x ∈ Txt.split z y, Sm m x := by
  have key : ∀ (cuts : List Nat) (k a : Nat), ∀ x ∈ StrLaws.partsFrom z k a cuts, Sm m x := by
    intro cuts
    induction cuts with
    | nil =>
      intro k a x hx
      rw [List.mem_singleton.mp (show x ∈ [Builtin.Str.strSub z a z.length] from hx)]
      exact h.sub _ _
    | cons c r ih =>
      intro k a x hx
      rcases List.mem_cons.mp (show x ∈ Builtin.Str.strSub z a c :: StrLaws.partsFrom z k (c + k) r from hx) with rfl | hx
      · exact h.sub _ _
      · exact ih k (c + k) x hx
  intro x hx
  unfold Txt.split at hx
  split at hx
  · rw [List.mem_singleton.mp hx]; exact h
  · split at hx
    · rw [List.mem_singleton.mp hx]; exact h
    · rw [StrLaws.partsBetween_eq] at hx
      exact key _ _ _ x hx
theorem Sm.fit {m n : Nat} {z : Str} (h : Sm m z) : Fit n (.str z) := .str fun c hc => Nat.lt_of_lt_of_le (h.2 c hc) (by decide)
theorem dp_same {K : PySem.W.Frag} {H H' : Hp} (S : Same H H') : (∀ {v : V} {d : PyData}, Dp K H v d → Dp K H' v d) ∧ (∀ {vs : List V} {ds : List PyData}, DpAll K H vs ds → DpAll K H' vs ds) := by
  have sq : ∀ {a : Addr} {xs : List V}, SqT K H a xs → SqT K H' a xs := by
    rintro a xs ((h | ⟨o, h⟩) | h)
    · exact .inl (.inl (S _ _ h))
    · exact .inl (.inr ⟨o, S _ _ h⟩)
    · exact .inr h
  constructor
  · intro v d h
    exact Dp.rec (motive_1 := fun v d _ => Dp K H' v d) (motive_2 := fun vs ds _ => DpAll K H' vs ds) .non .bl .int .str (fun s _ ih => .lst (S.seq s) ih) (fun s _ ih => .tup (sq s) ih) .nil (fun _ _ a b => .cons a b) h
  · intro vs ds h
    exact DpAll.rec (motive_1 := fun v d _ => Dp K H' v d) (motive_2 := fun vs ds _ => DpAll K H' vs ds) .non .bl .int .str (fun s _ ih => .lst (S.seq s) ih) (fun s _ ih => .tup (sq s) ih) .nil (fun _ _ a b => .cons a b) h
theorem ty_same {K : PySem.W.Frag} {H H' : Hp} (S : Same H H') {v : V} {t : Value} (h : TyX K H v t) : TyX K H' v t := by
  cases h with
  | base b =>
    cases b with
    | non => exact .base .non
    | bl x => exact .base (.bl x)
    | int i => exact .base (.int i)
    | str x => exact .base (.str x)
    | flt x => exact .base (.flt x)
    | lst e => exact .base (.lst (S _ _ e))
    | frz e => exact .base (.frz (S _ _ e))
    | tup e => exact .base (.tup (S _ _ e))
    | dK e => exact .base (.dK (S _ _ e))
    | dT e => exact .base (.dT (S _ _ e))
    | ins e x1 x2 x3 x4 x5 => exact .base (.ins (S _ _ e) x1 x2 x3 x4 x5)
  | byt b => exact .byt b
  | set e => exact .set (S _ _ e)
  | kList e c => exact .kList e c
  | kTuple e c => exact .kTuple e c
  | kDict e c => exact .kDict e c
  | fTuple e => exact .fTuple (S _ _ e)
  | fDict e => exact .fDict (S _ _ e)
end Tp
set_option Elab.async false
set_option linter.all false
set_option maxRecDepth 100000
set_option maxHeartbeats 4000000
namespace Tp
open PySem PySem.Spec PyProof.Rows L2
section
variable {X : Cx} {e : Expr} {es : List Expr} {ta : TA} {x : Str} {B : Addr} {p1 p2 pos : Pos}
end
def spXI (C : Addr) (f : Str) : Sp := fun vs H Q _ => ∃ (a : Addr) (v : V), vs = [.ref a, v] ∧ H a = some (exo a C none) ∧
  ∀ dx, H dx = none → dx ≠ a → Q .non (upd (upd H dx (exd dx [(f, v)])) a (exo a C (some dx)))
section
variable {X : Cx} {x f : Str} {C fI : Addr} {fd : FuncData} {e : Expr} {te : TE} {p pos pos2 : Pos}
end
end Tp
set_option Elab.async false
set_option linter.all false
set_option maxRecDepth 100000
set_option maxHeartbeats 4000000
namespace Tp
open PySem PySem.Spec PyProof.Rows L2
structure Cl where
  c : Value
  i : Option Nat
  ts : Addr → Value → Option Addr → TS
def setO (σ : L2.St) (i : Option Nat) (v : Option V) : L2.St := match i with
  | some j => σ.set j v
  | none => σ
def wCl (K : PySem.W.Frag) (Wout : WX) (D : Ends) : List Cl → WX
  | [] => Wout
  | k :: r => fun cls d σ H => ∃ b, PySem.W.exmOne K cls k.c = some b ∧
      (b = true → ∀ a, H a = none → k.ts a cls d { nx := fun σ' H' => D.nx (setO σ' k.i none) H', rt := D.rt, bk := fun σ' H' => D.bk (setO σ' k.i none) H', ct := fun σ' H' => D.ct (setO σ' k.i none) H' } (setO σ k.i (some (.ref a))) H) ∧
      (b = false → wCl K Wout D r cls d σ H)
inductive HdsA (X : Cx) : List ExceptHandler → List Cl → Prop
  | nil : HdsA X [] []
  | as_ {x n : Str} {i : Nat} {c : Value} {ts : Addr → Value → Option Addr → TS} {b₀ : Stmt} {suite : List Stmt} {np pos' : Pos} {hds : List ExceptHandler} {l : List Cl} (hN : X.N.Nodup) (hi : X.N[i]? = some n) (hln : X.env.kindOf n = some .local) (hc : Names X x c)
      (hsu : ∀ (a : Addr) (oe : Obj) (cls : Value) (d : Option Addr) (pn : List (Addr × Obj)), Zc cls d oe → (∃ vs, oe.data = .fields vs) → PSs (X.suite a ((a, oe) :: pn)) (b₀ :: suite) (ts a cls d)) (r : HdsA X hds l) :
      HdsA X (.ExceptHandler (some (.Name x np)) (some n) (b₀ :: suite) pos' :: hds) (⟨c, some i, ts⟩ :: l)
  | bare {x : Str} {c : Value} {ts : Addr → Value → Option Addr → TS} {b₀ : Stmt} {suite : List Stmt} {np pos' : Pos} {hds : List ExceptHandler} {l : List Cl} (hc : Names X x c)
      (hsu : ∀ (a : Addr) (oe : Obj) (cls : Value) (d : Option Addr) (pn : List (Addr × Obj)), Zc cls d oe → (∃ vs, oe.data = .fields vs) → PSs (X.suite a ((a, oe) :: pn)) (b₀ :: suite) (ts a cls d)) (r : HdsA X hds l) :
      HdsA X (.ExceptHandler (some (.Name x np)) none (b₀ :: suite) pos' :: hds) (⟨c, none, ts⟩ :: l)
section
variable {X : Cx} {body : List Stmt} {h₀ : ExceptHandler} {hds : List ExceptHandler} {l : List Cl} {pos : Pos} {tb : WX → TS} {Wout : WX}
theorem ps_tryA (hs : X.stack = X.env :: X.outer) (hf : X.env.frame = some X.env.locals) (tk : Takes X Wout)
    (hb : ∀ (W : WX) (pn : List (Addr × Obj)) (xe : Value → Shared → Prop), Takes (X.tr pn xe) W → PassesOwn (model X.prog X.w) X.A X.env xe → PSs (X.tr pn xe) body (tb W))
    (hh : HdsA X (h₀ :: hds) l) : PS X (.Try body (h₀ :: hds) [] [] pos) (fun D σ H => tb (wCl X.K Wout D l) D σ H) := by
  refine ⟨fun pins s σ H D I h => ?_⟩
  have ok := I.ok
  have hfr : X.A.frames = some (X.env :: X.outer) := by rw [ok.frames, hs]
  refine wpAny_Try_except ?_
  refine wpAny_mono ((hb (wCl X.K Wout D l) (X.pn ++ pins) (fun e s₁ => wpAny (model X.prog X.w) X.A (noteFrame e X.env) (fun _ s₂ => wpAny (model X.prog X.w) X.A (setFlight e none) (fun _ s₃ =>
    wpAny (model X.prog X.w) X.A (handleBy e X.env (h₀ :: hds)) (SP X pins D) X.xe s₃) X.xe s₂) X.xe s₁) (fun u s' xx => ?_) PassesOwn.looking).run [] s σ H D (I.toTry _) h) (fun f s1 hsp => ?_) (fun e s1 he => he)
  · obtain ⟨a, B, sI, pins', σ', H', cls, d, rfl, J', nb, up, sky, na, os, ag, w⟩ := xx
    have J : Inv X pins σ' H' sI := J'.ofTry ok
    have sky' : Sky B (X.env :: X.outer) a (Zc cls d) X.env.locals s'.heap := by rw [← hs]; exact sky
    show wpAny (model X.prog X.w) X.A (noteFrame (.ref a) X.env) _ _ _
    refine Sky.land Zc.steady hfr hf sky' fun h3 fl3 up3 => ?_
    have J3 : Inv X pins σ' H' { s' with heap := h3 } := J.landed nb fl3.1 (up.trans up3) os ag
    obtain ⟨oe3, vs3, he3, hz3, hd3⟩ := fl3.there
    have notFr : ∀ {h : Heap} {o : Obj} {vs : Array Value}, h.FunFrames B (X.env :: X.outer) → h.get? a = some o → o.data = .fields vs → a ∉ frs (X.env :: X.outer) := fun {h o vs} ff e dd hm => by
      obtain ⟨_, o', e', hnf⟩ := ff.mem hm
      rw [e] at e'; cases e'
      exact hnf _ dd
    have nfr := notFr fl3.2.2.1 he3 hd3
    have nL : a ≠ X.env.locals := fun z => nfr (List.mem_filterMap.mpr ⟨X.env, List.mem_cons_self, by rw [hf, z]⟩)
    have nF : a ∉ X.fs := fun hm => by
      obtain ⟨e, he, q⟩ := List.mem_filterMap.mp hm
      exact nfr (List.mem_filterMap.mpr ⟨e, List.mem_cons_of_mem _ he, q⟩)
    have S3 := J3.suite he3 hd3 na nL nF
    have LT : PySem.W.Looks (model X.prog X.w) h3 (typeOf (.ref a)) cls := fun A Q E s k q => wpAny_typeOf_ref (k _ _ he3) (by rw [hz3.1]; exact q)
    have test : ∀ {x : Str} {c : Value} {np : Pos} {Q : Value → Shared → Prop} {E : Value → Shared → Prop}, Names X x c → Q c { s' with heap := h3 } →
        wpAny (model X.prog X.w) (X.A.mark (some (.ref a))) (eval (.Name x np) X.env) Q E { s' with heap := h3 } := fun {x c np Q E} hc q => by
      obtain ⟨hg, hdbg, hm | ⟨hm, hv, hnn⟩⟩ := hc
      · exact ld_glob (X := X.suite a ((a, oe3) :: (X.pn ++ pins))) S3 hg hm q hdbg
      · exact ld_blt (X := X.suite a ((a, oe3) :: (X.pn ++ pins))) S3 hg hm hv q hnn hdbg
    have go : ∀ {hds' : List ExceptHandler} {l' : List Cl}, HdsA X hds' l' → wCl X.K Wout D l' cls d σ' H' →
        wpAny (model X.prog X.w) X.A (handleBy (.ref a) X.env hds') (SP X pins D) X.xe { s' with heap := h3 } := by
      intro hds' l' hk
      induction hk with
      | nil =>
        intro w
        refine wpAny_handleBy_nil ?_
        obtain ⟨k1, k2, k3, oe, vs, T, oT, ts', he, hz, hd, h1, hr⟩ := id fl3
        unfold PySem.passOn
        refine wpAny_bind (wpAny_field he hd h1 ?_)
        rw [if_neg (show ¬ ((Value.ref T == Value.none) = true) from by simp)]
        have fin : wpAny (model X.prog X.w) X.A (setFlight (.ref a) X.env.frame) (fun _ s4 => wpAny (model X.prog X.w) X.A (throw (.ref a) : Sem Flow) (SP X pins D) X.xe s4) X.xe { s' with heap := h3 } := by
          rw [hf]
          refine HandSPX.setFlight_upZ fl3 fun h4 hh4 up4 => wpAny_throw (tk _ _ ?_)
          exact ⟨a, B, sI, pins, σ', H', cls, d, rfl, J, nb, (up.trans up3).trans up4, .inr (.inr (by rw [hs]; exact hh4)), na, os, ag, w⟩
        first
          | exact wpAny_bind (wpAny_pure (wpAny_bind fin))
          | exact wpAny_bind fin
      | @as_ x n i c ts b₀ suite np pos' hds2 l2 hN hi hln hc hsu r ih =>
        intro w
        obtain ⟨b, hb1, hyes, hno⟩ := w
        refine wpAny_handleBy_cons (codeAny_handlers_test ?_) (by intro q; cases q)
        refine test hc ((PySem.W.exm_one (M := model X.prog X.w) (J3.kIn) LT hb1).here ?_)
        cases b with
        | true =>
          refine codeAny_handlers_suite_as ?_
          refine HandSPX.lands_againZ fl3 fun h4 fl4 up4 => ?_
          have J4 : Inv X pins σ' H' { s' with heap := h4 } := J.landed nb fl4.1 ((up.trans up3).trans up4) os ag
          obtain ⟨oe4, vs4, he4, hz4, hd4⟩ := fl4.there
          have S4 := J4.suite he4 hd4 na nL nF
          refine store_ok (X := X.suite a ((a, oe4) :: (X.pn ++ pins))) (v := .ref a) S4 hN hi (.inl hln) rfl (fun s5 S5 => ?_) (.inr hln)
          refine wpAny_mono ((hsu a oe4 cls d (X.pn ++ pins) hz4 ⟨_, hd4⟩).run [] s5 _ H' _ S5 (hyes rfl a na)) (fun f s6 hsp => ?_) (fun _ _ z => False.elim z)
          have end_ : ∀ {σ6 : L2.St} {H6 : Hp} {Q : Shared → Prop}, Inv (X.suite a ((a, oe4) :: (X.pn ++ pins))) [] σ6 H6 s6 → (∀ s7, Inv X pins (σ6.set i none) H6 s7 → Q s7) →
              wpAny (model X.prog X.w) X.A (do bindName X.env n .none; unbindBehindTheSuite X.env n pos') (fun _ s7 => Q s7) X.xe s6 := fun {σ6 H6 Q} S6 hq => gone_ok (S6.unsuite ok) hN hi hln hq
          cases f with
          | ret u =>
            obtain ⟨v6, σ6, H6, S6, r6, q6⟩ := hsp
            exact end_ S6 fun s7 J7 => ⟨_, _, _, J7, r6, q6⟩
          | _ =>
            obtain ⟨σ6, H6, S6, q6⟩ := hsp
            exact end_ S6 fun s7 J7 => ⟨_, _, J7, q6⟩
        | false =>
          show wpAny _ X.A (handleBy (.ref a) X.env hds2) _ _ _
          exact ih (hno rfl)
      | @bare x c ts b₀ suite np pos' hds2 l2 hc hsu r ih =>
        intro w
        obtain ⟨b, hb1, hyes, hno⟩ := w
        refine wpAny_handleBy_cons (codeAny_handlers_test ?_) (by intro q; cases q)
        refine test hc ((PySem.W.exm_one (M := model X.prog X.w) (J3.kIn) LT hb1).here ?_)
        cases b with
        | true =>
          refine codeAny_handlers_suite ?_
          refine HandSPX.lands_againZ fl3 fun h4 fl4 up4 => ?_
          have J4 : Inv X pins σ' H' { s' with heap := h4 } := J.landed nb fl4.1 ((up.trans up3).trans up4) os ag
          obtain ⟨oe4, vs4, he4, hz4, hd4⟩ := fl4.there
          have S4 := J4.suite he4 hd4 na nL nF
          refine wpAny_mono ((hsu a oe4 cls d (X.pn ++ pins) hz4 ⟨_, hd4⟩).run [] _ _ H' _ S4 (hyes rfl a na)) (fun f s6 hsp => ?_) (fun _ _ z => False.elim z)
          cases f with
          | ret u =>
            obtain ⟨v6, σ6, H6, S6, r6, q6⟩ := hsp
            exact ⟨_, _, _, S6.unsuite ok, r6, q6⟩
          | _ =>
            obtain ⟨σ6, H6, S6, q6⟩ := hsp
            exact ⟨_, _, S6.unsuite ok, q6⟩
        | false =>
          show wpAny _ X.A (handleBy (.ref a) X.env hds2) _ _ _
          exact ih (hno rfl)
    exact go hh w
  · cases f with
    | next =>
      obtain ⟨σ', H', J', q⟩ := hsp
      exact wpAny_execs_nil ⟨σ', H', J'.ofTry ok, q⟩
    | ret u =>
      obtain ⟨v, σ', H', J', r, q⟩ := hsp
      exact ⟨v, σ', H', J'.ofTry ok, r, q⟩
    | _ =>
      obtain ⟨σ', H', J', q⟩ := hsp
      exact ⟨σ', H', J'.ofTry ok, q⟩
end
section
open PySem.W
variable {prog : Program} {w : World} {A : Around} {E : Value → Shared → Prop} {s : Shared} {K : Frag} {x D : Addr} {ox : Obj} {od : Option Obj}
theorem find_classX (C : ExcC K D) : findObj K D od "__class__" = some (.bind (.builtin "getset_descriptor.__get__") (.builtin "object.__class__")) := by
  obtain ⟨cd, hc, _⟩ := any_some C.hd
  unfold findObj
  rw [hc, Option.bind_some, C.ha, Option.bind_some]
  simp [C.hn, C.ht]
theorem class_of_exc {Q : Option Value → Shared → Prop} (C : ExcC K D) (X : K.In s.heap) (I : InstAt s.heap x ox D od) (h : Q (some (.ref D)) { s with toks := s.toks + 1 }) :
    wpAny (model prog w) A (getAttr? (.ref x) "__class__") Q E s := by
  obtain ⟨hp, g, d, t, os⟩ := s
  have L0 := I.type (M := model prog w)
  have hx2 : (Value.builtin "BaseException.__getattribute__" == Value.builtin "object.__getattribute__") = false := by decide +kernel
  have hx1 : (onTheHeap (Value.ref D) && Value.builtin "BaseException.__getattribute__" == Value.builtin "object.__getattribute__") = false := by rw [hx2]; rfl
  unfold getAttr? getAttrBy? getAttrBy
  refine wpAny_bind (wpAny_mkText (wpAny_bind (wpAny_attempt (wpAny_holding (wpAny_bind (L0.at (wpAny_bind ((looks_findIn (M := model prog w) X C.hg).at ?_))))))))
  show wpAny _ _ (if (onTheHeap (Value.ref D) && Value.builtin "BaseException.__getattribute__" == Value.builtin "object.__getattribute__") = true then _ else _) _ _ _
  rw [hx1, if_neg Bool.false_ne_true]
  unfold getAttrByItsOwn hookBefore
  refine wpAny_bind ?_
  rw [if_pos (show onTheHeap (Value.ref D) = true from rfl)]
  refine (looks_findIn (M := model prog w) X C.hk).at (wpAny_bind (wpAny_attempt (wpAny_holding ?_)))
  unfold callGetattribute
  rw [show (false && onTheHeap (Value.builtin "BaseException.__getattribute__")) = false from rfl, if_neg Bool.false_ne_true]
  unfold boundAndCalled
  rw [PySem.F.excAttr_ValueError.ga.bind (.ref x)]
  refine wpAny_bind (wpAny_pure ?_)
  show wpAny _ _ (call (.builtin "BaseException.__getattribute__") [.ref x, .str "__class__" t]) _ _ _
  refine wpAny_call (codeAny_call_builtin PySem.F.excAttr_ValueError.ga.plain PySem.F.entry_bexc_ga ?_)
  refine @check_slot (model prog w) _ _ ⟨hp, g, d, t + 1, os⟩ "BaseException.__getattribute__" "BaseException" "__getattribute__" (.ref x) [.str "__class__" t] [] _ (by decide +kernel) (by decide +kernel) (L0.andThen (looks_subIn X C.hs)) (PySem.F.args_bexc_ga (.ref x) (.str "__class__" t)) ?_
  unfold Builtin.«object.__getattribute__»
  refine wpAny_bind (wpAny_of_eq (a := ((Value.ref x : Value), [Value.str "__class__" t])) (by first | rfl | (simp only [slotArgs]; rfl)) ?_)
  refine wpAny_bind (wpAny_pure (wpAny_bind (L0.at (wpAny_bind ((looks_find (M := model prog w) X I (find_classX C)).at ?_)))))
  show wpAny _ _ (holding [Value.builtin "object.__class__"] (call (.builtin "getset_descriptor.__get__") [.builtin "object.__class__", .ref x, .ref D]) >>= ret) _ _ _
  refine wpAny_bind (wpAny_holding (wpAny_call (class_get (s := ⟨hp, g, d, t + 1, os⟩) (ox := ox) (od := od) X I C.hm ?_)))
  refine wpAny_pure ?_
  show wpAny _ _ (handedOut (.ref D)) _ _ _
  rw [handedOut_of (v := .ref D) rfl]
  first
    | exact wpAny_pure (wpAny_pure h)
    | exact wpAny_pure h
    | exact wpAny_pure (wpAny_bind (wpAny_pure (wpAny_pure h)))
theorem kitx_excD (C : ExcC K D) : KitX K (.ref x) (.ref D) (fun h => InstAt h x ox D od) where
  ty := fun _ _ _ I => I.type
  it := fun _ _ X _ => by
    obtain ⟨cdD, hcD, _⟩ := any_some C.hd
    unfold clsIn at hcD
    split at hcD
    · rename_i c' d' cd' sl' ho
      intro A' Q' E' s' k q
      unfold isType loadHead
      exact wpAny_bind (wpAny_loadPart (k _ _ (X _ _ ho)) (wpAny_pure q))
    · cases hcD
  ne := fun h tp dd its n sl X htp => by
    obtain ⟨cdD, hcD, _⟩ := any_some C.hd
    refine Bool.eq_false_iff.mpr fun q => ?_
    have e : D = tp := Value.ref.inj (beq_iff_eq.mp q)
    subst e
    unfold clsIn at hcD
    split at hcD
    · rename_i c' d' cd' sl' ho
      have z := (X _ _ ho).symm.trans htp
      cases z
    · cases hcD
  ca := fun X I k => class_of_exc C X I k
end
def rIsX (K : PySem.W.Frag) (a : Addr) (cls : Value) (d : Option Addr) : List V → Hp → VK → Prop := fun xs H Q => ∃ (D dd : Addr) (fs : List (Str × V)) (c : V) (cv : Value) (b : Bool), xs = [.ref a, c] ∧ cls = .ref D ∧ ExcC K D ∧ d = some dd ∧ H dd = some (.xd fs) ∧
  (∀ u, RelV c u → u = cv) ∧ PySem.W.kitOne K (.ref D) cv = some b ∧ Q (.bl b) H
theorem call_isX {X : Cx} {a : Addr} {oe : Obj} {cls : Value} {d : Option Addr} {pn : List (Addr × Obj)} (hz : Zc cls d oe) (hf : ∃ vs, oe.data = .fields vs) : CallR (X.suite a ((a, oe) :: pn)) (.builtin "isinstance") (rIsX X.K a cls d) := by
  intro pins s σ H xs us Q I r h
  obtain ⟨D, dd, fs, c, cv, b, rfl, rfl, C, rfl, ea, hcv, e, q⟩ := h
  cases r with
  | cons rx rr =>
    cases rr with
    | cons rt rr =>
      cases rr
      cases rx
      have ec := hcv _ rt
      subst ec
      obtain ⟨ha, _⟩ := I.pin (a, oe) (List.mem_append_left _ List.mem_cons_self)
      obtain ⟨vs, hd⟩ := hf
      have hx : ObjOk X.prog X.w H s.heap dd (.xd fs) := I.hok dd _ ea
      obtain ⟨mA, hns, hr⟩ := hx
      obtain ⟨od, ho, hl⟩ := lookIn_ns hns
      have J : PySem.W.InstAt s.heap a oe D (some od) := ⟨ha, hz.1, by unfold PySem.W.notCls; rw [hd] <;> rfl, by rw [hz.2]; exact ho⟩
      exact PySem.W.kia_one (kitx_excD C) I.kIn J e (fun z => nomatch z) fun tk => ⟨.bl b, H, I.kept (t' := tk) fun _ _ z => z, rfl, q⟩
end Tp
set_option Elab.async false
set_option linter.all false
set_option maxRecDepth 100000
set_option maxHeartbeats 4000000
namespace Tp
open PySem PySem.Spec PyProof.Rows L2
def Sys (K : PySem.W.Frag) (H : Hp) : Prop := (∃ o es ep, K.lookup sysModules = some o ∧ o.data = .dict es ep) ∨ (K.lookup sysModules = none ∧ ∃ o φ, H sysModules = some (.frz o (.ext φ)))
theorem Sys.same {K : PySem.W.Frag} {H H' : Hp} (h : Sys K H) (S : Same H H') : Sys K H' := h.imp id fun h => ⟨h.1, let ⟨o, φ, e⟩ := h.2; ⟨o, φ, S _ _ e⟩⟩
mutual
inductive Dq (K : PySem.W.Frag) (H : Hp) : V → PyData → Prop
  | non : Dq K H .non .none
  | bl (b : Bool) : Dq K H (.bl b) (.bool b)
  | int (i : Int) : Dq K H (.int i) (.int i)
  | str (x : Str) : Dq K H (.str x) (.str x)
  | lst {a : Addr} {xs : List V} {ds : List PyData} : SqL K H a xs → DqAll K H xs ds → Dq K H (.ref a) (.list ds)
  | tup {a : Addr} {xs : List V} {ds : List PyData} : SqT K H a xs → DqAll K H xs ds → Dq K H (.ref a) (.tuple ds)
  | dic {a : Addr} {kvs : List (Key × V)} {ds : List (PyData × PyData)} : Rd H a (.dK kvs) → DqAll K H (kvs.map fun p => kV p.1) (ds.map (·.1)) → DqAll K H (kvs.map (·.2)) (ds.map (·.2)) → Dq K H (.ref a) (.dict ds)
inductive DqAll (K : PySem.W.Frag) (H : Hp) : List V → List PyData → Prop
  | nil : DqAll K H [] []
  | cons {v : V} {vs : List V} {d : PyData} {ds : List PyData} : Dq K H v d → DqAll K H vs ds → DqAll K H (v :: vs) (d :: ds)
end
section
variable {X : Cx} {pins : List (Addr × Obj)} {σ : L2.St} {H : Hp} {s : Shared}
theorem sq_far {a : Addr} {xs : List V} (I : Inv X pins σ H s) (sy : Sys X.K H) (h : SqL X.K H a xs) : a ≠ sysModules := by
  rintro rfl
  rcases sy with ⟨o, es, ep, k, d⟩ | ⟨k, o, φ, e⟩
  · obtain ⟨its, _, ⟨o', n, ho, _, _, hd⟩, _⟩ := I.list h
    rw [I.kIn _ _ k] at ho
    cases ho
    rw [d] at hd
    cases hd
  · rcases h with (h | ⟨o', h⟩) | ⟨o', its, n, h, _⟩
    · rw [e] at h; cases h
    · rw [e] at h; cases h
    · rw [k] at h; cases h
theorem key_vals {es : List DictEntry} {vs : List (Key × Value)} (p : Pairs (mixKind X.prog X.w) es vs) : ∀ {kvs : List (Key × V)}, KV kvs vs →
    Vals (kvs.map fun p => kV p.1) (es.map (·.key)) ∧ Vals (kvs.map (·.2)) (es.map (·.val)) := by
  induction p with
  | nil =>
    intro kvs r
    cases r
    exact ⟨.nil, .nil⟩
  | cons h1 h2 _ ih =>
    intro kvs r
    cases r with
    | cons r1 r2 =>
      rename_i e kv es' kvs' _ q qs
      obtain ⟨a, b⟩ := ih r2
      obtain ⟨qk, qv⟩ := q
      obtain ⟨ek, ev⟩ := r1
      refine ⟨.cons ?_ a, .cons (by show RelV qv e.val; rw [h2]; exact ev) b⟩
      have ek : qk = kv.1 := ek
      rcases keyIs_shape (show keyIs kv.1 e.key = true from h1) with ⟨i, t, e1, e2⟩ | ⟨x, t, e1, e2⟩
      · show RelV (kV qk) e.key
        rw [ek, e1, e2]
        exact ⟨t, rfl⟩
      · show RelV (kV qk) e.key
        rw [ek, e1, e2]
        exact ⟨t, rfl⟩
def RdsV (H : Hp) (s : Shared) (v : V) (d : PyData) : Prop := ∀ u, RelV v u → ∃ as, Reads s.heap u d as ∧ sysModules ∉ as
def RdsA (H : Hp) (s : Shared) (vs : List V) (ds : List PyData) : Prop := ∀ us, Vals vs us → ∃ as, ReadsAll s.heap us ds as ∧ sysModules ∉ as
theorem Dq.both (I : Inv X pins σ H s) (sy : Sys X.K H) : (∀ {v : V} {d : PyData}, Dq X.K H v d → RdsV H s v d) ∧ (∀ {vs : List V} {ds : List PyData}, DqAll X.K H vs ds → RdsA H s vs ds) := by
  have h1 : RdsV H s .non .none := fun u r => by cases r; exact ⟨_, .none, by simp⟩
  have h2 : ∀ b, RdsV H s (.bl b) (.bool b) := fun b u r => by cases r; exact ⟨_, .bool b, by simp⟩
  have h3 : ∀ i, RdsV H s (.int i) (.int i) := fun i u r => by obtain ⟨t, rfl⟩ := r; exact ⟨_, .int i t, by simp⟩
  have h4 : ∀ x, RdsV H s (.str x) (.str x) := fun x u r => by obtain ⟨t, rfl⟩ := r; exact ⟨_, .str x t, by simp⟩
  have h5 : ∀ {a : Addr} {xs : List V} {ds : List PyData}, SqL X.K H a xs → DqAll X.K H xs ds → RdsA H s xs ds → RdsV H s (.ref a) (.list ds) := fun hs _ ih u r => by
    cases r
    obtain ⟨its, rv, ⟨o, n, ho, hc, _, hd⟩, _⟩ := I.list hs
    obtain ⟨as, hr, na⟩ := ih its rv
    exact ⟨_, .list ho hc hd hr, fun z => (List.mem_cons.mp z).elim (fun e => sq_far I sy hs e.symm) na⟩
  have h6 : ∀ {a : Addr} {xs : List V} {ds : List PyData}, SqT X.K H a xs → DqAll X.K H xs ds → RdsA H s xs ds → RdsV H s (.ref a) (.tuple ds) := fun hs _ ih u r => by
    cases r
    obtain ⟨its, rv, ⟨o, ho, hc, n, hd⟩, _⟩ := I.tuple hs
    obtain ⟨as, hr, na⟩ := ih its rv
    exact ⟨_, .tuple ho hc hd hr, na⟩
  have h7 : ∀ {a : Addr} {kvs : List (Key × V)} {ds : List (PyData × PyData)}, Rd H a (.dK kvs) → DqAll X.K H (kvs.map fun p => kV p.1) (ds.map (·.1)) → DqAll X.K H (kvs.map (·.2)) (ds.map (·.2)) → RdsA H s (kvs.map fun p => kV p.1) (ds.map (·.1)) → RdsA H s (kvs.map (·.2)) (ds.map (·.2)) → RdsV H s (.ref a) (.dict ds) := fun hd _ _ ik iv u r => by
    cases r
    obtain ⟨_, far, vs, kv, o, es, ep, ho, hx, hdat, _, hp, _⟩ := dk_rd I.hok hd
    obtain ⟨v1, v2⟩ := key_vals hp kv
    obtain ⟨as, r1, n1⟩ := ik _ v1
    obtain ⟨bs, r2, n2⟩ := iv _ v2
    refine ⟨_, .dict ho hx.1 hdat r1 r2, fun z => ?_⟩
    rcases List.mem_append.mp z with z | z
    · rcases List.mem_cons.mp z with z | z
      · rw [← z] at far
        exact absurd far (by decide)
      · exact n1 z
    · exact n2 z
  have h8 : RdsA H s [] [] := fun u r => by cases r; exact ⟨_, .nil, by simp⟩
  have h9 : ∀ {v : V} {vs : List V} {d : PyData} {ds : List PyData}, Dq X.K H v d → DqAll X.K H vs ds → RdsV H s v d → RdsA H s vs ds → RdsA H s (v :: vs) (d :: ds) := fun _ _ i1 i2 u r => by
    cases r with
    | cons r1 r2 =>
      obtain ⟨as, q1, n1⟩ := i1 _ r1
      obtain ⟨bs, q2, n2⟩ := i2 _ r2
      exact ⟨_, .cons q1 q2, fun z => (List.mem_append.mp z).elim n1 n2⟩
  constructor
  · intro v d h
    exact Dq.rec (motive_1 := fun v d _ => RdsV H s v d) (motive_2 := fun vs ds _ => RdsA H s vs ds) h1 h2 h3 h4 h5 h6 h7 h8 h9 h
  · intro v d h
    exact DqAll.rec (motive_1 := fun v d _ => RdsV H s v d) (motive_2 := fun vs ds _ => RdsA H s vs ds) h1 h2 h3 h4 h5 h6 h7 h8 h9 h
end
theorem dq_same {K : PySem.W.Frag} {H H' : Hp} (S : Same H H') : (∀ {v : V} {d : PyData}, Dq K H v d → Dq K H' v d) ∧ (∀ {vs : List V} {ds : List PyData}, DqAll K H vs ds → DqAll K H' vs ds) := by
  have sq : ∀ {a : Addr} {xs : List V}, SqT K H a xs → SqT K H' a xs := by
    rintro a xs ((h | ⟨o, h⟩) | h)
    · exact .inl (.inl (S _ _ h))
    · exact .inl (.inr ⟨o, S _ _ h⟩)
    · exact .inr h
  have rd : ∀ {a : Addr} {u : HO}, Rd H a u → Rd H' a u := fun h => h.imp (S _ _) fun ⟨o, e⟩ => ⟨o, S _ _ e⟩
  constructor
  · intro v d h
    exact Dq.rec (motive_1 := fun v d _ => Dq K H' v d) (motive_2 := fun vs ds _ => DqAll K H' vs ds) .non .bl .int .str (fun s _ ih => .lst (S.seq s) ih) (fun s _ ih => .tup (sq s) ih) (fun r _ _ a b => .dic (rd r) a b) .nil (fun _ _ a b => .cons a b) h
  · intro vs ds h
    exact DqAll.rec (motive_1 := fun v d _ => Dq K H' v d) (motive_2 := fun vs ds _ => DqAll K H' vs ds) .non .bl .int .str (fun s _ ih => .lst (S.seq s) ih) (fun s _ ih => .tup (sq s) ih) (fun r _ _ a b => .dic (rd r) a b) .nil (fun _ _ a b => .cons a b) h
def rReprQ (K : PySem.W.Frag) : List V → Hp → VK → Prop := fun xs H Q => ∃ v d, xs = [v] ∧ Sys K H ∧ Dq K H v d ∧ d.showable = true ∧ d.depth ≤ 60 ∧ d.shown.length ≤ sizeLine ∧ Q (.str d.shown) H
theorem call_reprQ {X : Cx} {k : Nat} (hr : Room k X.A) (hg : X.A.guards = some []) : CallR X (.builtin "repr") (rReprQ X.K) := by
  intro pins s σ H xs us Q I r h
  obtain ⟨v, d, rfl, sy, hd, hs, hp, hz, q⟩ := h
  obtain ⟨u, rfl, ru⟩ := vals1 r
  obtain ⟨as, rd, na⟩ := (Dq.both I sy).1 hd u ru
  have un := hr.un
  have fin : ∀ {z : Str} {s' : Shared} {t : Tok}, Inv X pins σ H s' → d.shown = z → EP X pins σ Q (.str z t) s' := fun J e => ⟨.str d.shown, H, J, ⟨_, by rw [e]⟩, q⟩
  cases hd with
  | non => cases ru; exact PySem.P.repr_of_none (fin (I.tok _) (by simp only [PyData.shown]))
  | bl b => cases ru; exact PySem.P.repr_of_bool (fin (I.tok _) (by simp only [PyData.shown]))
  | int i => obtain ⟨t, rfl⟩ := ru; exact PySem.P.repr_of_int (by simpa [PyData.showable] using hs) (fin (I.tok _) (by simp only [PyData.shown]))
  | str x => obtain ⟨t, rfl⟩ := ru; exact PySem.P.repr_of_str (fin (I.tok _) (by simp only [PyData.shown])) (by simpa only [PyData.shown] using hz)
  | lst _ _ => cases ru; exact repr_of_reads' rd hs (fun _ => na) hg (by omega) (fun _ _ e => e) (fun h' u tk kp => fin (I.kept kp) rfl) hz
  | tup _ _ => cases ru; exact repr_of_reads' rd hs (fun _ => na) hg (by omega) (fun _ _ e => e) (fun h' u tk kp => fin (I.kept kp) rfl) hz
  | dic _ _ _ => cases ru; exact repr_of_reads' rd hs (fun _ => na) hg (by omega) (fun _ _ e => e) (fun h' u tk kp => fin (I.kept kp) rfl) hz
end Tp
set_option Elab.async false
set_option linter.all false
set_option maxRecDepth 100000
set_option maxHeartbeats 4000000
namespace Tp
open PySem PySem.Spec PyProof.Rows L2
section
variable {X : Cx} {CX : CXT} {k : Nat} {f C : Addr} {fd : FuncData} {ps : List Str} {sp : Sp} {dvs : List V} {ds : List Value} {E : L2.St → XK} {x m : Str} {p pos apos : Pos} {e o : Expr} {es : List Expr} {ta ti : TE} {t : TA}
theorem passA0 {X : Cx} (σ : L2.St) : PassesAt (L2.CX X.prog X.w) X σ (fun _ _ _ => False) := fun _ _ _ _ _ _ ⟨_, _, _, _, _, _, _, _, _, _, _, _, w⟩ => w.elim
theorem runE {A : Around} {pins : List (Addr × Obj)} {σ : L2.St} {H : Hp} {s : Shared} {Q : VK} {us : List Value} {vs : List V} {E : XK} (F : FnOk X.prog X.w X.K X.mg X.base CX k f fd ps sp) (hr : Room k A) (e0 : Env0 X.prog X.w X.K X.mg X.base A X.stack s H)
    (hb : Binds X.K fd ps ds) (hd : Vals dvs ds) (hx : PassesAt CX X σ E) (I : Inv X pins σ H s) (r : Vals vs us) (h : sp (vs ++ dvs) H Q E) : wpAny (model X.prog X.w) A (call (.ref f) us) (EP X pins σ Q) X.xe s := by
  have r2 : Vals (vs ++ dvs) (us ++ ds) := r.append hd
  have hl : (us ++ ds).length = ps.length := by rw [← r2.length]; exact F.len _ _ _ _ h
  refine wpAny_call (codeAny_mono (F.run A X.stack s H ⟨us, []⟩ (us ++ ds) (vs ++ dvs) Q E hr e0 (hb s us I.kIn hl) r2 h) fun r s' hq => ?_)
  cases r with
  | error e => exact hx pins H s e s' I hq
  | ok fl =>
    cases fl with
    | ret u => exact I.after hq
    | _ => exact False.elim hq
def tMethE (C : Addr) (m : Str) (sp : Sp) (dvs : List V) (E : L2.St → XK) (ta : TE) (t : TA) : TE := fun σ H Q => ta σ H fun x H1 => ∃ a dx fs, x = .ref a ∧ H1 a = some (.ins C dx fs) ∧ fs.lookup m = none ∧ t σ H1 fun vs H2 => sp (x :: (vs ++ dvs)) H2 Q (E σ)
theorem pe_methE {pl : Sem Bool} (he : PE X o ta) (c : Cls X.K C) (hm : Meth X.K C m f) (F : FnOk X.prog X.w X.K X.mg X.base CX k f fd ps sp) (hr : Room k X.A) (hb : Binds X.K fd ps ds) (hd : Vals dvs ds) (hx : ∀ σ, PassesAt CX X σ (E σ)) (ha : PA X (e :: es) t)
    (hst : starEach (e :: es) X.env = (false, eval e X.env) :: starEach es X.env := by rfl) (hpl : (backTo pos (starEach es X.env)).any (·.1) = false := by rfl)
    (ht : eval (.Call (.Attribute o m apos) (e :: es) [] pos) X.env = (do
      let ov ← eval o X.env
      standAt apos.atName
      let (f, first) ← holding [ov] (getMethod ov m pl)
      callWith pos f first (backTo pos (starEach (e :: es) X.env)) (backToKw pos (keywordEach [] X.env))) := by rfl) :
    PE X (.Call (.Attribute o m apos) (e :: es) [] pos) (tMethE C m sp dvs E ta t) := by
  refine ⟨fun pins s σ H Q I h => ?_⟩
  refine PySem.W.methodCall_KW (pl := pl) (thn (he.run pins s σ H _ I h) fun u s1 ⟨x, H1, I1, rx, a, dx, fs, ex, ea, l, q⟩ => ?_) ht
  subst ex
  obtain rfl : u = Value.ref a := rx
  refine getmeth_ok I1 ea c hm l ?_
  refine PySem.W.callWith_K (first := [.ref a]) (h₀ := X.base) I.ok.mod.kin hm.kp (thn (ha.run pos pins s1 σ H1 _ I1 q) fun us s2 ⟨vs, H2, I2, r, q2⟩ => ⟨I2.kIn, ?_⟩) hst hpl
  exact runE (us := .ref a :: us) (vs := .ref a :: vs) F hr I2.env0 hb hd (hx σ) I2 (.cons rfl r) q2
end
section
variable {X : Cx} {CX : CXT} {k : Nat} {f C : Addr} {fd : FuncData} {ps : List Str} {sp : Sp} {E : XK}
end
end Tp
set_option Elab.async false
set_option linter.all false
set_option maxRecDepth 100000
set_option maxHeartbeats 4000000
namespace Tp
open PySem PySem.Spec PyProof.Rows L2
section
variable {P : Program} {w : World} {K : PySem.W.Frag} {mg mb : Str → Option Value} {CX : CXT} {k : Nat} {fa a : Addr} {fd : FuncData} {x : Str} {sp : Sp} {s1 : Shared} {vs : List Value} {ns : List Int}
end
end Tp
set_option Elab.async false
set_option linter.all false
set_option maxRecDepth 100000
set_option maxHeartbeats 4000000
namespace Tp
open PySem PySem.Spec PyProof.Rows L2
section
variable {P : Program} {w : World} {K : PySem.W.Frag} {mg : Str → Option Value} {base : Heap} {k : Nat} {f : Addr} {fd : FuncData} {ps : List Str} {sp : Sp}
theorem okX {x qual : Str} {st : Stmt} {N : List Str} (F : Fun K x qual st f fd) (S : FnScope N ps (defScope st)) (ar : ∀ vs H Q E, sp vs H Q E → vs.length = ps.length)
    (bd : ∀ (cdv : Value) (A : Around) (outer : List Env) (s : Shared) (H : Hp) (vs : List V) (Q : VK) (E : XK),
      Room k (A.deeper (envOfC qual (defScope st) s.heap.objs.size f cdv)) → sp vs H Q E →
      Takes (cxOf (L2.CX P w) P w K mg base N qual (defScope st) f cdv A outer s H E) (fun cls d _ H => E cls d H) →
      PassesOwn (model P w) (cxOf (L2.CX P w) P w K mg base N qual (defScope st) f cdv A outer s H E).A (cxOf (L2.CX P w) P w K mg base N qual (defScope st) f cdv A outer s H E).env (cxOf (L2.CX P w) P w K mg base N qual (defScope st) f cdv A outer s H E).xe →
      ∃ t, PSs (cxOf (L2.CX P w) P w K mg base N qual (defScope st) f cdv A outer s H E) (defBody st) t ∧ t { nx := fun _ H' => Q .non H', rt := Q } (start N vs) H) :
    FnOk P w K mg base (L2.CX P w) (k + 1) f fd ps sp := by
  obtain ⟨oc, od, kV, doc, pm, an, cdv, ct, osl, rfl, lk, hcd⟩ := F.ex
  refine fn_of lk hcd S ar fun A outer s H vs Q E hr hsp => ?_
  exact bd cdv A outer s H vs Q E hr hsp (takes_of rfl rfl rfl rfl) (passes_of rfl)
theorem okN {x qual : Str} {st : Stmt} {N : List Str} (F : Fun K x qual st f fd) (S : FnScope N ps (defScope st)) (ar : ∀ vs H Q E, sp vs H Q E → vs.length = ps.length)
    (bd : ∀ (cdv : Value) (A : Around) (outer : List Env) (s : Shared) (H : Hp) (vs : List V) (Q : VK) (E : XK),
      Room k (A.deeper (envOfC qual (defScope st) s.heap.objs.size f cdv)) → sp vs H Q E →
      ∃ t, PSs (cxOf CX0 P w K mg base N qual (defScope st) f cdv A outer s H E).nox (defBody st) t ∧ t { nx := fun _ H' => Q .non H', rt := Q } (start N vs) H) :
    FnOk P w K mg base CX0 (k + 1) f fd ps sp := by
  obtain ⟨oc, od, kV, doc, pm, an, cdv, ct, osl, rfl, lk, hcd⟩ := F.ex
  refine fn_of lk hcd S ar fun A outer s H vs Q E hr hsp => ?_
  obtain ⟨t, h, q⟩ := bd cdv A outer s H vs Q E hr hsp
  exact ⟨t, h.nox, q⟩
end
theorem kit_ref {K : PySem.W.Frag} {C : Addr} {t : Value} {b : Bool} (ne : (t == Value.ref C) = false) (hd : PySem.W.hasDictIn K C = true) (ht : PySem.W.typeIn K (.ref C) = some (.type "type")) (h : PySem.W.subIn K t (.ref C) = some b) : PySem.W.kitOne K t (.ref C) = some b := by
  obtain ⟨cd, hc, _⟩ := PySem.W.any_some hd
  unfold PySem.W.kitOne PySem.W.kitCls
  rw [if_neg (by rw [ne]; exact Bool.false_ne_true)]
  show (if ((PySem.W.clsIn K C).isSome && PySem.W.typeIn K (.ref C) == some (.type "type")) = true then PySem.W.subIn K t (.ref C) else none) = some b
  rw [if_pos (by rw [hc, ht] <;> rfl)]
  exact h
theorem kit_self {K : PySem.W.Frag} {t : Value} : PySem.W.kitOne K t t = some true := by
  unfold PySem.W.kitOne
  rw [if_pos (beq_self_eq_true t)]
theorem kit_own {K : PySem.W.Frag} {C : Addr} {n : String} {b : Bool} (h : PySem.W.subIn K (.ref C) (.type n) = some b) (hm : PySem.W.kitMeta n = true) : PySem.W.kitOne K (.ref C) (.type n) = some b := by
  unfold PySem.W.kitOne PySem.W.kitCls
  rw [if_neg (by intro q; cases q)]
  show (if PySem.W.kitMeta n = true then PySem.W.subIn K (.ref C) (.type n) else none) = some b
  rw [if_pos hm]
  exact h
theorem hu1 {k : Nat} {A : Around} (hr : Room k A) : A.units + 1 < cLine := Nat.lt_of_le_of_lt (by omega) hr.units
theorem takes0 {X : Cx} : Takes X (fun _ _ _ _ => False) := fun _ _ ⟨_, _, _, _, _, _, _, _, _, _, _, _, _, _, _, _, w⟩ => w.elim
theorem op_inDk {X : Cx} (hu : X.A.units + 1 < cLine) : OpR X (compareOp .In) (fun x y H Q => ∃ a o, y = .ref a ∧ DGet H a x o ∧ Q (.bl o.isSome) H) := by
  intro pins s σ H x y v u Q I rx ry h
  obtain ⟨a, o, rfl, g, q⟩ := h
  obtain rfl : u = Value.ref a := ry
  exact d_in hu I g rx fun s3 I3 => ⟨.bl o.isSome, H, I3, rfl, q⟩
theorem op_notInDk {X : Cx} (hu : X.A.units + 1 < cLine) : OpR X (compareOp .NotIn) (fun x y H Q => ∃ a o, y = .ref a ∧ DGet H a x o ∧ Q (.bl (!o.isSome)) H) := by
  intro pins s σ H x y v u Q I rx ry h
  obtain ⟨a, o, rfl, g, q⟩ := h
  obtain rfl : u = Value.ref a := ry
  exact d_notIn hu I g rx fun s3 I3 => ⟨.bl (!o.isSome), H, I3, rfl, q⟩
end Tp
set_option Elab.async false
set_option linter.all false
set_option maxRecDepth 100000
set_option maxHeartbeats 4000000
namespace Tp
open PySem PySem.Spec PyProof.Rows L2
abbrev Row := List (Str × Int)
def atR (r : Row) (x : Str) : Option Int := (r.find? fun p => decide (p.1 = x)).map (·.2)
def putR (r : Row) (x : Str) (i : Int) : Row := if (r.any fun p => decide (p.1 = x)) = true then r.map (fun p => if p.1 = x then (p.1, i) else p) else r ++ [(x, i)]
def NdR (r : Row) : Prop := (r.map (·.1)).Nodup
theorem atR_cons {p : Str × Int} {r : Row} {x : Str} : atR (p :: r) x = if p.1 = x then some p.2 else atR r x := by
  by_cases e : p.1 = x
  · rw [if_pos e]; simp [atR, List.find?_cons, e]
  · rw [if_neg e]; simp [atR, List.find?_cons, e]
theorem any_at (x : Str) : ∀ r : Row, (r.any fun p => decide (p.1 = x)) = (atR r x).isSome
  | [] => rfl
  | p :: r => by
    rw [List.any_cons, atR_cons, any_at x r]
    by_cases e : p.1 = x
    · simp [e]
    · simp [e]
theorem at_none {x : Str} : ∀ {r : Row}, atR r x = none ↔ x ∉ r.map (·.1)
  | [] => by simp [atR]
  | p :: r => by
    rw [atR_cons, List.map_cons, List.mem_cons]
    by_cases e : p.1 = x
    · rw [if_pos e]; simp [e]
    · rw [if_neg e, at_none (r := r)]
      exact ⟨fun h z => z.elim (fun z => e z.symm) h, fun h z => h (.inr z)⟩
theorem nd_put {r : Row} (nd : NdR r) (x : Str) (i : Int) : NdR (putR r x i) := by
  unfold putR
  by_cases c : (r.any fun p => decide (p.1 = x)) = true
  · rw [if_pos c]
    unfold NdR
    rw [List.map_map]
    have : ((fun p : Str × Int => p.1) ∘ fun p : Str × Int => if p.1 = x then (p.1, i) else p) = fun p => p.1 := by
      funext p
      by_cases e : p.1 = x <;> simp [e]
    rw [this]
    exact nd
  · rw [if_neg c]
    unfold NdR
    rw [List.map_append, List.nodup_append]
    refine ⟨nd, by simp, fun a ha b hb e => ?_⟩
    simp at hb
    subst hb
    subst e
    rw [any_at] at c
    have : atR r a = none := by
      cases h : atR r a with
      | none => rfl
      | some j => rw [h] at c; exact absurd rfl c
    exact at_none.mp this ha
section
variable {X : Cx}
end
end Tp
set_option Elab.async false
set_option linter.all false
set_option maxRecDepth 100000
set_option maxHeartbeats 4000000
namespace Tp
open PySem PySem.Spec PyProof.Rows L2
end Tp
set_option Elab.async false
set_option linter.all false
set_option maxRecDepth 100000
set_option maxHeartbeats 4000000
namespace Tp
open PySem PySem.Spec PyProof.Rows L2
section
variable {X : Cx} {K : PySem.W.Frag}
end
end Tp
set_option Elab.async false
set_option linter.all false
set_option maxRecDepth 100000
set_option maxHeartbeats 4000000
namespace Tp
open PySem PySem.Spec PyProof.Rows L2
def SqB (b : Bool) (K : PySem.W.Frag) (H : Hp) (a : Addr) (xs : List V) : Prop := match b with
  | true => SqT K H a xs
  | false => SqL K H a xs
theorem SqT.same {K : PySem.W.Frag} {H H' : Hp} {a : Addr} {xs : List V} (S : Same H H') (h : SqT K H a xs) : SqT K H' a xs := by
  rcases h with (h | ⟨o, h⟩) | h
  · exact .inl (.inl (S _ _ h))
  · exact .inl (.inr ⟨o, S _ _ h⟩)
  · exact .inr h
theorem SqB.same {b : Bool} {K : PySem.W.Frag} {H H' : Hp} {a : Addr} {xs : List V} (S : Same H H') (h : SqB b K H a xs) : SqB b K H' a xs := by
  cases b with
  | true => exact SqT.same S h
  | false => exact Same.seq S h
def ItB (b : Bool) (K : PySem.W.Frag) (a : Addr) : It := match b with
  | true => Itt K a
  | false => Itl K a
theorem walk_B {b : Bool} {K : PySem.W.Frag} {a : Addr} {xs : List V} : Walk (ItB b K a) xs.length (fun H => SqB b K H a xs) (YAt xs) := by
  cases b with
  | true => exact walk_tup
  | false => exact walk_list
def iSeqB (K : PySem.W.Frag) (te : TE) : TI := fun σ H R => te σ H fun x H1 => ∃ (b : Bool) (a : Addr) (xs : List V), x = .ref a ∧ SqB b K H1 a xs ∧ R (ItB b K a) H1
section
variable {X : Cx} {K : PySem.W.Frag} {tg e : Expr} {te : TE}
theorem pi_B (hK : X.K = K) (he : PE X e te) : PI X tg e (iSeqB K te) := by
  subst hK
  refine ⟨fun pins s σ H R I h => ?_⟩
  refine thn (he.run pins s σ H _ I h) fun v s1 ⟨x, H1, I1, r1, b, a, xs, ex, hq, q⟩ => ?_
  subst ex
  cases r1
  cases b with
  | false =>
    obtain ⟨its, rv, p, hz⟩ := I1.list hq
    refine wpAny_pyIter_list p.isList ?_
    refine ⟨s1.heap.objs.size, [s1.heap.objs.size], _, _, H1, rfl, I1.kept (t' := s1.toks) fun b o e => Heap.get?_push_of_some _ e, turn_list a _, ⟨_, Heap.get?_push_size _ rfl, rfl, rfl⟩, fun b hb => ?_, q⟩
    have e : b = s1.heap.objs.size := by simpa using hb
    subst e
    exact I1.fpOk (Nat.le_refl _) (I1.hok.fresh (Nat.le_refl _))
  | true =>
    obtain ⟨its, rv, p, hz⟩ := I1.tuple hq
    refine wpAny_pyIter_tuple (show s1.heap.IsTuple a its.toArray from p) ?_
    refine ⟨s1.heap.objs.size, [s1.heap.objs.size], _, _, H1, rfl, I1.kept (t' := s1.toks) fun b o e => Heap.get?_push_of_some _ e, turn_tuple a _, ⟨_, Heap.get?_push_size _ rfl, rfl, rfl⟩, fun b hb => ?_, q⟩
    have e : b = s1.heap.objs.size := by simpa using hb
    subst e
    exact I1.fpOk (Nat.le_refl _) (I1.hok.fresh (Nat.le_refl _))
end
end Tp
set_option Elab.async false
set_option linter.all false
set_option maxRecDepth 100000
set_option maxHeartbeats 4000000
namespace Tp
open PySem PySem.Spec PyProof.Rows L2
section
variable {X : Cx} {x f : Str} {C fI : Addr} {fd : FuncData} {e : Expr} {te : TE} {p pos : Pos}
end
inductive TyA (K : PySem.W.Frag) (H : Hp) : V → Value → Prop
  | x {v : V} {t : Value} (h : TyX K H v t) : TyA K H v t
  | exc {a D dd : Addr} {fs : List (Str × V)} (e : H a = some (exo a D (some dd))) (ed : H dd = some (exd dd fs)) (C : ExcC K D) : TyA K H (.ref a) (.ref D)
theorem TyA.same {K : PySem.W.Frag} {H H' : Hp} (S : Same H H') {v : V} {t : Value} (h : TyA K H v t) : TyA K H' v t := by
  cases h with
  | x h => exact .x (ty_same S h)
  | exc e ed C => exact .exc (S _ _ e) (S _ _ ed) C
theorem kitA_of {X : Cx} {pins : List (Addr × Obj)} {σ : L2.St} {H : Hp} {s : Shared} {x : V} {u t : Value} (I : Inv X pins σ H s) (rx : RelV x u) (ty : TyA X.K H x t) : ∃ P : Heap → Prop, PySem.W.KitX X.K u t P ∧ P s.heap ∧ u ≠ .builtin "__main__.__loader__#opaque" := by
  cases ty with
  | x h => exact kit_of I rx h
  | @exc a D dd fs e ed C =>
    cases rx
    obtain ⟨t1, he⟩ := exo_at I.hok e
    obtain ⟨mA, hns, hr⟩ := exd_at I.hok ed
    obtain ⟨od, ho, hl⟩ := lookIn_ns hns
    refine ⟨_, kitx_excD (x := a) (ox := _) (od := some od) C, ⟨he, rfl, rfl, ho⟩, fun z => nomatch z⟩
def rIsA (K : PySem.W.Frag) : List V → Hp → VK → Prop := fun xs H Q => ∃ (x c : V) (t u : Value) (b : Bool), xs = [x, c] ∧ ClsV c u ∧ TyA K H x t ∧ PySem.W.kitOne K t u = some b ∧ Q (.bl b) H
theorem call_isA {X : Cx} {K : PySem.W.Frag} (hK : X.K = K) : CallR X (.builtin "isinstance") (rIsA K) := by
  subst hK
  intro pins s σ H xs us Q I r h
  obtain ⟨x, c, t, u, b, rfl, k, ty, e, q⟩ := h
  obtain ⟨u1, u2, rfl, r1, r2⟩ := vals2 r
  have e2 := k.eq r2
  subst e2
  obtain ⟨P, Z, p, hx⟩ := kitA_of I r1 ty
  exact PySem.W.kia_one Z I.kIn p e hx fun tk => ⟨.bl b, H, I.tok tk, rfl, q⟩
theorem ty_sqL {K : PySem.W.Frag} {H : Hp} {a : Addr} {xs : List V} (h : SqL K H a xs) : TyX K H (.ref a) (.type "list") := by
  rcases h with (h | ⟨o, h⟩) | ⟨o, its, n, e, c, _⟩
  · exact .base (.lst h)
  · exact .base (.frz h)
  · exact .kList e c
theorem ty_sqT {K : PySem.W.Frag} {H : Hp} {a : Addr} {xs : List V} (h : SqT K H a xs) : TyX K H (.ref a) (.type "tuple") := by
  rcases h with (h | ⟨o, h⟩) | ⟨o, its, n, e, c, _⟩
  · exact .base (.tup h)
  · exact .fTuple h
  · exact .kTuple e c
end Tp
set_option Elab.async false
set_option linter.all false
set_option maxRecDepth 100000
set_option maxHeartbeats 4000000
namespace Tp
open PySem PySem.Spec PyProof.Rows L2
def tyD : PyData → Value
  | .none => .type "NoneType"
  | .bool _ => .type "bool"
  | .int _ => .type "int"
  | .str _ => .type "str"
  | .list _ => .type "list"
  | .tuple _ => .type "tuple"
  | .dict _ => .type "dict"
theorem dq_ty {K : PySem.W.Frag} {H : Hp} {v : V} {d : PyData} (h : Dq K H v d) : TyX K H v (tyD d) := by
  cases h with
  | non => exact .base .non
  | bl b => exact .base (.bl b)
  | int i => exact .base (.int i)
  | str x => exact .base (.str x)
  | lst s _ => exact ty_sqL s
  | tup s _ => exact ty_sqT s
  | dic r _ _ =>
    rcases r with r | ⟨o, r⟩
    · exact .base (.dK r)
    · exact .fDict r
def isLT : PyData → Bool
  | .list _ => true
  | .tuple _ => true
  | _ => false
def isI : PyData → Bool
  | .int _ => true
  | .bool _ => true
  | _ => false
def isB : PyData → Bool
  | .bool _ => true
  | _ => false
def isDc : PyData → Bool
  | .dict _ => true
  | _ => false
section
variable {K : PySem.W.Frag} (d : PyData)
theorem kit_int : PySem.W.kitOne K (tyD d) (.type "int") = some (isI d) := by
  cases d <;> (refine kit_ty ?_; first | (show _ = some true; decide +kernel) | (show _ = some false; decide +kernel))
theorem kit_dict : PySem.W.kitOne K (tyD d) (.type "dict") = some (isDc d) := by
  cases d <;> (refine kit_ty ?_; first | (show _ = some true; decide +kernel) | (show _ = some false; decide +kernel))
theorem kit_list : PySem.W.kitOne K (tyD d) (.type "list") = some (match d with | .list _ => true | _ => false) := by
  cases d <;> (refine kit_ty ?_; first | (show _ = some true; decide +kernel) | (show _ = some false; decide +kernel))
theorem kit_tuple : PySem.W.kitOne K (tyD d) (.type "tuple") = some (match d with | .tuple _ => true | _ => false) := by
  cases d <;> (refine kit_ty ?_; first | (show _ = some true; decide +kernel) | (show _ = some false; decide +kernel))
theorem kit_lt : PySem.W.kitAny K (tyD d) [.type "list", .type "tuple"] = some (isLT d) := by
  have h1 := kit_list (K := K) d
  have h2 := kit_tuple (K := K) d
  unfold PySem.W.kitAny
  rw [h1]
  cases d with
  | list _ => rfl
  | tuple _ => show PySem.W.kitAny K _ [.type "tuple"] = _; unfold PySem.W.kitAny; rw [h2]; rfl
  | _ => show PySem.W.kitAny K _ [.type "tuple"] = _; unfold PySem.W.kitAny; rw [h2]; show PySem.W.kitAny K _ [] = _; unfold PySem.W.kitAny; rfl
end
theorem cls_lt : Paired ClsV [.ty "list", .ty "tuple"] [.type "list", .type "tuple"] := .cons (.ty _) (.cons (.ty _) .nil)
theorem dqAll_len {K : PySem.W.Frag} {H : Hp} : ∀ {vs : List V} {ds : List PyData}, DqAll K H vs ds → vs.length = ds.length
  | _, _, .nil => rfl
  | _, _, .cons _ t => congrArg Nat.succ (dqAll_len t)
theorem dqAll_get {K : PySem.W.Frag} {H : Hp} : ∀ {vs : List V} {ds : List PyData}, DqAll K H vs ds → ∀ {i : Nat} {v : V}, vs[i]? = some v → ∃ d, ds[i]? = some d ∧ Dq K H v d
  | _, _, .cons a t, 0, v, h => ⟨_, rfl, by cases h; exact a⟩
  | _, _, .cons a t, i + 1, v, h => dqAll_get t h
def itemsD : PyData → List PyData
  | .list xs => xs
  | .tuple xs => xs
  | _ => []
def isTup : PyData → Bool
  | .tuple _ => true
  | _ => false
theorem dq_seq {K : PySem.W.Frag} {H : Hp} {v : V} {d : PyData} (h : Dq K H v d) (l : isLT d = true) : ∃ a xs, v = .ref a ∧ SqB (isTup d) K H a xs ∧ DqAll K H xs (itemsD d) := by
  cases h with
  | lst s r => exact ⟨_, _, rfl, s, r⟩
  | tup s r => exact ⟨_, _, rfl, s, r⟩
  | _ => cases l
theorem dqAll_app {K : PySem.W.Frag} {H : Hp} : ∀ {vs ws : List V} {ds es : List PyData}, DqAll K H vs ds → DqAll K H ws es → DqAll K H (vs ++ ws) (ds ++ es)
  | _, _, _, _, .nil, h => h
  | _, _, _, _, .cons a t, h => .cons a (dqAll_app t h)
theorem dp_dq {K : PySem.W.Frag} {H : Hp} : (∀ {v : V} {d : PyData}, Dp K H v d → Dq K H v d) ∧ (∀ {vs : List V} {ds : List PyData}, DpAll K H vs ds → DqAll K H vs ds) := by
  constructor
  · intro v d h
    exact Dp.rec (motive_1 := fun v d _ => Dq K H v d) (motive_2 := fun vs ds _ => DqAll K H vs ds) .non .bl .int .str (fun s _ ih => .lst s ih) (fun s _ ih => .tup s ih) .nil (fun _ _ a b => .cons a b) h
  · intro vs ds h
    exact DpAll.rec (motive_1 := fun v d _ => Dq K H v d) (motive_2 := fun vs ds _ => DqAll K H vs ds) .non .bl .int .str (fun s _ ih => .lst s ih) (fun s _ ih => .tup s ih) .nil (fun _ _ a b => .cons a b) h
theorem sqB_len {b : Bool} {K : PySem.W.Frag} {H : Hp} {a : Addr} {xs : List V} (h : SqB b K H a xs) : SqL K H a xs ∨ SqT K H a xs := by
  cases b with
  | true => exact .inr h
  | false => exact .inl h
def FitQ (n w : Nat) (d : PyData) : Prop := d.showable = true ∧ d.depth ≤ n ∧ d.shown.length ≤ w
theorem FitQ.up {n w m v : Nat} {d : PyData} (h : FitQ n w d) (h1 : n ≤ m) (h2 : w ≤ v) : FitQ m v d := ⟨h.1, Nat.le_trans h.2.1 h1, Nat.le_trans h.2.2 h2⟩
theorem fitq_of {n : Nat} {d : PyData} (h : Fit n d) : FitQ n (wt d) d := let ⟨a, _, b, c⟩ := fit_ok n d h; ⟨a, b, c⟩
theorem fitq_int {n : Nat} {i : Int} (h : i.natAbs < 10 ^ 40) : FitQ n 50 (.int i) := by
  have := fitq_of (n := n) (d := .int i) (.int h)
  simpa [wt] using this
theorem fitq_str {n m : Nat} {z : Str} (h : Sm m z) : FitQ n (10 * m + 2) (.str z) := by
  have := fitq_of (n := n) (d := .str z) (h.fit)
  refine this.up (Nat.le_refl _) ?_
  simp only [wt]
  have := h.1
  omega
theorem fitq_bool {n : Nat} (b : Bool) : FitQ n 5 (.bool b) := by
  have := fitq_of (n := n) (d := .bool b) (.bl b)
  simpa [wt] using this
theorem fitq_none {n : Nat} : FitQ n 4 .none := by
  have := fitq_of (n := n) (d := .none) .non
  simpa [wt] using this
theorem fitq_all {n w : Nat} : ∀ xs : List PyData, (∀ x ∈ xs, FitQ n w x) → PyData.showableAll xs = true ∧ PyData.depthAll xs ≤ n ∧ ((PyData.shownAll xs).map (·.length)).sum + 2 * (PyData.shownAll xs).length ≤ xs.length * (w + 2)
  | [], _ => ⟨by simp only [PyData.showableAll], by simp only [PyData.depthAll]; omega, by simp [PyData.shownAll]⟩
  | x :: xs, h => by
    obtain ⟨a1, a3, a4⟩ := h x (List.mem_cons_self ..)
    obtain ⟨b1, b3, b4⟩ := fitq_all xs fun y hy => h y (List.mem_cons_of_mem _ hy)
    refine ⟨by simp only [PyData.showableAll, a1, b1, Bool.and_self], by simp only [PyData.depthAll]; omega, ?_⟩
    simp only [PyData.shownAll, List.map_cons, List.sum_cons, List.length_cons]
    rw [Nat.add_mul xs.length 1 (w + 2), Nat.one_mul]
    omega
theorem fitq_list {n w : Nat} {xs : List PyData} (h : ∀ x ∈ xs, FitQ n w x) : FitQ (n + 1) (xs.length * (w + 2) + 3) (.list xs) := by
  obtain ⟨b1, b3, b4⟩ := fitq_all xs h
  refine ⟨by simp only [PyData.showable, b1], by simp only [PyData.depth]; omega, ?_⟩
  simp only [PyData.shown]
  exact Nat.le_trans (listText_len_le _) (by omega)
theorem fitq_tuple {n w : Nat} {xs : List PyData} (h : ∀ x ∈ xs, FitQ n w x) : FitQ (n + 1) (xs.length * (w + 2) + 3) (.tuple xs) := by
  obtain ⟨b1, b3, b4⟩ := fitq_all xs h
  refine ⟨by simp only [PyData.showable, b1], by simp only [PyData.depth]; omega, ?_⟩
  simp only [PyData.shown]
  exact Nat.le_trans (tupleText_len_le _) (by omega)
theorem FitQ.ok {n w : Nat} {d : PyData} (h : FitQ n w d) (hn : n ≤ 60) (hw : w ≤ 16000000) : d.showable = true ∧ d.depth ≤ 60 ∧ d.shown.length ≤ sizeLine := ⟨h.1, Nat.le_trans h.2.1 hn, Nat.le_trans h.2.2 (Nat.le_trans hw (by decide))⟩
end Tp
set_option Elab.async false
set_option linter.all false
set_option maxRecDepth 100000
set_option maxHeartbeats 4000000
namespace Tp
open PySem PySem.Spec PyProof.Rows L2
section
variable {X : Cx} {K : PySem.W.Frag} {es : List Expr} {k : Nat} {t : TGs} {n : Nat} {pos : Pos}
end
section
variable {X : Cx} {CX : CXT} {k : Nat} {f : Addr} {fd : FuncData} {ps ks : List Str} {sp : Sp} {E : XK} {x : Str} {p pos : Pos} {tk : TA} {kws : List Keyword} {g : List Value → List Value → List Value} {gV : List V → List V → List V}
end
section
variable {M : Model} {A : Around} {E : Value → Shared → Prop} {s : Shared} {env : Env}
end
section
variable {X : Cx}
end
end Tp
set_option Elab.async false
set_option linter.all false
set_option maxRecDepth 100000
set_option maxHeartbeats 2000000
namespace Tp
open PySem PySem.Spec PyProof.Rows L2 He
def obsK (fn : List DefD) (ex : List (PySem.W.Frag → Bool)) (K : PySem.W.Frag) : AlD := ((ex.all fun f => f K) && fn.all fun d => d.ok K, fn.map fun d => fnW K d.at_)
def SaysB (fn : List DefD) (ex : List (PySem.W.Frag → Bool)) (K : PySem.W.Frag) : Prop := obsK fn ex K = valD fn
def frL {α : Type} : List Addr → (List Addr → α) → α
  | [], k => k []
  | a :: r, k => HandSHeadRun.frNat a fun a => frL r fun r => k (a :: r)
theorem frL_eq {α : Type} : ∀ (l : List Addr) (k : List Addr → α), frL l k = k l
  | [], _ => rfl
  | a :: r, k => by
    show HandSHeadRun.frNat a (fun a => frL r fun r => k (a :: r)) = _
    rw [HandSHeadRun.frNat_eq, frL_eq r]
def frF {α : Type} (g : Addr → Option Obj) : List Addr → (PySem.W.Frag → α) → α
  | [], k => k []
  | a :: r, k => match g a with
    | some ⟨c, d, dt, sl⟩ => HandSHeadRun.frNat a fun a => frF g r fun K => k ((a, ⟨c, d, dt, sl⟩) :: K)
    | none => frF g r k
theorem frF_eq {α : Type} (g : Addr → Option Obj) : ∀ (l : List Addr) (k : PySem.W.Frag → α), frF g l k = k (frG g l)
  | [], _ => rfl
  | a :: r, k => by
    unfold frF frG
    cases e : g a with
    | none =>
      rw [List.filterMap_cons, e]
      exact frF_eq g r k
    | some o =>
      rw [List.filterMap_cons, e]
      show HandSHeadRun.frNat a (fun a => frF g r fun K => k ((a, o) :: K)) = _
      rw [HandSHeadRun.frNat_eq, frF_eq g r] <;> rfl
def upG (g : Addr → Option Obj) (a : Addr) : List Addr := match g a with
  | some ⟨_, _, .cls cd, _⟩ => cd.ns :: cd.mro.flatMap refV
  | _ => []
def outG (g : Addr → Option Obj) (a : Addr) : List Addr := match g a with
  | some o => refsD o
  | none => []
def withAs {α : Type} (g : Addr → Option Obj) (cs : List Str) (ds : List (Str × Option Str)) (k : List Addr → α) : α :=
  frF g [mainGlobals] fun K0 => frL (cs.map (ga K0)) fun as1 => frL (as1.flatMap (upG g)) fun as2 => frL (as2.flatMap (upG g)) fun as3 => frL (mainGlobals :: cStatics :: (as1 ++ (as2 ++ as3))).eraseDups fun as4 =>
  frF g as4 fun K1 => frL (ds.map (fAd K1)) fun fs => frL (fs.flatMap (outG g)) fun c1 => frL (c1.flatMap (outG g)) fun c2 => frL (as4 ++ (fs ++ (c1 ++ c2))).eraseDups k
theorem withAs_eq {α : Type} {g : Addr → Option Obj} {cs : List Str} {ds : List (Str × Option Str)} (k : List Addr → α) : withAs g cs ds k = k (withAs g cs ds id) := by
  unfold withAs
  simp only [frF_eq, frL_eq, id]
def AllP {α : Type} (p : α → Prop) : List α → Prop
  | [] => True
  | e :: r => p e ∧ AllP p r
section
variable {fn : List DefD} {ex : List (PySem.W.Frag → Bool)} {K : PySem.W.Frag}
theorem SaysB.factP {exs : List (List (PySem.W.Frag → Bool))} (c : SaysB fn exs.flatten K) (i j : Nat) {e : List (PySem.W.Frag → Bool)} {f : PySem.W.Frag → Bool} (h1 : exs[i]? = some e) (h2 : e[j]? = some f) : f K = true := by
  have c1 := (ba (show ((exs.flatten.all fun f => f K) && fn.all fun d => d.ok K) = true from congrArg (fun z : AlD => z.1) c)).1
  exact List.all_eq_true.mp c1 f (List.mem_flatten.mpr ⟨e, List.mem_of_getElem? h1, List.mem_of_getElem? h2⟩)
theorem SaysB.def_ (c : SaysB fn ex K) (i : Nat) {d : DefD} (h : fn[i]? = some d) : ∃ fd, FunD K d.name d.qual d.params d.body d.scope (d.dvs K) (d.kws K) (fAd K d.at_) fd := by
  have c2 := (ba (show ((ex.all fun f => f K) && fn.all fun d => d.ok K) = true from congrArg (fun z : AlD => z.1) c)).2
  have e : fn.map (fun d => fnW K d.at_) = fn.map DefD.val := congrArg (fun z : AlD => z.2) c
  have e2 : (fn.map fun d => fnW K d.at_)[i]? = (fn.map DefD.val)[i]? := by rw [e]
  rw [List.getElem?_map, List.getElem?_map, h] at e2
  exact DefD.funD (Option.some.inj e2) (List.all_eq_true.mp c2 d (List.mem_of_getElem? h))
theorem fun_of {x qual : Str} {st : Stmt} {f : Addr} {fd : FuncData} {kws : List (Str × V)} (F : FunD K x qual (defArgs st) (defBody st) (defScope st) [] kws f fd) : Fun K x qual st f fd := by
  obtain ⟨⟨oc, od, dV, kV, doc, pm, an, cdv, ct, osl, rfl, lk, hc, hd, _⟩, kp⟩ := F
  rcases hd with ⟨_, rfl⟩ | ⟨ne, _⟩
  · exact fun_mk lk hc kp
  · exact (ne rfl).elim
def clsB (K : PySem.W.Frag) (C : Addr) (f : Str) (id : String) : Bool := match PySem.W.findCls K (.ref C) (.type "type") f with
  | some (.val (.builtin n)) => decide (n = id)
  | _ => false
theorem clsB_ok {C : Addr} {f : Str} {id : String} (h : clsB K C f id = true) : PySem.W.findCls K (.ref C) (.type "type") f = some (.val (.builtin id)) := by
  unfold clsB at h
  split at h
  · rename_i n e
    rw [e, of_decide_eq_true h]
  · cases h
def tup0B (K : PySem.W.Frag) (a : Addr) : Bool := match K.lookup a with
  | some ⟨.type c, _, .seq its _, _⟩ => decide (c = "tuple") && its.isEmpty
  | _ => false
theorem tup0B_ok {a : Addr} (h : tup0B K a = true) : ∃ dd n sl, K.lookup a = some ⟨.type "tuple", dd, .seq #[] n, sl⟩ := by
  unfold tup0B at h
  cases q : K.lookup a with
  | none => rw [q] at h; cases h
  | some o =>
    obtain ⟨oc, od, dt, sl⟩ := o
    rw [q] at h
    cases oc with
    | type t =>
      cases dt with
      | seq its n =>
        obtain ⟨h1, h2⟩ := ba h
        rw [of_decide_eq_true h1, Array.isEmpty_iff.mp h2]
        exact ⟨_, _, _, rfl⟩
      | _ => cases h
    | _ => cases dt <;> cases h
end
end Tp
set_option Elab.async false
set_option linter.all false
set_option maxRecDepth 100000
set_option maxHeartbeats 4000000
namespace Tp
open PySem PySem.Spec PyProof.Rows L2 LamX
section
variable {P : Program} {w : World} {K : PySem.W.Frag} {mg mb : Str → Option Value} {CX : CXT} {k : Nat} {fa a : Addr} {fd : FuncData} {x : Str} {sp : Sp} {s1 : Shared} {vs : List Value} {ns : List Int} {cs : List (Addr × Addr)}
theorem code_hid {h : Heap} {H : Hp} {c Q : Addr} (C : PySem.W.CodeHd h c Q) (far : ∀ o us, h.get? c = some o → o.data = .fields us → us ≠ #[] → H c = none) : PySem.W.CodeHd (hidT h H) c Q := by
  obtain ⟨ob, fs, n1, n2, n3, n4, n5, n6, n7, at_, kind, dat, row, rest⟩ := C
  have ne : fs ≠ #[] := fun z => by rw [z] at row; simp at row
  exact ⟨ob, fs, n1, n2, n3, n4, n5, n6, n7, hidT_get at_ (far ob fs at_ dat ne), kind, dat, row, rest⟩
theorem mod_hid {h : Heap} {H : Hp} {mg : Str → Option Value} {Q : Addr} (hns : h.Ns mainGlobals mg) (tb : h.get? Q = some { cls := .none, data := .fields #[] })
    (m : ∃ (bm : Addr) (ob : Obj), mg "__builtins__" = some (.ref bm) ∧ bm ≠ builtinsNs ∧ h.get? bm = some ob ∧ ob.cls = .type "module" ∧ ob.dict = some builtinsNs ∧ ob.data = .plain) (far : ∀ b o, h.get? b = some o → o.data = .plain → H b = none) : (hidT h H).BuiltinsAt mg Q := by
  obtain ⟨mo, om, name, apart, there, cl, di, pl⟩ := m
  refine ⟨mo, om, name, apart, ?_, ?_, hidT_get there (far mo om there pl), cl, di, pl⟩
  · rintro rfl
    obtain ⟨_, _, _, e, dct, _⟩ := hns
    have := (Option.some.inj (e.symm.trans there)) ▸ dct
    rw [pl] at this
    cases this
  · rintro rfl
    have := (Option.some.inj (tb.symm.trans there)).symm ▸ pl
    cases this
theorem law_coreST (KX : K.In s1.heap) (hns : s1.heap.Ns mainGlobals mg) (hb : s1.heap.Ns builtinsNs mb) (hbb : ∀ x : Str, x ≠ "__name__" → mb x = bootBuiltins x)
    (hlim : s1.heap.NoLimit) (hg : s1.gens = #[]) (hr : Room k callerA)
    (hT : ∀ p ∈ cs, s1.heap.get? p.2 = some { cls := .none, data := .fields #[] }) (C : ∀ p ∈ cs, PySem.W.CodeHd s1.heap p.1 p.2)
    (hbm : ∃ (bm : Addr) (ob : Obj), mg "__builtins__" = some (.ref bm) ∧ bm ≠ builtinsNs ∧ s1.heap.get? bm = some ob ∧ ob.cls = .type "module" ∧ ob.dict = some builtinsNs ∧ ob.data = .plain)
    (F : ∀ base : Heap, K.In base → base.Ns mainGlobals mg → (∀ p ∈ cs, TabB base mg p.1 p.2) → FnG P w K mg base CX k fa fd [x] sp) (hbind : ∀ (s : Shared) (u : Value), BindsTo s fd ⟨[u], []⟩ [(x, u)])
    (hCX : ∀ H e s', ¬ CX [] H s1 (fun _ _ _ => False) e s') {H : Hp} (only : ∀ b, H b = none ∨ b ∈ cs.map (·.2) ∨ ∃ o u, H b = some (.frz o u)) (hH : ∀ p ∈ cs, H p.2 = some (.tbl #[])) (hsp : sp [.ref a] H (fun v _ => v = .bl true) fun _ _ _ => False)
    (hok : HOk P w H s1.heap) (hA : ∀ b, H b ≠ none → K.lookup b = none ∧ b ≠ mainGlobals ∧ b ≠ builtinsNs ∧ b ≠ cStatics)
    (hD : ∀ b o, H b ≠ none → s1.heap.get? b = some o → o.data ≠ .plain ∧ ∀ us, o.data = .fields us → us = #[]) :
    codeAny (model P w) callerA (.call (.ref fa) ⟨[.ref a], []⟩) (LawEnd s1) s1 := by
  have ns : ∀ {b : Addr} {m : Str → Option Value}, H b = none → s1.heap.Ns b m → (hidT s1.heap H).Ns b m := by
    rintro b m n ⟨o, es, ep, e, d, r⟩
    exact ⟨o, es, ep, hidT_get e n, d, r⟩
  have n1 : H mainGlobals = none := Classical.byContradiction fun q => (hA _ q).2.1 rfl
  have n2 : H builtinsNs = none := Classical.byContradiction fun q => (hA _ q).2.2.1 rfl
  have n3 : H cStatics = none := Classical.byContradiction fun q => (hA _ q).2.2.2 rfl
  have inK : K.In (hidT s1.heap H) := by
    intro b o e
    refine hidT_get (KX b o e) (Classical.byContradiction fun q => ?_)
    rw [(hA b q).1] at e
    cases e
  obtain ⟨mc, l1, l2⟩ := hlim
  have M : Mod K mg (hidT s1.heap H) := ⟨inK, ns n1 hns, ⟨mb, ns n2 hb, hbb⟩, ⟨mc, ns n3 l1, l2⟩⟩
  have free_of : ∀ b o, s1.heap.get? b = some o → (o.data = .plain ∨ ∃ us, o.data = .fields us ∧ us ≠ #[]) → H b = none := fun b o e k => Classical.byContradiction fun q => by
    obtain ⟨d1, d2⟩ := hD b o q e
    rcases k with k | ⟨us, k, ne⟩
    · exact d1 k
    · exact ne (d2 us k)
  have TB : ∀ p ∈ cs, TabB (hidT s1.heap H) mg p.1 p.2 := fun p hp => {
    code := code_hid (C p hp) fun o us e dt ne => free_of p.1 o e (.inr ⟨us, dt, ne⟩)
    bm := mod_hid hns (hT p hp) hbm fun b o e pl => free_of b o e (.inl pl)
    gP := fun z => by
      obtain ⟨_, _, _, e, dct, _⟩ := hns
      have := (Option.some.inj ((z ▸ e).symm.trans (hT p hp))) ▸ dct
      cases this }
  have none_in : ∀ b : Addr, b ∉ ([] : List Addr) := fun _ z => nomatch z
  have e0 : Env0 P w K mg (hidT s1.heap H) callerA [] s1 H := ⟨rfl, M, fun _ _ e => of_hidT e, Nat.le_of_eq (hidT_size _ _), trivial, fun b z => (none_in b z).elim, hok, .of_eq hg⟩
  refine codeAny_mono ((F _ inK (ns n1 hns) TB).go callerA [] s1 H ⟨[.ref a], []⟩ [.ref a] [.ref a] _ _ hr rfl e0 (hbind s1 (.ref a)) (.cons rfl .nil) hsp) fun r s' h => ?_
  cases r with
  | error e => exact (hCX H e s' h).elim
  | ok fl =>
    cases fl with
    | ret u =>
      obtain ⟨v, H', os, bare, un, hok', rv, q⟩ := h
      obtain rfl : v = .bl true := q
      obtain rfl : u = Value.bool true := rv
      have rest : ∀ b o, (∀ p ∈ cs, p.2 ≠ b) → s1.heap.get? b = some o → s'.heap.get? b = some o := fun b o far e => by
        rcases only b with z | z | ⟨ob, xs, z⟩
        · exact un.keep b o e z (none_in b) (none_in b)
        · obtain ⟨p, hp, ep⟩ := List.mem_map.mp z
          exact absurd ep (far p hp)
        · have e2 := (hok' b _ (un.frzs b ob _ z)).1
          have e1 := (hok b _ z).1
          rw [e] at e1
          cases e1
          exact e2
      have tabs : ∀ p ∈ cs, ∃ vs', s'.heap.get? p.2 = some { cls := .none, data := .fields vs' } := fun p hp => (un.tbls p.2 #[] (hH p hp)).elim fun more z => ⟨_, hok' p.2 _ z⟩
      have split : ∀ b, (∃ p ∈ cs, p.2 = b) ∨ ∀ p ∈ cs, p.2 ≠ b := fun b => Classical.byCases .inl fun n => .inr fun p hp e => n ⟨p, hp, e⟩
      refine ⟨rfl, { old := fun b o e => ?_, there := fun b o e => ?_ }, os, bare⟩
      · rcases split b with ⟨p, hp, rfl⟩ | far
        · obtain ⟨vs', hv⟩ := tabs p hp
          have eo : o = { cls := .none, data := .fields #[] } := Option.some.inj (e.symm.trans (hT p hp))
          subst eo
          exact .inr (.inl ⟨((C p hp).tab e).isCodeTable, rfl, #[], vs', rfl, by simpa using hv⟩)
        · exact .inl (rest b o far e)
      · rcases split b with ⟨p, hp, rfl⟩ | far
        · exact (tabs p hp).elim fun vs' hv => ⟨_, hv⟩
        · exact ⟨o, rest b o far e⟩
    | _ => exact h.elim
theorem law_endST (KX : K.In s1.heap) (hns : s1.heap.Ns mainGlobals mg) (hb : s1.heap.Ns builtinsNs mb) (hbb : ∀ x : Str, x ≠ "__name__" → mb x = bootBuiltins x) (hsys : ∃ mm, s1.heap.Ns sysModules mm)
    (hlim : s1.heap.NoLimit) (hg : s1.gens = #[]) (ha : s1.heap.get? a = some { cls := .type "list", data := .seq vs.toArray }) (hi : IntsAre vs ns) (hl : ns.length ≤ sizeLine) (hr : Room k callerA)
    (hT : ∀ p ∈ cs, s1.heap.get? p.2 = some { cls := .none, data := .fields #[] }) (nT : ∀ p ∈ cs, K.lookup p.2 = none) (C : ∀ p ∈ cs, PySem.W.CodeHd s1.heap p.1 p.2)
    (hbm : ∃ (bm : Addr) (ob : Obj), mg "__builtins__" = some (.ref bm) ∧ bm ≠ builtinsNs ∧ s1.heap.get? bm = some ob ∧ ob.cls = .type "module" ∧ ob.dict = some builtinsNs ∧ ob.data = .plain)
    (F : ∀ base : Heap, K.In base → base.Ns mainGlobals mg → (∀ p ∈ cs, TabB base mg p.1 p.2) → FnG P w K mg base CX k fa fd [x] sp) (hbind : ∀ (s : Shared) (u : Value), BindsTo s fd ⟨[u], []⟩ [(x, u)])
    (hCX : ∀ H e s', ¬ CX [] H s1 (fun _ _ _ => False) e s')
    (hsp : ∀ H : Hp, Sys K H → (∀ p ∈ cs, H p.2 = some (.tbl #[])) → SqL K H a (ns.map V.int) → sp [.ref a] H (fun v _ => v = .bl true) fun _ _ _ => False) :
    codeAny (model P w) callerA (.call (.ref fa) ⟨[.ref a], []⟩) (LawEnd s1) s1 := by
  have rv := vals_ints hi
  obtain ⟨mm, om, es, ep, hm, dm, _⟩ := hsys
  have nd : ∀ {b : Addr} {m : Str → Option Value}, s1.heap.Ns b m → a ≠ b := by
    rintro b m ⟨o, es, ep, e, d, _⟩ rfl
    rw [ha] at e
    cases e
    cases (d : Data.seq vs.toArray _ = Data.dict es ep)
  have nm : a ≠ sysModules := by
    rintro rfl
    rw [ha] at hm
    cases hm
    cases (dm : Data.seq vs.toArray _ = Data.dict es ep)
  have isT : ∀ b : Addr, b ∈ cs.map (·.2) → s1.heap.get? b = some { cls := .none, data := .fields #[] } := fun b hb => by
    obtain ⟨p, hp, e⟩ := List.mem_map.mp hb
    rw [← e]
    exact hT p hp
  have notT : ∀ {b : Addr} {m : Str → Option Value}, s1.heap.Ns b m → b ∉ cs.map (·.2) := by
    rintro b m ⟨o, es, ep, e, d, _⟩ hb
    rw [isT b hb] at e
    cases e
    cases d
  have sT : sysModules ∉ cs.map (·.2) := fun z => by
    rw [isT _ z] at hm
    cases hm
    cases dm
  have aT : a ∉ cs.map (·.2) := fun z => by
    rw [isT _ z] at ha
    have z' := congrArg Obj.data (Option.some.inj ha)
    cases z'
  have memT : ∀ p ∈ cs, p.2 ∈ cs.map (·.2) := fun p hp => List.mem_map.mpr ⟨p, hp, rfl⟩
  have kT : ∀ b, b ∈ cs.map (·.2) → K.lookup b = none := fun b hb => by
    obtain ⟨p, hp, e⟩ := List.mem_map.mp hb
    rw [← e]
    exact nT p hp
  have farT : ∀ b, b ∈ cs.map (·.2) → b ≠ mainGlobals ∧ b ≠ builtinsNs ∧ b ≠ cStatics := fun b hb => by
    obtain ⟨mc, l1, _⟩ := hlim
    exact ⟨fun e => notT hns (by rw [← e]; exact hb), fun e => notT ‹s1.heap.Ns builtinsNs mb› (by rw [← e]; exact hb), fun e => notT l1 (by rw [← e]; exact hb)⟩
  -- sys.modules, the tables
  have one : ∃ H1 : Hp, (∀ b, H1 b ≠ none → b = sysModules ∨ b ∈ cs.map (·.2)) ∧ Sys K H1 ∧ (∀ p ∈ cs, H1 p.2 = some (.tbl #[])) ∧ (∀ b, H1 b = none ∨ b ∈ cs.map (·.2) ∨ ∃ o u, H1 b = some (.frz o u)) ∧ HOk P w H1 s1.heap ∧ (∀ b, H1 b ≠ none → K.lookup b = none) := by
    cases hk : K.lookup sysModules with
    | some o =>
      have e := KX _ o hk
      rw [hm] at e
      cases e
      refine ⟨fun b => if b ∈ cs.map (·.2) then some (.tbl #[]) else none, fun b z => .inr (Classical.byContradiction fun n => z (if_neg n)), .inl ⟨_, _, _, hk, dm⟩, fun p hp => if_pos (memT p hp), fun b => ?_, fun b u z => ?_, fun b z => kT b (Classical.byContradiction fun n => z (if_neg n))⟩
      · by_cases h : b ∈ cs.map (·.2)
        · exact .inr (.inl h)
        · exact .inl (if_neg h)
      · by_cases h : b ∈ cs.map (·.2)
        · have z' := (if_pos h).symm.trans z
          cases z'
          exact isT b h
        · have z' := (if_neg h).symm.trans z
          cases z'
    | none =>
      refine ⟨fun b => if b = sysModules then some (.frz om (.ext fun _ => True)) else if b ∈ cs.map (·.2) then some (.tbl #[]) else none, fun b z => ?_, .inr ⟨hk, _, _, if_pos rfl⟩, fun p hp => (if_neg (fun e => sT (by rw [← e]; exact memT p hp))).trans (if_pos (memT p hp)), fun b => ?_, fun b u z => ?_, fun b z => ?_⟩
      · by_cases h1 : b = sysModules
        · exact .inl h1
        · exact .inr (Classical.byContradiction fun n => z ((if_neg h1).trans (if_neg n)))
      · by_cases h1 : b = sysModules
        · exact .inr (.inr ⟨_, _, if_pos h1⟩)
        · by_cases h2 : b ∈ cs.map (·.2)
          · exact .inr (.inl h2)
          · exact .inl ((if_neg h1).trans (if_neg h2))
      · by_cases h1 : b = sysModules
        · have z' := (if_pos h1).symm.trans z
          cases z'
          subst h1
          exact ⟨hm, trivial, ⟨_, hm⟩, fun _ _ _ _ => trivial⟩
        · have z1 := (if_neg h1).symm.trans z
          by_cases h2 : b ∈ cs.map (·.2)
          · have z' := (if_pos h2).symm.trans z1
            cases z'
            exact isT b h2
          · have z' := (if_neg h2).symm.trans z1
            cases z'
      · by_cases h1 : b = sysModules
        · rw [h1]; exact hk
        · exact kT b (Classical.byContradiction fun n => z ((if_neg h1).trans (if_neg n)))
  obtain ⟨H1, at1, sy, tb1, on1, ok1, kn1⟩ := one
  have h1a : H1 a = none := Classical.byContradiction fun q => (at1 a q).elim nm aT
  have far : ∀ b, b = sysModules ∨ b ∈ cs.map (·.2) → b ≠ mainGlobals ∧ b ≠ builtinsNs ∧ b ≠ cStatics := by
    rintro b (rfl | h)
    · exact ⟨by decide, by decide, by decide⟩
    · exact farT b h
  have fara : a ≠ mainGlobals ∧ a ≠ builtinsNs ∧ a ≠ cStatics := ⟨nd hns, nd hb, let ⟨_, l1, _⟩ := hlim; nd l1⟩
  have data1 : ∀ b o, H1 b ≠ none → s1.heap.get? b = some o → o.data ≠ .plain ∧ ∀ us, o.data = .fields us → us = #[] := fun b o q e => by
    rcases at1 b q with rfl | h
    · rw [hm] at e
      cases e
      rw [dm]
      exact ⟨(fun z => by cases z), (fun us z => by cases z)⟩
    · rw [isT b h] at e
      cases e
      exact ⟨(fun z => by cases z), (fun us z => by cases z; rfl)⟩
  cases hk : K.lookup a with
  | some o =>
    have e := KX a o hk
    rw [ha] at e
    cases e
    refine law_coreST KX hns hb hbb hlim hg hr hT C hbm F hbind hCX on1 tb1 (hsp _ sy tb1 (.inr ⟨_, vs.toArray, _, hk, rfl, rfl, rfl, ?_, by simpa using rv⟩)) ok1 (fun b z => ⟨kn1 b z, far b (at1 b z)⟩) data1
    rw [List.size_toArray, hi.length]
    exact hl
  | none =>
    have at_a : (upd H1 a (.frz { cls := .type "list", data := .seq vs.toArray } (.lst (ns.map V.int))) : Hp) a = some (.frz { cls := .type "list", data := .seq vs.toArray } (.lst (ns.map V.int))) := upd_same
    have off : ∀ b, b ≠ a → (upd H1 a (.frz { cls := .type "list", data := .seq vs.toArray } (.lst (ns.map V.int))) : Hp) b = H1 b := fun b nb => upd_ne nb
    have same : Same H1 (upd H1 a (.frz { cls := .type "list", data := .seq vs.toArray } (.lst (ns.map V.int)))) := fun b u e => by
      rw [off b (fun z => by rw [z, h1a] at e; cases e)]
      exact e
    have tb2 : ∀ p ∈ cs, (upd H1 a (.frz { cls := .type "list", data := .seq vs.toArray } (.lst (ns.map V.int))) : Hp) p.2 = some (.tbl #[]) := fun p hp => same _ _ (tb1 p hp)
    refine law_coreST KX hns hb hbb hlim hg hr hT C hbm F hbind hCX (fun b => ?_) tb2 (hsp _ (sy.same same) tb2 (.inl (.inr ⟨_, at_a⟩))) (fun b u z => ?_) (fun b z => ?_) fun b o q e => ?_
    · by_cases nb : b = a
      · rw [nb]; exact .inr (.inr ⟨_, _, at_a⟩)
      · rw [off b nb]; exact on1 b
    · by_cases nb : b = a
      · subst nb
        rw [at_a] at z
        cases z
        exact ⟨ha, by rw [List.length_map]; exact hl, vs, _, rv, ha⟩
      · rw [off b nb] at z
        have o1 := ok1 b u z
        rcases on1 b with q | q | ⟨ob, xs, q⟩
        · rw [q] at z; cases z
        · obtain ⟨p, hp, e⟩ := List.mem_map.mp q
          rw [← e, tb1 p hp] at z
          cases z
          exact o1
        · rw [q] at z
          cases z
          exact o1.stay (fun c w' hc q => q) (fun _ q => same _ _ q) fun _ _ q => same _ _ q
    · by_cases nb : b = a
      · rw [nb]; exact ⟨hk, fara⟩
      · rw [off b nb] at z
        exact ⟨kn1 b z, far b (at1 b z)⟩
    · by_cases nb : b = a
      · rw [nb, ha] at e
        cases e
        exact ⟨(fun z => by cases z), (fun us z => by cases z)⟩
      · rw [off b nb] at q
        exact data1 b o q e
end
theorem walkST {l : PySem.W.OpenLaw} {n k : Nat} {q : Program} {loose : List Str} {XP : (Str → Option Value) → Heap → Prop} {YP : World → Heap → Prop} {d : DefRec} {sp : PySem.W.Frag → Sp} {x : Str} {tf : PySem.W.Frag → List (Addr × Addr)}
    (hn : l.most = some n) (hn2 : n ≤ sizeLine) (hdf : d.params.defaults = []) (himp : importsNone q = true) (hr : Room k callerA)
    (F : ∀ (w : World) (mg : Str → Option Value) (fa : Addr) (h : Heap), YP w h → h.Ns mainGlobals mg → mg d.name = some (.ref fa) →
      ∃ (K : PySem.W.Frag) (fd : FuncData), K.In h ∧ (∀ p ∈ tf K, h.get? p.2 = some { cls := .none, data := .fields #[] }) ∧ (∀ p ∈ tf K, K.lookup p.2 = none) ∧ (∀ p ∈ tf K, PySem.W.codeHdIn K p.1 p.2 = true) ∧ (∀ (s : Shared) (u : Value), BindsTo s fd ⟨[u], []⟩ [(x, u)]) ∧
        ∀ base : Heap, K.In base → base.Ns mainGlobals mg → (∀ p ∈ tf K, TabB base mg p.1 p.2) → FnG l.prog w K mg base CX0 k fa fd [x] (sp K))
    (hsp : ∀ (K : PySem.W.Frag) (H : Hp) (a : Addr) (ns : List Int), ns.length ≤ n → Sys K H → (∀ p ∈ tf K, H p.2 = some (.tbl #[])) → SqL K H a (ns.map V.int) → sp K [.ref a] H (fun v _ => v = .bl true) fun _ _ _ => False) :
    PySem.W.WalkO q loose XP YP l.row.toRowW d [] (fun f vs => PySem.call f vs) := by
  refine Att.attach_call hn hdf fun w s₀ s₁ mg mb fa o pm cd doc a vs ns G Y ho hd hcd hmg hobj hints hlen hg => ?_
  obtain ⟨K, fd, KX, hT, nT, hC, hb, hF⟩ := F w mg fa _ Y G.T.g hmg
  obtain ⟨mm, hmm, _⟩ := (G.T.seer himp).mods
  exact law_endST KX G.T.g G.T.b G.T.builtins ⟨mm, hmm⟩ G.T.nolimit hg hobj hints (Nat.le_trans hlen hn2) hr hT nT (fun p hp => PySem.W.codeHd_of_K KX (hC p hp)) G.T.bmain hF hb (fun _ _ _ z => z) fun H hO hT' hS => hsp K H a ns hlen hO hT' hS
end Tp
set_option Elab.async false
set_option linter.all false
set_option maxRecDepth 100000
set_option maxHeartbeats 4000000
namespace Tp
open PySem PySem.Spec PyProof.Rows L2 He
def frFT {α : Type} (g : Addr → Option Obj) : List Addr → (PySem.W.Frag → α) → α
  | [], k => k []
  | a :: r, k => match g a with
    | some ⟨c, d, dt, sl⟩ => if emptyTab ⟨c, d, dt, sl⟩ = true then frFT g r k else HandSHeadRun.frNat a fun a => frFT g r fun K => k ((a, ⟨c, d, dt, sl⟩) :: K)
    | none => frFT g r k
theorem frFT_eq {α : Type} (g : Addr → Option Obj) : ∀ (l : List Addr) (k : PySem.W.Frag → α), frFT g l k = k (frT g l)
  | [], _ => rfl
  | a :: r, k => by
    unfold frFT frT frG
    cases e : g a with
    | none =>
      rw [List.filterMap_cons, e]
      exact frFT_eq g r k
    | some o =>
      rw [List.filterMap_cons, e]
      show (if emptyTab o = true then frFT g r k else HandSHeadRun.frNat a fun a => frFT g r fun K => k ((a, o) :: K)) = k (List.filter (fun q => !emptyTab q.2) ((a, o) :: frG g r))
      by_cases c : emptyTab o = true
      · rw [if_pos c, List.filter_cons, if_neg (by simp [c])]
        exact frFT_eq g r k
      · rw [if_neg c, List.filter_cons, if_pos (by simp [c])]
        show HandSHeadRun.frNat a (fun a => frFT g r fun K => k ((a, o) :: K)) = _
        rw [HandSHeadRun.frNat_eq, frFT_eq g r] <;> rfl
def withKT {α : Type} (g : Addr → Option Obj) (cs : List Str) (ds : List (Str × Option Str)) (k : PySem.W.Frag → α) : α := withAs g cs ds fun as => frFT g as k
def KKT (g : Addr → Option Obj) (cs : List Str) (ds : List (Str × Option Str)) : PySem.W.Frag := frT g (withAs g cs ds id)
theorem withKT_eq {α : Type} {g : Addr → Option Obj} {cs : List Str} {ds : List (Str × Option Str)} (k : PySem.W.Frag → α) : withKT g cs ds k = k (KKT g cs ds) := by
  unfold withKT
  rw [withAs_eq, frFT_eq] <;> rfl
abbrev AlBT : Type := AlD × Bool
def obsBT (cs : List Str) (fn : List DefD) (ex : List (PySem.W.Frag → Bool)) (tf : List Defn) (g : Addr → Option Obj) : AlBT := (obsK fn ex (KKT g cs (fn.map DefD.at_)), tabsB g tf (KKT g cs (fn.map DefD.at_)))
structure SaysBT (fn : List DefD) (ex : List (PySem.W.Frag → Bool)) (tf : List Defn) (h : Heap) (K : PySem.W.Frag) : Prop where
  b : SaysB fn ex K
  hd : ∀ p ∈ tf, PySem.W.codeHdIn K (cT K p).1 (cT K p).2 = true
  out : ∀ p ∈ tf, K.lookup (cT K p).2 = none
  empty : ∀ p ∈ tf, h.get? (cT K p).2 = some { cls := .none, data := .fields #[] }
theorem saysBT_of {cs : List Str} {fn : List DefD} {ex : List (PySem.W.Frag → Bool)} {tf : List Defn} {h : Heap} (e : obsBT cs fn ex tf h.get? = (valD fn, true)) : SaysBT fn ex tf h (KKT h.get? cs (fn.map DefD.at_)) := by
  have e1 : obsK fn ex (KKT h.get? cs (fn.map DefD.at_)) = valD fn := congrArg (fun z : AlBT => z.1) e
  have e2 : tabsB h.get? tf (KKT h.get? cs (fn.map DefD.at_)) = true := congrArg (fun z : AlBT => z.2) e
  have key : ∀ p ∈ tf, PySem.W.codeHdIn (KKT h.get? cs (fn.map DefD.at_)) (cT (KKT h.get? cs (fn.map DefD.at_)) p).1 (cT (KKT h.get? cs (fn.map DefD.at_)) p).2 = true ∧ ∃ o, h.get? (cT (KKT h.get? cs (fn.map DefD.at_)) p).2 = some o ∧ emptyTab o = true := fun p hp => by
    obtain ⟨h3, h4⟩ := ba (List.all_eq_true.mp e2 p hp)
    refine ⟨h3, ?_⟩
    cases q : h.get? (cT (KKT h.get? cs (fn.map DefD.at_)) p).2 with
    | none => rw [q] at h4; cases h4
    | some o =>
      rw [q] at h4
      exact ⟨o, rfl, h4⟩
  exact ⟨e1, fun p hp => (key p hp).1, fun p hp => by
    obtain ⟨_, o, q, z⟩ := key p hp
    exact frT_none q z, fun p hp => by
    obtain ⟨_, o, q, z⟩ := key p hp
    rw [q, emptyTab_eq z]⟩
def hookBT (cs : List Str) (fn : List DefD) (ex : List (PySem.W.Frag → Bool)) (tf : List Defn) : PySem.W.Hook where
  α := AlBT
  obs := fun s => obsBT cs fn ex tf s.heap.get?
  val := fun _ => (valD fn, true)
  says := fun _ h => ∃ K : PySem.W.Frag, K.In h ∧ SaysBT fn ex tf h K
  of := fun _ _ e => ⟨_, frT_in, saysBT_of e⟩
  keeps := fun _ _ _ ⟨K, hK, c⟩ k => ⟨K, PySem.W.Frag.In.keeps hK k, ⟨c.b, c.hd, c.out, fun p hp => k _ _ (c.empty p hp)⟩⟩
theorem obsBT_eq {cs : List Str} {fn : List DefD} {ex : List (PySem.W.Frag → Bool)} {tf : List Defn} {g : Addr → Option Obj} {s : Shared} (h : ∀ a, g a = s.heap.get? a) : obsBT cs fn ex tf g = (hookBT cs fn ex tf).obs s := by
  have e : g = s.heap.get? := funext h
  rw [e] <;> rfl
theorem run_joinT {α β : Type} {x : Option PySem.W.SharedT} {A : PySem.W.SharedT → α} {a : α} {B : PySem.W.SharedT → β} {b : β} {cs : List Str} {fn : List DefD} {exs : List (List (PySem.W.Frag → Bool))} {tf : List Defn} (hA : x.map A = some a) (hB : x.map B = some b)
    (hE : AllP (fun e : List (PySem.W.Frag → Bool) => x.map (fun s => withKT (HandSHeadRun.getT s) cs (fn.map DefD.at_) fun K => e.all fun f => f K) = some true) exs)
    (hF : x.map (fun s => withKT (HandSHeadRun.getT s) cs (fn.map DefD.at_) fun K => fn.all fun d => d.ok K) = some true)
    (hV : x.map (fun s => withKT (HandSHeadRun.getT s) cs (fn.map DefD.at_) fun K => fn.map fun d => fnW K d.at_) = some (fn.map DefD.val))
    (hT : x.map (fun s => withKT (HandSHeadRun.getT s) cs (fn.map DefD.at_) fun K => tabsB (HandSHeadRun.getT s) tf K) = some true) :
    x.map (fun s => (A s, B s, obsBT cs fn exs.flatten tf (HandSHeadRun.getT s))) = some (a, b, (valD fn, true)) := by
  simp only [withKT_eq] at hE hF hV hT
  cases x with
  | none => cases hA
  | some s =>
    have e1 : A s = a := Option.some.inj hA
    have e2 : B s = b := Option.some.inj hB
    have e3 : (fn.all fun d => d.ok (KKT (HandSHeadRun.getT s) cs (fn.map DefD.at_))) = true := Option.some.inj hF
    have e4 : (fn.map fun d => fnW (KKT (HandSHeadRun.getT s) cs (fn.map DefD.at_)) d.at_) = fn.map DefD.val := Option.some.inj hV
    have e6 : tabsB (HandSHeadRun.getT s) tf (KKT (HandSHeadRun.getT s) cs (fn.map DefD.at_)) = true := Option.some.inj hT
    have e5 : ∀ exs : List (List (PySem.W.Frag → Bool)), AllP (fun e : List (PySem.W.Frag → Bool) => (some s).map (fun s => e.all fun f => f (KKT (HandSHeadRun.getT s) cs (fn.map DefD.at_))) = some true) exs → (exs.flatten.all fun f => f (KKT (HandSHeadRun.getT s) cs (fn.map DefD.at_))) = true := by
      intro exs
      induction exs with
      | nil => intro _; rfl
      | cons e r ih =>
        intro ⟨h1, h2⟩
        rw [List.flatten_cons, List.all_append, ih h2, show (e.all fun f => f (KKT (HandSHeadRun.getT s) cs (fn.map DefD.at_))) = true from Option.some.inj h1] <;> rfl
    show some (A s, B s, (obsK fn exs.flatten (KKT (HandSHeadRun.getT s) cs (fn.map DefD.at_)), tabsB (HandSHeadRun.getT s) tf (KKT (HandSHeadRun.getT s) cs (fn.map DefD.at_)))) = _
    unfold obsK valD
    rw [e1, e2, e3, e4, e5 exs hE, e6] <;> rfl
theorem code_of {K : PySem.W.Frag} {p : Defn} {x qual : Str} {pa : Arguments} {bd : List Stmt} {sc : Scope} {dvs : List V} {kws : List (Str × V)} {fd : FuncData} (F : FunD K x qual pa bd sc dvs kws (fAd K p) fd) : fd.code = .ref (codeOf K p) := by
  obtain ⟨⟨oc, od, dV, kV, doc, pm, an, cdv, ct, osl, rfl, lk, hc, _, _⟩, _⟩ := F
  cases cdv with
  | ref c => exact congrArg Value.ref (codeOf_eq lk rfl).symm
  | _ => simp [PySem.W.codeIn] at hc
section
variable {P : Program} {w : World} {K : PySem.W.Frag} {mg : Str → Option Value} {base : Heap} {k : Nat} {f c : Addr} {fd : FuncData} {ps : List Str} {sp : Sp}
end
end Tp
set_option Elab.async false
set_option linter.all false
set_option maxRecDepth 100000
set_option maxHeartbeats 4000000
namespace Tp
open PySem PySem.Spec PyProof.Rows L2
def lowC (c : Nat) : Bool := decide (97 ≤ c) && decide (c ≤ 122)
def digC (c : Nat) : Bool := decide (48 ≤ c) && decide (c ≤ 57)
def nmB (z : Str) : Bool := match z.cps.toList with
  | [] => false
  | c :: cs => decide (cs.length + 1 ≤ 8) && (lowC c && (c :: cs).all fun x => lowC x || digC x)
theorem mem_low (c : Nat) : c ∈ ("abcdefghijklmnopqrstuvwxyz" : Str).cps.toList ↔ lowC c = true := by
  have e : ("abcdefghijklmnopqrstuvwxyz" : Str).cps.toList = [97, 98, 99, 100, 101, 102, 103, 104, 105, 106, 107, 108, 109, 110, 111, 112, 113, 114, 115, 116, 117, 118, 119, 120, 121, 122] := by decide +kernel
  rw [e]
  simp only [List.mem_cons, List.not_mem_nil, or_false, lowC, Bool.and_eq_true, decide_eq_true_eq]
  omega
theorem mem_sign (c : Nat) : c ∈ (("abcdefghijklmnopqrstuvwxyz" : Str) ++ ("0123456789" : Str)).cps.toList ↔ (lowC c || digC c) = true := by
  have e : (("abcdefghijklmnopqrstuvwxyz" : Str) ++ ("0123456789" : Str)).cps.toList = [97, 98, 99, 100, 101, 102, 103, 104, 105, 106, 107, 108, 109, 110, 111, 112, 113, 114, 115, 116, 117, 118, 119, 120, 121, 122, 48, 49, 50, 51, 52, 53, 54, 55, 56, 57] := by decide +kernel
  rw [e]
  simp only [List.mem_cons, List.not_mem_nil, or_false, lowC, digC, Bool.and_eq_true, Bool.or_eq_true, decide_eq_true_eq]
  omega
theorem nm_nil {z : Str} (h : ¬ (0 : Int) < z.length) : nmB z = false := by
  unfold nmB
  have e : z.cps.toList = [] := List.eq_nil_of_length_eq_zero (by rw [len_list]; omega)
  rw [e]
theorem nm_long {z : Str} (h : ¬ (z.length : Int) ≤ 8) : nmB z = false := by
  unfold nmB
  have l := len_list z
  cases e : z.cps.toList with
  | nil => rfl
  | cons c cs =>
    rw [e] at l
    simp only [List.length_cons] at l
    have : decide (cs.length + 1 ≤ 8) = false := decide_eq_false (by omega)
    show (decide (cs.length + 1 ≤ 8) && _) = false
    rw [this, Bool.false_and]
theorem nm_cons {z : Str} {c : Nat} {cs : List Nat} (e : z.cps.toList = c :: cs) (h : (z.length : Int) ≤ 8) : nmB z = (lowC c && (c :: cs).all fun x => lowC x || digC x) := by
  unfold nmB
  have l := len_list z
  rw [e] at l ⊢
  simp only [List.length_cons] at l
  have : decide (cs.length + 1 ≤ 8) = true := decide_eq_true (by omega)
  show (decide (cs.length + 1 ≤ 8) && _) = _
  rw [this, Bool.true_and]
theorem nm_len {n : Str} (h : nmB n = true) : n.length ≤ 8 := by
  refine Classical.byContradiction fun k => ?_
  rw [nm_long (by omega)] at h
  cases h
theorem nm_sm {n : Str} (h : nmB n = true) : Sm 8 n := by
  refine ⟨nm_len h, fun c hc => ?_⟩
  unfold nmB at h
  cases e : n.cps.toList with
  | nil => rw [e] at hc; cases hc
  | cons x xs =>
    rw [e] at h hc
    have h := (Bool.and_eq_true_iff.mp (Bool.and_eq_true_iff.mp (show (decide (xs.length + 1 ≤ 8) && (lowC x && (x :: xs).all fun y => lowC y || digC y)) = true from h)).2).2
    have := List.all_eq_true.mp h c hc
    simp only [lowC, digC, Bool.or_eq_true, Bool.and_eq_true, decide_eq_true_eq] at this
    omega
def NoS (K : PySem.W.Frag) (H : Hp) (v : V) : Prop := ∃ t, TyA K H v t ∧ PySem.W.kitOne K t (.type "str") = some false
def NameIs (K : PySem.W.Frag) (H : Hp) (v : V) (b : Bool) : Prop := (∃ z : Str, v = .str z ∧ z.length ≤ 10000 ∧ b = nmB z) ∨ (NoS K H v ∧ b = false)
def spName (K : PySem.W.Frag) : Sp := fun vs H Q _ => ∃ (v : V) (b : Bool), vs = [v] ∧ NameIs K H v b ∧ Q (.bl b) H
end Tp
set_option Elab.async false
set_option linter.all false
set_option maxRecDepth 100000
set_option maxHeartbeats 4000000
namespace Tp
open PySem PySem.Spec PyProof.Rows L2 LamX NdefX
theorem tab_one (P : Addr) {nm : Nat → Nat → Str} : ∀ p ∈ ([(P, nm)] : List NTab), p.1 = P → p.2 = nm := fun p hp _ => by rw [List.mem_singleton.mp hp]
structure Know (X : Cx) (cl : List (Str × Addr)) (fr : List Str) (ws : List (Option V)) : Prop where
  at0 : CellsAt cl fr ws X.s_0.heap X.H_0
  fs : ∀ y c, cl.lookup y = some c → c ∉ X.fs
  ex : ∀ y c, cl.lookup y = some c → c ∉ X.ex
  st : ∀ y c, cl.lookup y = some c → c ∉ frs X.stack
section
variable {X : Cx} {pins : List (Addr × Obj)} {σ : L2.St} {H : Hp} {s : Shared} {cl cl' : List (Str × Addr)} {fr fr' : List Str} {ws : List (Option V)}
theorem Know.now (k : Know X cl fr ws) (I : Inv X pins σ H s) : CellsAt cl fr ws s.heap H := k.at0.later k.fs k.ex I
end
structure NOkW (P : Program) (w : World) (K : PySem.W.Frag) (mg : Str → Option Value) (base : Heap) (CX : CXT) (k : Nat) (f : Addr) (F : NF) (ps : List Str) (cl : List (Str × Addr)) (fr : List Str) (sp : List (Option V) → Sp) : Prop where
  len : ∀ ws vs H Q E, sp ws vs H Q E → vs.length = ps.length
  run : ∀ (A : Around) (outer : List Env) (s : Shared) (H : Hp) (us : List Value) (vs : List V) (ws : List (Option V)) (Q : VK) (E : XK), Room k A → Env0 P w K mg base A outer s H → H f = some (FnO f F) → H F.c = some (CodeO F.c F.qual) →
    CellsAt cl fr ws s.heap H → (∀ y c, cl.lookup y = some c → c ∉ frs outer) → Vals vs us → sp ws vs H Q E → codeAny (model P w) A (.call (.ref f) ⟨us, []⟩) (CR CX outer P w H s Q E) s
section
variable {CX : CXT} {P : Program} {w : World} {K : PySem.W.Frag} {mg : Str → Option Value} {base : Heap} {N ps fr fr' : List Str} {F : NF} {f : Addr} {k j : Nat} {sp : List (Option V) → Sp} {cl : List (Str × Addr)} {js : List Nat}
theorem NOkW.mono (o : NOkW P w K mg base CX j f F ps cl fr sp) (h : j ≤ k) : NOkW P w K mg base CX k f F ps cl fr sp := ⟨o.len, fun A outer s H us vs ws Q E hr => o.run A outer s H us vs ws Q E (hr.mono h)⟩
end
section
variable {P : Program} {w : World} {K : PySem.W.Frag} {mg : Str → Option Value} {base : Heap} {N ps fr fr' : List Str} {F : NF} {f : Addr} {k j : Nat} {sp : List (Option V) → Sp} {cl : List (Str × Addr)} {js : List Nat}
theorem nok_nox {fr : List Str} (S : NScope N ps fr F.scope) (bind : ∀ (doc pm ctv : Value) (us : List Value), us.length = ps.length → bindArgs (F.fd doc pm ctv) ⟨us, []⟩ = pure (ps.zip us)) (len : ∀ ws vs H Q E, sp ws vs H Q E → vs.length = ps.length)
    (body : ∀ (A : Around) (outer : List Env) (s : Shared) (H : Hp) (vs : List V) (ws : List (Option V)) (Q : VK) (E : XK), Room k (A.deeper (envF F f s.heap.objs.size)) → H f = some (FnO f F) → H F.c = some (CodeO F.c F.qual) → ws.length = fr.length → sp ws vs H Q E →
      ∃ t, PSs (ncx CX0 P w K mg base N F f A outer s H E).nox F.body t ∧ t { nx := fun _ H' => Q .non H', rt := Q } (startF N vs ws) H) :
    NdefX.NOk P w K mg base CX0 (k + 1) f F ps fr sp :=
  nok_of S bind len fun A outer s H vs ws Q E hr hf hc hl h => let ⟨t, p, q⟩ := body A outer s H vs ws Q E hr hf hc hl h; ⟨t, p.nox, q⟩
end
section
variable {X : Cx} {cl : List (Str × Addr)} {fr : List Str} {wv : L2.St → List (Option V)}
end
end Tp
set_option Elab.async false
set_option linter.all false
set_option maxRecDepth 100000
set_option maxHeartbeats 4000000
namespace Tp
open PySem PySem.Spec PyProof.Rows L2 LamX NdefX
def cellH (ob : Obj) : HO := .frz ob (.ext fun _ => True)
theorem cellH_ok {P : Program} {w : World} {H : Hp} {h : Heap} {c : Addr} {ob : Obj} (e : h.get? c = some ob) : ObjOk P w H h c (cellH ob) := ⟨e, True.intro, ⟨ob, e⟩, fun _ _ _ _ => True.intro⟩
def hidC (cs : List Addr) (H : Hp) : Hp := fun b => if b ∈ cs then none else H b
def bakC (cs : List Addr) (H H' : Hp) : Hp := fun b => if b ∈ cs then H b else H' b
theorem hid_in {cs : List Addr} {H : Hp} {b : Addr} (h : b ∈ cs) : hidC cs H b = none := if_pos h
theorem hid_out {cs : List Addr} {H : Hp} {b : Addr} (h : b ∉ cs) : hidC cs H b = H b := if_neg h
theorem bak_in {cs : List Addr} {H H' : Hp} {b : Addr} (h : b ∈ cs) : bakC cs H H' b = H b := if_pos h
theorem bak_out {cs : List Addr} {H H' : Hp} {b : Addr} (h : b ∉ cs) : bakC cs H H' b = H' b := if_neg h
theorem hid_to {cs : List Addr} {H : Hp} : Same (hidC cs H) H := fun b o h => by
  unfold hidC at h
  split at h
  · cases h
  · exact h
def csF (cl : List (Str × Addr)) : List Addr := cl.filterMap fun p => cl.lookup p.1
theorem mem_cs {cl : List (Str × Addr)} {c : Addr} : c ∈ csF cl ↔ ∃ y, cl.lookup y = some c := by
  unfold csF
  rw [List.mem_filterMap]
  constructor
  · rintro ⟨p, _, h⟩
    exact ⟨_, h⟩
  · rintro ⟨y, h⟩
    exact ⟨(y, c), PySem.mem_of_lookup h, h⟩
section
variable {P : Program} {w : World} {H H' : Hp} {h h' : Heap} {cs : List Addr}
theorem hok_hid (ok : HOk P w H h) (fz : ∀ c ∈ cs, ∃ ob, H c = some (cellH ob)) : HOk P w (hidC cs H) h := fun b o e => by
  have e := hid_to _ _ e
  refine (ok b o e).stay (fun _ _ _ q => q) (fun c q => ?_) fun c xs q => ?_
  · by_cases m : c ∈ cs
    · obtain ⟨ob, z⟩ := fz c m
      rw [z] at q; cases q
    · rw [hid_out m]; exact q
  · by_cases m : c ∈ cs
    · obtain ⟨ob, z⟩ := fz c m
      rw [z] at q; cases q
    · rw [hid_out m]; exact q
theorem env0_hid {K : PySem.W.Frag} {mg : Str → Option Value} {base : Heap} {A : Around} {outer : List Env} {s : Shared} (e : Env0 P w K mg base A outer s H) (fz : ∀ c ∈ cs, ∃ ob, H c = some (cellH ob)) : Env0 P w K mg base A outer s (hidC cs H) := by
  have n : ∀ {b : Addr}, H b = none → hidC cs H b = none := fun {b} z => by
    by_cases m : b ∈ cs
    · exact hid_in m
    · rw [hid_out m]; exact z
  exact ⟨e.frames, e.mod, fun b o q => ⟨(e.bs b o q).1, n (e.bs b o q).2⟩, e.bsz, e.funs, fun b q => n (e.frf b q), hok_hid e.hok fz, e.bare⟩
theorem hok_bak (ok : HOk P w H' h') (nn : ∀ c ∈ cs, H' c = none) (fz : ∀ c ∈ cs, ∃ ob, H c = some (cellH ob) ∧ h'.get? c = some ob) : HOk P w (bakC cs H H') h' := fun b o e => by
  by_cases m : b ∈ cs
  · obtain ⟨ob, z, q⟩ := fz b m
    rw [bak_in m, z] at e
    cases e
    exact cellH_ok q
  · rw [bak_out m] at e
    refine (ok b o e).stay (fun _ _ _ q => q) (fun c q => ?_) fun c xs q => ?_
    · rw [bak_out (fun m => by rw [nn c m] at q; cases q)]; exact q
    · rw [bak_out (fun m => by rw [nn c m] at q; cases q)]; exact q
theorem ce_bak {outer : List Env} {s s' : Shared} {Q : VK} {u : Value} (fz : ∀ c ∈ cs, ∃ ob, H c = some (cellH ob) ∧ s.heap.get? c = some ob ∧ c ∉ frs outer) (h : CE outer P w (hidC cs H) s (fun v H' => Q v (bakC cs H H')) u s') : CE outer P w H s Q u s' := by
  obtain ⟨v, H', os, bare, un, hok, r, q⟩ := h
  have kept : ∀ c ∈ cs, ∃ ob, H c = some (cellH ob) ∧ s'.heap.get? c = some ob := fun c m => by
    obtain ⟨ob, z, g, n⟩ := fz c m
    exact ⟨ob, z, un.keep c ob g (hid_in m) n (by simp)⟩
  have nn : ∀ c ∈ cs, H' c = none := fun c m => by
    obtain ⟨ob, z, g, n⟩ := fz c m
    exact un.free c ob g (hid_in m) (by simp)
  have out : ∀ {b : Addr} {o : HO}, H b = some o → (∀ ob, o ≠ cellH ob) → b ∉ cs := fun {b o} e ne m => by
    obtain ⟨ob, z, _⟩ := fz b m
    rw [z] at e
    exact ne ob (Option.some.inj e).symm
  have non : ∀ {b : Addr}, H b = none → b ∉ cs := fun {b} e m => by
    obtain ⟨ob, z, _⟩ := fz b m
    rw [z] at e; cases e
  refine ⟨v, bakC cs H H', os, bare, ⟨fun b o g n hf hx => un.keep b o g (by rw [hid_out (non n)]; exact n) hf hx, fun b o g n hf hx => un.slot b o g (by rw [hid_out (non n)]; exact n) hf hx, fun b o g n hx => ?_, un.there, fun b xs e => ?_, fun b o u e => ?_, fun b ps e => ?_⟩, hok_bak hok nn kept, r, q⟩
  · rw [bak_out (non n)]
    exact un.free b o g (by rw [hid_out (non n)]; exact n) hx
  · have m := out e (fun ob z => by cases z)
    rw [bak_out m]
    exact un.tups b xs (by rw [hid_out m]; exact e)
  · by_cases m : b ∈ cs
    · rw [bak_in m]; exact e
    · rw [bak_out m]
      exact un.frzs b o u (by rw [hid_out m]; exact e)
  · have m := out e (fun ob z => by cases z)
    rw [bak_out m]
    exact un.tbls b ps (by rw [hid_out m]; exact e)
end
abbrev fdA (F : NF) (b : FuncBody) (doc pm ctv : Value) : FuncData :=
  { name := F.name, qualname := F.qual, params := F.params, body := b, scope := F.scope, globals := mainGlobals, closure := F.cl, defaults := .none, kwdefaults := .none, doc, pyModule := pm, annotations := none, code := .ref F.c, closureTuple := ctv, builtins := builtinsNs }
def FnA (f : Addr) (F : NF) (b : FuncBody) : HO := .ext fun h => ∃ (od : Option Addr) (sl : Array (Option Value)) (doc pm ctv : Value), h.get? f = some (⟨.type "function", od, .func (fdA F b doc pm ctv), sl⟩ : Obj)
theorem fnA_at {P : Program} {w : World} {H : Hp} {h : Heap} {f : Addr} {F : NF} {b : FuncBody} (hok : HOk P w H h) (e : H f = some (FnA f F b)) : ∃ (od : Option Addr) (sl : Array (Option Value)) (doc pm ctv : Value), h.get? f = some (⟨.type "function", od, .func (fdA F b doc pm ctv), sl⟩ : Obj) := by
  obtain ⟨z, _, _⟩ := hok f _ e
  exact z
structure VOk (P : Program) (w : World) (K : PySem.W.Frag) (mg : Str → Option Value) (base : Heap) (k : Nat) (f : Addr) (F : NF) (b : FuncBody) (fr : List Str) (sp : List (Option V) → Sp) : Prop where
  run : ∀ (A : Around) (outer : List Env) (s : Shared) (H : Hp) (us : List Value) (vs : List V) (ws : List (Option V)) (Q : VK) (E : XK), Room k A → Env0 P w K mg base A outer s H → H f = some (FnA f F b) → H F.c = some (CodeO F.c F.qual) →
    CellsAt F.cl fr ws s.heap H → Vals vs us → sp ws vs H Q E → codeAny (model P w) A (.call (.ref f) ⟨us, []⟩) (CR CX0 outer P w H s Q E) s
section
variable {P : Program} {w : World} {K : PySem.W.Frag} {mg : Str → Option Value} {base : Heap} {k j : Nat} {f : Addr} {F : NF} {b : FuncBody} {fr ps N : List Str} {sp : List (Option V) → Sp}
theorem VOk.mono (o : VOk P w K mg base j f F b fr sp) (h : j ≤ k) : VOk P w K mg base k f F b fr sp := ⟨fun A outer s H us vs ws Q E hr => o.run A outer s H us vs ws Q E (hr.mono h)⟩
theorem VOk.imp {sp' : List (Option V) → Sp} (o : VOk P w K mg base k f F b fr sp) (h : ∀ ws vs H Q E, sp' ws vs H Q E → sp ws vs H Q E) : VOk P w K mg base k f F b fr sp' := ⟨fun A outer s H us vs ws Q E hr e0 hf hc C r q => o.run A outer s H us vs ws Q E hr e0 hf hc C r (h _ _ _ _ _ q)⟩
theorem vok_def (o : NdefX.NOk P w K mg base CX0 k f F ps fr sp) : VOk P w K mg base k f F (.stmts F.body) fr sp := ⟨fun A outer s H us vs ws Q E hr e0 hf hc C r q => o.run A outer s H us vs ws Q E hr e0 hf hc C r q⟩
end
structure CloAt (H : Hp) (f : Addr) (F : NF) (b : FuncBody) (fr : List Str) (ws : List V) : Prop where
  fn : H f = some (FnA f F b)
  code : H F.c = some (CodeO F.c F.qual)
  len : ws.length = fr.length
  inj : ∀ x y c, F.cl.lookup x = some c → F.cl.lookup y = some c → x = y
  all : ∀ y c, F.cl.lookup y = some c → ∃ ob v, H c = some (cellH ob) ∧ ob.data = .cell v
  has : ∀ (i : Nat) (y : Str) (v : V), fr[i]? = some y → ws[i]? = some v → ∃ c ob u, F.cl.lookup y = some c ∧ H c = some (cellH ob) ∧ ob.data = .cell (some u) ∧ L2.RelV v u
section
variable {P : Program} {w : World} {H H' : Hp} {h : Heap} {f : Addr} {F : NF} {b : FuncBody} {fr : List Str} {ws : List V}
theorem CloAt.same (x : CloAt H f F b fr ws) (S : Same H H') : CloAt H' f F b fr ws :=
  ⟨S _ _ x.fn, S _ _ x.code, x.len, x.inj, fun y c e => let ⟨ob, v, h1, h2⟩ := x.all y c e; ⟨ob, v, S _ _ h1, h2⟩, fun i y v e1 e2 => let ⟨c, ob, u, h1, h2, h3⟩ := x.has i y v e1 e2; ⟨c, ob, u, h1, S _ _ h2, h3⟩⟩
theorem CloAt.frz (x : CloAt H f F b fr ws) : ∀ c ∈ csF F.cl, ∃ ob, H c = some (cellH ob) := fun c m => by
  obtain ⟨y, e⟩ := mem_cs.mp m
  obtain ⟨ob, v, h1, _⟩ := x.all y c e
  exact ⟨ob, h1⟩
theorem CloAt.out (x : CloAt H f F b fr ws) {a : Addr} {o : HO} (e : H a = some o) (n : ∀ ob, o ≠ cellH ob) : hidC (csF F.cl) H a = some o := by
  rw [hid_out]
  · exact e
  · intro m
    obtain ⟨ob, z⟩ := x.frz a m
    rw [z] at e
    exact n ob (Option.some.inj e).symm
theorem CloAt.cells (x : CloAt H f F b fr ws) (hok : HOk P w H h) : CellsAt F.cl fr (ws.map some) h (hidC (csF F.cl) H) := by
  have at_ : ∀ {c : Addr} {ob : Obj}, H c = some (cellH ob) → h.get? c = some ob := fun {c ob} e => (hok c _ e).1
  refine ⟨by rw [List.length_map]; exact x.len, fun y c e => ⟨hid_in (mem_cs.mpr ⟨y, e⟩), ?_⟩, x.inj, fun i y e => ?_⟩
  · obtain ⟨ob, v, h1, h2⟩ := x.all y c e
    exact ⟨v, ob, at_ h1, h2⟩
  · have il : i < ws.length := by rw [x.len]; exact (List.getElem?_eq_some_iff.mp e).1
    obtain ⟨c, ob, u, h1, h2, h3, h4⟩ := x.has i y ws[i] e (List.getElem?_eq_getElem il)
    refine ⟨c, h1, fun v ev => ⟨u, ?_, ob, at_ h2, h3⟩⟩
    rw [List.getElem?_map, List.getElem?_eq_getElem il] at ev
    cases ev
    exact h4
end
theorem fnAtA {X : Cx} {pins : List (Addr × Obj)} {σ : L2.St} {H : Hp} {s : Shared} {f : Addr} {F : NF} {b : FuncBody} (I : Inv X pins σ H s) (e : H f = some (FnA f F b)) : PySem.W.FnAt f s.heap := by
  obtain ⟨od, sl, doc, pm, ctv, ho⟩ := fnA_at I.hok e
  exact ⟨_, od, _, sl, ho⟩
end Tp
set_option Elab.async false
set_option linter.all false
set_option maxRecDepth 100000
set_option maxHeartbeats 4000000
namespace Tp
open PySem PySem.Spec PyProof.Rows L2 LamX NdefX
section
variable {X : Cx} {pins : List (Addr × Obj)} {σ : L2.St} {H : Hp} {s : Shared}
end
abbrev RT := L2.St → V → Hp → Prop
structure PSsR (X : Cx) (l : List Stmt) (t : RT → L2.St → Hp → Prop) : Prop where
  run : ∀ (pins : List (Addr × Obj)) (s : Shared) (σ : L2.St) (H : Hp) (R : RT), Inv X pins σ H s → t R σ H → wpAny (model X.prog X.w) X.A (execs l X.env) (fun f s' => match f with | .ret u => ∃ v σ' H', Inv X pins σ' H' s' ∧ L2.RelV v u ∧ R σ' v H' | _ => False) X.xe s
section
variable {X : Cx} {st : Stmt} {l : List Stmt} {t1 : TS} {t2 : RT → L2.St → Hp → Prop} {e : Expr} {te : TE} {pos : Pos}
theorem psr_ret (he : PE X e te) : PSsR X [.Return (some e) pos] fun R σ H => te σ H fun v H' => R σ v H' := by
  refine ⟨fun pins s σ H R I h => ?_⟩
  refine wpAny_execs_cons (wpAny_Return_some (thn (he.run pins s σ H _ I h) fun u s1 ⟨v, H1, I1, r1, q1⟩ => ?_))
  exact ⟨v, σ, H1, I1, r1, q1⟩
theorem psr_cons (h1 : PS X st t1) (h2 : PSsR X l t2) : PSsR X (st :: l) fun R σ H => t1 { nx := fun σ' H' => t2 R σ' H', rt := fun _ _ => False } σ H := by
  refine ⟨fun pins s σ H R I h => ?_⟩
  refine wpAny_execs_cons (thn (h1.run pins s σ H _ I h) fun f s1 q => ?_)
  cases f with
  | next =>
    obtain ⟨σ', H', I', q⟩ := q
    exact h2.run pins s1 σ' H' R I' q
  | ret v =>
    obtain ⟨_, _, _, _, _, z⟩ := q
    exact z.elim
  | brk =>
    obtain ⟨_, _, _, z⟩ := q
    exact z.elim
  | cont =>
    obtain ⟨_, _, _, z⟩ := q
    exact z.elim
theorem PSsR.nox (h : PSsR X.nox l t2) : PSsR X l t2 := ⟨fun pins s σ H R I hw =>
  wpAny_mono (h.run pins s σ H R (I.wish _) hw) (fun f s' q => by
    cases f with
    | ret u => obtain ⟨v, σ', H', I', r, q⟩ := q; exact ⟨v, σ', H', I'.unwish, r, q⟩
    | next => exact q
    | brk => exact q
    | cont => exact q) fun _ _ z => False.elim z⟩
end
structure CellsIn (ec : List (Str × Addr)) (N : List Str) (sc : Scope) (σ : L2.St) (H : Hp) : Prop where
  inj : ∀ x y c, ec.lookup x = some c → ec.lookup y = some c → x = y
  all : ∀ y c, ec.lookup y = some c → ∃ ob v, H c = some (cellH ob) ∧ ob.data = .cell v
  val : ∀ (y : Str) (j : Nat) (v : V) (c : Addr), N[j]? = some y → σ[j]? = some (some v) → sc.names.lookup y = some .cell → ec.lookup y = some c → ∃ ob u, H c = some (cellH ob) ∧ ob.data = .cell (some u) ∧ L2.RelV v u
theorem ce_clo {P : Program} {w : World} {K : PySem.W.Frag} {mg : Str → Option Value} {base : Heap} {CX : CXT} {N : List Str} {qual : Str} {scope : Scope} {f : Addr} {cd : Value} {A : Around} {outer : List Env} {s s' : Shared} {H H' : Hp} {E : XK} {σ' : L2.St} {v : V} {u : Value} {Q : VK}
    (J : Inv (cxOf CX P w K mg base N qual scope f cd A outer s H E) [] σ' H' s') (rv : L2.RelV v u) (q : ∀ H'', Same H' H'' → CellsIn (envOfC qual scope s.heap.objs.size f cd).cells N scope σ' H'' → Q v H'') : CE outer P w H s Q u s' := by
  obtain ⟨ec, eec⟩ : ∃ ec, ec = (envOfC qual scope s.heap.objs.size f cd).cells := ⟨_, rfl⟩
  have cell : ∀ y c, ec.lookup y = some c → ∃ v ob, s'.heap.get? c = some ob ∧ ob.data = .cell v := fun y c e => J.cell y c (by rw [eec] at e; exact e)
  have freeC : ∀ y c, ec.lookup y = some c → H' c = none := fun y c e => J.freeC y c (by rw [eec] at e; exact e)
  have above : ∀ y c, ec.lookup y = some c → s.heap.objs.size ≤ c := fun y c e => J.ok.cab y c rfl (by rw [eec] at e; exact e)
  have un : Un (frs outer) [] H H' s.heap s'.heap := J.base
  have hok : HOk P w H' s'.heap := J.hok
  have nn : ∀ c ∈ csF ec, H' c = none := fun c m => let ⟨y, e⟩ := mem_cs.mp m; freeC y c e
  obtain ⟨G, hG⟩ : ∃ G : Hp, G = fun b => if b ∈ csF ec then (s'.heap.get? b).map cellH else H' b := ⟨_, rfl⟩
  have gin : ∀ {y : Str} {c : Addr} {ob : Obj}, ec.lookup y = some c → s'.heap.get? c = some ob → G c = some (cellH ob) := fun {y c ob} e g => by
    rw [hG]
    show (if c ∈ csF ec then (s'.heap.get? c).map cellH else H' c) = _
    rw [if_pos (mem_cs.mpr ⟨y, e⟩), g]
    rfl
  have gout : ∀ {b : Addr}, b ∉ csF ec → G b = H' b := fun {b} m => by
    rw [hG]
    exact if_neg m
  have gsome : ∀ {b : Addr} {o : HO}, H' b = some o → G b = some o := fun {b o} e => by
    rw [gout (fun m => by rw [nn b m] at e; cases e)]
    exact e
  have hokG : HOk P w G s'.heap := fun b o e => by
    by_cases m : b ∈ csF ec
    · obtain ⟨y, e1⟩ := mem_cs.mp m
      obtain ⟨v, ob, g, _⟩ := cell y b e1
      rw [gin e1 g] at e
      cases e
      exact cellH_ok g
    · rw [gout m] at e
      exact (hok b o e).stay (fun _ _ _ q => q) (fun c q => gsome q) fun c xs q => gsome q
  refine ⟨v, G, J.os, J.bare, ⟨un.keep, un.slot, fun b o g n hx => ?_, un.there, fun b xs e => gsome (un.tups b xs e), fun b o u e => gsome (un.frzs b o u e), fun b ps e => ?_⟩, hokG, rv, q G (fun b o e => gsome e) ?_⟩
  · rw [gout (fun m => ?_)]
    · exact un.free b o g n hx
    · obtain ⟨y, e⟩ := mem_cs.mp m
      exact absurd (Nat.lt_of_lt_of_le (Heap.lt_size g) (above y b e)) (Nat.lt_irrefl _)
  · obtain ⟨more, e2⟩ := un.tbls b ps e
    exact ⟨more, gsome e2⟩
  · rw [← eec]
    refine ⟨fun x y c e1 e2 => J.ok.inj x y c (by rw [eec] at e1; exact e1) (by rw [eec] at e2; exact e2), fun y c e => ?_, fun y j v c e1 e2 e3 e4 => ?_⟩
    · obtain ⟨v, ob, g, hd⟩ := cell y c e
      exact ⟨ob, v, gin e g, hd⟩
    · obtain ⟨m, hn, hl⟩ := J.loc
      obtain ⟨u, r, l⟩ := hl j y v e1 e2 (.inr (.inl e3))
      rcases l with ⟨z, _⟩ | ⟨_, a', ha', ob, g, hd⟩
      · have z : scope.names.lookup y = some .local := z
        rw [e3] at z
        cases z
      · have ha' : (envOfC qual scope s.heap.objs.size f cd).cells.lookup y = some a' := ha'
        rw [← eec, e4] at ha'
        cases ha'
        exact ⟨ob, u, gin e4 g, hd, r⟩
section
variable {P : Program} {w : World} {K : PySem.W.Frag} {mg : Str → Option Value} {base : Heap} {k : Nat} {f c : Addr} {fd : FuncData} {ps : List Str} {sp : Sp}
theorem run_clo {CX : CXT} {name qual : Str} {params : Arguments} {body : List Stmt} {scope : Scope} {dV kV doc pm cdv ct oc : Value} {an od : Option Addr} {osl : Array (Option Value)} {N : List Str} (lk : K.lookup f = some ⟨oc, od, .func (PySem.W.fnOf name qual params body scope dV kV doc pm an cdv ct), osl⟩) (hcd : PySem.W.codeIn K cdv qual = true) (S : FnScope N ps scope)
    {A : Around} {outer : List Env} {s : Shared} {H : Hp} {args : Args} {us : List Value} {vs : List V} {Q : VK} {E : XK} (hl : vs.length = ps.length) (hr : Room (k + 1) A) (e0 : Env0 P w K mg base A outer s H) (hb : BindsTo s (PySem.W.fnOf name qual params body scope dV kV doc pm an cdv ct) args (ps.zip us)) (r : Vals vs us)
    (hbody : Room k (A.deeper (envOfC qual scope s.heap.objs.size f cdv)) → ∃ t, PSsR (cxOf CX P w K mg base N qual scope f cdv A outer s H E) body t ∧ t (fun σ v H' => ∀ H'', Same H' H'' → CellsIn (envOfC qual scope s.heap.objs.size f cdv).cells N scope σ H'' → Q v H'') (start N vs) H) :
    codeAny (model P w) A (.call (.ref f) args) (CR CX outer P w H s Q E) s := by
  have KX : K.In s.heap := e0.mod.kin.keeps fun b o e => (e0.bs b o e).1
  have lim : s.heap.NoLimit := e0.mod.nolimit.keeps fun b o e => (e0.bs b o e).1
  have hkind : ∀ y ∈ ps.zip us, scope.names.lookup y.1 = some .local ∨ (scope.names.lookup y.1 = some .cell ∧ ((cellsFrom (s.heap.objs.size + 1) scope.names []).lookup y.1).isSome = true) := fun ⟨n, v⟩ hy => by
    rcases S.par n (List.of_mem_zip hy).1 with q | q
    · exact .inl q
    · exact .inr ⟨q, PySem.W.cellsFrom_some _ _ _ (.inl q)⟩
  refine codeAny_call_function hr.depth (KX _ _ lk) rfl S.co S.gen rfl (PySem.W.codeRec_of KX hcd) (hb _ _ _ _ ?_)
  refine wpAny_newFunctionEnv_cells S.kind hkind fun env he s1 x => ?_
  subst he
  refine ⟨lim.keeps x.toInCall.keep, codeAny_func ?_⟩
  obtain ⟨t, ht, hq⟩ := hbody (hr.deeper _)
  have I : Inv (cxOf CX P w K mg base N qual scope f cdv A outer s H E) [] (start N vs) H s1 := inv_start S hr.hd e0 hl r x
  refine wpAny_mono (ht.run [] s1 (start N vs) H _ I hq) (fun fl s' hs => ?_) fun e s' hs => hs
  cases fl with
  | ret u =>
    obtain ⟨v, σ', H', J, rv, q⟩ := hs
    exact ce_clo J rv q
  | next => exact False.elim hs
  | brk => exact False.elim hs
  | cont => exact False.elim hs
theorem okGR {x qual : Str} {st : Stmt} {N : List Str} (F : Fun K x qual st f fd) (hc : fd.code = .ref c) (S : FnScope N ps (defScope st)) (ar : ∀ vs H Q E, sp vs H Q E → vs.length = ps.length)
    (bd : ∀ (A : Around) (outer : List Env) (s : Shared) (H : Hp) (vs : List V) (Q : VK) (E : XK), Room k (A.deeper (envOfC qual (defScope st) s.heap.objs.size f (.ref c))) → A.guards = some [] → sp vs H Q E →
      ∃ t, PSsR (cxOf CX0 P w K mg base N qual (defScope st) f (.ref c) A outer s H E).nox (defBody st) t ∧ t (fun σ v H' => ∀ H'', Same H' H'' → CellsIn (envOfC qual (defScope st) s.heap.objs.size f (.ref c)).cells N (defScope st) σ H'' → Q v H'') (start N vs) H) :
    FnG P w K mg base CX0 (k + 1) f fd ps sp := by
  obtain ⟨oc, od, kV, doc, pm, an, cdv, ct, osl, rfl, lk, hcd⟩ := F.ex
  have e : cdv = .ref c := hc
  subst e
  refine ⟨ar, fun A outer s H args us vs Q E hr hg e0 hb r hsp => ?_⟩
  exact run_clo lk hcd S (ar _ _ _ _ hsp) hr e0 hb r fun hr2 => let ⟨t, h, q⟩ := bd A outer s H vs Q E hr2 hg hsp; ⟨t, h.nox, q⟩
end
theorem clo_of {ec : List (Str × Addr)} {N : List Str} {sc nsc : Scope} {σ : L2.St} {H : Hp} {f : Addr} {F : NF} {b : FuncBody} {fr : List Str} {js : List Nat} {ws : List V} (C : CellsIn ec N sc σ H) (hcl : F.cl = cloFrom ec nsc.names []) (hfree : ∀ y ∈ nsc.names, y.2 = .free → ∃ c, ec.lookup y.1 = some c)
    (hfr : ∀ y ∈ fr, (y, NameKind.free) ∈ nsc.names ∧ sc.names.lookup y = some .cell) (hf : H f = some (FnA f F b)) (hc : H F.c = some (CodeO F.c F.qual)) (hN : js.map (fun j => N[j]?) = fr.map some) (hw : js.map (fun j => σ[j]?) = ws.map fun v => some (some v)) : CloAt H f F b fr ws := by
  have sub : ∀ y c, F.cl.lookup y = some c → ec.lookup y = some c := fun y c e => by rw [hcl] at e; exact clo_cm hfree e
  have lj : js.length = fr.length := by have := congrArg List.length hN; rw [List.length_map, List.length_map] at this; exact this
  have lw : js.length = ws.length := by have := congrArg List.length hw; rw [List.length_map, List.length_map] at this; exact this
  refine ⟨hf, hc, by omega, fun x y c e1 e2 => C.inj x y c (sub x c e1) (sub y c e2), fun y c e => C.all y c (sub y c e), fun i y v e1 e2 => ?_⟩
  have il : i < js.length := by rw [lj]; exact (List.getElem?_eq_some_iff.mp e1).1
  have n1 : N[js[i]]? = some y := by
    have h : (js.map fun j => N[j]?)[i]? = (fr.map some)[i]? := by rw [hN]
    rw [List.getElem?_map, List.getElem?_map, List.getElem?_eq_getElem il, e1] at h
    exact Option.some.inj h
  have n2 : σ[js[i]]? = some (some v) := by
    have h : (js.map fun j => σ[j]?)[i]? = (ws.map fun v => some (some v))[i]? := by rw [hw]
    rw [List.getElem?_map, List.getElem?_map, List.getElem?_eq_getElem il, e2] at h
    exact Option.some.inj h
  obtain ⟨m1, m2⟩ := hfr y (List.mem_of_getElem? e1)
  obtain ⟨c, ec1⟩ := hfree _ m1 rfl
  obtain ⟨ob, u, h1, h2, h3⟩ := C.val y js[i] v c n1 n2 m2 ec1
  exact ⟨c, ob, u, by rw [hcl]; exact clo_has hfree m1 ec1, h1, h2, h3⟩
end Tp
set_option Elab.async false
set_option linter.all false
set_option maxRecDepth 100000
set_option maxHeartbeats 4000000
namespace Tp
open PySem PySem.Spec PyProof.Rows L2
section
variable {X : Cx} {pins : List (Addr × Obj)} {σ : L2.St} {H : Hp} {s : Shared} {a : Addr} {y z : V} {u r : Value} {A : Around} {E : Value → Shared → Prop}
end
end Tp
set_option Elab.async false
set_option linter.all false
set_option maxRecDepth 100000
set_option maxHeartbeats 4000000
namespace Tp
open PySem PySem.Spec PyProof.Rows L2 LamX NdefX
end Tp
set_option Elab.async false
set_option linter.all false
set_option maxRecDepth 100000
set_option maxHeartbeats 4000000
namespace Tp
open PySem PySem.Spec PyProof.Rows L2
section
variable {X : Cx} {CX : CXT} {k n : Nat} {f C : Addr} {fd : FuncData} {ps ks : List Str} {sp : Sp} {E : L2.St → XK} {m : Str} {p pos apos : Pos} {e o : Expr} {es : List Expr} {kws : List Keyword} {ta : TE} {t tk : TA} {g : List Value → List Value → List Value} {gV : List V → List V → List V}
theorem run_fnNE {pins : List (Addr × Obj)} {σ : L2.St} {H : Hp} {s : Shared} {Q : VK} {us ws : List Value} {vs zs : List V} {E : XK} (F : FnOk X.prog X.w X.K X.mg X.base CX k f fd ps sp) (hr : Room k X.A) (hb : KBn X.K fd ps n ks g gV) (hx : PassesAt CX X σ E)
    (I : Inv X pins σ H s) (r : Vals vs us) (rz : Vals zs ws) (l1 : vs.length = n) (l2 : zs.length = ks.length) (h : sp (gV vs zs) H Q E) : wpAny (model X.prog X.w) X.A (call (.ref f) us (ks.zip ws)) (EP X pins σ Q) X.xe s := by
  have r2 := hb.rel r rz
  refine wpAny_call (codeAny_mono (F.run X.A X.stack s H ⟨us, ks.zip ws⟩ (g us ws) (gV vs zs) Q E hr I.env0 (hb.to s us ws I.kIn (r.length.symm.trans l1) (rz.length.symm.trans l2)) r2 h) fun r s' hq => ?_)
  cases r with
  | error e => exact hx pins H s e s' I hq
  | ok fl =>
    cases fl with
    | ret u => exact I.after hq
    | next => exact False.elim hq
    | brk => exact False.elim hq
    | cont => exact False.elim hq
def tMethKE (C : Addr) (m : Str) (n l : Nat) (sp : Sp) (gV : List V → List V → List V) (E : L2.St → XK) (ta : TE) (t tk : TA) : TE := fun σ H Q => ta σ H fun x H1 => ∃ a dx fs, x = .ref a ∧ H1 a = some (.ins C dx fs) ∧ fs.lookup m = none ∧
  t σ H1 fun vs H2 => tk σ H2 fun zs H3 => (x :: vs).length = n ∧ zs.length = l ∧ sp (gV (x :: vs) zs) H3 Q (E σ)
theorem pe_methKE {pl : Sem Bool} (he : PE X o ta) (c : Cls X.K C) (hm : Meth X.K C m f) (F : FnOk X.prog X.w X.K X.mg X.base CX k f fd ps sp) (hr : Room k X.A) (hb : KBn X.K fd ps n ks g gV) (hx : ∀ σ, PassesAt CX X σ (E σ)) (ha : PA X (e :: es) t) (hkw : PK X kws tk)
    (hall : (backToKw pos (keywordEach kws X.env)).all (·.1.isSome) = true := by rfl) (hks : (backToKw pos (keywordEach kws X.env)).filterMap (·.1) = ks := by rfl)
    (hst : starEach (e :: es) X.env = (false, eval e X.env) :: starEach es X.env := by rfl)
    (hpl : ((backTo pos (starEach (e :: es) X.env)).any (·.1) || (backToKw pos (keywordEach kws X.env)).any (·.1.isNone)) = false := by rfl)
    (ht : eval (.Call (.Attribute o m apos) (e :: es) kws pos) X.env = (do
      let ov ← eval o X.env
      standAt apos.atName
      let (f, first) ← holding [ov] (getMethod ov m pl)
      callWith pos f first (backTo pos (starEach (e :: es) X.env)) (backToKw pos (keywordEach kws X.env))) := by rfl) :
    PE X (.Call (.Attribute o m apos) (e :: es) kws pos) (tMethKE C m n ks.length sp gV E ta t tk) := by
  refine ⟨fun pins s σ H Q I h => ?_⟩
  refine PySem.W.methodCall_KW (pl := pl) (thn (he.run pins s σ H _ I h) fun u s1 ⟨x, H1, I1, rx, a, dx, fs, ex, ea, l, q⟩ => ?_) ht
  subst ex
  obtain rfl : u = Value.ref a := rx
  refine getmeth_ok I1 ea c hm l ?_
  refine PySem.W.callWith_KW (first := [.ref a]) (h₀ := X.base) I.ok.mod.kin hm.kp hall (thn (ha.run pos pins s1 σ H1 _ I1 q) fun us s2 ⟨vs, H2, I2, r, q2⟩ => ?_) hpl hst
  refine thn (hkw.run pos pins s2 σ H2 _ I2 q2) fun ws s3 ⟨zs, H3, I3, rz, l1, l2, q3⟩ => ⟨I3.kIn, ?_⟩
  rw [hks]
  exact run_fnNE (us := .ref a :: us) (vs := .ref a :: vs) F hr hb (hx σ) I3 (.cons rfl r) rz l1 l2 q3
end
end Tp
set_option Elab.async false
set_option linter.all false
set_option maxRecDepth 100000
set_option maxHeartbeats 4000000
namespace Tp
open PySem PySem.Spec PyProof.Rows L2
mutual
inductive NkV (K : PySem.W.Frag) (H : Hp) : NestedKey → V → Prop
  | num (i : Int) : NkV K H (.num i) (.int i)
  | text (x : Str) : NkV K H (.text x) (.str x)
  | tup {b : Addr} {ks : List NestedKey} {vs : List V} : SqT K H b vs → NkAll K H ks vs → NkV K H (.tup ks) (.ref b)
inductive NkAll (K : PySem.W.Frag) (H : Hp) : List NestedKey → List V → Prop
  | nil : NkAll K H [] []
  | cons {k : NestedKey} {ks : List NestedKey} {v : V} {vs : List V} : NkV K H k v → NkAll K H ks vs → NkAll K H (k :: ks) (v :: vs)
end
theorem sqT_same {K : PySem.W.Frag} {H H' : Hp} (S : Same H H') {a : Addr} {xs : List V} : SqT K H a xs → SqT K H' a xs := by
  rintro ((h | ⟨o, h⟩) | h)
  · exact .inl (.inl (S _ _ h))
  · exact .inl (.inr ⟨o, S _ _ h⟩)
  · exact .inr h
def SameT (H H' : Hp) : Prop := (∀ a xs, H a = some (.tup xs) → H' a = some (.tup xs)) ∧ ∀ a o xs, H a = some (.frz o (.tup xs)) → H' a = some (.frz o (.tup xs))
theorem SameT.trans {H H1 H2 : Hp} (p : SameT H H1) (q : SameT H1 H2) : SameT H H2 := ⟨fun a xs h => q.1 a xs (p.1 a xs h), fun a o xs h => q.2 a o xs (p.2 a o xs h)⟩
theorem SameT.sq {K : PySem.W.Frag} {H H' : Hp} (S : SameT H H') {a : Addr} {xs : List V} : SqT K H a xs → SqT K H' a xs := by
  rintro ((h | ⟨o, h⟩) | h)
  · exact .inl (.inl (S.1 _ _ h))
  · exact .inl (.inr ⟨o, S.2 _ _ _ h⟩)
  · exact .inr h
def NoTup : HO → Prop
  | .tup _ => False
  | .frz _ (.tup _) => False
  | _ => True
theorem SameT.upd {H : Hp} {a : Addr} {o u : HO} (h : H a = some o) (n : NoTup o) : SameT H (L2.upd H a u) :=
  ⟨fun b xs e => by rw [upd_ne (fun z => by rw [z, h] at e; cases e; exact n)]; exact e, fun b ob xs e => by rw [upd_ne (fun z => by rw [z, h] at e; cases e; exact n)]; exact e⟩
mutual
theorem NkV.same {K : PySem.W.Frag} {H H' : Hp} (S : SameT H H') : ∀ {k : NestedKey} {v : V}, NkV K H k v → NkV K H' k v
  | _, _, .num i => .num i
  | _, _, .text x => .text x
  | _, _, .tup s r => .tup (S.sq s) (NkAll.same S r)
theorem NkAll.same {K : PySem.W.Frag} {H H' : Hp} (S : SameT H H') : ∀ {k : List NestedKey} {v : List V}, NkAll K H k v → NkAll K H' k v
  | _, _, .nil => .nil
  | _, _, .cons a b => .cons (NkV.same S a) (NkAll.same S b)
end
section
variable {X : Cx} {pins : List (Addr × Obj)} {σ : L2.St} {H : Hp} {s : Shared}
mutual
theorem NkV.is (I : Inv X pins σ H s) : ∀ {k : NestedKey} {v : V}, NkV X.K H k v → ∀ u, RelV v u → NestedIs s.heap k u
  | _, _, .num i, u, r => by obtain ⟨t, rfl⟩ := r; exact .int _ _
  | _, _, .text x, u, r => by obtain ⟨t, rfl⟩ := r; exact .text _ _
  | _, _, .tup hs hr, u, r => by
    obtain ⟨its, rv, ⟨o, ho, hc, n, hd⟩, _⟩ := I.tuple hs
    cases r
    exact .tup ho hc hd (by simpa using NkAll.is I hr its rv)
theorem NkAll.is (I : Inv X pins σ H s) : ∀ {k : List NestedKey} {v : List V}, NkAll X.K H k v → ∀ u, Vals v u → NestedAll s.heap k u
  | _, _, .nil, u, r => by cases r; exact .nil
  | _, _, .cons a b, u, r => by
    cases r with
    | cons r1 r2 => exact .cons (NkV.is I a _ r1) (NkAll.is I b _ r2)
end
end
abbrev NX := List (NestedKey × Addr × V)
def RelN (x : NestedKey × Addr × V) (y : NestedKey × Addr × Value) : Prop := x.1 = y.1 ∧ x.2.1 = y.2.1 ∧ RelV x.2.2 y.2.2
def dNφ (P : Program) (w : World) (a : Addr) (xs : NX) : Heap → Prop := fun h => xs.length ≤ sizeLine ∧ (a == sysModules) = false ∧ ∃ ys, Paired RelN xs ys ∧ ∃ o es ep, h.get? a = some o ∧ o.ExactDict ∧ o.data = .dict es ep ∧ es.toList = ys.map (entryOfKey (nestedKind P w)) ∧ (ys.map (·.1)).Nodup
def dN (P : Program) (w : World) (a : Addr) (xs : NX) : HO := .ext (dNφ P w a xs)
def NOk (K : PySem.W.Frag) (H : Hp) (xs : NX) : Prop := ∀ x ∈ xs, NkV K H x.1 (.ref x.2.1) ∧ x.1.depth ≤ 8
theorem NOk.same {K : PySem.W.Frag} {H H' : Hp} {xs : NX} (h : NOk K H xs) (S : SameT H H') : NOk K H' xs := fun x hx => ⟨(h x hx).1.same S, (h x hx).2⟩
theorem dN_ok {P : Program} {w : World} {H : Hp} {h : Heap} {a : Addr} {xs : NX} (d : dNφ P w a xs h) : ObjOk P w H h a (dN P w a xs) := by
  obtain ⟨_, _, ys, _, o, es, ep, ho, _⟩ := id d
  refine ⟨d, ⟨o, ho⟩, fun h1 h2 q k => ?_⟩
  obtain ⟨l, n, ys, r, o, es, ep, ho, rest⟩ := q
  exact ⟨l, n, ys, r, o, es, ep, k _ ho, rest⟩
def lookN (xs : NX) (k : NestedKey) : Option V := (xs.find? fun x => decide (x.1 = k)).map (·.2.2)
theorem look_rel {xs : NX} {ys : List (NestedKey × Addr × Value)} (r : Paired RelN xs ys) (k : NestedKey) : RelO (lookN xs k) ((atKey ys k).map (·.2)) := by
  unfold lookN atKey
  induction r with
  | nil => trivial
  | @cons x y xs ys h _ ih =>
    obtain ⟨h1, h2, h3⟩ := h
    rw [List.find?_cons, List.find?_cons, ← h1]
    cases decide (x.1 = k) with
    | true => exact h3
    | false => exact ih
theorem lookN_new {xs : NX} {k : NestedKey} {b : Addr} {v : V} (h : lookN xs k = none) : lookN (xs ++ [(k, b, v)]) k = some v := by
  unfold lookN at h ⊢
  have e : xs.find? (fun x => decide (x.1 = k)) = none := Option.map_eq_none_iff.mp h
  rw [List.find?_append, e]
  simp
section
variable {X : Cx} {pins : List (Addr × Obj)} {σ : L2.St} {H : Hp} {s : Shared} {a b : Addr} {xs : NX} {k : NestedKey} {A : Around} {E : Value → Shared → Prop}
theorem dn_at (I : Inv X pins σ H s) (e : H a = some (dN X.prog X.w a xs)) (ok : NOk X.K H xs) : xs.length ≤ sizeLine ∧ (a == sysModules) = false ∧ ∃ ys, Paired RelN xs ys ∧ s.heap.DictOfH (nestedKind X.prog X.w) a ys := by
  obtain ⟨⟨l, n, ys, r, o, es, ep, ho, h1, h2, h3, h4⟩, _⟩ := (show ObjOk X.prog X.w H s.heap a (dN X.prog X.w a xs) from I.hok a _ e)
  refine ⟨l, n, ys, r, o, es, ep, ho, h1, h2, h3, fun y hy => ?_, h4⟩
  have key : ∀ {xs : NX} {ys : List (NestedKey × Addr × Value)}, Paired RelN xs ys → (∀ x ∈ xs, NkV X.K H x.1 (.ref x.2.1) ∧ x.1.depth ≤ 8) → ∀ y ∈ ys, NestedIs s.heap y.1 (.ref y.2.1) ∧ y.1.depth ≤ 8 := by
    intro xs ys r
    induction r with
    | nil => intro _ y hy; cases hy
    | @cons x y xs ys h _ ih =>
      intro ok z hz
      rcases List.mem_cons.mp hz with e | hz
      · subst e
        obtain ⟨h1, h2, _⟩ := h
        obtain ⟨k1, k2⟩ := ok x List.mem_cons_self
        rw [← h1, ← h2]
        exact ⟨k1.is I _ rfl, k2⟩
      · exact ih (fun x hx => ok x (List.mem_cons_of_mem _ hx)) z hz
  exact key r ok y hy
theorem roomN (hu : A.units + 64 < cLine) : (nestedKind X.prog X.w).room A.in1 := by
  show A.in1.units + 8 < cLine
  have : A.in1.units = A.units + 1 := rfl
  omega
def rInN (P : Program) (w : World) (K : PySem.W.Frag) (f : Bool → Bool) : R2 := fun x y H Q => ∃ a b xs k, y = .ref a ∧ x = .ref b ∧ H a = some (dN P w a xs) ∧ NOk K H xs ∧ NkV K H k (.ref b) ∧ k.depth ≤ 8 ∧ Q (.bl (f (lookN xs k).isSome)) H
theorem op_inN (hu : X.A.units + 64 < cLine) : OpR X (compareOp .In) (rInN X.prog X.w X.K id) := by
  intro pins s σ H x y v u Q I rx ry h
  obtain ⟨a, b, xs, k, rfl, rfl, e, ok, nk, dp, q⟩ := h
  obtain rfl : u = Value.ref a := ry
  obtain rfl : v = Value.ref b := rx
  obtain ⟨l, n, ys, r, d⟩ := dn_at I e ok
  refine wpAny_in_heap (roomN hu) ⟨nk.is I _ rfl, dp⟩ n d ⟨.bl (lookN xs k).isSome, H, I.tok _, ?_, q⟩
  have z := (look_rel r k).isSome_eq
  rw [Option.isSome_map] at z
  rw [z]
  rfl
theorem op_notInN (hu : X.A.units + 64 < cLine) : OpR X (compareOp .NotIn) (rInN X.prog X.w X.K not) := by
  intro pins s σ H x y v u Q I rx ry h
  obtain ⟨a, b, xs, k, rfl, rfl, e, ok, nk, dp, q⟩ := h
  obtain rfl : u = Value.ref a := ry
  obtain rfl : v = Value.ref b := rx
  obtain ⟨l, n, ys, r, d⟩ := dn_at I e ok
  refine wpAny_notIn_heap (roomN hu) ⟨nk.is I _ rfl, dp⟩ n d ⟨.bl (!(lookN xs k).isSome), H, I.tok _, ?_, q⟩
  have z := (look_rel r k).isSome_eq
  rw [Option.isSome_map] at z
  rw [z]
  rfl
end
def tNGet (P : Program) (w : World) (K : PySem.W.Frag) (td ty : TE) : TE := fun σ H Q => td σ H fun x H1 => ty σ H1 fun y H2 => ∃ a b xs k v, x = .ref a ∧ y = .ref b ∧ H2 a = some (dN P w a xs) ∧ NOk K H2 xs ∧ NkV K H2 k (.ref b) ∧ k.depth ≤ 8 ∧ lookN xs k = some v ∧ Q v H2
def sNPut (P : Program) (w : World) (K : PySem.W.Frag) (td ty tv : TE) : TS := fun D σ H => tv σ H fun v H1 => td σ H1 fun x H2 => ty σ H2 fun y H3 => ∃ a b xs k, x = .ref a ∧ y = .ref b ∧ H3 a = some (dN P w a xs) ∧ NOk K H3 xs ∧ NkV K H3 k (.ref b) ∧ k.depth ≤ 8 ∧ lookN xs k = none ∧ xs.length < sizeLine ∧
  D.nx σ (upd H3 a (dN P w a (xs ++ [(k, b, v)])))
def tDNewN (P : Program) (w : World) : TE := fun _ H Q => ∀ p, H p = none → Q (.ref p) (upd H p (dN P w p []))
section
variable {X : Cx} {o i value : Expr} {pos pos' : Pos} {td ty tv : TE}
theorem pe_nget (hu : X.A.units + 64 < cLine) (ho : PE X o td) (hi : PE X i ty) (hs : NoSl i) : PE X (.Subscript o i pos) (tNGet X.prog X.w X.K td ty) := by
  refine ⟨fun pins s σ H Q I h => ?_⟩
  refine subD_of PySem.F.slot_dict_getitem.lookup hs (thn (ho.run pins s σ H _ I h) fun u s1 ⟨x, H1, I1, rx, q1⟩ => thn (hi.run pins s1 σ H1 _ I1 q1) fun iv s2 ⟨y, H2, I2, ry, a, b, xs, k, v, ex, ey, e, ok, nk, dp, lk, q2⟩ => ?_)
  subst ex ey
  obtain rfl : u = Value.ref a := rx
  obtain rfl : iv = Value.ref b := ry
  obtain ⟨l, n, ys, r, d⟩ := dn_at I2 e ok
  obtain ⟨w', hw, rw'⟩ := RelO.some_of (v := v) (o := (atKey ys k).map (·.2)) (by rw [← lk]; exact look_rel r k)
  obtain ⟨p, hp, hp2⟩ := Option.map_eq_some_iff.mp hw
  refine ⟨d.typeIs, wpAny_getItem_heap (roomN hu) ⟨nk.is I2 _ rfl, dp⟩ d hp ?_⟩
  rw [hp2]
  exact ⟨v, H2, I2.tok _, rw', q2⟩
theorem paired_snoc {α β : Type} {F : α → β → Prop} {xs : List α} {ys : List β} {x : α} {y : β} (r : Paired F xs ys) (h : F x y) : Paired F (xs ++ [x]) (ys ++ [y]) := by
  induction r with
  | nil => exact .cons h .nil
  | cons a _ ih => exact .cons a ih
theorem ps_nput (hu : X.A.units + 64 < cLine) (ho : PE X o td) (hi : PE X i ty) (hv : PE X value tv) (hs : swapsWith value (some (.Subscript o i pos')) pos.line X.env = pure false) : PS X (.Assign [.Subscript o i pos'] value pos) (sNPut X.prog X.w X.K td ty tv) := by
  refine ⟨fun pins s σ H D I h => ?_⟩
  refine wpAny_Assign_Subscript (thn (hv.run pins s σ H _ I h) fun r s1 ⟨v, H1, I1, rv, q1⟩ => thn (ho.run pins s1 σ H1 _ I1 q1) fun u s2 ⟨x, H2, I2, rx, q2⟩ => thn (hi.run pins s2 σ H2 _ I2 q2) fun iv s3 ⟨y, H3, I3, ry, a, b, xs, k, ex, ey, e, ok, nk, dp, lk, hl, q3⟩ => ?_) hs
  subst ex ey
  obtain rfl : u = Value.ref a := rx
  obtain rfl : iv = Value.ref b := ry
  obtain ⟨l, n, ys, pr, d⟩ := dn_at I3 e ok
  have hz : ys.length ≤ sizeLine := by rw [← Paired.length pr]; exact l
  have hn : atKey ys k = none := by
    have z := RelO.none_of (o := (atKey ys k).map (·.2)) (by rw [← lk]; exact look_rel pr k)
    exact Option.map_eq_none_iff.mp z
  refine wpAny_setItem_heap (hsz := hz) (roomN hu) ⟨nk.is I3 _ rfl, dp⟩ d fun h' d' hs => ⟨σ, _, ?_, q3⟩
  rw [storedH_new hn] at d'
  obtain ⟨q, es, ep, hq, h2, h3, h4, _, h5⟩ := d'
  refine d_write I3 (by rw [e]; exact True.intro) hs ⟨q, hq⟩ (dN_ok ⟨?_, n, _, paired_snoc pr ⟨rfl, rfl, rv⟩, q, es, ep, hq, h2, h3, h4, h5⟩)
  rw [List.length_append]
  exact hl
theorem pe_dnewN : PE X (.Dict [] [] pos) (tDNewN X.prog X.w) := ⟨fun pins s σ H Q I h =>
  wpAny_Dict_empty ⟨.ref s.heap.objs.size, _, I.laid (a := s.heap.objs.size) (o := dN X.prog X.w s.heap.objs.size []) (t' := s.toks) (fun _ _ q => Heap.get?_push_of_some _ q) (Nat.le_refl _)
    (dN_ok ⟨Nat.zero_le _, beq_eq_false_iff_ne.mpr (Ne.symm (Nat.ne_of_lt I.big)), [], .nil, _, #[], 0, Heap.get?_push_size _ rfl, ⟨rfl, rfl, rfl⟩, rfl, rfl, List.nodup_nil⟩), rfl, h _ (I.hok.fresh (Nat.le_refl _))⟩⟩
end
end Tp
set_option Elab.async false
set_option linter.all false
set_option maxRecDepth 100000
set_option maxHeartbeats 4000000
namespace Tp
open PySem PySem.Spec PyProof.Rows L2
section
variable {X : Cx} {CX : CXT} {k : Nat} {f C : Addr} {fd : FuncData} {ps : List Str} {sp : Sp} {E : XK}
end
def kview (r d : Addr) : HO := .ext fun h => PySem.W.KdlKeysView h r d
theorem kview_ok {P : Program} {w : World} {H : Hp} {h : Heap} {r d : Addr} (k : PySem.W.KdlKeysView h r d) : ObjOk P w H h r (kview r d) := by
  obtain ⟨o, ho, h1, h2⟩ := k
  exact ⟨⟨o, ho, h1, h2⟩, ⟨o, ho⟩, fun g1 g2 ⟨o', e, q⟩ st => ⟨o', st _ e, q⟩⟩
def tKeysV (td : TE) : TE := fun σ H Q => td σ H fun x H1 => ∃ d kvs, x = .ref d ∧ Rd H1 d (.dK kvs) ∧ ∀ r, H1 r = none → Q (.ref r) (upd H1 r (kview r d))
theorem pe_keysV {X : Cx} {e : Expr} {td : TE} {apos cpos : Pos} (he : PE X e td) (hbase : attributeBase e "keys" X.env (eval e X.env) = eval e X.env := by rfl) (hline : (apos.endLine == cpos.line) = true := by rfl) : PE X (.Call (.Attribute e "keys" apos) [] [] cpos) (tKeysV td) := by
  refine ⟨fun pins s σ H Q I h => ?_⟩
  refine wpAny_Call_method (T := "dict") (id := "dict.keys") hbase rfl hline F.plainAttrs_dict F.slot_dict_keys F.type_dict_keys (thn (he.run pins s σ H _ I h) fun u s1 ⟨x, H1, I1, rx, d, kvs, ex, hd, q⟩ => ?_)
  subst ex
  obtain rfl : u = Value.ref d := rx
  obtain ⟨z, lo, vs, rel, dd⟩ := dk_rd I1.hok hd
  refine ⟨dd.typeIs, dd.mapOf.noDict, ?_⟩
  show wpAny _ _ (callWith cpos (.builtin "dict.keys") [.ref d] [] []) _ X.xe s1
  refine method_meetsIn F.slot_dict_keys F.entry_dict_keys rfl (PySem.evalArgs_none ⟨rfl, dd.typeIs, F.args_dict_keys_1 _, _, PySem.W.kdl_meets_keys (mixKind X.prog X.w) d lo, ⟨vs, dd⟩, ?_⟩)
  exact ⟨.ref s1.heap.objs.size, _, I1.laid (t' := s1.toks) (a := s1.heap.objs.size) (o := kview s1.heap.objs.size d) (fun _ _ q => Heap.get?_push_of_some _ q) (Nat.le_refl _) (kview_ok ⟨_, Heap.get?_push_size _ rfl, rfl, rfl⟩), rfl, q _ (I1.hok.fresh (Nat.le_refl _))⟩
def rSortedKV : List V → Hp → VK → Prop := fun xs H Q => ∃ (r d : Addr) (kvs : List (L2.Key × V)) (ks : List Int), xs = [.ref r] ∧ H r = some (kview r d) ∧ Rd H d (.dK kvs) ∧ kvs.map (·.1) = ks.map Sum.inl ∧
  ∀ (ys : List Int) (p : Addr), ys.Perm ks → ys.Pairwise (· ≤ ·) → H p = none → Q (.ref p) (upd H p (.lst (ys.map V.int)))
theorem call_sortedKV {X : Cx} (hcalm : X.calm = true) : CallR X (.builtin "sorted") rSortedKV := by
  intro pins s σ H xs us Q I r q
  obtain ⟨rr, a, kvs, ks, ex, hv, hd, hks, q⟩ := q
  subst ex
  obtain ⟨u, eu, rx⟩ := vals1 r
  subst eu
  cases rx
  obtain ⟨kv, _⟩ := (show ObjOk X.prog X.w H s.heap rr (kview rr a) from I.hok rr _ hv)
  obtain ⟨z, lo, vs, rel, dd⟩ := dk_rd I.hok hd
  obtain ⟨ep, hat⟩ := dd.dictAt
  have hkeys : vs.map (·.1) = ks.map Sum.inl := rel.keys.symm.trans hks
  have hl : vs.length = ks.length := by
    have e := congrArg List.length hkeys
    rw [List.length_map, List.length_map] at e
    exact e
  have hkl : kvs.length = vs.length := rel.length
  have h16 : vs.length ≤ sizeLine := by rw [← hkl]; exact z
  refine Calls.call_function_entry PyProof.Rows.kind_sorted PyProof.Rows.plain_sorted PyProof.Rows.entry_sorted (PyProof.Rows.args_sorted1 _) ?_
  unfold Builtin.«sorted»
  refine wpAny_bind (m := checkCount "sorted" 1 1 _) (wpAny_pure ?_)
  refine wpAny_bind (PySem.W.kdu_collect (A := X.A.in1) (PySem.W.kdl_keys (knd := mixKind X.prog X.w) (kvs := vs) (ep := ep)) (I.ok.hd hcalm) ⟨kv, hat⟩ h16 fun h' tk acc hk hacc => ?_)
  have hal : acc.toList.length = ks.length := by rw [Array.length_toList, hacc.1, hl]
  have hS : IntsAre acc.toList ks := ints_each hal fun j v e => by
    obtain ⟨k, x, e1, e2⟩ := hacc.2 j v (by rw [← Array.getElem?_toList]; exact e)
    have e3 : (vs.map (·.1))[j]? = some k := by rw [List.getElem?_map, e1]; rfl
    rw [hkeys, List.getElem?_map] at e3
    cases e4 : ks[j]? with
    | none => rw [e4] at e3; cases e3
    | some y =>
      rw [e4] at e3
      have e5 : Sum.inl y = k := Option.some.inj e3
      subst e5
      rcases keyIs_shape (show keyIs (Sum.inl y) v = true from e2) with ⟨i, t, ek, ev⟩ | ⟨z, t, ek, ev⟩
      · cases ek
        exact ⟨y, t, rfl, ev⟩
      · cases ek
  have I1 : Inv X pins σ H { s with heap := h', toks := tk } := I.kept hk
  have hks16 : acc.toList.length ≤ sizeLine := by rw [hal, ← hl]; exact h16
  refine wpAny_bind (wpAny_newList ?_ hks16)
  have hoL : (h'.push (seqObj "list" acc.toList.toArray 0)).get? h'.objs.size = some (seqObj "list" acc.toList.toArray 0) := Heap.get?_push_size _ rfl
  show wpAny _ _ _ _ _ { s with heap := h'.push (seqObj "list" acc.toList.toArray 0), toks := tk }
  refine wpAny_bind (wpAny_holding (wpAny_call_entry PyProof.Rows.slot_list_sort ⟨_, hoL, rfl⟩ PyProof.Rows.entry_list_sort
    (SrtO.list_sort_ord (s := { s with heap := h'.push (seqObj "list" acc.toList.toArray 0), toks := tk }) SrtO.swo_int hoL hks16 (fun h2 => SrtO.ints_sortable hS h2) fun out g0 g00 => ⟨_, rfl, ?_⟩) (PyProof.Rows.args_list_sort _)))
  obtain ⟨g1, g2, g3⟩ := SrtO.ints_out hS g0 g00
  obtain ⟨e', he'⟩ := PyProof.Rows.sortedHeap_at (vs := acc.toList) (out := out.toArray) hoL
  have hlen : ((out.map SrtO.iv).map V.int).length ≤ sizeLine := by
    rw [List.length_map, g2.length_eq, ← hal]
    exact hks16
  refine wpAny_pure ⟨_, rfl, .ref h'.objs.size, upd H h'.objs.size (.lst ((out.map SrtO.iv).map V.int)), I1.laid (t' := tk) (fun b u e => ?_) (Nat.le_refl _)
    (show ObjOk X.prog X.w _ _ _ (.lst ((out.map SrtO.iv).map V.int)) from ⟨hlen, out, e', vals_of_ints g1, he'⟩), rfl, q _ _ g2 g3 (I1.hok.fresh (Nat.le_refl _))⟩
  have hb : b < h'.objs.size := Heap.lt_size e
  rw [PyProof.Rows.sortedHeap_old (Nat.ne_of_lt hb) (by rw [size_push']; exact Nat.lt_succ_of_lt hb)]
  exact Heap.get?_push_of_some _ e
end Tp
set_option Elab.async false
set_option linter.all false
set_option maxRecDepth 100000
set_option maxHeartbeats 4000000
structure PySem.InitF (B initId : String) : Prop where
  init : Slot B "__init__" initId
  initEntry : entryFor table initId = some Builtin.«BaseException.__init__»
  initSplit : splitId initId = some (B, "__init__")
  initKind : builtinKind initId = some .slot
  initRow : Manifest.signature? initId = some ⟨.positional, "*", B, .self, [⟨"args", .varPos, false⟩]⟩
  noStar : (B != "*") = true
namespace PySem.F
theorem initF_of {B newId initId : String} {bm : List Value} (F : ExcBaseFacts B newId initId bm) : InitF B initId := ⟨F.init, F.initEntry, F.initSplit, F.initKind, F.initRow, F.noStar⟩
theorem initF_KeyError : InitF "KeyError" "KeyError.__init__" where
  init := .of (owner := "KeyError") (n := "__init__") (by rw [typeLookup_type, builtinLookup_eq_fast]; kernel_rfl) (by decide +kernel) (by decide +kernel) (by decide +kernel)
    (by first | exact .inl (by decide +kernel) | exact .inr (by decide +kernel)) (by rw [isSubtype_type]; kernel_rfl)
  initEntry := entryFor_alias (id' := "BaseException.__init__") (by rw [fastTable_eq_tree]; kernel_rfl) (by first | rfl | decide +kernel) (by decide +kernel) (by rw [fastTable_eq_tree]; kernel_rfl)
  initSplit := by kernel_rfl
  initKind := by kernel_rfl
  initRow := by kernel_rfl
  noStar := by decide +kernel
end PySem.F
namespace PySem.HandSPX
open Builtin Builtin.ObjectAttr
structure Over (bm : List Value) (B : String) : Prop where
  hasB : bm.contains (.type B) = true
  noA : bm.contains (.type "AttributeError") = false
  noN : bm.contains (.type "NameError") = false
section
variable {prog : Program} {w : World} {A : Around} {E : Value → Shared → Prop} {R : Result → Shared → Prop} {h : Heap} {g : Array GenState} {d : Drawn} {t : Nat} {os : OsState}
variable {nm q : Str} {C N : Addr} {bs bm bmB : List Value} {hdct : Bool} {sn : List Str} {sub : List Value} {ab : Bool} {col : Option Bool} {dd : Option Addr} {k0 k1 k2 k3 k5 : Option Value} {B newId initId : String}
theorem check_new_over {M : Model} (F : ExcBaseFacts B newId initId bmB) (hT : Over bm B) {rest : List Value} {Q : Unit → Shared → Prop}
    (hC : h.get? C = some (excClassObj nm q C N bs bm hdct sn sub ab col dd k0 k1 k2 k3 k5 newId)) (hq : Q () ⟨h, g, d, t, os⟩) : wpAny M A (checkBuiltinCall newId ⟨.ref C :: rest, []⟩) Q E ⟨h, g, d, t, os⟩ := by
  have hcont : (Value.ref C :: bm).contains (.type B) = true := by rw [List.contains_cons, hT.hasB, Bool.or_true]
  have hstar := F.noStar
  simp only [checkBuiltinCall, F.newKind, F.newSplit, F.newRow]
  repeat (first | refine wpAny_loadPart_at hC ?_ | (refine wpAny_isSubtype_exc hC ?_; rw [hcont]) | refine wpAny_staticBase_exc hC ?_ | refine wpAny_madeBy_exc hC ?_ | simp only [bne_self_eq_false, Bool.false_eq_true, if_false] | wp_step)
  exact hq
theorem new_over (F : ExcBaseFacts B newId initId bmB) (hT : Over bm B) {rest : List Value}
    (hC : h.get? C = some (excClassObj nm q C N bs bm hdct sn sub ab col dd k0 k1 k2 k3 k5 newId))
    (hq : R (.ok (.ret (.ref (h.objs.size + 1)))) ⟨(h.push { cls := .type "tuple", data := .seq rest.toArray }).push
      { cls := .ref C, data := .fields #[.ref h.objs.size, .none, .none, .none, .bool false, .none] }, g, d, t, os⟩) (hrest : rest.length ≤ sizeLine) :
    codeAny (model prog w) A (.builtin newId ⟨.ref C :: rest, []⟩) R ⟨h, g, d, t, os⟩ := by
  have hends := F.ends
  have hcB : (Value.ref C :: bm).contains (.type B) = true := by rw [List.contains_cons, hT.hasB, Bool.or_true]
  have hcA : (Value.ref C :: bm).contains (.type "AttributeError") = false := by rw [List.contains_cons, hT.noA]; rfl
  have hcN : (Value.ref C :: bm).contains (.type "NameError") = false := by rw [List.contains_cons, hT.noN]; rfl
  refine codeAny_builtinAt F.entry ?_
  unfold Builtin.«BaseException.__new__»
  refine wpAt_bind ?_
  show wpAt _ _ _ (stack >>= _) _ _ _
  refine wpAt_bind (wpAt_stack fun p below => wpAt_of_wpAny ?_)
  wp_walk
  refine wpAt_of_wpAny ?_
  rw [F.owner]
  repeat (first | with_reducible refine wpAny_madeHere_exc F.canon hC ?_ | with_reducible refine wpAny_loadPart_at hC ?_ | (with_reducible refine wpAny_isSubtype_exc hC ?_; first | rw [hcB] | rw [hcA] | rw [hcN]) | wp_step)
  show R _ _
  rw [Heap.size_push]
  exact hq
theorem init_over {B2 initId2 : String} (F : InitF B2 initId2) (hT : bm.contains (.type B2) = true) {e t0 : Addr} {rest : List Value}
    (hC : h.get? C = some (excClassObj nm q C N bs bm hdct sn sub ab col dd k0 k1 k2 k3 k5 newId)) (he : h.get? e = some (excO C t0)) (hrest : rest.length ≤ sizeLine)
    (hq : ∀ h' t1, (∀ b o, b ≠ e → h.get? b = some o → h'.get? b = some o) → h'.get? e = some (excO C t1) → R (.ok (.ret .none)) ⟨h', g, d, t, os⟩) :
    codeAny (model prog w) A (.call (.builtin initId2) ⟨.ref e :: rest, []⟩) R ⟨h, g, d, t, os⟩ := by
  have hcB : (Value.ref C :: bm).contains (.type B2) = true := by rw [List.contains_cons, hT, Bool.or_true]
  have hshort := F.noStar
  refine codeAny_call_builtin F.init.plain F.initEntry ?_
  simp only [checkBuiltinCall, F.initKind, F.initSplit, F.initRow]
  repeat (first | with_reducible refine wpAny_loadPart_at he ?_ | with_reducible refine wpAny_loadPart_at hC ?_ | (with_reducible refine wpAny_isSubtype_exc hC ?_; rw [hcB]) | wp_step)
  refine wpAny_onRaise ?_
  rw [show ∀ (a b : String) (n : Nat), Bind.check ⟨.positional, "*", B2, .self, [⟨"args", .varPos, false⟩]⟩ a b n (List.map (fun x => x.fst) ({ pos := Value.ref e :: rest } : Args).kw) = pure () from
    fun a b n => check_star_args _ _ _ _ _ _]
  refine wpAny_pure ?_
  wp_walk
  refine hq _ h.objs.size (fun b o hb ho => ?_) ?_
  · rw [Heap.get?_update_other _ _ (Ne.symm hb)]
    exact Heap.get?_push_of_some _ ho
  · rw [Heap.get?_update_self _ (Heap.get?_push_of_some _ he) rfl]
    rfl
theorem type_call_over (F : ExcBaseFacts B newId initId bmB) (hT : Over bm B) {rest : List Value} {fI : Addr} {Q : Fin → Shared → Prop}
    (hC : h.get? C = some (excClassObj nm q C N bs bm hdct sn sub ab col dd k0 k1 k2 k3 k5 newId))
    (hi : W.Looks (model prog w) h (typeLookup (.ref C) "__init__") (some (.ref fI))) (hb : ∀ self, W.Looks (model prog w) h (bindSpecial (.ref fI) self) (.ref fI, [self])) (hrest : rest.length ≤ sizeLine)
    (hq : codeAny (model prog w) A (.call (.ref fI) ⟨.ref (h.objs.size + 1) :: rest, []⟩)
      (fun r s' => match r with | .ok (.ret v) => v = .none ∧ Q (.done (.ret (.ref (h.objs.size + 1)))) s' | .ok _ => False | .error e => E e s')
      ⟨(h.push (W.kdv_tup rest)).push (excO C h.objs.size), g, d, t, os⟩) :
    wpAny (model prog w) A (Builtin.«type.__call__» ⟨.ref C :: rest, []⟩) Q E ⟨h, g, d, t, os⟩ := by
  repeat (first | with_reducible refine wpAny_loadPart_at hC ?_ | with_reducible refine wpAny_madeBy_exc hC ?_ | wp_step)
  refine codeAny_call_builtin_code (Code.quiet_builtin _ F.quiet) (check_new_over F hT hC ?_)
  refine new_over F hT hC ?_ hrest
  show wpAny _ _ _ _ _ _
  have k : ∀ b o, h.get? b = some o → ((h.push (W.kdv_tup rest)).push (excO C h.objs.size)).get? b = some o := fun b o e => Heap.get?_push_of_some _ (Heap.get?_push_of_some _ e)
  have hC₁ := k _ _ hC
  have hget : ((h.push (W.kdv_tup rest)).push (excO C h.objs.size)).get? (h.objs.size + 1) = some (excO C h.objs.size) := by heap_get
  have hcC : (Value.ref C :: bm).contains (.ref C) = true := by simp
  have i1 := hi.keeps k
  have b1 := (hb (.ref (h.objs.size + 1))).keeps k
  unfold isInstance
  repeat (first | with_reducible refine wpAny_loadPart_at hget ?_ | (with_reducible refine wpAny_isSubtype_exc hC₁ ?_; rw [hcC]) | wp_step)
  show wpAny _ _ (typeLookup (.ref C) _) _ _ _
  refine i1.at ?_
  refine wpAny_holding (wpAny_bind (b1.at ?_))
  refine wpAny_bind (wpAny_call (codeAny_mono hq fun r s' z => ?_))
  rcases r with e | (v | _ | _ | _) <;> first | exact z | exact z.elim | skip
  obtain ⟨rfl, z⟩ := z
  first
    | exact wpAny_pure (wpAny_pure z)
    | (wp_walk; exact z)
theorem call_over (F : ExcBaseFacts B newId initId bmB) (hT : Over bm B) {rest : List Value} {fI : Addr}
    (hC : h.get? C = some (excClassObj nm q C N bs bm hdct sn sub ab col dd k0 k1 k2 k3 k5 newId))
    (hi : W.Looks (model prog w) h (typeLookup (.ref C) "__init__") (some (.ref fI))) (hb : ∀ self, W.Looks (model prog w) h (bindSpecial (.ref fI) self) (.ref fI, [self])) (hrest : rest.length ≤ sizeLine)
    (hq : codeAny (model prog w) (A.under (.builtin "type.__call__" ⟨.ref C :: rest, []⟩)) (.call (.ref fI) ⟨.ref (h.objs.size + 1) :: rest, []⟩) (W.InitBack (h.objs.size + 1) R)
      ⟨(h.push (W.kdv_tup rest)).push (excO C h.objs.size), g, d, t, os⟩) :
    codeAny (model prog w) A (.call (.ref C) ⟨rest, []⟩) R ⟨h, g, d, t, os⟩ := by
  have f1 := tc_lookup
  have f2 := tc_bind (.ref C)
  have hTy : (⟨h, g, d, t, os⟩ : Shared).TypeIs (.ref C) "type" := ⟨_, hC, rfl⟩
  refine codeAny_of_tree ?_
  show wpAny _ _ (callAny (.ref C) _) _ _ _
  repeat (any_goals (first | assumption | with_reducible refine wpAny_loadPart_at hC ?_ | wp_step))
  refine ⟨rfl, ?_⟩
  refine codeAny_call_builtin_at (Code.quiet_builtin _ (by decide +kernel)) entry_typeCall (wpAny_check_type_call_sub hC (type_call_over F hT hC hi hb hrest ?_))
  refine codeAny_mono hq fun r s' z => ?_
  rcases r with e | (v | _ | _ | _) <;> exact z
end
end PySem.HandSPX
namespace Tp
open PySem PySem.Spec PyProof.Rows L2 PySem.Builtin PySem.Builtin.ObjectAttr
inductive XB where
  | ve | ke | le
def XB.name : XB → String
  | .ve => "ValueError"
  | .ke => "KeyError"
  | .le => "LookupError"
def XB.tail : XB → List Value
  | .ve => [.type "ValueError", .type "Exception", .type "BaseException", .type "object"]
  | .ke => [.type "KeyError", .type "LookupError", .type "Exception", .type "BaseException", .type "object"]
  | .le => [.type "LookupError", .type "Exception", .type "BaseException", .type "object"]
def XB.mk : XB → String
  | .ve => "ValueError"
  | _ => "LookupError"
def XB.newId : XB → String
  | .ve => "ValueError.__new__"
  | _ => "LookupError.__new__"
def XB.initId : XB → String
  | .ve => "ValueError.__init__"
  | .ke => "KeyError.__init__"
  | .le => "LookupError.__init__"
theorem XB.fb : ∀ b : XB, ∃ i bmB, ExcBaseFacts b.mk b.newId i bmB
  | .ve => ⟨_, _, F.excBase_ValueError⟩
  | .ke => ⟨_, _, F.excBase_LookupError⟩
  | .le => ⟨_, _, F.excBase_LookupError⟩
theorem XB.fi : ∀ b : XB, InitF b.name b.initId
  | .ve => F.initF_of F.excBase_ValueError
  | .ke => F.initF_KeyError
  | .le => F.initF_of F.excBase_LookupError
theorem XB.over : ∀ b : XB, PySem.HandSPX.Over b.tail b.mk
  | .ve => ⟨by decide +kernel, by decide +kernel, by decide +kernel⟩
  | .ke => ⟨by decide +kernel, by decide +kernel, by decide +kernel⟩
  | .le => ⟨by decide +kernel, by decide +kernel, by decide +kernel⟩
theorem XB.pass : ∀ (b : XB) (self : Value), refuseLoop self "__setattr__" b.tail = pure ()
  | .ve, self => by kernel_rfl
  | .ke, self => by kernel_rfl
  | .le, self => by kernel_rfl
theorem XB.ob : ∀ b : XB, b.tail.contains (.type "object") = true
  | .ve => by decide +kernel
  | .ke => by decide +kernel
  | .le => by decide +kernel
end Tp
set_option Elab.async false
set_option linter.all false
set_option maxRecDepth 100000
set_option maxHeartbeats 4000000
namespace PySem.HandSPX
open Builtin Builtin.ObjectAttr
section
variable {prog : Program} {w : World} {A : Around} {E : Value → Shared → Prop} {R : Result → Shared → Prop} {hp : Heap} {g : Array GenState} {d : Drawn} {t : Nat} {os : OsState}
structure Stores (m : List Value) : Prop where
  pass : ∀ self, refuseLoop self "__setattr__" m = pure ()
  ob : m.contains (.type "object") = true
  ne : m.isEmpty = false
theorem osa_newB {K : W.Frag} {name : Str} {tk : Tok} {v : Value} {x C : Addr} {fv : Array Value} {cd : ClassData}
    (X : K.In hp) (hx : hp.get? x = some { cls := .ref C, data := .fields fv }) (hcd : W.clsIn K C = some cd) (hm : Stores cd.mro) (hh : cd.hasDict = true) (ha : W.findIn K (.ref C) name = some none)
    (hq : ∀ h' tk' dx, (∀ b o, b ≠ x → hp.get? b = some o → h'.get? b = some o) → hp.objs.size ≤ dx → dx ≠ x → h'.get? x = some { cls := .ref C, dict := some dx, data := .fields fv } →
      h'.Ns1 dx (fun y => if y = name then some v else none) → R (.ok (.ret .none)) ⟨h', g, d, tk', os⟩) :
    codeAny (model prog w) A (.call (.builtin "object.__setattr__") ⟨[.ref x, .str name tk, v], []⟩) R ⟨hp, g, d, t, os⟩ := by
  have I : W.InstAt hp x { cls := .ref C, data := .fields fv } C none := ⟨hx, rfl, rfl, trivial⟩
  have SF := F.store_object
  have ne := hm.ne
  have hob := hm.ob
  have hxs : x ≠ hp.objs.size := Nat.ne_of_lt (Heap.lt_size hx)
  have sub : W.Looks (model prog w) hp (isInstance (.ref x) (.type "object")) true := I.type.andThen (W.looks_mroIn X (by unfold W.mroIn; rw [hcd, Option.bind_some, if_neg (by rw [ne]; decide), hob]))
  refine codeAny_call_builtin SF.slot.plain SF.entry (@W.check_slot (model prog w) _ _ ⟨hp, g, d, t, os⟩ "object.__setattr__" "object" "__setattr__" (.ref x) [.str name tk, v] [] _ SF.kind SF.split sub (SF.args (.ref x) (.str name tk) v) ?_)
  have hmr : W.Looks (model prog w) hp (mroOf (.ref C)) cd.mro := (W.looks_clsIn X hcd).andThen .now
  have L3 : W.Looks (model prog w) hp (storeTaker? none) none := .now
  have hcls : W.Looks (model prog w) hp (classData C) cd := W.looks_clsIn X hcd
  rw [W.osa_eq, refuse_eq]
  refine wpAny_bind (wpAny_bind (I.type.at (wpAny_bind (hmr.at ?_))))
  rw [hm.pass]
  refine wpAny_pure (wpAny_bind (I.type.at (wpAny_bind ((W.looks_findIn X ha).at (wpAny_bind (L3.at ?_))))))
  show wpAny _ _ (storeInOwnDict (.ref x) (.ref C) (.str name tk) name v false) _ _ _
  obtain ⟨nm, bs, mro, ns, qn, hd, sn, sb, ab, col, del⟩ := cd
  dsimp only at hh
  subst hh
  unfold storeInOwnDict ownDictForStores
  repeat (first | with_reducible refine store_in_new ?_ ?_ | with_reducible refine wpAny_loadPart_at hx ?_ | with_reducible refine hcls.at ?_ | wp_step)
  · exact ⟨_, #[], _, (Heap.get?_update_ne _ _ _ _ hxs.symm).trans (Heap.get?_push_at rfl rfl), rfl, fun e he => absurd he (by simp), fun _ => rfl⟩
  · intro h' tk' hn' hs
    have hx₁ : (hp.push { cls := .type "dict", data := .dict #[] }).get? x = some { cls := .ref C, data := .fields fv } := Heap.get?_push_of_some _ hx
    refine hq h' tk' hp.objs.size (fun b o hb ho => ?_) (Nat.le_refl _) hxs.symm ?_ hn'
    · exact (hs.2 b (Nat.ne_of_lt (Heap.lt_size ho))).trans ((Heap.get?_update_ne _ _ _ _ hb).trans (Heap.get?_push_of_some _ ho))
    · exact (hs.2 x hxs).trans (Heap.get?_update_self _ hx₁ rfl)
theorem osa_oldB {K : W.Frag} {name : Str} {tk : Tok} {v : Value} {x C dx : Addr} {fv : Array Value} {cd : ClassData} {m0 : Str → Option Value} {nl : List Str}
    (X : K.In hp) (hx : hp.get? x = some { cls := .ref C, dict := some dx, data := .fields fv }) (hns : hp.Ns1 dx m0) (hw : Within m0 nl) (hz : nl.length ≤ 1000) (hcd : W.clsIn K C = some cd) (hm : Stores cd.mro) (hh : cd.hasDict = true)
    (ha : W.findIn K (.ref C) name = some none)
    (hq : ∀ h' tk', (∀ b o, b ≠ dx → hp.get? b = some o → h'.get? b = some o) → h'.Ns1 dx (fun y => if y = name then some v else m0 y) → R (.ok (.ret .none)) ⟨h', g, d, tk', os⟩) :
    codeAny (model prog w) A (.call (.builtin "object.__setattr__") ⟨[.ref x, .str name tk, v], []⟩) R ⟨hp, g, d, t, os⟩ := by
  obtain ⟨oD, esD, epD, hoD, hdD, _⟩ := hns.count hw
  have I : W.InstAt hp x { cls := .ref C, dict := some dx, data := .fields fv } C (some oD) := ⟨hx, rfl, rfl, hoD⟩
  have SF := F.store_object
  have ne := hm.ne
  have hob := hm.ob
  have sub : W.Looks (model prog w) hp (isInstance (.ref x) (.type "object")) true := I.type.andThen (W.looks_mroIn X (by unfold W.mroIn; rw [hcd, Option.bind_some, if_neg (by rw [ne]; decide), hob]))
  refine codeAny_call_builtin SF.slot.plain SF.entry (@W.check_slot (model prog w) _ _ ⟨hp, g, d, t, os⟩ "object.__setattr__" "object" "__setattr__" (.ref x) [.str name tk, v] [] _ SF.kind SF.split sub (SF.args (.ref x) (.str name tk) v) ?_)
  have hmr : W.Looks (model prog w) hp (mroOf (.ref C)) cd.mro := (W.looks_clsIn X hcd).andThen .now
  have L3 : W.Looks (model prog w) hp (storeTaker? none) none := .now
  have hcls : W.Looks (model prog w) hp (classData C) cd := W.looks_clsIn X hcd
  rw [W.osa_eq, refuse_eq]
  refine wpAny_bind (wpAny_bind (I.type.at (wpAny_bind (hmr.at ?_))))
  rw [hm.pass]
  refine wpAny_pure (wpAny_bind (I.type.at (wpAny_bind ((W.looks_findIn X ha).at (wpAny_bind (L3.at ?_))))))
  show wpAny _ _ (storeInOwnDict (.ref x) (.ref C) (.str name tk) name v false) _ _ _
  obtain ⟨nm, bs, mro, ns, qn, hd, sn, sb, ab, col, del⟩ := cd
  dsimp only at hh
  subst hh
  unfold storeInOwnDict ownDictForStores
  repeat (first | with_reducible refine PySem.OEX.store_in_old hns hw hz ?_ | with_reducible refine wpAny_loadPart_at hx ?_ | with_reducible refine hcls.at ?_ | wp_step)
  intro h' tk' hn' hs
  exact hq h' tk' (fun b o hb ho => (hs.2 b hb).trans ho) hn'
end
end PySem.HandSPX
namespace Tp
open PySem PySem.Spec PyProof.Rows L2
structure OexB (b : XB) (K : PySem.W.Frag) (C : Addr) : Prop where
  cls : ∃ nm q N bs bm sn sub ab col dd k0 k1 k2 k3 k5, K.lookup C = some (excClassObj nm q C N bs bm true sn sub ab col dd k0 k1 k2 k3 k5 b.newId) ∧ PySem.W.excTail b.tail bm = true
  sa : PySem.W.findIn K (.ref C) "__setattr__" = some (some (.builtin "object.__setattr__"))
  exC : PySem.W.subIn K (.ref C) (.type "BaseException") = some true
  tyC : PySem.W.typeIn K (.ref C) = some (.type "type")
  kC : PySem.W.keepIn K (.ref C) = true
theorem over_of {b : XB} {bm : List Value} (h : PySem.W.excTail b.tail bm = true) : PySem.HandSPX.Over bm b.mk := by
  have o := b.over
  exact ⟨(PySem.W.excTail_contains _ bm h).trans o.hasB, (PySem.W.excTail_contains _ bm h).trans o.noA, (PySem.W.excTail_contains _ bm h).trans o.noN⟩
theorem XB.hasN : ∀ b : XB, b.tail.contains (.type b.name) = true
  | .ve => by decide +kernel
  | .ke => by decide +kernel
  | .le => by decide +kernel
theorem stores_of {b : XB} {C : Addr} {bm : List Value} (h : PySem.W.excTail b.tail bm = true) : PySem.HandSPX.Stores (.ref C :: bm) :=
  ⟨fun self => PySem.W.excTail_pass self (b.pass self) (.ref C :: bm) h, (PySem.W.excTail_contains "object" (.ref C :: bm) h).trans b.ob, rfl⟩
section
variable {b : XB} {X : Cx} {pins : List (Addr × Obj)} {σ : L2.St} {H : Hp} {s : Shared} {a C dx : Addr} {f : Str} {y : V} {u : Value} {fs : List (Str × V)} {Q : Unit → Shared → Prop} {E : Value → Shared → Prop} {A : Around}
theorem ost_newB (T : OexB b X.K C) (I : Inv X pins σ H s) (e : H a = some (exo a C none)) (hno : PySem.W.findIn X.K (.ref C) f = some none) (ry : RelV y u)
    (h : ∀ dx s', H dx = none → dx ≠ a → Inv X pins σ (upd (upd H dx (exd dx [(f, y)])) a (exo a C (some dx))) s' → Q () s') : wpAny (model X.prog X.w) A (setAttr (.ref a) f u) Q E s := by
  obtain ⟨nm, q, N, bs, bm, sn, sub, ab, col, dd, k0, k1, k2, k3, k5, hC, hbm⟩ := T.cls
  have hcl : PySem.W.clsIn X.K C = some { name := nm, bases := bs, mro := .ref C :: bm, ns := N, qualname := q, hasDict := true, slotNames := sn, subclasses := sub, abstract := ab, collection := col, hasDel := false } := by unfold PySem.W.clsIn; rw [hC] <;> rfl
  obtain ⟨t1, ho⟩ := exo_at I.hok e
  obtain ⟨hp, g, d, t, os⟩ := s
  refine PySem.W.set_plain I.kIn (ox := { cls := .ref C, dict := none, data := .fields #[.ref t1, .none, .none, .none, .bool false, .none] }) (od := none) ⟨ho, rfl, rfl, trivial⟩ T.sa ?_
  refine PySem.HandSPX.osa_newB I.kIn ho hcl (stores_of hbm) rfl hno (fun h' tk' dx k dn dne hx hn => ?_)
  have hnd : H dx = none := I.hok.fresh dn
  have nd : ∀ {b : Addr} {o : Obj}, hp.get? b = some o → b ≠ dx := fun {b o} q => Nat.ne_of_lt (Nat.lt_of_lt_of_le (Heap.lt_size q) dn)
  have na : ∀ {b : Addr}, H b = none → b ≠ a := fun {b} n z => by
    rw [z, e] at n
    cases n
  have Un1 : Un X.fs [] H (upd (upd H dx (exd dx [(f, y)])) a (exo a C (some dx))) hp h' := {
    keep := fun b o q n _ _ => k b o (na n) q
    slot := fun b o q n _ _ => ⟨o.slots, k b o (na n) q⟩
    free := fun b o q n _ => by rw [upd_ne (na n), upd_ne (nd q)]; exact n
    there := fun b o q _ => by
      by_cases hb : b = a
      · exact ⟨_, by rw [hb]; exact hx⟩
      · exact ⟨o, k b o hb q⟩
    tups := fun b xs q => by rw [upd_ne (at_ne e q exo_tup), upd_ne (ne_of_none q hnd)]; exact q
    frzs := fun b o v q => by rw [upd_ne (at_ne e q exo_frz), upd_ne (ne_of_none q hnd)]; exact q
    tbls := fun b ps q => ⟨#[], by rw [upd_ne (at_ne e q exo_tbl), upd_ne (ne_of_none q hnd), q]; simp⟩ }
  refine h dx _ hnd dne (I.un (t' := tk') Un1 fun b o q => ?_)
  by_cases hb : b = a
  · subst hb
    rw [upd_same] at q
    cases q
    exact exo_ok hx
  · rw [upd_ne hb] at q
    by_cases hd : b = dx
    · subst hd
      rw [upd_same] at q
      cases q
      exact exd_ok hn (relO_put (fs := []) ry fun g => True.intro)
    · rw [upd_ne hd] at q
      exact (I.hok b o q).stay (fun c v hc z => k c v (by
          rcases hc with hc | hc
          · rw [hc]
            exact hb
          · exact at_ne e hc exo_own) z)
        (fun c hc => by rw [upd_ne (at_ne e hc exo_own), upd_ne (ne_of_none hc hnd)]; exact hc) (fun c xs hc => by rw [upd_ne (at_ne e hc exo_tup), upd_ne (ne_of_none hc hnd)]; exact hc)
theorem ost_oldB (T : OexB b X.K C) (I : Inv X pins σ H s) (e : H a = some (exo a C (some dx))) (ed : H dx = some (exd dx fs)) (hl : fs.length ≤ 900) (hno : PySem.W.findIn X.K (.ref C) f = some none) (ry : RelV y u)
    (h : ∀ s', Inv X pins σ (upd H dx (exd dx ((f, y) :: fs))) s' → Q () s') : wpAny (model X.prog X.w) A (setAttr (.ref a) f u) Q E s := by
  obtain ⟨nm, q, N, bs, bm, sn, sub, ab, col, dd, k0, k1, k2, k3, k5, hC, hbm⟩ := T.cls
  have hcl : PySem.W.clsIn X.K C = some { name := nm, bases := bs, mro := .ref C :: bm, ns := N, qualname := q, hasDict := true, slotNames := sn, subclasses := sub, abstract := ab, collection := col, hasDel := false } := by unfold PySem.W.clsIn; rw [hC] <;> rfl
  obtain ⟨t1, ho⟩ := exo_at I.hok e
  obtain ⟨mA, hns, rel⟩ := exd_at I.hok ed
  have hw := within_of rel
  obtain ⟨hp, g, d, t, os⟩ := s
  obtain ⟨oD, _, _, hoD, _, _⟩ := hns.count hw
  refine PySem.W.set_plain I.kIn (ox := { cls := .ref C, dict := some dx, data := .fields #[.ref t1, .none, .none, .none, .bool false, .none] }) (od := some oD) ⟨ho, rfl, rfl, hoD⟩ T.sa ?_
  refine PySem.HandSPX.osa_oldB I.kIn ho hns hw (by rw [List.length_map]; omega) hcl (stores_of hbm) rfl hno (fun h' tk' k hn => ?_)
  have hd : ∃ o, h'.get? dx = some o := by
    obtain ⟨o, _, _, e', _⟩ := hn
    exact ⟨o, e'⟩
  exact h _ (I.write (t' := tk') (x := dx) (e := dx) (o := exd dx ((f, y) :: fs)) (by rw [ed]; exact True.intro) (.inl rfl) k hd (exd_ok hn (relO_put ry rel)))
theorem oinit_okB {us : List Value} {Q : Value → Shared → Prop} (T : OexB b X.K C) (I : Inv X pins σ H s) (e : H a = some (exo a C none)) (hl : us.length ≤ sizeLine) (h : ∀ s', Inv X pins σ H s' → Q .none s') :
    wpAny (model X.prog X.w) A (call (.builtin b.initId) (.ref a :: us)) Q E s := by
  obtain ⟨nm, q, N, bs, bm, sn, sub, ab, col, dd, k0, k1, k2, k3, k5, hC, hbm⟩ := T.cls
  obtain ⟨t1, ho⟩ := exo_at I.hok e
  obtain ⟨hp, g, d, t, os⟩ := s
  refine wpAny_call (PySem.HandSPX.init_over b.fi ((PySem.W.excTail_contains _ bm hbm).trans b.hasN) (I.kIn _ _ hC) ho hl fun h' t2 k hx => ?_)
  have J := I.write (t' := t) (x := a) (e := a) (o := exo a C none) (by rw [e]; exact True.intro) (.inl rfl) k ⟨_, hx⟩ (exo_ok hx)
  have eu : upd H a (exo a C none) = H := by
    funext b
    by_cases hb : b = a
    · rw [hb, upd_same, e]
    · rw [upd_ne hb]
  rw [eu] at J
  exact h _ J
end
end Tp
set_option Elab.async false
set_option linter.all false
set_option maxRecDepth 100000
set_option maxHeartbeats 4000000
namespace PySem.HandSPX
open Builtin Builtin.ObjectAttr
section
variable {prog : Program} {w : World} {A : Around} {E : Value → Shared → Prop} {R : Result → Shared → Prop} {h : Heap} {g : Array GenState} {d : Drawn} {t : Nat} {os : OsState}
variable {nm q : Str} {C N : Addr} {bs bm bmB : List Value} {hdct : Bool} {sn : List Str} {sub : List Value} {ab : Bool} {col : Option Bool} {dd : Option Addr} {k0 k1 k2 k3 k5 : Option Value} {B newId initId : String}
end
end PySem.HandSPX
set_option Elab.async false
set_option linter.all false
set_option maxRecDepth 100000
set_option maxHeartbeats 4000000
namespace Tp
open PySem PySem.Spec PyProof.Rows L2
structure BaseB (b : XB) (K : PySem.W.Frag) (B : Addr) : Prop where
  ga : PySem.W.specialIn K (.ref B) "__getattribute__" = some (some (.builtin "type.__getattribute__"))
  rd : PySem.W.readsIn K B (.type "type") = true
  fi : PySem.W.findCls K (.ref B) (.type "type") "__init__" = some (.val (.builtin b.initId))
theorem XB.handed : ∀ b : XB, PySem.W.handedIn (.builtin b.initId) = true
  | .ve => by decide +kernel
  | .ke => by decide +kernel
  | .le => by decide +kernel
def tInB (b : XB) (K : PySem.W.Frag) (ta : TA) : TE := fun σ H Q => ta σ H fun vs H1 => ∃ (a C : Addr) (ws : List V), vs = .ref a :: ws ∧ ws.length ≤ 1000 ∧ OexB b K C ∧ H1 a = some (exo a C none) ∧ Q .non H1
def tOstB (b : XB) (K : PySem.W.Frag) (f : Str) (to te : TE) : TS := fun D σ H => te σ H fun y H1 => to σ H1 fun x H2 => ∃ a C : Addr, x = .ref a ∧ OexB b K C ∧ PySem.W.findIn K (.ref C) f = some none ∧
  ((H2 a = some (exo a C none) ∧ ∀ dx, H2 dx = none → dx ≠ a → D.nx σ (upd (upd H2 dx (exd dx [(f, y)])) a (exo a C (some dx)))) ∨
    ∃ (dx : Addr) (fs : List (Str × V)), H2 a = some (exo a C (some dx)) ∧ H2 dx = some (exd dx fs) ∧ fs.length ≤ 900 ∧ D.nx σ (upd H2 dx (exd dx ((f, y) :: fs))))
section
variable {b : XB} {X : Cx} {o e : Expr} {es : List Expr} {to te : TE} {ta : TA} {x f : Str} {B : Addr} {p p' p1 p2 pos : Pos}
theorem pe_initB {pl : Sem Bool} (hg : Gl X x) (hm : X.mg x = some (.ref B)) (T : BaseB b X.K B) (ha : PA X (e :: es) ta)
    (hc : eval (.Call (.Attribute (.Name x p1) "__init__" p2) (e :: es) [] pos) X.env = (do
      let ov ← eval (.Name x p1) X.env
      standAt p2.atName
      let (f, first) ← holding [ov] (getMethod ov "__init__" pl)
      callWith pos f first (backTo pos (starEach (e :: es) X.env)) (backToKw pos (keywordEach [] X.env))) := by rfl)
    (hdb : (x == ("__debug__" : Str)) = false := by decide)
    (he : starEach (e :: es) X.env = (false, eval e X.env) :: starEach es X.env := by rfl) (hpl : (backTo pos (starEach es X.env)).any (·.1) = false := by rfl) :
    PE X (.Call (.Attribute (.Name x p1) "__init__" p2) (e :: es) [] pos) (tInB b X.K ta) := by
  refine ⟨fun pins s σ H Q I h => ?_⟩
  refine PySem.W.methodCall_KW (ld_glob I hg hm ?_ hdb) hc
  refine PySem.W.method_cls I.kIn T.ga (PySem.W.cls_value I.kIn T.rd T.fi b.handed ?_)
  show wpAny _ _ (callWith pos (Value.builtin b.initId) [] (backTo pos (starEach (e :: es) X.env)) []) _ _ _
  refine PyProof.Rows.callWith_method1 (thn (ha.run pos pins _ σ H _ (I.tok _) h) fun us s1 ⟨vs, H1, I1, r1, a, C, ws, ev, hl, TC, ea, q⟩ => ?_) he hpl
  subst ev
  cases r1 with
  | cons ra rr =>
    cases (ra : _ = Value.ref a)
    refine oinit_okB TC I1 ea ?_ fun s' J => ⟨.non, H1, J, rfl, q⟩
    have := Paired.length rr
    exact Nat.le_trans (by omega) (show 1000 ≤ sizeLine from by decide)
theorem ps_ostB (ho : PE X o to) (he : PE X e te) (hs : swapsWith e (some (.Attribute o f p')) pos.line X.env = pure false := by rfl) : PS X (.Assign [.Attribute o f p'] e pos) (tOstB b X.K f to te) := by
  refine ⟨fun pins s σ H D I h => ?_⟩
  refine plainObj_wpAny_Assign_Attribute (thn (he.run pins s σ H _ I h) fun v s1 ⟨y, H1, I1, r1, q1⟩ => thn (ho.run pins s1 σ H1 _ I1 q1) fun u s2 ⟨x, H2, I2, r2, a, C, ex, T, hno, q⟩ => ?_) hs
  subst ex
  obtain rfl : u = Value.ref a := r2
  rcases q with ⟨ea, q⟩ | ⟨dx, fs, ea, ed, hl, q⟩
  · exact ost_newB T I2 ea hno r1 fun dx s' n ne J => ⟨σ, _, J, q dx n ne⟩
  · exact ost_oldB T I2 ea ed hl hno r1 fun s' J => ⟨σ, _, J, q⟩
end
structure ExB (b : XB) (P : Program) (w : World) (K : PySem.W.Frag) (mg : Str → Option Value) (base : Heap) (C fI : Addr) (fd : FuncData) (ps : List Str) (sp : Sp) : Prop where
  ox : OexB b K C
  iC : PySem.W.findIn K (.ref C) "__init__" = some (some (.ref fI))
  tI : PySem.W.typeIn K (.ref fI) = some (.type "function")
  ok : FnOk P w K mg base CX0 1 fI fd ps sp
  bn : Binds K fd ps []
section
variable {b : XB} {X : Cx} {x : Str} {C fI : Addr} {fd : FuncData} {ps : List Str} {sp : Sp} {e : Expr} {es : List Expr} {ta : TA} {p pos : Pos}
end
end Tp
set_option Elab.async false
set_option linter.all false
set_option maxRecDepth 100000
set_option maxHeartbeats 4000000
namespace Tp
open PySem PySem.Spec PyProof.Rows L2
section
variable {b : XB} {X : Cx} {x : Str} {C fI : Addr} {fd : FuncData} {ps ks : List Str} {sp : Sp} {e : Expr} {es : List Expr} {ta tk : TA} {p pos : Pos} {kws : List Keyword} {g : List Value → List Value → List Value} {gV : List V → List V → List V}
def tMkB (C : Addr) (sp : Sp) (ta : TA) : L2.St → Hp → XK → Prop := fun σ H Q => ta σ H fun vs H1 => vs.length ≤ 1000 ∧ ∀ a, H1 a = none → sp (.ref a :: vs) (upd H1 a (exo a C none))
  (fun v H2 => v = .non ∧ ∃ (d : Addr) (fs : List (Str × V)), H2 a = some (exo a C (some d)) ∧ H2 d = some (exd d fs) ∧ H1 d = none ∧ Q (.ref C) (some d) (upd (del H2 a) d (.xd fs))) (fun _ _ _ => False)
theorem pmk_B {k : Nat} (T : ExB b X.prog X.w X.K X.mg X.base C fI fd ps sp) (hr : Room (k + 2) X.A) (hg : Gl X x) (hm : X.mg x = some (.ref C)) (ha : PA X (e :: es) ta)
    (hdb : (x == ("__debug__" : Str)) = false := by decide) (he : starEach (e :: es) X.env = (false, eval e X.env) :: starEach es X.env := by rfl) (hpl : (backTo pos (starEach es X.env)).any (·.1) = false := by rfl) :
    PMk X (.Call (.Name x p) (e :: es) [] pos) (tMkB C sp ta) := by
  intro pins s σ H Q I h
  obtain ⟨nm, q, N, bs, bm, sn, sub, ab, col, dd, k0, k1, k2, k3, k5, hC, hbm⟩ := T.ox.cls
  refine wpAny_Call_Name_kw (ld_glob I hg hm ?_ hdb)
  refine PySem.W.callWith_K (h₀ := X.base) I.ok.mod.kin T.ox.kC (thn (ha.run pos pins s σ H _ I h) fun us s1 ⟨vs, H1, I1, r1, hz, q1⟩ => ⟨I1.kIn, ?_⟩) he hpl
  show wpAny _ _ (call (.ref C) us) _ _ _
  obtain ⟨hp, g, dr, tk, os⟩ := s1
  have hsz : hp.objs.size ≤ hp.objs.size + 1 := Nat.le_succ _
  have hn : H1 (hp.objs.size + 1) = none := I1.hok.fresh hsz
  have hq := q1 (hp.objs.size + 1) hn
  rw [← List.append_nil vs] at hq
  have kk : ∀ b o, hp.get? b = some o → ((hp.push (PySem.W.kdv_tup us)).push (PySem.HandSPX.excO C hp.objs.size)).get? b = some o := fun b o e => Heap.get?_push_of_some _ (Heap.get?_push_of_some _ e)
  have hget : ((hp.push (PySem.W.kdv_tup us)).push (PySem.HandSPX.excO C hp.objs.size)).get? (hp.objs.size + 1) = some (PySem.HandSPX.excO C hp.objs.size) := by heap_get
  have I2 : Inv X pins σ (upd H1 (hp.objs.size + 1) (exo (hp.objs.size + 1) C none)) ⟨(hp.push (PySem.W.kdv_tup us)).push (PySem.HandSPX.excO C hp.objs.size), g, dr, tk, os⟩ :=
    I1.laid (t' := tk) (a := hp.objs.size + 1) (o := exo (hp.objs.size + 1) C none) (h' := (hp.push (PySem.W.kdv_tup us)).push (PySem.HandSPX.excO C hp.objs.size)) kk hsz (exo_ok hget)
  have r2 : Vals (V.ref (hp.objs.size + 1) :: (vs ++ [])) (Value.ref (hp.objs.size + 1) :: (us ++ [])) := .cons rfl (r1.append .nil)
  have hl : (Value.ref (hp.objs.size + 1) :: us ++ []).length = ps.length := by
    have e := r2.length
    rw [T.ok.len _ _ _ _ hq] at e
    exact e.symm
  have hbn := T.bn _ (Value.ref (hp.objs.size + 1) :: us) I2.kIn hl
  rw [List.cons_append] at hbn
  have hus : us.length ≤ sizeLine := by
    rw [← Paired.length r1, sizeLine_eq]
    omega
  obtain ⟨i0, bmB, FB⟩ := b.fb
  refine wpAny_call (PySem.HandSPX.call_over FB (over_of hbm) (I1.kIn _ _ hC) (PySem.W.looks_findIn I1.kIn T.iC) (fun self => PySem.W.bind_fn I1.kIn self T.tI) hus
    (codeAny_mono (T.ok.run _ X.stack _ _ ⟨Value.ref (hp.objs.size + 1) :: us, []⟩ (Value.ref (hp.objs.size + 1) :: (us ++ [])) _ _ (fun _ _ _ => False) ((hr.mono (j := 2) (by omega)).make C us []) (I2.env0.make C us []) hbn r2 hq) fun r s' hq' => ?_))
  cases r with
  | error er => exact False.elim hq'
  | ok fl =>
    cases fl with
    | ret u =>
      obtain ⟨v, H2, os2, bare2, un2, hok2, rv, ev, d, fs, ea, ed, hd1, q2⟩ := hq'
      subst ev
      obtain ⟨h2, g2, d2, t2, os'⟩ := s'
      exact ⟨rv, mk_end (raises_own T.ox.exC T.ox.tyC) I1 hsz kk un2 hok2 os2 bare2 ea ed hd1 q2⟩
    | next => exact False.elim hq'
    | brk => exact False.elim hq'
    | cont => exact False.elim hq'
theorem ps_raiseB {k : Nat} {W : WX} {pos2 : Pos} (hc : X.calm = true) (T : ExB b X.prog X.w X.K X.mg X.base C fI fd ps sp) (hr : Room (k + 2) X.A) (tk : Takes X W) (hg : Gl X x) (hm : X.mg x = some (.ref C)) (ha : PA X (e :: es) ta)
    (hdb : (x == ("__debug__" : Str)) = false := by decide) (hs : starEach (e :: es) X.env = (false, eval e X.env) :: starEach es X.env := by rfl) (hpl : (backTo pos (starEach es X.env)).any (·.1) = false := by rfl) :
    PS X (.Raise (some (.Call (.Name x p) (e :: es) [] pos)) none pos2) (fun _ σ H => tMkB C sp ta σ H fun cls d H' => W cls d σ H') := ps_raise hc tk (pmk_B T hr hg hm ha hdb hs hpl)
end
end Tp
set_option Elab.async false
set_option linter.all false
set_option maxRecDepth 100000
set_option maxHeartbeats 4000000
namespace PySem.HandSPX
open Builtin Builtin.ObjectAttr
section
variable {prog : Program} {w : World} {A : Around} {E : Value → Shared → Prop} {R : Result → Shared → Prop} {h : Heap} {g : Array GenState} {d : Drawn} {t : Nat} {os : OsState}
variable {nm q : Str} {C N : Addr} {bs bm bmB : List Value} {hdct : Bool} {sn : List Str} {sub : List Value} {ab : Bool} {col : Option Bool} {dd : Option Addr} {k0 k1 k2 k3 k5 : Option Value} {B newId initId B2 initId2 : String}
end
end PySem.HandSPX
namespace Tp
open PySem PySem.Spec PyProof.Rows L2
inductive TyB (K : PySem.W.Frag) (H : Hp) : V → Value → Prop
  | a {v : V} {t : Value} (h : TyA K H v t) : TyB K H v t
  | exc0 {a D : Addr} (e : H a = some (exo a D none)) (C : ExcC K D) : TyB K H (.ref a) (.ref D)
theorem TyB.same {K : PySem.W.Frag} {H H' : Hp} (S : Same H H') {v : V} {t : Value} (h : TyB K H v t) : TyB K H' v t := by
  cases h with
  | a h => exact .a (h.same S)
  | exc0 e C => exact .exc0 (S _ _ e) C
theorem kitB_of {X : Cx} {pins : List (Addr × Obj)} {σ : L2.St} {H : Hp} {s : Shared} {x : V} {u t : Value} (I : Inv X pins σ H s) (rx : RelV x u) (ty : TyB X.K H x t) : ∃ P : Heap → Prop, PySem.W.KitX X.K u t P ∧ P s.heap ∧ u ≠ .builtin "__main__.__loader__#opaque" := by
  cases ty with
  | a h => exact kitA_of I rx h
  | @exc0 a D e C =>
    cases rx
    obtain ⟨t1, he⟩ := exo_at I.hok e
    refine ⟨_, kitx_excD (x := a) (ox := _) (od := none) C, ⟨he, rfl, rfl, trivial⟩, fun z => nomatch z⟩
def rIsB (K : PySem.W.Frag) : List V → Hp → VK → Prop := fun xs H Q => ∃ (x c : V) (t u : Value) (b : Bool), xs = [x, c] ∧ ClsV c u ∧ TyB K H x t ∧ PySem.W.kitOne K t u = some b ∧ Q (.bl b) H
theorem call_isB {X : Cx} {K : PySem.W.Frag} (hK : X.K = K) : CallR X (.builtin "isinstance") (rIsB K) := by
  subst hK
  intro pins s σ H xs us Q I r h
  obtain ⟨x, c, t, u, b, rfl, k, ty, e, q⟩ := h
  obtain ⟨u1, u2, rfl, r1, r2⟩ := vals2 r
  have e2 := k.eq r2
  subst e2
  obtain ⟨P, Z, p, hx⟩ := kitB_of I r1 ty
  exact PySem.W.kia_one Z I.kIn p e hx fun tk => ⟨.bl b, H, I.tok tk, rfl, q⟩
end Tp
set_option Elab.async false
set_option linter.all false
set_option maxRecDepth 100000
set_option maxHeartbeats 4000000
namespace Tp
open PySem PySem.Spec PyProof.Rows L2 He
structure ClsX (b : XB) (K : PySem.W.Frag) (C : Addr) (up : List Addr) : Prop where
  lk : ∃ nm q N bs sn sub ab col dd k0 k1 k2 k3 k5, K.lookup C = some (excClassObj nm q C N bs (up.map Value.ref ++ b.tail) true sn sub ab col dd k0 k1 k2 k3 k5 b.newId)
  sa : PySem.W.findIn K (.ref C) "__setattr__" = some (some (.builtin "object.__setattr__"))
  hg : PySem.W.findIn K (.ref C) "__getattribute__" = some (some (.builtin "BaseException.__getattribute__"))
  hk : PySem.W.findIn K (.ref C) "__getattr__" = some none
  ha : PySem.W.findIn K (.ref C) "__class__" = some (some (.builtin "object.__class__"))
  kC : PySem.W.keepIn K (.ref C) = true
  hn : PySem.W.specialIn K (.builtin "object.__class__") "__get__" = some (some (.builtin "getset_descriptor.__get__"))
  ht : PySem.W.takesIn K (.builtin "object.__class__") = some true
def clsXB (b : XB) (K : PySem.W.Frag) (C : Addr) (up : List Addr) : Bool := (match K.lookup C with
  | some ⟨.type t, _, .cls cd, sl⟩ => decide (t = "type") && (match sl.toList with
    | [_, _, _, _, some (.builtin n), _] => decide (n = b.newId) && (decide (cd.mro = .ref C :: (up.map Value.ref ++ b.tail)) && (!cd.hasDel && cd.hasDict))
    | _ => false)
  | _ => false) && (eqO (PySem.W.findIn K (.ref C) "__setattr__") (some (some (.builtin "object.__setattr__"))) && (eqO (PySem.W.findIn K (.ref C) "__getattribute__") (some (some (.builtin "BaseException.__getattribute__"))) &&
  (eqO (PySem.W.findIn K (.ref C) "__getattr__") (some none) && (eqO (PySem.W.findIn K (.ref C) "__class__") (some (some (.builtin "object.__class__"))) && (PySem.W.keepIn K (.ref C) &&
  (eqO (PySem.W.specialIn K (.builtin "object.__class__") "__get__") (some (some (.builtin "getset_descriptor.__get__"))) && decide (PySem.W.takesIn K (.builtin "object.__class__") = some true)))))))
theorem clsXB_ok {b : XB} {K : PySem.W.Frag} {C : Addr} {up : List Addr} (h : clsXB b K C up = true) : ClsX b K C up := by
  obtain ⟨h, g⟩ := ba h
  obtain ⟨g1, g⟩ := ba g
  obtain ⟨g2, g⟩ := ba g
  obtain ⟨g3, g⟩ := ba g
  obtain ⟨g4, g⟩ := ba g
  obtain ⟨g5, g⟩ := ba g
  obtain ⟨g6, g7⟩ := ba g
  refine ⟨?_, eqO_ok g1, eqO_ok g2, eqO_ok g3, eqO_ok g4, g5, eqO_ok g6, of_decide_eq_true g7⟩
  cases q : K.lookup C with
  | none => rw [q] at h; cases h
  | some o =>
    obtain ⟨oc, od, dt, sl⟩ := o
    rw [q] at h
    cases oc with
    | type t =>
      cases dt with
      | cls cd =>
        obtain ⟨h1, h2⟩ := ba h
        have e1 : t = "type" := of_decide_eq_true h1
        subst e1
        obtain ⟨nm, bs, mro, N, qn, hd, sn, sub, ab, col, del⟩ := cd
        obtain ⟨sl⟩ := sl
        dsimp only at h2
        split at h2
        · rename_i k0 k1 k2 k3 n k5
          obtain ⟨h5, h6⟩ := ba h2
          obtain ⟨h3, h8⟩ := ba h6
          obtain ⟨h7, h9⟩ := ba h8
          have e5 : n = b.newId := of_decide_eq_true h5
          have e3 : mro = .ref C :: (up.map Value.ref ++ b.tail) := of_decide_eq_true h3
          subst e3 e5
          cases del
          · cases hd
            · cases h9
            · exact ⟨_, _, _, _, _, _, _, _, _, _, _, _, _, _, rfl⟩
          · cases h7
        · cases h2
      | _ => cases h
    | _ => cases dt <;> cases h
section
variable {b : XB} {K : PySem.W.Frag} {C : Addr} {up : List Addr}
theorem ClsX.cls (T : ClsX b K C up) : ∃ cd, PySem.W.clsIn K C = some cd ∧ cd.mro = .ref C :: (up.map Value.ref ++ b.tail) ∧ cd.hasDict = true := by
  obtain ⟨nm, q, N, bs, sn, sub, ab, col, dd, k0, k1, k2, k3, k5, hC⟩ := T.lk
  exact ⟨_, by unfold PySem.W.clsIn; rw [hC] <;> rfl, rfl, rfl⟩
theorem ClsX.sub (T : ClsX b K C up) (t : Value) : PySem.W.subIn K (.ref C) t = some ((Value.ref C :: (up.map Value.ref ++ b.tail)).contains t) := by
  obtain ⟨cd, hc, hm, _⟩ := T.cls
  show PySem.W.mroIn K C t = _
  unfold PySem.W.mroIn
  rw [hc, Option.bind_some, hm]
  rfl
theorem tail_ok : ∀ up : List Addr, PySem.W.excTail b.tail (up.map Value.ref ++ b.tail) = true
  | [] => by cases b <;> decide +kernel
  | _ :: r => tail_ok r
theorem tail_has (n : String) : ∀ up : List Addr, (up.map Value.ref ++ b.tail).contains (.type n) = b.tail.contains (.type n) := fun up => PySem.W.excTail_contains n _ (tail_ok up)
theorem ClsX.isB (T : ClsX b K C up) (n : String) : PySem.W.subIn K (.ref C) (.type n) = some (b.tail.contains (.type n)) := by
  rw [T.sub, List.contains_cons, tail_has]
  rfl
theorem ClsX.dict (T : ClsX b K C up) : PySem.W.hasDictIn K C = true := by
  obtain ⟨cd, hc, _, hd⟩ := T.cls
  unfold PySem.W.hasDictIn
  rw [hc]
  exact hd
theorem ClsX.ty (T : ClsX b K C up) : PySem.W.typeIn K (.ref C) = some (.type "type") := by
  obtain ⟨nm, q, N, bs, sn, sub, ab, col, dd, k0, k1, k2, k3, k5, hC⟩ := T.lk
  show (K.lookup C).map (·.cls) = _
  rw [hC] <;> rfl
theorem XB.isE : ∀ b : XB, b.tail.contains (.type "BaseException") = true
  | .ve => by decide +kernel
  | .ke => by decide +kernel
  | .le => by decide +kernel
theorem ClsX.exc (T : ClsX b K C up) : PySem.W.subIn K (.ref C) (.type "BaseException") = some true := by rw [T.isB, b.isE]
theorem ClsX.ox (T : ClsX b K C up) : OexB b K C := by
  obtain ⟨nm, q, N, bs, sn, sub, ab, col, dd, k0, k1, k2, k3, k5, hC⟩ := T.lk
  exact ⟨⟨_, _, _, _, _, _, _, _, _, _, _, _, _, _, _, hC, tail_ok up⟩, T.sa, T.exc, T.ty, T.kC⟩
theorem ClsX.ec (T : ClsX b K C up) : ExcC K C := ⟨T.hg, T.hk, T.exc, T.dict, T.ha, T.hn, T.ht, by
  have e := T.isB "object"
  rw [b.ob] at e
  exact e⟩
theorem ClsX.xf (T : ClsX b K C up) : XfC K C := ⟨T.hg, T.hk, T.exc, T.dict⟩
theorem tail_ref (D : Addr) : ∀ b : XB, b.tail.contains (.ref D) = false
  | .ve => rfl
  | .ke => rfl
  | .le => rfl
theorem up_has (D : Addr) : ∀ up : List Addr, (up.map Value.ref ++ b.tail).contains (.ref D) = up.contains D
  | [] => tail_ref D b
  | c :: r => by
    have e : (Value.ref D == Value.ref c) = (D == c) := by
      by_cases q : D = c
      · rw [q]; simp
      · have q1 : (D == c) = false := by simpa using q
        rw [q1]
        simpa using q
    rw [List.map_cons, List.cons_append, List.contains_cons, List.contains_cons, up_has D r, e]
theorem kit_X {b2 : XB} {D : Addr} {up2 : List Addr} (T : ClsX b K C up) (T2 : ClsX b2 K D up2) : PySem.W.kitOne K (.ref C) (.ref D) = some ((C :: up).contains D) := by
  have e : PySem.W.subIn K (.ref C) (.ref D) = some ((C :: up).contains D) := by
    rw [T.sub]
    exact congrArg some (up_has (b := b) D (C :: up))
  by_cases q : D = C
  · subst q
    rw [kit_self]
    simp
  · exact kit_ref (by
      have : ¬ C = D := fun z => q z.symm
      simpa using this) T2.dict T2.ty e
theorem exm_X {b2 : XB} {D : Addr} {up2 : List Addr} (T : ClsX b K C up) (T2 : ClsX b2 K D up2) : PySem.W.exmOne K (.ref C) (.ref D) = some ((C :: up).contains D) := by
  refine PySem.W.exm_ref T2.exc T2.dict T2.ty ?_
  rw [T.sub]
  exact congrArg some (up_has (b := b) D (C :: up))
end
end Tp
set_option Elab.async false
set_option linter.all false
set_option maxRecDepth 100000
set_option maxHeartbeats 4000000
namespace Tp
open PySem PySem.Spec PyProof.Rows L2 He
structure InitX (K : PySem.W.Frag) (C fI : Addr) (fs : List Str) : Prop where
  iC : PySem.W.findIn K (.ref C) "__init__" = some (some (.ref fI))
  tI : PySem.W.typeIn K (.ref fI) = some (.type "function")
  no : ∀ f ∈ fs, PySem.W.findIn K (.ref C) f = some none
def initXB (K : PySem.W.Frag) (C fI : Addr) (fs : List Str) : Bool := eqO (PySem.W.findIn K (.ref C) "__init__") (some (some (.ref fI))) && (decide (PySem.W.typeIn K (.ref fI) = some (.type "function")) && fs.all fun f => eqO (PySem.W.findIn K (.ref C) f) (some none))
theorem initXB_ok {K : PySem.W.Frag} {C fI : Addr} {fs : List Str} (h : initXB K C fI fs = true) : InitX K C fI fs := by
  obtain ⟨h1, h⟩ := ba h
  obtain ⟨h2, h3⟩ := ba h
  exact ⟨eqO_ok h1, of_decide_eq_true h2, fun f hf => eqO_ok (List.all_eq_true.mp h3 f hf)⟩
def spX2 (C : Addr) (f g : Str) : Sp := fun vs H Q _ => ∃ (a : Addr) (v w : V), vs = [.ref a, v, w] ∧ H a = some (exo a C none) ∧
  ∀ dx, H dx = none → dx ≠ a → Q .non (upd (upd H dx (exd dx [(g, w), (f, v)])) a (exo a C (some dx)))
theorem two_heap {H : Hp} {a dx C : Addr} {l l2 : List (Str × V)} (ne : dx ≠ a) : upd (upd (upd H dx (exd dx l)) a (exo a C (some dx))) dx (exd dx l2) = upd (upd H dx (exd dx l2)) a (exo a C (some dx)) := by
  funext b
  by_cases h1 : b = dx
  · rw [h1, upd_same, upd_ne ne, upd_same]
  · rw [upd_ne h1]
    by_cases h2 : b = a
    · rw [h2, upd_same, upd_same]
    · rw [upd_ne h2, upd_ne h1, upd_ne h2, upd_ne h1]
theorem mkX {b : XB} {P : Program} {w : World} {K : PySem.W.Frag} {mg : Str → Option Value} {base : Heap} {C fI : Addr} {up : List Addr} {fs : List Str} {fd : FuncData} {ps : List Str} {sp : Sp} (T : ClsX b K C up) (J : InitX K C fI fs) (ok : FnOk P w K mg base CX0 1 fI fd ps sp) (bn : Binds K fd ps []) :
    ExB b P w K mg base C fI fd ps sp := ⟨T.ox, J.iC, J.tI, ok, bn⟩
end Tp
set_option Elab.async false
set_option linter.all false
set_option maxRecDepth 100000
set_option maxHeartbeats 4000000
namespace Tp
open PySem PySem.Spec PyProof.Rows L2
def ExAt (H : Hp) (x : V) (C : Addr) (l : List (Str × V)) : Prop := ∃ a, x = .ref a ∧ ((l = [] ∧ H a = some (exo a C none)) ∨ ∃ d, H a = some (exo a C (some d)) ∧ H d = some (exd d l))
theorem ExAt.same {H H' : Hp} {x : V} {C : Addr} {l : List (Str × V)} (h : ExAt H x C l) (S : Same H H') : ExAt H' x C l := by
  obtain ⟨a, e, ⟨hl, h⟩ | ⟨d, h1, h2⟩⟩ := h
  · exact ⟨a, e, .inl ⟨hl, S _ _ h⟩⟩
  · exact ⟨a, e, .inr ⟨d, S _ _ h1, S _ _ h2⟩⟩
theorem ExAt.ty {b : XB} {K : PySem.W.Frag} {up : List Addr} {H : Hp} {x : V} {C : Addr} {l : List (Str × V)} (h : ExAt H x C l) (c : ClsX b K C up) : TyB K H x (.ref C) := by
  obtain ⟨a, rfl, ⟨_, h⟩ | ⟨d, h1, h2⟩⟩ := h
  · exact .exc0 h c.ec
  · exact .a (.exc h1 h2 c.ec)
theorem same_two {H : Hp} {a d : Addr} {x y : HO} (ha : H a = none) (hd : H d = none) : Same H (upd (upd H d x) a y) := fun b o h => by
  rw [upd_ne (ne_of_none h ha), upd_ne (ne_of_none h hd)]
  exact h
theorem same_three {H : Hp} {a d : Addr} {x y z : HO} (ha : H a = none) (hd : upd H a x d = none) : Same H (upd (upd (upd H a x) d y) a z) := fun b o h => by
  have ne : d ≠ a := fun e => by rw [e, upd_same] at hd; cases hd
  rw [upd_ne ne] at hd
  rw [upd_ne (ne_of_none h ha), upd_ne (ne_of_none h hd), upd_ne (ne_of_none h ha)]
  exact h
theorem same_fly {H : Hp} {a d : Addr} {x y z u : HO} (ha : H a = none) (hd : upd H a x d = none) : Same H (upd (del (upd (upd (upd H a x) d y) a z) a) d u) := fun b o h => by
  have ne : d ≠ a := fun e => by rw [e, upd_same] at hd; cases hd
  rw [upd_ne ne] at hd
  rw [upd_ne (ne_of_none h hd), del_ne (ne_of_none h ha)]
  exact same_three ha (by rw [upd_ne ne]; exact hd) b o h
theorem none_same {H H' : Hp} {z : Addr} (S : Same H H') (h : H' z = none) : H z = none := by
  cases e : H z with
  | none => rfl
  | some u => rw [S _ _ e] at h; cases h
theorem sys_kp {K : PySem.W.Frag} {b : Addr} {n : Nat} {H H' : Hp} (bx : BoxAt b n H) (k : Kp b H H') (h : Sys K H) : Sys K H' := by
  rcases h with h | ⟨h, o, φ, e⟩
  · exact .inl h
  · refine .inr ⟨h, o, φ, k _ _ (fun z => ?_) e⟩
    obtain ⟨x, y, z', e', _⟩ := bx
    rw [z, e'] at e
    cases e
inductive FlV : V → PyData → Prop
  | int {i : Int} (h : i.natAbs < 10 ^ 40) : FlV (.int i) (.int i)
  | str {z : Str} (h : ∀ c ∈ z.cps.toList, c < 16 ^ 8) (l : z.length ≤ 50) : FlV (.str z) (.str z)
  | non : FlV .non .none
  | bl (b : Bool) : FlV (.bl b) (.bool b)
theorem FlV.dq {K : PySem.W.Frag} {H : Hp} {v : V} {d : PyData} (h : FlV v d) : Dq K H v d := by
  cases h with
  | int _ => exact .int _
  | str _ _ => exact .str _
  | non => exact .non
  | bl b => exact .bl b
theorem FlV.fit {v : V} {d : PyData} (h : FlV v d) : FitQ 0 600 d := by
  cases h with
  | int h => exact (fitq_int h).up (Nat.le_refl _) (by decide)
  | str h l =>
    refine (fitq_of (n := 0) (.str h)).up (Nat.le_refl _) ?_
    simp only [wt]
    omega
  | non => exact fitq_none.up (Nat.le_refl _) (by decide)
  | bl b => exact (fitq_bool b).up (Nat.le_refl _) (by decide)
end Tp
set_option Elab.async false
set_option linter.all false
set_option maxRecDepth 100000
set_option maxHeartbeats 4000000
namespace Tp
open PySem PySem.Spec PyProof.Rows L2
structure BRow where
  nm : Str
  sec : Sum (List Nat) Nat
deriving DecidableEq
def numsD (l : List Nat) : List PyData := l.map fun (n : Nat) => .int n
def numsV (l : List Nat) : List V := l.map fun (n : Nat) => .int n
def BRow.data (r : BRow) : PyData := .tuple [.str r.nm, match r.sec with | .inl l => .tuple (numsD l) | .inr t => .int t]
def BRow.key (r : BRow) : NestedKey := .tup [.text r.nm, match r.sec with | .inl l => .tup (l.map fun (n : Nat) => .num n) | .inr t => .num t]
def BRow.args (r : BRow) : List Nat := match r.sec with | .inl l => l | .inr _ => []
theorem nums_inj : ∀ {l m : List Nat}, (l.map fun (n : Nat) => NestedKey.num (n : Nat)) = (m.map fun (n : Nat) => NestedKey.num (n : Nat)) → l = m
  | [], [], _ => rfl
  | [], _ :: _, h => by cases h
  | _ :: _, [], h => by cases h
  | x :: l, y :: m, h => by
    rw [List.map_cons, List.map_cons] at h
    injection h with h1 h2
    injection h1 with h1
    rw [nums_inj h2, Int.ofNat.inj h1]
theorem key_inj {r s : BRow} (h : r.key = s.key) : r = s := by
  obtain ⟨n, a⟩ := r
  obtain ⟨m, b⟩ := s
  unfold BRow.key at h
  injection h with h
  injection h with h1 h2
  injection h1 with h1
  injection h2 with h2 _
  have h1 : n = m := h1
  subst h1
  cases a with
  | inl l =>
    cases b with
    | inl k => injection h2 with h2; rw [nums_inj h2]
    | inr u => cases h2
  | inr t =>
    cases b with
    | inl k => cases h2
    | inr u => injection h2 with h2; rw [Int.ofNat.inj h2]
theorem key_depth (r : BRow) : r.key.depth ≤ 8 := by
  have dl : ∀ l : List Nat, NestedKey.depthAll (l.map fun (n : Nat) => NestedKey.num (n : Nat)) ≤ 0 := by
    intro l
    induction l with
    | nil => simp [NestedKey.depthAll]
    | cons x l ih => simp [NestedKey.depthAll, NestedKey.depth]; simpa using ih
  obtain ⟨n, a⟩ := r
  cases a with
  | inl l =>
    have := dl l
    simp [BRow.key, NestedKey.depth, NestedKey.depthAll]
    omega
  | inr t => simp [BRow.key, NestedKey.depth, NestedKey.depthAll]
def RowAt (K : PySem.W.Frag) (H : Hp) (r : BRow) (a : Addr) : Prop := Dp K H (.ref a) r.data
theorem RowAt.same {K : PySem.W.Frag} {H H' : Hp} {r : BRow} {a : Addr} (h : RowAt K H r a) (S : Same H H') : RowAt K H' r a := (dp_same S).1 h
theorem dpN_inv {K : PySem.W.Frag} {H : Hp} : ∀ {xs : List V} {l : List Nat}, DpAll K H xs (numsD l) → xs = numsV l
  | _, [], h => by cases h; rfl
  | _, n :: l, h => by
    cases h with
    | cons h1 h2 =>
      cases h1
      rw [dpN_inv h2]
      rfl
theorem dpN {K : PySem.W.Frag} {H : Hp} : ∀ l : List Nat, DpAll K H (numsV l) (numsD l)
  | [] => .nil
  | n :: l => .cons (.int _) (dpN l)
theorem RowAt.inv {K : PySem.W.Frag} {H : Hp} {r : BRow} {a : Addr} (h : RowAt K H r a) : (∃ l b, r.sec = .inl l ∧ SqT K H a [.str r.nm, .ref b] ∧ SqT K H b (numsV l)) ∨ ∃ t, r.sec = .inr t ∧ SqT K H a [.str r.nm, .int (t : Nat)] := by
  obtain ⟨n, s⟩ := r
  unfold RowAt BRow.data at h
  cases h with
  | tup s1 h1 =>
    cases h1 with
    | cons d1 h2 =>
      cases h2 with
      | cons d2 h3 =>
        cases h3
        cases d1
        cases s with
        | inl l =>
          cases d2 with
          | tup s2 h2 =>
            obtain rfl := dpN_inv h2
            exact .inl ⟨l, _, rfl, s1, s2⟩
        | inr t =>
          cases d2
          exact .inr ⟨t, rfl, s1⟩
theorem RowAt.mkL {K : PySem.W.Frag} {H : Hp} {n : Str} {l : List Nat} {a b : Addr} (h : SqT K H a [.str n, .ref b]) (h2 : SqT K H b (numsV l)) : RowAt K H ⟨n, .inl l⟩ a := .tup h (.cons (.str n) (.cons (.tup h2 (dpN l)) .nil))
theorem RowAt.mkT {K : PySem.W.Frag} {H : Hp} {n : Str} {t : Nat} {a : Addr} (h : SqT K H a [.str n, .int (t : Nat)]) : RowAt K H ⟨n, .inr t⟩ a := .tup h (.cons (.str n) (.cons (.int _) .nil))
theorem RowAt.mk' {K : PySem.W.Frag} {H : Hp} {r : BRow} {a : Addr} (h : (∃ l b, r.sec = .inl l ∧ SqT K H a [.str r.nm, .ref b] ∧ SqT K H b (numsV l)) ∨ ∃ t, r.sec = .inr t ∧ SqT K H a [.str r.nm, .int (t : Nat)]) : RowAt K H r a := by
  obtain ⟨n, s⟩ := r
  rcases h with ⟨l, b, e, h1, h2⟩ | ⟨t, e, h1⟩
  · obtain rfl : s = .inl l := e
    exact .mkL h1 h2
  · obtain rfl : s = .inr t := e
    exact .mkT h1
theorem RowAt.sameT {K : PySem.W.Frag} {H H' : Hp} {r : BRow} {a : Addr} (h : RowAt K H r a) (S : SameT H H') : RowAt K H' r a :=
  .mk' (h.inv.imp (fun ⟨l, b, e, h1, h2⟩ => ⟨l, b, e, S.sq h1, S.sq h2⟩) fun ⟨t, e, h1⟩ => ⟨t, e, S.sq h1⟩)
theorem nkN {K : PySem.W.Frag} {H : Hp} : ∀ l : List Nat, NkAll K H (l.map fun (n : Nat) => NestedKey.num (n : Nat)) (numsV l)
  | [] => .nil
  | n :: l => .cons (.num _) (nkN l)
theorem RowAt.nk {K : PySem.W.Frag} {H : Hp} {r : BRow} {a : Addr} (h : RowAt K H r a) : NkV K H r.key (.ref a) := by
  obtain ⟨n, s⟩ := r
  rcases h.inv with ⟨l, b, e, h1, h2⟩ | ⟨t, e, h1⟩
  · obtain rfl : s = .inl l := e
    exact .tup h1 (.cons (.text _) (.cons (.tup h2 (nkN l)) .nil))
  · obtain rfl : s = .inr t := e
    exact .tup h1 (.cons (.text _) (.cons (.num _) .nil))
def ents : Nat → List BRow → List Addr → NX
  | i, r :: rs, a :: as => (r.key, a, .int (i : Nat)) :: ents (i + 1) rs as
  | _, _, _ => []
theorem ents_snoc : ∀ (i : Nat) (rs : List BRow) (as : List Addr) (r : BRow) (a : Addr), rs.length = as.length → ents i (rs ++ [r]) (as ++ [a]) = ents i rs as ++ [(r.key, a, .int ((i + rs.length : Nat)))]
  | i, [], [], r, a, _ => rfl
  | i, x :: rs, y :: as, r, a, h => by
    rw [List.cons_append, List.cons_append]
    show _ :: ents (i + 1) (rs ++ [r]) (as ++ [a]) = _ :: (ents (i + 1) rs as ++ _)
    rw [ents_snoc (i + 1) rs as r a (by simpa using h), List.length_cons, Nat.add_right_comm, Nat.add_assoc]
  | i, [], y :: as, r, a, h => by cases h
  | i, x :: rs, [], r, a, h => by cases h
theorem ents_len : ∀ (i : Nat) (rs : List BRow) (as : List Addr), rs.length = as.length → (ents i rs as).length = rs.length
  | i, [], [], _ => rfl
  | i, x :: rs, y :: as, h => congrArg (· + 1) (ents_len (i + 1) rs as (by simpa using h))
  | i, [], y :: as, h => by cases h
  | i, x :: rs, [], h => by cases h
def idxR : List BRow → BRow → Option Nat
  | [], _ => none
  | x :: l, r => if x = r then some 0 else (idxR l r).map (· + 1)
theorem ents_look : ∀ (i : Nat) (rs : List BRow) (as : List Addr) (r : BRow), rs.length = as.length → lookN (ents i rs as) r.key = (idxR rs r).map fun j => V.int ((i + j : Nat))
  | i, [], [], r, _ => rfl
  | i, x :: rs, y :: as, r, h => by
    have ih := ents_look (i + 1) rs as r (by simpa using h)
    unfold lookN at ih ⊢
    show ((_ :: ents (i + 1) rs as).find? _).map _ = _
    rw [List.find?_cons]
    unfold idxR
    by_cases e : x = r
    · subst e
      rw [if_pos rfl]
      show (match decide (x.key = x.key) with | true => _ | false => _ : Option _).map _ = _
      rw [decide_eq_true rfl]
      rfl
    · rw [if_neg e]
      show (match decide (x.key = r.key) with | true => _ | false => _ : Option _).map _ = _
      rw [decide_eq_false (fun k => e (key_inj k))]
      show ((ents (i + 1) rs as).find? _).map _ = _
      rw [ih, Option.map_map]
      refine congrArg (fun f => Option.map f (idxR rs r)) (funext fun j => ?_)
      show V.int ((i + 1 + j : Nat)) = V.int ((i + (j + 1) : Nat))
      rw [Nat.add_right_comm, Nat.add_assoc]
  | i, [], y :: as, r, h => by cases h
  | i, x :: rs, [], r, h => by cases h
theorem idx_none : ∀ {l : List BRow} {r : BRow}, r ∉ l → idxR l r = none
  | [], _, _ => rfl
  | x :: l, r, h => by
    unfold idxR
    rw [if_neg (fun e => h (by rw [e]; exact List.mem_cons_self)), idx_none (fun m => h (List.mem_cons_of_mem _ m))]
    rfl
theorem ents_mem : ∀ {i : Nat} {rs : List BRow} {as : List Addr} {x : NestedKey × Addr × V} {F : BRow → Addr → Prop}, Paired F rs as → x ∈ ents i rs as → ∃ r a, F r a ∧ x.1 = r.key ∧ x.2.1 = a
  | i, _, _, x, F, .nil, h => by cases h
  | i, _, _, x, F, .cons h t, m => by
    rcases List.mem_cons.mp m with e | m
    · subst e
      exact ⟨_, _, h, rfl, rfl⟩
    · exact ents_mem t m
theorem paired_imp {α β : Type} {F G : α → β → Prop} (f : ∀ a b, F a b → G a b) {l : List α} {m : List β} (h : Paired F l m) : Paired G l m := by
  induction h with
  | nil => exact .nil
  | cons h _ ih => exact .cons (f _ _ h) ih
theorem paired_get {α β : Type} {F : α → β → Prop} : ∀ {l : List α} {m : List β}, Paired F l m → ∀ {i : Nat} {a : α}, l[i]? = some a → ∃ b, m[i]? = some b ∧ F a b
  | _, _, .cons h _, 0, a, e => by cases e; exact ⟨_, rfl, h⟩
  | _, _, .cons _ t, i + 1, a, e => paired_get t e
structure BookAt (P : Program) (w : World) (K : PySem.W.Frag) (C : Addr) (H : Hp) (x l m : Addr) (rows : List BRow) (as : List Addr) : Prop where
  obj : ∃ dx, H x = some (.ins C dx [("held", .ref l), ("numbers", .ref m)])
  lst : H l = some (.lst (as.map V.ref))
  num : H m = some (dN P w m (ents 0 rows as))
  row : Paired (RowAt K H) rows as
  nd : rows.Nodup
  few : rows.length ≤ 100000
def Kp2 (l m : Addr) (H H' : Hp) : Prop := ∀ a o, a ≠ l → a ≠ m → H a = some o → H' a = some o
theorem Kp2.refl (l m : Addr) (H : Hp) : Kp2 l m H H := fun _ _ _ _ h => h
theorem Kp2.trans {l m : Addr} {H H1 H2 : Hp} (p : Kp2 l m H H1) (q : Kp2 l m H1 H2) : Kp2 l m H H2 := fun a o n k h => q a o n k (p a o n k h)
theorem Kp2.same {l m : Addr} {H H1 H2 : Hp} (p : Kp2 l m H H1) (q : Same H1 H2) : Kp2 l m H H2 := fun a o n k h => q a o (p a o n k h)
theorem Kp2.of {l m : Addr} {H H1 : Hp} (q : Same H H1) : Kp2 l m H H1 := fun a o _ _ h => q a o h
section
variable {P : Program} {w : World} {K : PySem.W.Frag} {C x l m : Addr} {H H' : Hp} {rows : List BRow} {as : List Addr}
theorem BookAt.len (b : BookAt P w K C H x l m rows as) : rows.length = as.length := Paired.length b.row
theorem BookAt.nok (b : BookAt P w K C H x l m rows as) : NOk K H (ents 0 rows as) := fun y hy => by
  obtain ⟨r, a, h, e1, e2⟩ := ents_mem b.row hy
  rw [e1, e2]
  exact ⟨h.nk, key_depth r⟩
theorem BookAt.same (b : BookAt P w K C H x l m rows as) (S : Same H H') : BookAt P w K C H' x l m rows as :=
  ⟨let ⟨dx, h⟩ := b.obj; ⟨dx, S _ _ h⟩, S _ _ b.lst, S _ _ b.num, paired_imp (fun _ _ h => h.same S) b.row, b.nd, b.few⟩
theorem BookAt.sameT (b : BookAt P w K C H x l m rows as) (k : Kp2 l m H H') : SameT H H' :=
  ⟨fun a xs h => k a _ (fun z => by rw [z, b.lst] at h; cases h) (fun z => by rw [z, b.num] at h; cases h) h, fun a o xs h => k a _ (fun z => by rw [z, b.lst] at h; cases h) (fun z => by rw [z, b.num] at h; cases h) h⟩
theorem BookAt.nlm (b : BookAt P w K C H x l m rows as) : l ≠ m := fun z => by
  have h := b.lst
  rw [z, b.num] at h
  cases h
theorem BookAt.nxl (b : BookAt P w K C H x l m rows as) : x ≠ l := fun z => by
  obtain ⟨dx, h⟩ := b.obj
  rw [z, b.lst] at h
  cases h
theorem BookAt.nxm (b : BookAt P w K C H x l m rows as) : x ≠ m := fun z => by
  obtain ⟨dx, h⟩ := b.obj
  rw [z, b.num] at h
  cases h
theorem BookAt.get (b : BookAt P w K C H x l m rows as) {i : Nat} {r : BRow} (h : rows[i]? = some r) : ∃ a, (as.map V.ref)[i]? = some (.ref a) ∧ RowAt K H r a := by
  obtain ⟨a, ha, hr⟩ := paired_get b.row h
  exact ⟨a, by rw [List.getElem?_map, ha]; rfl, hr⟩
end
def WfR (rows : List BRow) : Prop := ∀ (i : Nat) (r : BRow), rows[i]? = some r → ∀ j ∈ r.args, j < i
def argsAt (rows : List BRow) (i : Nat) : List Nat := match rows[i]? with | some r => r.args | none => []
def mark (rows : List BRow) (i : Nat) (f : Nat → Bool) : Nat → Bool := fun j => f j || (f i && decide (j ∈ argsAt rows i))
def marks (rows : List BRow) (n : Nat) : Nat → Nat → Bool
  | 0 => fun j => decide (j = n)
  | k + 1 => mark rows (n - k) (marks rows n k)
def partsR (rows : List BRow) (n : Nat) : List Nat := (List.range (n + 1)).filter (marks rows n (n + 1))
theorem marks_up {rows : List BRow} {n j : Nat} : ∀ {k k' : Nat}, k ≤ k' → marks rows n k j = true → marks rows n k' j = true
  | k, 0, h, e => by cases Nat.le_zero.mp h; exact e
  | k, k' + 1, h, e => by
    by_cases z : k = k' + 1
    · rw [← z]; exact e
    · show (marks rows n k' j || _) = true
      rw [marks_up (show k ≤ k' by omega) e]
      rfl
theorem marks_le {rows : List BRow} (wf : WfR rows) {n : Nat} : ∀ {k j : Nat}, marks rows n k j = true → j ≤ n
  | 0, j, h => by have := of_decide_eq_true (p := j = n) h; omega
  | k + 1, j, h => by
    rcases Bool.or_eq_true_iff.mp (show (marks rows n k j || _) = true from h) with h | h
    · exact marks_le wf h
    · obtain ⟨h1, h2⟩ := Bool.and_eq_true_iff.mp h
      have h2 : j ∈ argsAt rows (n - k) := of_decide_eq_true h2
      unfold argsAt at h2
      split at h2
      · rename_i r hr
        have := wf _ _ hr j h2
        omega
      · cases h2
theorem marks_done {rows : List BRow} (wf : WfR rows) {n : Nat} : ∀ {k j : Nat}, n < k + j → marks rows n (k + 1) j = true → marks rows n k j = true
  | k, j, hk, h => by
    rcases Bool.or_eq_true_iff.mp (show (marks rows n k j || _) = true from h) with h | h
    · exact h
    · obtain ⟨_, h2⟩ := Bool.and_eq_true_iff.mp h
      have h2 : j ∈ argsAt rows (n - k) := of_decide_eq_true h2
      unfold argsAt at h2
      split at h2
      · rename_i r hr
        have := wf _ _ hr j h2
        omega
      · cases h2
theorem marks_last {rows : List BRow} (wf : WfR rows) {n j : Nat} : ∀ {d k : Nat}, n < k + j → marks rows n (k + d) j = true → marks rows n k j = true
  | 0, k, _, h => h
  | d + 1, k, hk, h => marks_last wf hk (marks_done wf (k := k + d) (by omega) h)
theorem parts_mem {rows : List BRow} {n j : Nat} : j ∈ partsR rows n ↔ j ≤ n ∧ marks rows n (n + 1) j = true := by
  unfold partsR
  rw [List.mem_filter, List.mem_range]
  exact ⟨fun h => ⟨by omega, h.2⟩, fun h => ⟨by omega, h.2⟩⟩
theorem parts_self {rows : List BRow} {n : Nat} : n ∈ partsR rows n := parts_mem.mpr ⟨Nat.le_refl _, marks_up (Nat.zero_le _) (decide_eq_true rfl)⟩
theorem parts_args {rows : List BRow} (wf : WfR rows) {n i j : Nat} (h : i ∈ partsR rows n) (hj : j ∈ argsAt rows i) : j ∈ partsR rows n ∧ j < i := by
  obtain ⟨h1, h2⟩ := parts_mem.mp h
  have lt : j < i := by
    have hj' := hj
    unfold argsAt at hj'
    split at hj'
    · rename_i r hr
      exact wf _ _ hr j hj'
    · cases hj'
  refine ⟨parts_mem.mpr ⟨by omega, ?_⟩, lt⟩
  have h3 : marks rows n (n - i) i = true ∨ marks rows n (n - i + 1) i = true := .inr (marks_last wf (d := i) (k := n - i + 1) (by omega) (by rw [show n - i + 1 + i = n + 1 by omega]; exact h2))
  have h4 : marks rows n (n - i + 1) j = true ∨ marks rows n (n - i + 2) j = true := by
    rcases h3 with h | h
    · left
      show (marks rows n (n - i) j || (marks rows n (n - i) (n - (n - i)) && decide (j ∈ argsAt rows (n - (n - i))))) = true
      rw [show n - (n - i) = i by omega, h, decide_eq_true hj]
      simp
    · -- marked at its own turn: only by itself, so before
      left
      have h0 : marks rows n (n - i) i = true := by
        rcases Bool.or_eq_true_iff.mp (show (marks rows n (n - i) i || _) = true from h) with h | h
        · exact h
        · obtain ⟨_, k2⟩ := Bool.and_eq_true_iff.mp h
          rw [show n - (n - i) = i by omega] at k2
          have k2 : i ∈ argsAt rows i := of_decide_eq_true k2
          unfold argsAt at k2
          split at k2
          · rename_i r hr
            exact absurd (wf _ _ hr i k2) (Nat.lt_irrefl _)
          · cases k2
      show (marks rows n (n - i) j || (marks rows n (n - i) (n - (n - i)) && decide (j ∈ argsAt rows (n - (n - i))))) = true
      rw [show n - (n - i) = i by omega, h0, decide_eq_true hj]
      simp
  rcases h4 with h | h
  · exact marks_up (by omega) h
  · exact marks_up (by omega) h
theorem parts_sorted (rows : List BRow) (n : Nat) : (partsR rows n).Pairwise (· < ·) := List.Pairwise.filter _ (List.pairwise_lt_range)
theorem parts_nodup (rows : List BRow) (n : Nat) : (partsR rows n).Nodup := (parts_sorted rows n).imp fun h => Nat.ne_of_lt h
theorem sorted_nums {ys ks : List Int} {ps : List Nat} (p : ys.Perm ks) (s : ys.Pairwise (· ≤ ·)) (nd : ks.Nodup) (h : ∀ i, i ∈ ks ↔ i ∈ ps.map fun n => ((n : Nat) : Int)) (sp : ps.Pairwise (· < ·)) : ys = ps.map fun n => ((n : Nat) : Int) := by
  have nd2 : (ps.map fun n => ((n : Nat) : Int)).Nodup := List.Pairwise.map _ (fun a b h => by omega) sp
  have p2 : ys.Perm (ps.map fun n => ((n : Nat) : Int)) := p.trans ((List.perm_ext_iff_of_nodup nd nd2).mpr h)
  exact p2.eq_of_pairwise (fun a b _ _ h k => by omega) s (List.Pairwise.map _ (fun a b h => by omega) sp)
theorem parts_before {rows : List BRow} (wf : WfR rows) {n i p j : Nat} (h : (partsR rows n)[i]? = some p) (hj : j ∈ argsAt rows p) : j ∈ (partsR rows n).take i := by
  obtain ⟨m, lt⟩ := parts_args wf (List.mem_of_getElem? h) hj
  obtain ⟨k, hk, e⟩ := List.mem_iff_getElem.mp m
  have hi := (List.getElem?_eq_some_iff.mp h).1
  have ei := (List.getElem?_eq_some_iff.mp h).2
  have lt2 : k < i := by
    refine Classical.byContradiction fun c => ?_
    rcases Nat.lt_or_eq_of_le (Nat.le_of_not_lt c) with c | c
    · have := List.pairwise_iff_getElem.mp (parts_sorted rows n) i k hi hk c
      omega
    · subst c
      omega
  rw [List.mem_take_iff_getElem]
  exact ⟨k, by omega, e⟩
end Tp
set_option Elab.async false
set_option linter.all false
set_option maxRecDepth 100000
set_option maxHeartbeats 4000000
namespace Tp
open PySem PySem.Spec PyProof.Rows
section
variable {prog : Program} {w : World} {A : Around} {R : Result → Shared → Prop} {I : Addr} {fp wr : List Addr} {n : Nat} {PP : Nat → Value → Prop} {St : Nat → Heap → Prop} {kw : List (Str × Value)}
theorem mx_name : (toString "max" ++ toString ".loop" : String) = "max.loop" := by decide
theorem mx_more (W : Walks prog w A.in1 I fp wr n PP St) (bt : Nat → Nat → Bool) (hcmp : CmpOf prog w A.in1 .Gt PP bt) (S : Addr) (hSf : S ∉ fp) :
    ∀ (k j : Nat) (s : Shared) (vb : Value) (c : Nat), n - (j + 1) = k → j + 1 ≤ n → St (j + 1) s.heap → PP (argBest bt j) vb → s.heap.get? S = some { cls := .type "list", dict := none, data := .seq #[vb, vb] c, slots := #[] } →
    (∀ v h' tk, PP (argBest bt (n - 1)) v → (∀ b o, b ∉ wr → b ≠ S → s.heap.get? b = some o → h'.get? b = some o) → R (.ok (.ret v)) { s with heap := h', toks := tk }) → codeAny (model prog w) A (.builtin "max.loop" ⟨[.ref I, .none, .ref S], kw⟩) R s := by
  have hSw : S ∉ wr := fun h => hSf (W.sub _ h)
  intro k
  induction k with
  | zero =>
    intro j s vb c hk hj hst hPb hS hR
    have e : j + 1 = n := by omega
    refine codeAny_builtin F.entry_max_loop ?_
    rw [Around.under_plainId F.plain_max_loop _]
    refine wpAny_bind (m := seqItems? (.ref S)) (wpAny_seqItems hS rfl ?_)
    refine wpAny_bind (m := tryCatch (pyNext (.ref I)) _) (wpAny_tryCatch (W.done s _ _ (e ▸ hst) fun h' tk hk' => ?_))
    have hS' := hk' S _ hSw hS
    refine wpAny_bind (m := updateSeq S (fun _ => #[])) (wpAny_updateSeq hS' rfl (wpAny_bind (wpAny_letGo (wpAny_pure ?_))))
    exact hR vb _ tk (by rw [← e]; exact hPb) fun b o hb hbS z => (Heap.get?_update_other _ _ (Ne.symm hbS)).trans (hk' b o hb z)
  | succ k ih =>
    intro j s vb c hk hj hst hPb hS hR
    have lt : j + 1 < n := by omega
    refine codeAny_builtin F.entry_max_loop ?_
    rw [Around.under_plainId F.plain_max_loop _]
    refine wpAny_bind (m := seqItems? (.ref S)) (wpAny_seqItems hS rfl ?_)
    refine wpAny_bind (m := tryCatch (pyNext (.ref I)) _) (wpAny_tryCatch (W.item (j + 1) s _ _ lt hst fun v h' tk hP hst' hk' => ?_))
    have hS' := hk' S _ hSw hS
    refine wpAny_bind (m := tryCatch (holding [v, v] (richCompare .Gt v vb >>= _)) _) (wpAny_tryCatch (wpAny_holding (wpAny_bind (hcmp (j + 1) (argBest bt j) v vb _ _ _ hP hPb ?_))))
    refine wpAny_bind (wpAny_holding (wpAny_truthy_bool ?_))
    refine wpAny_bind (wpAny_letGo (wpAny_pure ?_))
    cases hb : bt (j + 1) (argBest bt j) with
    | true =>
      simp only [if_true]
      refine wpAny_bind (wpAny_updateSeq hS' rfl (wpAny_bind (wpAny_letGo ?_)))
      rw [mx_name]
      refine wpAny_pure ⟨plainId_quiet F.plain_max_loop _, ih (j + 1) _ v _ (by omega) lt (W.frame _ _ _ hst' fun b hbf o z => ?_) (by simp only [argBest, hb, if_true]; exact hP) (Heap.get?_update_self _ hS' rfl) fun v' h'' tk'' hP' hk'' => ?_⟩
      · exact (Heap.get?_update_other _ _ (fun q : S = b => hSf (by rw [q]; exact hbf))).trans z
      · exact hR v' h'' tk'' hP' fun b o hw hbS z => hk'' b o hw hbS ((Heap.get?_update_other _ _ (Ne.symm hbS)).trans (hk' b o hw z))
    | false =>
      simp only [Bool.false_eq_true, if_false]
      refine wpAny_bind (wpAny_letGo ?_)
      rw [mx_name]
      refine wpAny_pure ⟨plainId_quiet F.plain_max_loop _, ih (j + 1) _ vb c (by omega) lt hst' (by simp only [argBest, hb, Bool.false_eq_true, if_false]; exact hPb) hS' fun v' h'' tk'' hP' hk'' => ?_⟩
      exact hR v' h'' tk'' hP' fun b o hw hbS z => hk'' b o hw hbS (hk' b o hw z)
theorem mx_first (W : Walks prog w A.in1 I fp wr n PP St) (bt : Nat → Nat → Bool) (hcmp : CmpOf prog w A.in1 .Gt PP bt) (S : Addr) (hSf : S ∉ fp) (hn : 0 < n) {s : Shared} {c : Nat} (hst : St 0 s.heap) (hS : s.heap.get? S = some { cls := .type "list", dict := none, data := .seq #[] c, slots := #[] })
    (hR : ∀ v h' tk, PP (argBest bt (n - 1)) v → (∀ b o, b ∉ wr → b ≠ S → s.heap.get? b = some o → h'.get? b = some o) → R (.ok (.ret v)) { s with heap := h', toks := tk }) : codeAny (model prog w) A (.builtin "max.loop" ⟨[.ref I, .none, .ref S], kw⟩) R s := by
  have hSw : S ∉ wr := fun h => hSf (W.sub _ h)
  refine codeAny_builtin F.entry_max_loop ?_
  rw [Around.under_plainId F.plain_max_loop _]
  refine wpAny_bind (m := seqItems? (.ref S)) (wpAny_seqItems hS rfl ?_)
  refine wpAny_bind (m := tryCatch (pyNext (.ref I)) _) (wpAny_tryCatch (W.item 0 s _ _ hn hst fun v h' tk hP hst' hk' => ?_))
  have hS' := hk' S _ hSw hS
  refine wpAny_bind (m := updateSeq S (fun _ => #[v, v])) (wpAny_updateSeq hS' rfl ?_)
  rw [mx_name]
  refine wpAny_pure ⟨plainId_quiet F.plain_max_loop _, mx_more W bt hcmp S hSf _ 0 _ v _ rfl hn (W.frame _ _ _ hst' fun b hbf o z => ?_) hP (Heap.get?_update_self _ hS' rfl) fun v' h'' tk'' hP' hk'' => ?_⟩
  · exact (Heap.get?_update_other _ _ (fun q : S = b => hSf (by rw [q]; exact hbf))).trans z
  · exact hR v' h'' tk'' hP' fun b o hw hbS z => hk'' b o hw hbS ((Heap.get?_update_other _ _ (Ne.symm hbS)).trans (hk' b o hw z))
theorem mx_none (W : Walks prog w A.in1 I fp wr 0 PP St) (S : Addr) {k0 : Str} {d : Value} {s : Shared} {c : Nat} (hst : St 0 s.heap) (hS : s.heap.get? S = some { cls := .type "list", dict := none, data := .seq #[] c, slots := #[] })
    (hR : ∀ h' tk, (∀ b o, b ∉ wr → s.heap.get? b = some o → h'.get? b = some o) → R (.ok (.ret d)) { s with heap := h', toks := tk }) : codeAny (model prog w) A (.builtin "max.loop" ⟨[.ref I, .none, .ref S], [(k0, d)]⟩) R s := by
  refine codeAny_builtin F.entry_max_loop ?_
  rw [Around.under_plainId F.plain_max_loop _]
  refine wpAny_bind (m := seqItems? (.ref S)) (wpAny_seqItems hS rfl ?_)
  refine wpAny_bind (m := tryCatch (pyNext (.ref I)) _) (wpAny_tryCatch (W.done s _ _ hst fun h' tk hk' => ?_))
  refine wpAny_bind (m := rule _) (wpAny_rule (wpAny_pure ?_))
  exact hR h' tk hk'
end
section
variable {prog : Program} {w : World} {A : Around} {E : Value → Shared → Prop} {s : Shared} {l : Addr} {xs : Array (Int × Tok)} {d : Value}
theorem mx_args (a d : Value) : argsOk "max" ⟨[a], [(Str.ofString "default", d)]⟩ := by unfold argsOk; kernel_rfl
theorem call_treeK {id : String} {b : Builtin} {args : List Value} {kw : List (Str × Value)} {Q : Value → Shared → Prop} (hk : builtinKind id = none) (hp : plainId id = true) (hb : entryFor table id = some b) (ha : argsOk id ⟨args, kw⟩)
    (hc : wpAny (model prog w) A.in1 (b ⟨args, kw⟩) (fun fin s' => match fin with
      | .done f => (match (Except.ok f : Result) with | .ok (.ret v) => Q v s' | .ok _ => False | .error e => E e s')
      | .again c => c.quiet = true ∧ codeAny (model prog w) A c (fun r s' => match r with | .ok (.ret v) => Q v s' | .ok _ => False | .error e => E e s') s') E s) : wpAny (model prog w) A (call (.builtin id) args kw) Q E s := by
  refine wpAny_call (codeAny_call_builtin hp hb ?_)
  simp only [checkBuiltinCall, hk]
  cases q : Manifest.signature? id with
  | none => exact wpAny_pure hc
  | some sig =>
    have h2 : Bind.checkArgs id sig ⟨args, kw⟩ = pure () := by simpa only [argsOk, q] using ha
    simp only [h2]
    exact wpAny_pure hc
theorem max_default {Q : Value → Shared → Prop} (hh : A.handled = none) (hl : s.heap.IsList l (intItems xs))
    (h : ∀ v h' tk, (0 < xs.size → (intItems xs)[argBest (fun i j => decide (numAt xs i > numAt xs j)) (xs.size - 1)]? = some v) → (xs.size = 0 → v = d) → (∀ b o, s.heap.get? b = some o → h'.get? b = some o) → Q v { s with heap := h', toks := tk }) :
    wpAny (model prog w) A (call (.builtin "max") [.ref l] [(Str.ofString "default", d)]) Q E s := by
  refine call_treeK F.kind_max F.plain_max F.entry_max (mx_args _ _) ?_
  show wpAny _ A.in1 (Builtin.Builtins.bindParams "max" ["key", "default"] 0 ⟨[], [(Str.ofString "default", d)]⟩ >>= _) _ _ s
  refine wpAny_bind (wpAny_of_eq (show Builtin.Builtins.bindParams "max" ["key", "default"] 0 ⟨[], [(Str.ofString "default", d)]⟩ = pure [none, some d] from by first | rfl | kernel_rfl) ?_)
  refine wpAny_bind (wpAny_pure ?_)
  refine wpAny_bind (iter_intList hl fun s₂ e st hfp hlI => ?_)
  subst e
  refine wpAny_bind (wpAny_newObj_type ?_)
  have W := Walks.list (prog := prog) (w := w) (A := A.in1) hh s.heap.objs.size l hlI (intItems xs)
  have hsz : (intItems xs).size = xs.size := by simp [intItems]
  rw [hsz] at W
  rw [mx_name]
  generalize hS2 : (s.heap.push { cls := .type "list_iterator", data := .fields #[.ref l, .int 0 0] }) = h2 at *
  have hSf : h2.objs.size ∉ [s.heap.objs.size, l] := fun hm => Nat.lt_irrefl _ (hfp _ hm)
  by_cases hn : 0 < xs.size
  · refine wpAny_pure ⟨plainId_quiet F.plain_max_loop _, mx_first W (fun i j => decide (numAt xs i > numAt xs j)) (CmpOf.ints_gt (numAt xs) (fun _ _ => intItems_at)) h2.objs.size hSf hn (W.frame _ _ _ st fun b _ o e => Heap.get?_push_of_some _ e) (Heap.get?_push_size _ rfl) fun v h' tk hP hk => ?_⟩
    refine h v h' tk (fun _ => hP) (fun z => by omega) fun b o e => ?_
    have h2b : h2.get? b = some o := by rw [← hS2]; exact Heap.get?_push_of_some _ e
    refine hk b o (fun hm => ?_) (Nat.ne_of_lt (Heap.lt_size h2b)) (Heap.get?_push_of_some _ h2b)
    rcases List.mem_cons.mp hm with e1 | hm
    · exact absurd (e1 ▸ Heap.lt_size e) (Nat.lt_irrefl _)
    · cases hm
  · have e0 : xs.size = 0 := by omega
    rw [e0] at W
    refine wpAny_pure ⟨plainId_quiet F.plain_max_loop _, mx_none W h2.objs.size (W.frame _ _ _ st fun b _ o e => Heap.get?_push_of_some _ e) (Heap.get?_push_size _ rfl) fun h' tk hk => ?_⟩
    refine h d h' tk (fun z => absurd z hn) (fun _ => rfl) fun b o e => ?_
    have h2b : h2.get? b = some o := by rw [← hS2]; exact Heap.get?_push_of_some _ e
    refine hk b o (fun hm => ?_) (Heap.get?_push_of_some _ h2b)
    rcases List.mem_cons.mp hm with e1 | hm
    · exact absurd (e1 ▸ Heap.lt_size e) (Nat.lt_irrefl _)
    · cases hm
end
end Tp
namespace Tp
open PySem PySem.Spec PyProof.Rows L2
def rMaxDf (K : PySem.W.Frag) : List V → List V → Hp → VK → Prop := fun vs zs H Q => ∃ (a : Addr) (ns : List Int) (d : V), vs = [V.ref a] ∧ zs = [d] ∧ SqL K H a (ns.map V.int) ∧ (ns = [] → Q d H) ∧ ∀ m, m ∈ ns → (∀ y, y ∈ ns → y ≤ m) → Q (.int m) H
theorem cr_maxDf {X : Cx} (hc : X.calm = true) : CallRK X (.builtin "max") [Str.ofString "default"] (rMaxDf X.K) := by
  intro pins s σ H vs zs us ws Q I r rz h
  obtain ⟨a, ns, d, rfl, rfl, hs, q0, q⟩ := h
  obtain ⟨its, rv, hl, _⟩ := I.list hs
  rw [Vals.ref1 r]
  obtain ⟨dv, rfl, rd⟩ := vals1 rz
  have hi := rv.ints
  obtain ⟨xs, e⟩ := hi.allInts.items
  have hn : numsOf (intItems xs).toList = ns := by rw [← e]; exact hi.numsOf
  rw [nums_intItems] at hn
  have hl' := hl.isList
  rw [e] at hl'
  refine max_default (d := dv) (I.ok.hd hc) hl' fun v h' tk h1 h2 hk => ?_
  by_cases hz : 0 < xs.size
  · have hv := h1 hz
    obtain ⟨t, rfl⟩ := intItems_at hv
    obtain ⟨_, b2⟩ := argBest_gt (numAt xs) (xs.size - 1)
    refine ⟨.int _, H, I.kept hk, ⟨_, rfl⟩, q _ ?_ fun y hy => ?_⟩
    · rw [numAt_eq, ← hn]
      exact PySem.getD_mem (by rw [List.length_map, Array.length_toList]; omega)
    · rw [← hn] at hy
      obtain ⟨j, hj, rfl⟩ := mem_getD hy
      rw [List.length_map, Array.length_toList] at hj
      rw [← numAt_eq]
      exact b2 j (by omega)
  · have e0 : xs.size = 0 := by omega
    have en : ns = [] := by
      rw [← hn]
      have : xs.toList = [] := by
        have : xs.toList.length = 0 := by rw [Array.length_toList]; exact e0
        exact List.eq_nil_of_length_eq_zero this
      rw [this]
      rfl
    rw [h2 e0]
    exact ⟨d, H, I.kept hk, rd, q0 en⟩
section
variable {X : Cx} {K : PySem.W.Frag}
theorem ix_listK (hK : X.K = K) : IxR X (rIxL K) := by
  subst hK
  exact ix_list
theorem call_lenK (hK : X.K = K) : CallR X (.builtin "len") (fun xs H Q => ∃ p ys, xs = [.ref p] ∧ (SqL K H p ys ∨ SqT K H p ys) ∧ Q (.int ys.length) H) := by
  subst hK
  exact call_len_seq
end
end Tp
set_option Elab.async false
set_option linter.all false
set_option maxRecDepth 100000
set_option maxHeartbeats 4000000
namespace Tp
open PySem PySem.Spec PyProof.Rows L2
end Tp
set_option Elab.async false
set_option linter.all false
set_option maxRecDepth 100000
set_option maxHeartbeats 4000000
namespace Tp
open PySem PySem.Spec PyProof.Rows L2
abbrev nset (w : World) : Obj := { cls := .type "set", dict := none, data := .set #[] 0 (.fresh 0 0 (!w.params.followText "set-order")) }
def MadeSet (w : World) (s : Shared) (ns : List Int) (z : Shared) : Prop := ∃ (g : Heap) (t c : Nat), z = { s with heap := g, toks := t } ∧ SetR w g s.heap.objs.size (fun j => decide (j ∈ ns)) c ∧ c ≤ ns.length ∧ ∀ b o, s.heap.get? b = some o → g.get? b = some o
section
variable {P : Program} {w : World} {A : Around} {E : Value → Shared → Prop} {s : Shared}
theorem set_list {l : Addr} {xs : Array Value} {ns : List Int} {Q : Value → Shared → Prop} (calm : A.handled = none) (hl : s.heap.IsList l xs) (hx : IntsAre xs.toList ns) (few : ns.length + 1 < scanBound)
    (go : ∀ z, MadeSet w s ns z → Q (.ref s.heap.objs.size) z) : wpAny (model P w) A (call (.type "set") [.ref l]) Q E s := by
  have sz : xs.size = ns.length := by
    rw [← IntsAre.length hx, Array.length_toList]
  obtain ⟨mc, mt, hmro⟩ := F.called_set.mro
  have f1 := F.called_set.made
  have f2 := F.called_set.sub
  have f3 := F.called_set.notType
  have f4 := F.called_set.canCreate
  have f5 := F.typeCall_set_1 (.ref l)
  refine wpAny_call (codeAny_of_tree (show wpAny _ _ (callAny (.type "set") _) _ _ _ from wpAny_pure ⟨Code.quiet_builtin _ (by decide +kernel), codeAny_builtin F.entry_type_call ?_⟩))
  rw [Around.under_plain (weight_type_call_type "set" [.ref l] []) rfl]
  repeat any_goals first | assumption | wp_step
  refine codeAny_mono (L2.code_set_led1 (.ref l) (E := E) (Q₁ := fun v z => v = .ref s.heap.objs.size ∧ z = { s with heap := s.heap.push (nset w) }) ⟨rfl, rfl⟩) fun r z hr => ?_
  cases r with
  | error e => exact hr
  | ok fl =>
    cases fl with
    | ret v =>
      obtain ⟨rfl, rfl⟩ := hr
      have at0 : (s.heap.push (nset w)).get? s.heap.objs.size = some (nset w) := Heap.get?_push_size _ rfl
      have ty0 : Shared.TypeIs { s with heap := s.heap.push (nset w) } (.ref s.heap.objs.size) "set" := ⟨_, at0, rfl⟩
      have f6 := F.called_set.init.lookup
      have f7 := F.called_set.init.bind (.ref s.heap.objs.size)
      repeat any_goals first | assumption | wp_step
      refine codeAny_mono (codeAny_call_builtin (R := wants (fun v z => v = .none ∧ MadeSet w s ns z) E) F.called_set.init.plain F.entry_set_init (check_set_init_1 ty0 ?_)) fun r2 z2 hr2 => ?_
      · obtain ⟨⟨oc, od, odt, osl⟩, ol, e1, nl, e2⟩ := hl
        simp only at e1 e2
        subst e1
        subst e2
        have ol2 : (s.heap.push (nset w)).get? l = some { cls := .type "list", dict := od, data := .seq xs nl, slots := osl } := Heap.get?_push_of_some _ ol
        have g1 := F.sub_list_set
        have g2 := F.sub_list_frozenset
        have g3 : (Value.type "list" == Value.type "dict") = false := rfl
        have isl : (s.heap.push (nset w)).IsList l xs := ⟨_, ol2, rfl, nl, rfl⟩
        have lt : l < s.heap.objs.size := Heap.lt_size ol
        have sz1 : (s.heap.push (nset w)).objs.size = s.heap.objs.size + 1 := Heap.size_push ..
        unfold Builtin.«set.__init__»
        unfold noKeywords
        unfold Builtin.Frozenset.updateFrom
        generalize hit : pyIter = it
        wp_walk
        subst hit
        refine wpAny_pyIter_list isl (wpAny_bind (wpAny_runValue ?_))
        refine L2.set_update_ints ((Walks.list (by simp [calm]) (s.heap.push (nset w)).objs.size l (by rw [sz1]; exact Nat.ne_of_lt (Nat.lt_succ_of_lt lt)) xs).toS) s.heap.objs.size ?nin ns sz few ?vals (xs.size - 0) 0 _ (by omega) (Nat.zero_le _) ⟨⟨_, Heap.get?_push_size _ rfl, rfl, rfl⟩, isl.push _⟩ ⟨0, Nat.le_refl 0, L2.setR_new_at (Heap.get?_push_of_some _ at0)⟩ ?fin
        case nin =>
          rw [sz1]
          intro m
          rcases List.mem_cons.mp m with m | m
          · exact absurd m (Nat.ne_of_lt (Nat.lt_succ_self _))
          · exact absurd (List.mem_singleton.mp m) (Nat.ne_of_gt lt)
        case vals =>
          intro k v hv
          have hk : k < ns.length := by rw [← sz]; exact (Array.getElem?_eq_some_iff.mp hv).1
          obtain ⟨t, e⟩ := IntsAre.int_at hx k v (by rw [Array.getElem?_toList]; exact hv)
          exact ⟨ns[k], t, List.getElem?_eq_getElem hk, by rw [e, List.getD_eq_getElem?_getD, List.getElem?_eq_getElem hk]; rfl⟩
        case fin =>
          rintro ⟨g, gg, gd, gt, go_⟩ c hm hc hS
          obtain rfl : gg = s.gens := hm.gens
          obtain rfl : gd = s.drawn := hm.drawn
          obtain rfl : go_ = s.os := hm.os
          refine wpAny_pure (show wpAny _ _ (ret Value.none) _ _ _ from wpAny_pure ⟨rfl, g, gt, c, rfl, hS, by rw [← sz]; exact hc, fun b o e => ?_⟩)
          have hb : b < s.heap.objs.size := Heap.lt_size e
          refine hm.heap b o (fun m => ?_) (Heap.get?_push_of_some _ (Heap.get?_push_of_some _ e))
          rcases List.mem_cons.mp m with m | m
          · exact absurd m (Nat.ne_of_lt hb)
          · exact absurd ((List.mem_singleton.mp m).trans sz1) (Nat.ne_of_lt (Nat.lt_succ_of_lt hb))
      · cases r2 with
        | error e => exact hr2
        | ok fl2 =>
          cases fl2 with
          | ret u =>
            obtain ⟨rfl, ms⟩ := hr2
            repeat any_goals first | assumption | wp_step
            exact go _ ms
          | _ => exact hr2.elim
    | _ => exact hr.elim
end
section
variable {X : Cx}
def rSetL (K : PySem.W.Frag) (w : World) : List V → Hp → VK → Prop := fun xs H Q => ∃ (l : Addr) (ns : List Int), xs = [.ref l] ∧ SqL K H l (ns.map V.int) ∧ ns.length + 1 < scanBound ∧ ∀ a c, H a = none → Q (.ref a) (upd H a (SetO w a (fun j => decide (j ∈ ns)) c))
theorem cr_setL (hcalm : X.calm = true) : CallR X (.type "set") (rSetL X.K X.w) := by
  intro pins s σ H xs us Q I r q
  obtain ⟨l, ns, ex, hl, few, q⟩ := q
  subst ex
  rw [Vals.ref1 r]
  obtain ⟨its, rv, pl, _⟩ := I.list hl
  refine set_list (I.ok.hd hcalm) pl.isList (ns := ns) (by simpa using rv.ints) few fun z ⟨g, t, c, ez, sr, _, kept⟩ => ?_
  rw [ez]
  exact ⟨.ref _, upd H s.heap.objs.size (SetO X.w s.heap.objs.size (fun j => decide (j ∈ ns)) c), I.laid (t' := t) kept (Nat.le_refl _) (setO_new sr), rfl, q _ c (I.hok.fresh (Nat.le_refl _))⟩
def rSortedSB (w : World) : List V → Hp → VK → Prop := fun xs H Q => ∃ (a : Addr) (S : Int → Bool) (n : Nat), xs = [.ref a] ∧ H a = some (SetO w a S n) ∧ ∀ (ys : List Int) (p : Addr), ys.Pairwise (· < ·) → (∀ k : Int, k ∈ ys ↔ S k = true) → H p = none → Q (.ref p) (upd H p (.lst (ys.map V.int)))
theorem cr_sortedSB (hcalm : X.calm = true) : CallR X (.builtin "sorted") (rSortedSB X.w) := by
  intro pins s σ H xs us Q I r q
  obtain ⟨a, S, n, ex, ha, q⟩ := q
  subst ex
  rw [Vals.ref1 r]
  obtain ⟨o, es, ep, t, ho, hex, hd, ge, nd, hm, hb, hf, hn, hr, hl⟩ := setO_get I ha
  refine Calls.call_function_entry PyProof.Rows.kind_sorted PyProof.Rows.plain_sorted PyProof.Rows.entry_sorted (PyProof.Rows.args_sorted1 _) ?_
  unfold Builtin.«sorted»
  refine wpAny_bind (m := checkCount "sorted" 1 1 _) (wpAny_pure (wpAny_bind (collect_set (A := X.A.in1) (I.ok.hd hcalm) ⟨o, ho, hex.1, hd⟩ hf hb hr hl fun z vs kz lz gz oz pm => ?_)))
  have lv : vs.length ≤ sizeLine := by
    rw [pm.length_eq, List.length_map, Array.length_toList]
    exact Nat.le_trans (Nat.le_of_lt hb) (by decide)
  have hints : IntsAre vs (vs.map Builtin.Re.reRawOf) := ints_of vs fun v hv => by
    obtain ⟨e, he, e2⟩ := List.mem_map.mp (pm.mem_iff.mp hv)
    obtain ⟨k, tk, e3, _⟩ := ge e he
    exact ⟨k, tk, e2.symm.trans e3⟩
  have pk : (vs.map Builtin.Re.reRawOf).Perm (es.toList.map keyOf) := by
    have := pm.map Builtin.Re.reRawOf
    rw [List.map_map] at this
    exact this
  refine wpAny_bind (wpAny_newList ?_ lv)
  have at1 : (z.heap.push (seqObj "list" vs.toArray 0)).get? z.heap.objs.size = some (seqObj "list" vs.toArray 0) := Heap.get?_push_size _ rfl
  refine wpAny_bind (wpAny_holding (wpAny_call_entry PyProof.Rows.slot_list_sort ⟨_, at1, rfl⟩ PyProof.Rows.entry_list_sort
    (SrtO.list_sort_ord (s := { z with heap := z.heap.push (seqObj "list" vs.toArray 0) }) SrtO.swo_int at1 lv (fun h2 => SrtO.ints_sortable hints h2) fun out u1 u2 => ⟨_, rfl, ?_⟩) (PyProof.Rows.args_list_sort _)))
  obtain ⟨w1, w2, w3⟩ := SrtO.ints_out hints u1 u2
  obtain ⟨ep2, at2⟩ := PyProof.Rows.sortedHeap_at (vs := vs) (out := out.toArray) at1
  have pn := w2.trans pk
  have kept : ∀ b u, s.heap.get? b = some u → (sortedHeap (z.heap.push (seqObj "list" vs.toArray 0)) z.heap.objs.size vs out.toArray).get? b = some u := fun b u e => by
    have e1 := kz b u e
    have lb := Heap.lt_size e1
    rw [PyProof.Rows.sortedHeap_old (Nat.ne_of_lt lb) (by rw [size_push']; exact Nat.lt_succ_of_lt lb)]
    exact Heap.get?_push_of_some _ e1
  have lo : ((out.map SrtO.iv).map V.int).length ≤ sizeLine := by
    rw [List.length_map, pn.length_eq, List.length_map, Array.length_toList]
    exact Nat.le_trans (Nat.le_of_lt hb) (by decide)
  have fresh : H z.heap.objs.size = none := I.hok.fresh lz
  have J : Inv X pins σ (upd H z.heap.objs.size (.lst ((out.map SrtO.iv).map V.int))) { s with heap := sortedHeap (z.heap.push (seqObj "list" vs.toArray 0)) z.heap.objs.size vs out.toArray, gens := z.gens, drawn := z.drawn, toks := z.toks } :=
    I.call (ch := []) (Un.laid kept lz fresh) (I.hok.laid kept lz ⟨lo, out, ep2, vals_of_ints w1, at2⟩) (by rw [gz]; exact I.bare) (fun _ y => nomatch y)
  refine wpAny_pure ⟨_, rfl, .ref _, _, ?_, rfl, q (out.map SrtO.iv) z.heap.objs.size (lt_of_le_nodup _ w3 (pn.nodup_iff.mpr nd)) (fun k => by rw [pn.mem_iff, ← hm k]) fresh⟩
  have eo : z.os = s.os := oz
  obtain ⟨zh, zg, zd, zt, zo⟩ := z
  have eo : zo = s.os := eo
  subst eo
  exact J
theorem op_notInK {K : PySem.W.Frag} (hK : X.K = K) : OpR X (compareOp .NotIn) (rIn K true) := by
  subst hK
  exact op_notIn_seq
end
theorem bt_set : bootBuiltins "set" = some (.type "set") := by decide +kernel
end Tp
set_option Elab.async false
set_option linter.all false
set_option maxRecDepth 100000
set_option maxHeartbeats 4000000
namespace Tp
open PySem PySem.Spec PyProof.Rows L2
section
variable {X : Cx} {CX : CXT} {k : Nat} {f C : Addr} {fd : FuncData} {ps : List Str} {sp : Sp} {E : XK}
end
end Tp
set_option Elab.async false
set_option linter.all false
set_option maxRecDepth 100000
set_option maxHeartbeats 4000000
namespace Tp
open PySem PySem.Spec PyProof.Rows L2
section
variable {X : Cx} {CX : CXT} {k : Nat} {f C : Addr} {fd : FuncData} {ps : List Str} {sp : Sp} {dvs : List V} {ds : List Value} {E : L2.St → XK} {x : Str} {p pos : Pos}
end
section
open PySem.AutoSeq1 (wpAny_loadPart')
theorem tup_dec_dict (l b : Addr) (its : Array Value) (n : Nat) (dd dd2 : Option Addr) (sl sl2 : Array (Option Value)) (es : Array DictEntry) (ep : Nat) :
    Meets (Builtin.«tuple.__eq__» ⟨[.ref l, .ref b], []⟩) (fun _ R s => s.heap.get? l = some ⟨.type "tuple", dd, .seq its n, sl⟩ ∧ s.heap.get? b = some ⟨.type "dict", dd2, .dict es ep, sl2⟩ ∧ R (.ok (.ret .notImplemented)) s) :=
  .of_wp fun _ _ _ _ st z => by
    obtain ⟨hp, g, d, tk, os⟩ := st
    obtain ⟨z1, z2, z3⟩ := z
    have f1 := F.sub_dict_tuple
    wp_walk using wpAny_loadPart' z1, wpAny_loadPart' z2
    exact ⟨_, rfl, z3⟩
theorem dict_dec_tup (l b : Addr) (its : Array Value) (n : Nat) (dd dd2 : Option Addr) (sl sl2 : Array (Option Value)) (es : Array DictEntry) (ep : Nat) :
    Meets (Builtin.«dict.__eq__» ⟨[.ref b, .ref l], []⟩) (fun _ R s => s.heap.get? l = some ⟨.type "tuple", dd, .seq its n, sl⟩ ∧ s.heap.get? b = some ⟨.type "dict", dd2, .dict es ep, sl2⟩ ∧ R (.ok (.ret .notImplemented)) s) :=
  .of_wp fun _ _ _ _ st z => by
    obtain ⟨hp, g, d, tk, os⟩ := st
    obtain ⟨z1, z2, z3⟩ := z
    have f1 := F.sub_tuple_dict
    wp_walk using wpAny_loadPart' z1, wpAny_loadPart' z2
    exact ⟨_, rfl, z3⟩
theorem str_dec_dict (x : Str) (t : Tok) (b : Addr) (dd2 : Option Addr) (sl2 : Array (Option Value)) (es : Array DictEntry) (ep : Nat) :
    Meets (Builtin.«str.__eq__» ⟨[.str x t, .ref b], []⟩) (fun _ R s => s.heap.get? b = some ⟨.type "dict", dd2, .dict es ep, sl2⟩ ∧ R (.ok (.ret .notImplemented)) s) :=
  .of_wp fun _ _ _ _ st z => by
    obtain ⟨hp, g, d, tk, os⟩ := st
    obtain ⟨z2, z3⟩ := z
    have f1 := F.sub_dict_str
    wp_walk using wpAny_loadPart' z2, wpAny_load z2
    exact ⟨_, rfl, z3⟩
theorem dict_dec_str (x : Str) (t : Tok) (b : Addr) (dd2 : Option Addr) (sl2 : Array (Option Value)) (es : Array DictEntry) (ep : Nat) :
    Meets (Builtin.«dict.__eq__» ⟨[.ref b, .str x t], []⟩) (fun _ R s => s.heap.get? b = some ⟨.type "dict", dd2, .dict es ep, sl2⟩ ∧ R (.ok (.ret .notImplemented)) s) :=
  .of_wp fun _ _ _ _ st z => by
    obtain ⟨hp, g, d, tk, os⟩ := st
    obtain ⟨z2, z3⟩ := z
    have f1 := F.sub_str_dict
    wp_walk using wpAny_loadPart' z2, wpAny_load z2
    exact ⟨_, rfl, z3⟩
theorem int_dec_dict (x : Int) (t : Tok) (b : Addr) (dd2 : Option Addr) (sl2 : Array (Option Value)) (es : Array DictEntry) (ep : Nat) :
    Meets (Builtin.«int.__eq__» ⟨[.int x t, .ref b], []⟩) (fun _ R s => s.heap.get? b = some ⟨.type "dict", dd2, .dict es ep, sl2⟩ ∧ R (.ok (.ret .notImplemented)) s) :=
  .of_wp fun _ _ _ _ st z => by
    obtain ⟨hp, g, d, tk, os⟩ := st
    obtain ⟨z2, z3⟩ := z
    have f1 := F.sub_dict_int
    wp_walk using wpAny_loadPart' z2, wpAny_load z2
    exact ⟨_, rfl, z3⟩
theorem dict_dec_int (x : Int) (t : Tok) (b : Addr) (dd2 : Option Addr) (sl2 : Array (Option Value)) (es : Array DictEntry) (ep : Nat) :
    Meets (Builtin.«dict.__eq__» ⟨[.ref b, .int x t], []⟩) (fun _ R s => s.heap.get? b = some ⟨.type "dict", dd2, .dict es ep, sl2⟩ ∧ R (.ok (.ret .notImplemented)) s) :=
  .of_wp fun _ _ _ _ st z => by
    obtain ⟨hp, g, d, tk, os⟩ := st
    obtain ⟨z2, z3⟩ := z
    have f1 := F.sub_int_dict
    wp_walk using wpAny_loadPart' z2, wpAny_load z2
    exact ⟨_, rfl, z3⟩
def DicAt (h : Heap) (b : Addr) : Prop := ∃ dd es ep sl, h.get? b = some ⟨.type "dict", dd, .dict es ep, sl⟩
section
variable {A : Around} {s : Shared}
theorem ne_tup_dic {l b : Addr} {its : Array Value} (hl : s.heap.IsTuple l its) (hb : DicAt s.heap b) : l ≠ b := fun e => by
  subst e
  obtain ⟨o, ho, hc, _⟩ := hl
  obtain ⟨dd, es, ep, sl, h⟩ := hb
  rw [ho] at h
  cases h
  exact absurd hc (by simp)
theorem rc_tup_dic {l b : Addr} {its : Array Value} (hl : s.heap.IsTuple l its) (hb : DicAt s.heap b) (hu : A.units < cLine) : SeqAt.RcAt A s (.ref l) (.ref b) false := fun prog w E Q h => by
  have ne := ne_tup_dic hl hb
  obtain ⟨⟨cls, dd, data, sl⟩, ho, hc, n, hd⟩ := hl
  obtain ⟨dd2, es, ep, sl2, ho2⟩ := hb
  simp only at hc hd
  subst hc hd
  refine SeqAt.rc_eq_decline_or (k := false) (Ta := "tuple") (Tb := "dict") ⟨_, ho, rfl⟩ ⟨_, ho2, rfl⟩ (by decide) F.sub_dict_tuple F.slot_tuple_eq F.slot_dict_eq_refl ?_ ?_ ?_ (.inr hu) h
  · exact fun _ hq => call_meets F.slot_tuple_eq ⟨_, ho, rfl⟩ F.entry_tuple_eq (F.args_tuple_eq_2 _ _) (tup_dec_dict l b its n dd dd2 sl sl2 es ep) ⟨ho, ho2, hq⟩
  · exact fun _ hq => call_meets F.slot_dict_eq_refl ⟨_, ho2, rfl⟩ F.entry_dict_eq (F.args_dict_eq_2 _ _) (dict_dec_tup l b its n dd dd2 sl sl2 es ep) ⟨ho, ho2, hq⟩
  · exact fun _ hq => SeqAt.wpAny_isSame_ref_other' ne ho ho2 (by simp) hq
theorem eq_tup_dic {l b : Addr} {its : Array Value} (hl : s.heap.IsTuple l its) (hb : DicAt s.heap b) (hu : A.units < cLine) : SeqAt.EqAt A s (.ref l) (.ref b) false := .of_refs (ne_tup_dic hl hb) (rc_tup_dic hl hb hu)
theorem eq_str_dic {x : Str} {t : Tok} {b : Addr} (hb : DicAt s.heap b) (hu : A.units < cLine) : SeqAt.EqAt A s (.str x t) (.ref b) false := fun prog w E Q h => by
  obtain ⟨dd2, es, ep, sl2, ho2⟩ := hb
  unfold eqBool
  refine wpAny_holding (wpAny_ite_split (fun z => absurd (eq_of_beq z) nofun) (fun _ => wpAny_bind ?_))
  refine SeqAt.rc_eq_decline_or (k := false) (Ta := "str") (Tb := "dict") (typeIs_str s x t) ⟨_, ho2, rfl⟩ (by decide) F.sub_dict_str F.slot_str_eq F.slot_dict_eq_refl ?_ ?_ ?_ (.inr hu) (wpAny_truthy_bool h)
  · exact fun _ hq => call_meets F.slot_str_eq (typeIs_str s x t) F.entry_str_eq (F.args_str_eq_2 _ _) (str_dec_dict x t b dd2 sl2 es ep) ⟨ho2, hq⟩
  · exact fun _ hq => call_meets F.slot_dict_eq_refl ⟨_, ho2, rfl⟩ F.entry_dict_eq (F.args_dict_eq_2 _ _) (dict_dec_str x t b dd2 sl2 es ep) ⟨ho2, hq⟩
  · exact fun _ hq => wpAny_of_eq (rfl : isSame (.str x t) (.ref b) = pure false) hq
theorem eq_int_dic {x : Int} {t : Tok} {b : Addr} (hb : DicAt s.heap b) (hu : A.units < cLine) : SeqAt.EqAt A s (.int x t) (.ref b) false := fun prog w E Q h => by
  obtain ⟨dd2, es, ep, sl2, ho2⟩ := hb
  unfold eqBool
  refine wpAny_holding (wpAny_ite_split (fun z => absurd (eq_of_beq z) nofun) (fun _ => wpAny_bind ?_))
  refine SeqAt.rc_eq_decline_or (k := false) (Ta := "int") (Tb := "dict") (typeIs_int s x t) ⟨_, ho2, rfl⟩ (by decide) F.sub_dict_int F.slot_int_eq F.slot_dict_eq_refl ?_ ?_ ?_ (.inr hu) (wpAny_truthy_bool h)
  · exact fun _ hq => call_meets F.slot_int_eq (typeIs_int s x t) F.entry_int_eq (F.args_int_eq_2 _ _) (int_dec_dict x t b dd2 sl2 es ep) ⟨ho2, hq⟩
  · exact fun _ hq => call_meets F.slot_dict_eq_refl ⟨_, ho2, rfl⟩ F.entry_dict_eq (F.args_dict_eq_2 _ _) (dict_dec_int x t b dd2 sl2 es ep) ⟨ho2, hq⟩
  · exact fun _ hq => wpAny_of_eq (rfl : isSame (.int x t) (.ref b) = pure false) hq
end
end
mutual
inductive NeV (K : PySem.W.Frag) (H : Hp) : V → V → Prop
  | int {i : Int} {b : Addr} : NeV K H (.int i) (.ref b)
  | str {z : Str} {b : Addr} : NeV K H (.str z) (.ref b)
  | tup {a b : Addr} {xs ys : List V} : SqT K H a xs → SqT K H b ys → NeVs K H xs ys → NeV K H (.ref a) (.ref b)
inductive NeVs (K : PySem.W.Frag) (H : Hp) : List V → List V → Prop
  | nil {y : V} {ys : List V} : NeVs K H [] (y :: ys)
  | hd {x y : V} {xs ys : List V} : NeV K H x y → NeVs K H (x :: xs) (y :: ys)
  | tl {x y : V} {xs ys : List V} : NeVs K H xs ys → NeVs K H (x :: xs) (y :: ys)
end
mutual
inductive EqZ (K : PySem.W.Frag) (H : Hp) : Nat → V → V → Bool → Prop
  | data {n : Nat} {v x : V} {d e : PyData} : Dp K H v d → Dp K H x e → d.canLay0 = true → e.canLay0 = true → d.depth ≤ n → EqZ K H n v x (PyData.eqv d e)
  | tup {n : Nat} {a b : Addr} {xs : List V} : SqT K H a xs → H b = some (.dK []) → EqZ K H n (.ref a) (.ref b) false
  | str {n : Nat} {x : Str} {b : Addr} : H b = some (.dK []) → EqZ K H n (.str x) (.ref b) false
  | int {n : Nat} {x : Int} {b : Addr} : H b = some (.dK []) → EqZ K H n (.int x) (.ref b) false
  | intT {n : Nat} {x : Int} {b : Addr} {ys : List V} : SqT K H b ys → EqZ K H n (.int x) (.ref b) false
  | tups {n : Nat} {a b : Addr} {xs ys : List V} {p : Bool} : NeVs K H xs ys → SqT K H a xs → SqT K H b ys → EqZs K H n xs ys p → EqZ K H (n + 1) (.ref a) (.ref b) (p && xs.length == ys.length)
inductive EqZs (K : PySem.W.Frag) (H : Hp) : Nat → List V → List V → Bool → Prop
  | nil1 {n : Nat} {ys : List V} : EqZs K H n [] ys true
  | nil2 {n : Nat} {xs : List V} : EqZs K H n xs [] true
  | cons {n : Nat} {x y : V} {xs ys : List V} {p q : Bool} : EqZ K H n x y p → EqZs K H n xs ys q → EqZs K H n (x :: xs) (y :: ys) (p && q)
end
section
variable {X : Cx} {pins : List (Addr × Obj)} {σ : L2.St} {H : Hp} {s : Shared}
theorem dic_at (I : Inv X pins σ H s) {b : Addr} (h : H b = some (.dK [])) : DicAt s.heap b := by
  obtain ⟨_, ya, va, ra, da⟩ := (show ObjOk X.prog X.w H s.heap b (.dK []) from I.hok b _ h)
  obtain ⟨⟨c, dd, dt, sl⟩, es, ep, e1, ⟨e2, _, _⟩, e3, _⟩ := da
  simp only at e2 e3
  subst e2 e3
  exact ⟨_, _, _, _, e1⟩
mutual
theorem NeV.at (I : Inv X pins σ H s) : ∀ {v x : V}, NeV X.K H v x → ∀ (u : Value), RelV v u → RelV x u → False
  | _, _, .int, u, r1, r2 => by
    obtain ⟨t, rfl⟩ := r1
    cases r2
  | _, _, .str, u, r1, r2 => by
    obtain ⟨t, rfl⟩ := r1
    cases r2
  | _, _, .tup h1 h2 z, u, r1, r2 => by
    cases r1
    cases r2
    obtain ⟨its, rv, ⟨o, e1, _, n, d1⟩, _⟩ := I.tuple h1
    obtain ⟨its2, rv2, ⟨o2, e2, _, n2, d2⟩, _⟩ := I.tuple h2
    rw [e1] at e2
    cases e2
    rw [d1] at d2
    injection d2 with d2 _
    have : its = its2 := by simpa using d2
    subst this
    exact NeVs.at I z its rv rv2
theorem NeVs.at (I : Inv X pins σ H s) : ∀ {xs ys : List V}, NeVs X.K H xs ys → ∀ (us : List Value), Vals xs us → Vals ys us → False
  | _, _, .nil, us, r1, r2 => by
    cases r1
    cases r2
  | _, _, .hd h, us, r1, r2 => by
    cases r1 with
    | cons a b =>
      cases r2 with
      | cons c d => exact NeV.at I h _ a c
  | _, _, .tl h, us, r1, r2 => by
    cases r1 with
    | cons a b =>
      cases r2 with
      | cons c d => exact NeVs.at I h _ b d
end
mutual
theorem EqZ.at (I : Inv X pins σ H s) : ∀ {n : Nat} {v x : V} {b : Bool}, EqZ X.K H n v x b → ∀ (A : Around) (u w : Value), RelV v u → RelV x w → A.units + n < cLine → SeqAt.EqAt A s u w b
  | n, _, _, _, .data (d := d) (e := e) h1 h2 c1 c2 dn, A, u, w, ru, rw_, hu => by
    obtain ⟨as, r1⟩ := Dp.reads I d _ u h1 ru
    obtain ⟨bs, r2⟩ := Dp.reads I e _ w h2 rw_
    exact SeqAt.eqAt_reads d e A s u w as bs r1 r2 c1 c2 (Nat.lt_of_le_of_lt (Nat.add_le_add_left (Nat.le_trans (Nat.min_le_left _ _) dn) _) hu)
  | n, _, _, _, .tup h1 h2, A, u, w, ru, rw_, hu => by
    obtain ⟨its, rv, it, _⟩ := I.tuple h1
    cases ru
    cases rw_
    exact eq_tup_dic it (dic_at I h2) (by omega)
  | n, _, _, _, .str h2, A, u, w, ru, rw_, hu => by
    obtain ⟨t, rfl⟩ := ru
    cases rw_
    exact eq_str_dic (dic_at I h2) (by omega)
  | n, _, _, _, .int h2, A, u, w, ru, rw_, hu => by
    obtain ⟨t, rfl⟩ := ru
    cases rw_
    exact eq_int_dic (dic_at I h2) (by omega)
  | n, _, _, _, .intT h2, A, u, w, ru, rw_, hu => by
    obtain ⟨its, rv, it, _⟩ := I.tuple h2
    obtain ⟨t, rfl⟩ := ru
    cases rw_
    exact SeqAt.EqAt.int_tuple _ t it (by omega)
  | _, _, _, _, .tups (n := n) (a := a) (b := b) (xs := xs) (ys := ys) ne h1 h2 z, A, u, w, ru, rw_, hu => by
    obtain ⟨its, rv, it, _⟩ := I.tuple h1
    obtain ⟨its2, rv2, it2, _⟩ := I.tuple h2
    cases ru
    cases rw_
    obtain ⟨e, he, ha⟩ := EqZs.at I z A.in1 its its2 rv rv2 (show A.units + 1 + n < cLine by omega)
    have := SeqAt.RcAt.tuples (e := e) it it2 (show A.units < cLine by omega) (fun j g1 g2 => by
      have g1' : j < its.length := by simpa using g1
      have g2' : j < its2.length := by simpa using g2
      simpa using he j _ _ (List.getElem?_eq_getElem g1') (List.getElem?_eq_getElem g2'))
    have ne : a ≠ b := fun z => by
      subst z
      exact NeV.at I (.tup h1 h2 ne) _ rfl rfl
    refine .of_refs ne ?_
    have e1 : its.toArray.size = xs.length := by simpa using rv.length.symm
    have e2 : its2.toArray.size = ys.length := by simpa using rv2.length.symm
    rw [e1, e2] at this
    rw [rv.length, rv2.length, ha] at this
    rw [rv.length, rv2.length]
    exact this
theorem EqZs.at (I : Inv X pins σ H s) : ∀ {n : Nat} {xs ys : List V} {p : Bool}, EqZs X.K H n xs ys p → ∀ (A : Around) (us ws : List Value), Vals xs us → Vals ys ws → A.units + n < cLine →
    ∃ e : Nat → Bool, (∀ (j : Nat) (a b : Value), us[j]? = some a → ws[j]? = some b → SeqAt.EqAt A s a b (e j)) ∧ (List.range (min us.length ws.length)).all e = p
  | n, _, _, _, .nil1, A, us, ws, ru, rw_, hu => by
    cases ru
    exact ⟨fun _ => true, (fun j a b h => by cases h), by simp⟩
  | n, _, _, _, .nil2, A, us, ws, ru, rw_, hu => by
    cases rw_
    exact ⟨fun _ => true, (fun j a b _ h => by cases h), by simp⟩
  | n, _, _, _, .cons (p := p) (q := q) h t, A, us, ws, ru, rw_, hu => by
    cases ru with
    | cons r1 r2 =>
      cases rw_ with
      | cons w1 w2 =>
        obtain ⟨e, he, ha⟩ := EqZs.at I t A _ _ r2 w2 hu
        refine ⟨fun j => match j with | 0 => p | j + 1 => e j, fun j a b g1 g2 => ?_, ?_⟩
        · cases j with
          | zero =>
            cases g1
            cases g2
            exact EqZ.at I h A _ _ r1 w1 hu
          | succ j => exact he j a b g1 g2
        · rw [List.length_cons, List.length_cons, Nat.add_min_add_right, List.range_succ_eq_map, List.all_cons, List.all_map, ← ha]
          rfl
end
end
end Tp
set_option Elab.async false
set_option linter.all false
set_option maxRecDepth 100000
set_option maxHeartbeats 4000000
namespace Tp
open PySem PySem.Spec PyProof.Rows L2
section
variable {prog : Program} {w : World} {A : Around} {E : Value → Shared → Prop} {s : Shared}
end
end Tp
set_option Elab.async false
set_option linter.all false
set_option maxRecDepth 100000
set_option maxHeartbeats 4000000
namespace Tp
open PySem PySem.Spec PyProof.Rows L2
end Tp
set_option Elab.async false
set_option linter.all false
set_option maxRecDepth 100000
set_option maxHeartbeats 4000000
namespace Tp
open PySem PySem.Spec PyProof.Rows L2
end Tp
set_option Elab.async false
set_option linter.all false
set_option maxRecDepth 100000
set_option maxHeartbeats 4000000
namespace Tp
open PySem PySem.Spec PyProof.Rows L2
structure NEdge where
  src : Str
  st : List Nat
deriving DecidableEq
structure NGate where
  nm : Str
  sy : Str
  es : List NEdge
deriving DecidableEq
def EdgeAt (K : PySem.W.Frag) (H : Hp) (e : NEdge) (v : V) : Prop := ∃ p c q c', v = .ref p ∧ SqB c K H p [.str e.src, .ref q] ∧ SqB c' K H q (numsV e.st)
def GateAt (K : PySem.W.Frag) (H : Hp) (g : NGate) (v : V) : Prop := ∃ p c q c' us, v = .ref p ∧ SqB c K H p [.str g.nm, .str g.sy, .ref q] ∧ SqB c' K H q us ∧ Paired (EdgeAt K H) g.es us
theorem EdgeAt.same {K : PySem.W.Frag} {H H' : Hp} {e : NEdge} {v : V} (h : EdgeAt K H e v) (S : Same H H') : EdgeAt K H' e v := by
  obtain ⟨p, c, q, c', e1, h1, h2⟩ := h
  exact ⟨p, c, q, c', e1, h1.same S, h2.same S⟩
theorem GateAt.same {K : PySem.W.Frag} {H H' : Hp} {g : NGate} {v : V} (h : GateAt K H g v) (S : Same H H') : GateAt K H' g v := by
  obtain ⟨p, c, q, c', us, e1, h1, h2, h3⟩ := h
  exact ⟨p, c, q, c', us, e1, h1.same S, h2.same S, paired_imp (fun _ _ h => h.same S) h3⟩
def Rdy (names ord : List Str) (g : NGate) : Prop := ∀ e ∈ g.es, e.st ≠ [] ∨ e.src ∉ names ∨ e.src ∈ ord
instance {names ord : List Str} {g : NGate} : Decidable (Rdy names ord g) := by unfold Rdy; infer_instance
structure OrdOk (gs : List NGate) (ord : List Str) : Prop where
  nd : ord.Nodup
  sub : ∀ x ∈ ord, x ∈ gs.map NGate.nm
  why : ∀ (i : Nat) (x : Str), ord[i]? = some x → ∃ g ∈ gs, g.nm = x ∧ Rdy (gs.map NGate.nm) (ord.take i) g
theorem sub_lenS : ∀ {l m : List Str}, l.Nodup → (∀ x ∈ l, x ∈ m) → l.length ≤ m.length
  | [], _, _, _ => Nat.zero_le _
  | x :: l, m, nd, h => by
    obtain ⟨m1, m2, rfl⟩ := List.append_of_mem (h x List.mem_cons_self)
    obtain ⟨nx, nl⟩ := List.nodup_cons.mp nd
    have := sub_lenS (m := m1 ++ m2) nl fun y hy => by
      rcases List.mem_append.mp (h y (List.mem_cons_of_mem _ hy)) with k | k
      · exact List.mem_append_left _ k
      · rcases List.mem_cons.mp k with k | k
        · rw [k] at hy
          exact absurd hy nx
        · exact List.mem_append_right _ k
    rw [List.length_append] at this ⊢
    rw [List.length_cons, List.length_cons]
    omega
theorem OrdOk.len {gs : List NGate} {ord : List Str} (h : OrdOk gs ord) : ord.length ≤ gs.length := by
  have := sub_lenS h.nd h.sub
  rw [List.length_map] at this
  exact this
end Tp
set_option Elab.async false
set_option linter.all false
set_option maxRecDepth 100000
set_option maxHeartbeats 4000000
namespace Tp
open PySem PySem.Spec PyProof.Rows L2
theorem take_succ {α : Type} {l : List α} {i : Nat} {r : α} (h : l[i]? = some r) : l.take (i + 1) = l.take i ++ [r] := by
  rw [List.take_add_one, h]
  rfl
theorem paired_rev {α β : Type} {F : α → β → Prop} {l : List α} {m : List β} (h : Paired F l m) {i : Nat} {b : β} (hb : m[i]? = some b) : ∃ a, l[i]? = some a ∧ F a b := by
  have il : i < l.length := by
    have := (List.getElem?_eq_some_iff.mp hb).1
    have := Paired.length h
    omega
  have ha : l[i]? = some l[i] := List.getElem?_eq_getElem il
  obtain ⟨b', hb', f⟩ := Tp.paired_get h ha
  rw [hb] at hb'
  cases hb'
  exact ⟨_, ha, f⟩
theorem getD_mem {l : List Nat} {n : Nat} (h : n < l.length) : l.getD n 0 ∈ l := by
  rw [List.getD_eq_getElem?_getD, List.getElem?_eq_getElem h]
  exact List.getElem_mem h
def StackOk (rows : List BRow) (st : List (Nat × Nat)) : Prop := (st.map (·.1)).Pairwise (· < ·) ∧ ∀ p ∈ st, p.1 < rows.length
theorem StackOk.len {rows : List BRow} {st : List (Nat × Nat)} (h : StackOk rows st) : st.length ≤ rows.length := by
  have key : ∀ {l : List Nat} {n : Nat}, l.Pairwise (· < ·) → (∀ x ∈ l, x < n) → l.length ≤ n := by
    intro l
    induction l with
    | nil => intro n _ _; exact Nat.zero_le _
    | cons x l ih =>
      intro n hp hl
      obtain ⟨h1, h2⟩ := List.pairwise_cons.mp hp
      have : l.length ≤ n - (x + 1) := by
        have key2 : ∀ {l : List Nat} {a b : Nat}, l.Pairwise (· < ·) → (∀ x ∈ l, a ≤ x ∧ x < b) → l.length ≤ b - a := by
          intro l
          induction l with
          | nil => intro a b _ _; exact Nat.zero_le _
          | cons y l ih2 =>
            intro a b hp hl
            obtain ⟨h1, h2⟩ := List.pairwise_cons.mp hp
            have hy := hl y List.mem_cons_self
            have := ih2 (a := y + 1) (b := b) h2 fun z hz => ⟨h1 z hz, (hl z (List.mem_cons_of_mem _ hz)).2⟩
            rw [List.length_cons]
            omega
        exact key2 h2 fun z hz => ⟨h1 z hz, hl z (List.mem_cons_of_mem _ hz)⟩
      have hx := hl x List.mem_cons_self
      rw [List.length_cons]
      omega
  have := key h.1 fun x hx => by
    obtain ⟨p, hp, rfl⟩ := List.mem_map.mp hx
    exact h.2 p hp
  rw [List.length_map] at this
  exact this
theorem StackOk.tail {rows : List BRow} {e : Nat × Nat} {st : List (Nat × Nat)} (h : StackOk rows (e :: st)) : StackOk rows st := ⟨(List.pairwise_cons.mp h.1).2, fun p hp => h.2 p (List.mem_cons_of_mem _ hp)⟩
end Tp
set_option Elab.async false
set_option linter.all false
set_option maxRecDepth 100000
set_option maxHeartbeats 4000000
namespace Tp
open PySem PySem.Spec PyProof.Rows L2
section
variable {prog : Program} {w : World} {A : Around} {E : Value → Shared → Prop} {s : Shared}
end
section
variable {K : PySem.W.Frag} {H : Hp} {c : Bool} {p : Addr} {xs : List V}
theorem SqB.lt (h : SqB c K H p xs) : ∃ t, TyX K H (.ref p) t ∧ PySem.W.kitAny K t [.type "list", .type "tuple"] = some true := by
  cases c
  · exact ⟨_, ty_sqL h, kit_lt (.list [])⟩
  · exact ⟨_, ty_sqT h, kit_lt (.tuple [])⟩
end
def TermAt (K : PySem.W.Frag) (H : Hp) (r : BRow) (v : V) : Prop := ∃ p c q c', v = .ref p ∧ SqB c K H p [.str r.nm, .ref q] ∧ SqB c' K H q (numsV r.args)
theorem TermAt.same {K : PySem.W.Frag} {H H' : Hp} {r : BRow} {v : V} (h : TermAt K H r v) (S : Same H H') : TermAt K H' r v := by
  obtain ⟨p, c, q, c', e, h1, h2⟩ := h
  exact ⟨p, c, q, c', e, h1.same S, h2.same S⟩
end Tp
set_option Elab.async false
set_option linter.all false
set_option maxRecDepth 100000
set_option maxHeartbeats 4000000
namespace Tp
open PySem PySem.Spec PyProof.Rows L2
theorem Kp2.old {l m : Addr} {H H1 H2 : Hp} (k : Kp2 l m H1 H2) (S : Same H H1) (hl : H l = none) (hm : H m = none) : Same H H2 := fun a o h => k a o (ne_of_none h hl) (ne_of_none h hm) (S a o h)
structure TabAt (P : Program) (w : World) (K : PySem.W.Frag) (C : Addr) (H : Hp) (x l m : Addr) (rows : List BRow) (as : List Addr) : Prop where
  obj : ∃ dx, H x = some (.ins C dx [("own_rows", .ref l), ("own_numbers", .ref m)])
  lst : H l = some (.lst (as.map V.ref))
  num : H m = some (dN P w m (ents 0 rows as))
  row : Paired (RowAt K H) rows as
  nd : rows.Nodup
  few : rows.length ≤ 100000
section
variable {P : Program} {w : World} {K : PySem.W.Frag} {C x l m : Addr} {H H' : Hp} {rows : List BRow} {as : List Addr}
theorem TabAt.len (b : TabAt P w K C H x l m rows as) : rows.length = as.length := Paired.length b.row
theorem TabAt.nok (b : TabAt P w K C H x l m rows as) : NOk K H (ents 0 rows as) := fun y hy => by
  obtain ⟨r, a, h, e1, e2⟩ := ents_mem b.row hy
  rw [e1, e2]
  exact ⟨h.nk, key_depth r⟩
theorem TabAt.same (b : TabAt P w K C H x l m rows as) (S : Same H H') : TabAt P w K C H' x l m rows as :=
  ⟨let ⟨dx, h⟩ := b.obj; ⟨dx, S _ _ h⟩, S _ _ b.lst, S _ _ b.num, paired_imp (fun _ _ h => h.same S) b.row, b.nd, b.few⟩
theorem TabAt.sameT (b : TabAt P w K C H x l m rows as) (k : Kp2 l m H H') : SameT H H' :=
  ⟨fun a xs h => k a _ (fun z => by rw [z, b.lst] at h; cases h) (fun z => by rw [z, b.num] at h; cases h) h, fun a o xs h => k a _ (fun z => by rw [z, b.lst] at h; cases h) (fun z => by rw [z, b.num] at h; cases h) h⟩
theorem TabAt.nlm (b : TabAt P w K C H x l m rows as) : l ≠ m := fun z => by
  have h := b.lst
  rw [z, b.num] at h
  cases h
theorem TabAt.nxl (b : TabAt P w K C H x l m rows as) : x ≠ l := fun z => by
  obtain ⟨dx, h⟩ := b.obj
  rw [z, b.lst] at h
  cases h
theorem TabAt.nxm (b : TabAt P w K C H x l m rows as) : x ≠ m := fun z => by
  obtain ⟨dx, h⟩ := b.obj
  rw [z, b.num] at h
  cases h
theorem TabAt.get (b : TabAt P w K C H x l m rows as) {i : Nat} {r : BRow} (h : rows[i]? = some r) : ∃ a, (as.map V.ref)[i]? = some (.ref a) ∧ RowAt K H r a := by
  obtain ⟨a, ha, hr⟩ := paired_get b.row h
  exact ⟨a, by rw [List.getElem?_map, ha]; rfl, hr⟩
end
end Tp
set_option Elab.async false
set_option linter.all false
set_option maxRecDepth 100000
set_option maxHeartbeats 4000000
namespace Tp
open PySem PySem.Spec PyProof.Rows L2
structure Parts where
  ins : List Str
  gs : List NGate
  outs : List NEdge
  tms : List BRow
def edgeD (e : NEdge) : PyData := .tuple [.str e.src, .tuple (numsD e.st)]
def gateD (g : NGate) : PyData := .tuple [.str g.nm, .str g.sy, .tuple (g.es.map edgeD)]
def netF (t1 t2 t3 t5 t6 q : Addr) : List (Str × V) := [("own_terms", .ref t1), ("own_inputs", .ref t2), ("own_gates", .ref t3), ("own_outs", .ref t5), ("own_rows", .ref t6), ("own_order", .ref q)]
def NetAt (K : PySem.W.Frag) (C : Addr) (H : Hp) (x : Addr) (N : Parts) : Prop := ∃ (dx t1 t2 t3 t5 t6 q : Addr), H x = some (.ins C dx (netF t1 t2 t3 t5 t6 q)) ∧
  Dp K H (.ref t1) (.tuple (N.tms.map BRow.data)) ∧ Dp K H (.ref t2) (.tuple (N.ins.map .str)) ∧ Dp K H (.ref t3) (.tuple (N.gs.map gateD)) ∧ Dp K H (.ref t5) (.tuple (N.outs.map edgeD)) ∧ SqT K H t6 [.ref t2, .ref t3, .ref t5, .ref t1] ∧ ∃ ord : List Str, H q = some (.lst (ord.map V.str))
theorem NetAt.same {K : PySem.W.Frag} {C : Addr} {H H' : Hp} {x : Addr} {N : Parts} (h : NetAt K C H x N) (S : Same H H') : NetAt K C H' x N := by
  obtain ⟨dx, t1, t2, t3, t5, t6, q, h0, h1, h2, h3, h5, h6, ord, h7⟩ := h
  exact ⟨dx, t1, t2, t3, t5, t6, q, S _ _ h0, (dp_same S).1 h1, (dp_same S).1 h2, (dp_same S).1 h3, (dp_same S).1 h5, sqT_same S h6, ord, S _ _ h7⟩
theorem strs_dp {K : PySem.W.Frag} {H : Hp} : ∀ {l : List Str} {vs : List V}, DpAll K H vs (l.map PyData.str) → vs = l.map V.str
  | [], _, .nil => rfl
  | _ :: _, _, .cons (.str _) t => by rw [strs_dp t]; rfl
end Tp
set_option Elab.async false
set_option linter.all false
set_option maxRecDepth 100000
set_option maxHeartbeats 4000000
namespace Tp
open PySem PySem.Spec PyProof.Rows L2
end Tp
set_option Elab.async false
set_option linter.all false
set_option maxRecDepth 100000
set_option maxHeartbeats 4000000
namespace Tp
open PySem PySem.Spec PyProof.Rows L2
def numBV : V → Int
  | .int n => n
  | .bl b => if b = true then 1 else 0
  | _ => 0
def isNumBV : V → Bool
  | .int _ => true
  | .bl _ => true
  | _ => false
theorem num_of {v : V} {u : Value} (r : L2.RelV v u) (h : isNumBV v = true) : NumOf (numBV v) u := by
  cases v with
  | int n => obtain ⟨t, rfl⟩ := r; exact .inl ⟨t, rfl⟩
  | bl b => cases r; exact .inr ⟨b, rfl, rfl⟩
  | _ => cases h
theorem sum_rawB {prog : Program} {w : World} {A : Around} {E : Value → Shared → Prop} {s : Shared} {l : Addr} {its : Array Value} {val : Nat → Int} {Q : Value → Shared → Prop} (hh : A.handled = none) (hl : s.heap.IsList l its)
    (hv : ∀ i v, its[i]? = some v → NumOf (val i) v)
    (h : ∀ h' tk t', (∀ b o, s.heap.get? b = some o → h'.get? b = some o) → Q (.int (preSum val its.size) t') { s with heap := h', toks := tk }) : wpAny (model prog w) A (call (.builtin "sum") [.ref l]) Q E s := by
  have ll : l < s.heap.objs.size := by obtain ⟨_, e, _⟩ := hl; exact Heap.lt_size e
  refine call_sum_walkAnyB (wpAny_pyIter_list hl ?_)
  refine ⟨_, _, _, _, _, _, _, val, rfl, (Walks.list (A := A.in1) hh _ l (Nat.ne_of_lt ll) its).toS, ⟨⟨_, Heap.get?_push_size _ rfl, rfl, rfl⟩, hl.push _⟩, fun b hb => ?_, fun i v hiv => hv i v hiv, fun s' t' hm => ?_⟩
  · show b < (s.heap.push _).objs.size
    rw [Heap.size_push]
    rcases List.mem_cons.mp hb with rfl | hb
    · exact Nat.lt_succ_self _
    · rcases List.mem_cons.mp hb with rfl | hb
      · exact Nat.lt_succ_of_lt ll
      · cases hb
  · rw [Moved.eq_with hm]
    exact h s'.heap s'.toks t' fun b o e => hm.heap b o (fun hmem => Nat.ne_of_lt (Heap.lt_size e) (List.mem_singleton.mp hmem)) (Heap.get?_push_of_some _ e)
def rSumB (K : PySem.W.Frag) : List V → Hp → VK → Prop := fun vs H Q => ∃ (a : Addr) (xs : List V), vs = [V.ref a] ∧ SqL K H a xs ∧ xs.all isNumBV = true ∧ Q (.int (xs.map numBV).sum) H
theorem cr_sumB {X : Cx} {K : PySem.W.Frag} (hK : X.K = K) (hc : X.calm = true) : CallR X (.builtin "sum") (rSumB K) := by
  subst hK
  intro pins s σ H vs us Q I r h
  obtain ⟨a, xs, rfl, hs, hn, q⟩ := h
  obtain ⟨its, rv, hl, _⟩ := I.list hs
  rw [Vals.ref1 r]
  have nx : ∀ (i : Nat) (v : V), xs[i]? = some v → isNumBV v = true := fun i v e => List.all_eq_true.mp hn v (List.mem_of_getElem? e)
  refine sum_rawB (val := fun i => numBV (xs.getD i .non)) (I.ok.hd hc) hl.isList (fun i v hv => ?_) fun h' tk t' hk => ?_
  · have hv' : its[i]? = some v := by simpa using hv
    have il : i < xs.length := by rw [L2.Vals.length rv]; exact (List.getElem?_eq_some_iff.mp hv').1
    have hx : xs[i]? = some xs[i] := List.getElem?_eq_getElem il
    obtain ⟨u, hu, rx⟩ := L2.Vals.get rv hx
    rw [hv'] at hu
    cases hu
    rw [List.getD_eq_getElem?_getD, hx]
    exact num_of rx (nx i _ hx)
  · refine ⟨.int _, H, I.kept hk, ⟨_, rfl⟩, ?_⟩
    have e : preSum (fun i => numBV (xs.getD i .non)) its.toArray.size = (xs.map numBV).sum := by
      have el : its.toArray.size = xs.length := by rw [List.size_toArray]; exact rv.length.symm
      rw [el, preSum_list (h := numBV) xs _ (fun i x hx => by rw [List.getD_eq_getElem?_getD, hx]; rfl) xs.length (Nat.le_refl _), List.take_length]
    rw [e]
    exact q
end Tp
set_option Elab.async false
set_option linter.all false
set_option maxRecDepth 100000
set_option maxHeartbeats 4000000
namespace Tp
open PySem PySem.Spec PyProof.Rows L2 LamX NdefX
theorem ce_bakN {P : Program} {w : World} {H : Hp} {cs : List Addr} {outer : List Env} {s s' : Shared} {Q : VK} {u : Value} (fz : ∀ c ∈ cs, ∃ ob, H c = some (cellH ob) ∧ s.heap.get? c = some ob ∧ c ∉ frs outer) (h : CE outer P w (hidC cs H) s (fun v H' => (∀ c ∈ cs, H' c = none) → Q v (bakC cs H H')) u s') : CE outer P w H s Q u s' := by
  have nn : ∀ {v : V} {H' : Hp}, Un (frs outer) [] (hidC cs H) H' s.heap s'.heap → ∀ c ∈ cs, H' c = none := fun {v H'} un c m => by
    obtain ⟨ob, z, g, n⟩ := fz c m
    exact un.free c ob g (hid_in m) (by simp)
  obtain ⟨v, H', os, bare, un, hok, r, q⟩ := h
  exact ce_bak (Q := Q) fz ⟨v, H', os, bare, un, hok, r, q (nn (v := v) un)⟩
def tCallVN (P : Program) (w : World) (K : PySem.W.Frag) (mg : Str → Option Value) (base : Heap) (j : Nat) (i : Nat) (t : TA) : TE := fun σ H Q => ∃ f F b, σ[i]? = some (some (.ref f)) ∧ H f = some (FnA f F b) ∧
  t σ H fun vs H1 => ∃ fr ws sp, CloAt H1 f F b fr ws ∧ VOk P w K mg base j f F b fr sp ∧ sp (ws.map some) vs (hidC (csF F.cl) H1) (fun v H' => (∀ c ∈ csF F.cl, H' c = none) → Q v (bakC (csF F.cl) H1 H')) E0
theorem pe_callVN {X : Cx} {i j : Nat} {x : Str} {t : TA} {e : Expr} {es : List Expr} {p pos : Pos} (hr : Room j X.A) (hN : X.N[i]? = some x) (hv : Vis X.env.scope x) (ha : PA X (e :: es) t)
    (hd : (x == ("__debug__" : Str)) = false := by decide) (hcd : (x == ("__classdict__" : Str)) = false := by decide)
    (he : starEach (e :: es) X.env = (false, eval e X.env) :: starEach es X.env := by rfl) (hpl : (backTo pos (starEach es X.env)).any (·.1) = false := by rfl) :
    PE X (.Call (.Name x p) (e :: es) [] pos) (tCallVN X.prog X.w X.K X.mg X.base j i t) := by
  refine ⟨fun pins s σ H Q I h => ?_⟩
  obtain ⟨f, F, b, hs, hf, ht⟩ := h
  refine wpAny_Call_Name_kw (thn ((pe_var (pos := p) hN hv hd hcd).run pins s σ H (fun v H1 => v = .ref f ∧ H1 = H) I ⟨.ref f, hs, rfl, rfl⟩) fun u s1 ⟨v, H1, I1, r1, q1⟩ => ?_)
  obtain ⟨ev, eH⟩ := q1
  subst ev
  rw [eH] at I1
  obtain rfl : u = Value.ref f := r1
  refine PySem.W.callWith_F (first := []) (fnAtA I1 hf) (thn (ha.run pos pins s1 σ H _ I1 ht) fun us s2 ⟨vs, H2, I2, r, fr, ws, sp, cl, vo, q⟩ => ⟨fnAtA I2 cl.fn, ?_⟩) he hpl
  show wpAny _ _ (call (.ref f) us) _ _ _
  refine wpAny_call (codeAny_mono (vo.run X.A X.stack s2 _ us vs _ _ E0 hr (env0_hid I2.env0 cl.frz) (cl.out cl.fn fun ob z => by cases z) (cl.out cl.code fun ob z => by cases z) (cl.cells I2.hok) r q) fun r s' hq => ?_)
  cases r with
  | error e => exact False.elim hq
  | ok fl =>
    cases fl with
    | ret u => exact I2.after (ce_bakN (fun c m => by
        obtain ⟨ob, z⟩ := cl.frz c m
        exact ⟨ob, z, (I2.hok c _ z).1, fun n => by rw [I2.env0.frf c n] at z; cases z⟩) hq)
    | next => exact False.elim hq
    | brk => exact False.elim hq
    | cont => exact False.elim hq
def tCallFN (P : Program) (w : World) (K : PySem.W.Frag) (mg : Str → Option Value) (base : Heap) (j : Nat) (tf : TE) (t : TA) : TE := fun σ H Q => tf σ H fun x H0 => ∃ f F b, x = .ref f ∧ H0 f = some (FnA f F b) ∧
  t σ H0 fun vs H1 => ∃ fr ws sp, CloAt H1 f F b fr ws ∧ VOk P w K mg base j f F b fr sp ∧ sp (ws.map some) vs (hidC (csF F.cl) H1) (fun v H' => (∀ c ∈ csF F.cl, H' c = none) → Q v (bakC (csF F.cl) H1 H')) E0
theorem pe_callFN {X : Cx} {j : Nat} {fe : Expr} {tf : TE} {t : TA} {e : Expr} {es : List Expr} {pos : Pos} (hr : Room j X.A) (hf : PE X fe tf) (ha : PA X (e :: es) t)
    (ht : eval (.Call fe (e :: es) [] pos) X.env = (do callWith pos (← eval fe X.env) [] (backTo pos (starEach (e :: es) X.env)) (backToKw pos (keywordEach [] X.env))) := by rfl)
    (he : starEach (e :: es) X.env = (false, eval e X.env) :: starEach es X.env := by rfl) (hpl : (backTo pos (starEach es X.env)).any (·.1) = false := by rfl) :
    PE X (.Call fe (e :: es) [] pos) (tCallFN X.prog X.w X.K X.mg X.base j tf t) := by
  refine ⟨fun pins s σ H Q I h => ?_⟩
  refine Call_ (thn (hf.run pins s σ H _ I h) fun u s1 ⟨v, H1, I1, r1, f, F, b, ev, hfn, ht⟩ => ?_) ht
  subst ev
  obtain rfl : u = Value.ref f := r1
  refine PySem.W.callWith_F (first := []) (fnAtA I1 hfn) (thn (ha.run pos pins s1 σ H1 _ I1 ht) fun us s2 ⟨vs, H2, I2, r, fr, ws, sp, cl, vo, q⟩ => ⟨fnAtA I2 cl.fn, ?_⟩) he hpl
  show wpAny _ _ (call (.ref f) us) _ _ _
  refine wpAny_call (codeAny_mono (vo.run X.A X.stack s2 _ us vs _ _ E0 hr (env0_hid I2.env0 cl.frz) (cl.out cl.fn fun ob z => by cases z) (cl.out cl.code fun ob z => by cases z) (cl.cells I2.hok) r q) fun r s' hq => ?_)
  cases r with
  | error e => exact False.elim hq
  | ok fl =>
    cases fl with
    | ret u => exact I2.after (ce_bakN (fun c m => by
        obtain ⟨ob, z⟩ := cl.frz c m
        exact ⟨ob, z, (I2.hok c _ z).1, fun n => by rw [I2.env0.frf c n] at z; cases z⟩) hq)
    | next => exact False.elim hq
    | brk => exact False.elim hq
    | cont => exact False.elim hq
end Tp
set_option Elab.async false
set_option linter.all false
set_option maxRecDepth 100000
set_option maxHeartbeats 4000000
namespace Tp
open PySem PySem.Spec PyProof.Rows L2
end Tp
set_option Elab.async false
set_option linter.all false
set_option maxRecDepth 100000
set_option maxHeartbeats 4000000
namespace L05
open PySem L2 Tp
def top (i : Nat) : Stmt := PySem.Challenge.pw_toldpast_k05_values_of_terms.main.body.getD i (.Pass ⟨0, 0, 0, 0⟩)
abbrev scInvalidMeaning_st : Stmt := inClass (top 9) 0
abbrev scInvalidMeaning_N : List Str := ["self", "value"]
theorem scInvalidMeaning : FnScope scInvalidMeaning_N ["self", "value"] (defScope scInvalidMeaning_st) := ⟨rfl, rfl, rfl, by decide +kernel, rfl, by decide +kernel, by decide +kernel⟩
abbrev scInvalidValues_st : Stmt := inClass (top 10) 0
abbrev scInvalidValues_N : List Str := ["self", "value"]
theorem scInvalidValues : FnScope scInvalidValues_N ["self", "value"] (defScope scInvalidValues_st) := ⟨rfl, rfl, rfl, by decide +kernel, rfl, by decide +kernel, by decide +kernel⟩
abbrev scUnknownSymbol_st : Stmt := inClass (top 12) 0
abbrev scUnknownSymbol_N : List Str := ["self", "name"]
theorem scUnknownSymbol : FnScope scUnknownSymbol_N ["self", "name"] (defScope scUnknownSymbol_st) := ⟨rfl, rfl, rfl, by decide +kernel, rfl, by decide +kernel, by decide +kernel⟩
abbrev scUnknownSample_st : Stmt := inClass (top 13) 0
abbrev scUnknownSample_N : List Str := ["self", "name", "index"]
theorem scUnknownSample : FnScope scUnknownSample_N ["self", "name", "index"] (defScope scUnknownSample_st) := ⟨rfl, rfl, rfl, by decide +kernel, rfl, by decide +kernel, by decide +kernel⟩
abbrev scUnknownTerm_st : Stmt := inClass (top 14) 0
abbrev scUnknownTerm_N : List Str := ["self", "number"]
theorem scUnknownTerm : FnScope scUnknownTerm_N ["self", "number"] (defScope scUnknownTerm_st) := ⟨rfl, rfl, rfl, by decide +kernel, rfl, by decide +kernel, by decide +kernel⟩
abbrev scIsInt_st : Stmt := top 22
abbrev scIsInt_N : List Str := ["value", "low", "high"]
theorem scIsInt : FnScope scIsInt_N ["value", "low", "high"] (defScope scIsInt_st) := ⟨rfl, rfl, rfl, by decide +kernel, rfl, by decide +kernel, by decide +kernel⟩
abbrev scIsName_st : Stmt := top 23
abbrev scIsName_N : List Str := ["value"]
theorem scIsName : FnScope scIsName_N ["value"] (defScope scIsName_st) := ⟨rfl, rfl, rfl, by decide +kernel, rfl, by decide +kernel, by decide +kernel⟩
abbrev scIsList_st : Stmt := top 24
abbrev scIsList_N : List Str := ["value"]
theorem scIsList : FnScope scIsList_N ["value"] (defScope scIsList_st) := ⟨rfl, rfl, rfl, by decide +kernel, rfl, by decide +kernel, by decide +kernel⟩
abbrev scIsPair_st : Stmt := top 25
abbrev scIsPair_N : List Str := ["value"]
theorem scIsPair : FnScope scIsPair_N ["value"] (defScope scIsPair_st) := ⟨rfl, rfl, rfl, by decide +kernel, rfl, by decide +kernel, by decide +kernel⟩
abbrev scIsTurn_st : Stmt := top 29
abbrev scIsTurn_N : List Str := ["value"]
theorem scIsTurn : FnScope scIsTurn_N ["value"] (defScope scIsTurn_st) := ⟨rfl, rfl, rfl, by decide +kernel, rfl, by decide +kernel, by decide +kernel⟩
abbrev scIsSample_st : Stmt := top 30
abbrev scIsSample_N : List Str := ["row"]
theorem scIsSample : FnScope scIsSample_N ["row"] (defScope scIsSample_st) := ⟨rfl, rfl, rfl, by decide +kernel, rfl, by decide +kernel, by decide +kernel⟩
abbrev scArgsOf_st : Stmt := top 31
abbrev scArgsOf_N : List Str := ["row"]
theorem scArgsOf : FnScope scArgsOf_N ["row"] (defScope scArgsOf_st) := ⟨rfl, rfl, rfl, by decide +kernel, rfl, by decide +kernel, by decide +kernel⟩
abbrev scBookInit_st : Stmt := inClass (top 33) 0
abbrev scBookInit_N : List Str := ["self", "rows", "item"]
theorem scBookInit : FnScope scBookInit_N ["self", "rows"] (defScope scBookInit_st) := ⟨rfl, rfl, rfl, by decide +kernel, rfl, by decide +kernel, by decide +kernel⟩
abbrev scAddItem_st : Stmt := inClass (top 33) 1
abbrev scAddItem_N : List Str := ["self", "item", "name", "second", "number"]
theorem scAddItem : FnScope scAddItem_N ["self", "item"] (defScope scAddItem_st) := ⟨rfl, rfl, rfl, by decide +kernel, rfl, by decide +kernel, by decide +kernel⟩
abbrev scHasNumber_st : Stmt := inClass (top 33) 2
abbrev scHasNumber_N : List Str := ["self", "number"]
theorem scHasNumber : FnScope scHasNumber_N ["self", "number"] (defScope scHasNumber_st) := ⟨rfl, rfl, rfl, by decide +kernel, rfl, by decide +kernel, by decide +kernel⟩
abbrev scNumberOf_st : Stmt := inClass (top 33) 4
abbrev scNumberOf_N : List Str := ["self", "row"]
theorem scNumberOf : FnScope scNumberOf_N ["self", "row"] (defScope scNumberOf_st) := ⟨rfl, rfl, rfl, by decide +kernel, rfl, by decide +kernel, by decide +kernel⟩
abbrev scRows_st : Stmt := inClass (top 33) 8
abbrev scRows_N : List Str := ["self"]
theorem scRows : FnScope scRows_N ["self"] (defScope scRows_st) := ⟨rfl, rfl, rfl, by decide +kernel, rfl, by decide +kernel, by decide +kernel⟩
abbrev scNeedNumber_st : Stmt := inClass (top 33) 3
abbrev scNeedNumber_N : List Str := ["self", "number"]
theorem scNeedNumber : FnScope scNeedNumber_N ["self", "number"] (defScope scNeedNumber_st) := ⟨rfl, rfl, rfl, by decide +kernel, rfl, by decide +kernel, by decide +kernel⟩
abbrev scParts_st : Stmt := inClass (top 33) 15
abbrev scParts_N : List Str := ["self", "number", "needed", "one", "argument"]
theorem scParts : FnScope scParts_N ["self", "number"] (defScope scParts_st) := ⟨rfl, rfl, rfl, by decide +kernel, rfl, by decide +kernel, by decide +kernel⟩
abbrev scSize_st : Stmt := inClass (top 33) 16
abbrev scSize_N : List Str := ["self", "number", "sizes", "part", "argument"]
theorem scSize : FnScope scSize_N ["self", "number"] (defScope scSize_st) := ⟨rfl, rfl, rfl, by decide +kernel, rfl, by decide +kernel, by decide +kernel⟩
abbrev scDepth_st : Stmt := inClass (top 33) 17
abbrev scDepth_N : List Str := ["self", "number", "depths", "part", "argument"]
theorem scDepth : FnScope scDepth_N ["self", "number"] (defScope scDepth_st) := ⟨rfl, rfl, rfl, by decide +kernel, rfl, by decide +kernel, by decide +kernel⟩
abbrev scEvaluate_st : Stmt := inClass (top 33) 21
abbrev scEvaluate_N : List Str := ["self", "number", "meaning", "samples", "needed", "part", "values", "name", "second", "function", "argument"]
theorem scEvaluate : FnScope scEvaluate_N ["self", "number", "meaning", "samples"] (defScope scEvaluate_st) := ⟨rfl, rfl, rfl, by decide +kernel, rfl, by decide +kernel, by decide +kernel⟩
abbrev scAreSmp_st : Stmt := top 34
abbrev scAreSmp_N : List Str := ["value", "items"]
theorem scAreSmp : FnScope scAreSmp_N ["value"] (defScope scAreSmp_st) := ⟨rfl, rfl, rfl, by decide +kernel, rfl, by decide +kernel, by decide +kernel⟩
abbrev scNeedKnown_st : Stmt := top 35
abbrev scNeedKnown_N : List Str := ["row", "meaning", "samples", "name", "second"]
theorem scNeedKnown : FnScope scNeedKnown_N ["row", "meaning", "samples"] (defScope scNeedKnown_st) := ⟨rfl, rfl, rfl, by decide +kernel, rfl, by decide +kernel, by decide +kernel⟩
abbrev scCell_st : Stmt := top 38
abbrev scCell_N : List Str := ["_law_script", "_law_k"]
theorem scCell : FnScope scCell_N ["_law_script", "_law_k"] (defScope scCell_st) := ⟨rfl, rfl, rfl, by decide +kernel, rfl, by decide +kernel, by decide +kernel⟩
abbrev scBox_st : Stmt := top 39
abbrev scBox_N : List Str := ["_law_cell_here"]
theorem scBox : FnScope scBox_N ["_law_cell_here"] (defScope scBox_st) := ⟨rfl, rfl, rfl, by decide +kernel, rfl, by decide +kernel, by decide +kernel⟩
abbrev scTake_st : Stmt := top 40
abbrev scTake_N : List Str := ["_law_box_here", "_law_many", "_law_digit", "_law_mixed"]
theorem scTake : FnScope scTake_N ["_law_box_here", "_law_many"] (defScope scTake_st) := ⟨rfl, rfl, rfl, by decide +kernel, rfl, by decide +kernel, by decide +kernel⟩
abbrev scLabel_st : Stmt := top 41
abbrev scLabel_N : List Str := ["_law_box_here", "_law_signs", "_law_k"]
theorem scLabel : FnScope scLabel_N ["_law_box_here"] (defScope scLabel_st) := ⟨rfl, rfl, rfl, by decide +kernel, rfl, by decide +kernel, by decide +kernel⟩
abbrev scRowsL_st : Stmt := top 42
abbrev scRowsL_N : List Str := ["_law_box_here", "_law_most", "_law_given", "_law_found", "_law_k", "_law_name", "_law_way", "_law_row", "_law_j"]
theorem scRowsL : FnScope scRowsL_N ["_law_box_here", "_law_most", "_law_given"] (defScope scRowsL_st) := ⟨rfl, rfl, rfl, by decide +kernel, rfl, by decide +kernel, by decide +kernel⟩
abbrev scPartsL_st : Stmt := top 43
abbrev scPartsL_N : List Str := ["_law_rows_here", "_law_number", "_law_wanted", "_law_at", "_law_one"]
theorem scPartsL : FnScope scPartsL_N ["_law_rows_here", "_law_number"] (defScope scPartsL_st) := ⟨rfl, rfl, rfl, by decide +kernel, rfl, by decide +kernel, by decide +kernel⟩
abbrev scFunc_st : Stmt := top 44
abbrev scFunc_N : List Str := ["_law_name", "_law_calls", "_law_salt", "_law_called"]
theorem scFunc : FnScope scFunc_N ["_law_name", "_law_calls", "_law_salt"] (defScope scFunc_st) := ⟨rfl, rfl, rfl, by decide +kernel, rfl, by decide +kernel, by decide +kernel⟩
abbrev scNCalled_st : Stmt := (defBody scFunc_st).getD 0 (.Pass ⟨0, 0, 0, 0⟩)
abbrev scNCalled_N : List Str := ["_law_items", "_law_calls", "_law_name", "_law_salt", "_law_right_here", "_law_one"]
abbrev scNCalled_fr : List Str := ["_law_calls", "_law_name", "_law_salt"]
theorem scNCalled : NdefX.NScope scNCalled_N ["_law_items"] scNCalled_fr (C8.fnScope scNCalled_st) := NdefX.nscope_by (by decide +kernel)
abbrev scMeaning_st : Stmt := top 45
abbrev scMeaning_N : List Str := ["_law_box_here", "_law_rows_here", "_law_calls", "_law_found", "_law_name", "_law_rest", "_law_names"]
theorem scMeaning : FnScope scMeaning_N ["_law_box_here", "_law_rows_here", "_law_calls"] (defScope scMeaning_st) := ⟨rfl, rfl, rfl, by decide +kernel, rfl, by decide +kernel, by decide +kernel⟩
abbrev scSamples_st : Stmt := top 46
abbrev scSamples_N : List Str := ["_law_box_here", "_law_rows_here", "_law_found", "_law_name", "_law_rest", "_law_many", "_law_row", "_law_names", "_law_k"]
theorem scSamples : FnScope scSamples_N ["_law_box_here", "_law_rows_here"] (defScope scSamples_st) := ⟨rfl, rfl, rfl, by decide +kernel, rfl, by decide +kernel, by decide +kernel⟩
abbrev scDue_st : Stmt := top 47
abbrev scDue_N : List Str := ["_law_rows_here", "_law_parts_here", "_law_meaning_here", "_law_given", "_law_part", "_law_name", "_law_rest"]
theorem scDue : FnScope scDue_N ["_law_rows_here", "_law_parts_here", "_law_meaning_here", "_law_given"] (defScope scDue_st) := ⟨rfl, rfl, rfl, by decide +kernel, rfl, by decide +kernel, by decide +kernel⟩
abbrev scWalked_st : Stmt := top 48
abbrev scWalked_N : List Str := ["_law_rows_here", "_law_parts_here", "_law_plain", "_law_given", "_law_known", "_law_calls", "_law_part", "_law_name", "_law_rest", "_law_items", "_law_one"]
theorem scWalked : FnScope scWalked_N ["_law_rows_here", "_law_parts_here", "_law_plain", "_law_given"] (defScope scWalked_st) := ⟨rfl, rfl, rfl, by decide +kernel, rfl, by decide +kernel, by decide +kernel⟩
abbrev scTold_st : Stmt := top 49
abbrev scTold_N : List Str := ["_law_book", "_law_number", "_law_meaning_here", "_law_given", "e"]
theorem scTold : FnScope scTold_N ["_law_book", "_law_number", "_law_meaning_here", "_law_given"] (defScope scTold_st) := ⟨rfl, rfl, rfl, by decide +kernel, rfl, by decide +kernel, by decide +kernel⟩
abbrev scMeasured_st : Stmt := top 50
abbrev scMeasured_N : List Str := ["_law_rows_here", "_law_parts_here", "_law_sizes", "_law_deeps", "_law_part", "_law_rest", "_law_one"]
theorem scMeasured : FnScope scMeasured_N ["_law_rows_here", "_law_parts_here"] (defScope scMeasured_st) := ⟨rfl, rfl, rfl, by decide +kernel, rfl, by decide +kernel, by decide +kernel⟩
abbrev scRight_st : Stmt := top 51
abbrev scRight_N : List Str := ["_law_book", "_law_rows_here", "_law_number", "_law_meaning_here", "_law_given", "_law_calls", "_law_parts_here", "_law_measured_here", "_law_due_here", "_law_held", "_law_found", "_law_noted", "_law_walked_here"]
theorem scRight : FnScope scRight_N ["_law_book", "_law_rows_here", "_law_number", "_law_meaning_here", "_law_given", "_law_calls"] (defScope scRight_st) := ⟨rfl, rfl, rfl, by decide +kernel, rfl, by decide +kernel, by decide +kernel⟩
abbrev scMeasure_st : Stmt := top 52
abbrev scMeasure_N : List Str := ["_law_book", "_law_door", "_law_number", "e"]
theorem scMeasure : FnScope scMeasure_N ["_law_book", "_law_door", "_law_number"] (defScope scMeasure_st) := ⟨rfl, rfl, rfl, by decide +kernel, rfl, by decide +kernel, by decide +kernel⟩
abbrev scRefused_st : Stmt := top 53
abbrev scRefused_N : List Str := ["_law_book", "_law_rows_here", "_law_meaning_here", "_law_number", "_law_thing", "_law_found", "_law_due_here", "_law_door"]
theorem scRefused : FnScope scRefused_N ["_law_book", "_law_rows_here", "_law_meaning_here", "_law_number"] (defScope scRefused_st) := ⟨rfl, rfl, rfl, by decide +kernel, rfl, by decide +kernel, by decide +kernel⟩
abbrev scLaw_st : Stmt := top 54
abbrev scLaw_N : List Str := ["_law_script", "_law_k", "_law_box_here", "_law_calls", "_law_rows_here", "_law_book", "_law_meaning_here", "_law_given", "_law_turn", "_law_number", "_law_name", "_law_rest", "_law_found"]
theorem scLaw : FnScope scLaw_N ["_law_script"] (defScope scLaw_st) := ⟨rfl, rfl, rfl, by decide +kernel, rfl, by decide +kernel, by decide +kernel⟩
structure Ad where
  iInvalidMeaning : Addr
  iInvalidValues : Addr
  iUnknownSymbol : Addr
  iUnknownSample : Addr
  iUnknownTerm : Addr
  isInt : Addr
  isName : Addr
  isList : Addr
  isPair : Addr
  isTurn : Addr
  isSample : Addr
  argsOf : Addr
  bookInit : Addr
  addItem : Addr
  hasNumber : Addr
  numberOf : Addr
  rows : Addr
  needNumber : Addr
  parts : Addr
  size : Addr
  depth : Addr
  evaluate : Addr
  areSmp : Addr
  needKnown : Addr
  cell : Addr
  box : Addr
  take : Addr
  label : Addr
  rowsL : Addr
  partsL : Addr
  func : Addr
  meaning : Addr
  samples : Addr
  due : Addr
  walked : Addr
  told : Addr
  measured : Addr
  right : Addr
  measure : Addr
  refused : Addr
  law : Addr
  CNetError : Addr
  CMissingError : Addr
  CInvalidMeaning : Addr
  CInvalidValues : Addr
  CUnknownSymbol : Addr
  CUnknownSample : Addr
  CUnknownTerm : Addr
  CBook : Addr
  bkE : Addr
  cFn : Addr
  pFn : Addr
structure Fd where
  iInvalidMeaning : FuncData
  iInvalidValues : FuncData
  iUnknownSymbol : FuncData
  iUnknownSample : FuncData
  iUnknownTerm : FuncData
  isInt : FuncData
  isName : FuncData
  isList : FuncData
  isPair : FuncData
  isTurn : FuncData
  isSample : FuncData
  argsOf : FuncData
  bookInit : FuncData
  addItem : FuncData
  hasNumber : FuncData
  numberOf : FuncData
  rows : FuncData
  needNumber : FuncData
  parts : FuncData
  size : FuncData
  depth : FuncData
  evaluate : FuncData
  areSmp : FuncData
  needKnown : FuncData
  cell : FuncData
  box : FuncData
  take : FuncData
  label : FuncData
  rowsL : FuncData
  partsL : FuncData
  func : FuncData
  meaning : FuncData
  samples : FuncData
  due : FuncData
  walked : FuncData
  told : FuncData
  measured : FuncData
  right : FuncData
  measure : FuncData
  refused : FuncData
  law : FuncData
structure Txt (K : PySem.W.Frag) (mg : Str → Option Value) (a : Ad) (d : Fd) : Prop where
  F_iInvalidMeaning : Fun K "__init__" "InvalidMeaning.__init__" scInvalidMeaning_st a.iInvalidMeaning d.iInvalidMeaning
  b_iInvalidMeaning : Binds K d.iInvalidMeaning ["self", "value"] []
  F_iInvalidValues : Fun K "__init__" "InvalidValues.__init__" scInvalidValues_st a.iInvalidValues d.iInvalidValues
  b_iInvalidValues : Binds K d.iInvalidValues ["self", "value"] []
  F_iUnknownSymbol : Fun K "__init__" "UnknownSymbol.__init__" scUnknownSymbol_st a.iUnknownSymbol d.iUnknownSymbol
  b_iUnknownSymbol : Binds K d.iUnknownSymbol ["self", "name"] []
  F_iUnknownSample : Fun K "__init__" "UnknownSample.__init__" scUnknownSample_st a.iUnknownSample d.iUnknownSample
  b_iUnknownSample : Binds K d.iUnknownSample ["self", "name", "index"] []
  F_iUnknownTerm : Fun K "__init__" "UnknownTerm.__init__" scUnknownTerm_st a.iUnknownTerm d.iUnknownTerm
  b_iUnknownTerm : Binds K d.iUnknownTerm ["self", "number"] []
  F_isInt : Fun K "is_integer" "is_integer" scIsInt_st a.isInt d.isInt
  b_isInt : Binds K d.isInt ["value", "low", "high"] []
  mg_isInt : mg "is_integer" = some (.ref a.isInt)
  F_isName : Fun K "is_name" "is_name" scIsName_st a.isName d.isName
  b_isName : Binds K d.isName ["value"] []
  mg_isName : mg "is_name" = some (.ref a.isName)
  F_isList : Fun K "is_list" "is_list" scIsList_st a.isList d.isList
  b_isList : Binds K d.isList ["value"] []
  mg_isList : mg "is_list" = some (.ref a.isList)
  F_isPair : Fun K "is_pair" "is_pair" scIsPair_st a.isPair d.isPair
  b_isPair : Binds K d.isPair ["value"] []
  mg_isPair : mg "is_pair" = some (.ref a.isPair)
  F_isTurn : Fun K "is_turn" "is_turn" scIsTurn_st a.isTurn d.isTurn
  b_isTurn : Binds K d.isTurn ["value"] []
  mg_isTurn : mg "is_turn" = some (.ref a.isTurn)
  F_isSample : Fun K "is_sample_row" "is_sample_row" scIsSample_st a.isSample d.isSample
  b_isSample : Binds K d.isSample ["row"] []
  mg_isSample : mg "is_sample_row" = some (.ref a.isSample)
  F_argsOf : Fun K "arguments_of" "arguments_of" scArgsOf_st a.argsOf d.argsOf
  b_argsOf : Binds K d.argsOf ["row"] []
  mg_argsOf : mg "arguments_of" = some (.ref a.argsOf)
  F_bookInit : FunD K "__init__" "Book.__init__" (defArgs scBookInit_st) (defBody scBookInit_st) (defScope scBookInit_st) [V.ref a.bkE] [] a.bookInit d.bookInit
  F_addItem : Fun K "add_item" "Book.add_item" scAddItem_st a.addItem d.addItem
  b_addItem : Binds K d.addItem ["self", "item"] []
  F_hasNumber : Fun K "has_number" "Book.has_number" scHasNumber_st a.hasNumber d.hasNumber
  b_hasNumber : Binds K d.hasNumber ["self", "number"] []
  F_numberOf : Fun K "number_of" "Book.number_of" scNumberOf_st a.numberOf d.numberOf
  b_numberOf : Binds K d.numberOf ["self", "row"] []
  F_rows : Fun K "rows" "Book.rows" scRows_st a.rows d.rows
  b_rows : Binds K d.rows ["self"] []
  F_needNumber : Fun K "need_number" "Book.need_number" scNeedNumber_st a.needNumber d.needNumber
  b_needNumber : Binds K d.needNumber ["self", "number"] []
  F_parts : Fun K "parts" "Book.parts" scParts_st a.parts d.parts
  b_parts : Binds K d.parts ["self", "number"] []
  F_size : Fun K "size" "Book.size" scSize_st a.size d.size
  b_size : Binds K d.size ["self", "number"] []
  F_depth : Fun K "depth" "Book.depth" scDepth_st a.depth d.depth
  b_depth : Binds K d.depth ["self", "number"] []
  F_evaluate : FunD K "evaluate" "Book.evaluate" (defArgs scEvaluate_st) (defBody scEvaluate_st) (defScope scEvaluate_st) [] [("samples", V.non)] a.evaluate d.evaluate
  F_areSmp : Fun K "are_samples" "are_samples" scAreSmp_st a.areSmp d.areSmp
  b_areSmp : Binds K d.areSmp ["value"] []
  mg_areSmp : mg "are_samples" = some (.ref a.areSmp)
  F_needKnown : Fun K "need_known" "need_known" scNeedKnown_st a.needKnown d.needKnown
  b_needKnown : Binds K d.needKnown ["row", "meaning", "samples"] []
  mg_needKnown : mg "need_known" = some (.ref a.needKnown)
  F_cell : Fun K "_law_cell" "_law_cell" scCell_st a.cell d.cell
  b_cell : Binds K d.cell ["_law_script", "_law_k"] []
  mg_cell : mg "_law_cell" = some (.ref a.cell)
  F_box : Fun K "_law_box" "_law_box" scBox_st a.box d.box
  b_box : Binds K d.box ["_law_cell_here"] []
  mg_box : mg "_law_box" = some (.ref a.box)
  F_take : Fun K "_law_take" "_law_take" scTake_st a.take d.take
  b_take : Binds K d.take ["_law_box_here", "_law_many"] []
  mg_take : mg "_law_take" = some (.ref a.take)
  F_label : Fun K "_law_label" "_law_label" scLabel_st a.label d.label
  b_label : Binds K d.label ["_law_box_here"] []
  mg_label : mg "_law_label" = some (.ref a.label)
  F_rowsL : Fun K "_law_rows" "_law_rows" scRowsL_st a.rowsL d.rowsL
  b_rowsL : Binds K d.rowsL ["_law_box_here", "_law_most", "_law_given"] []
  mg_rowsL : mg "_law_rows" = some (.ref a.rowsL)
  F_partsL : Fun K "_law_parts" "_law_parts" scPartsL_st a.partsL d.partsL
  b_partsL : Binds K d.partsL ["_law_rows_here", "_law_number"] []
  mg_partsL : mg "_law_parts" = some (.ref a.partsL)
  F_func : Fun K "_law_function" "_law_function" scFunc_st a.func d.func
  b_func : Binds K d.func ["_law_name", "_law_calls", "_law_salt"] []
  mg_func : mg "_law_function" = some (.ref a.func)
  F_meaning : Fun K "_law_meaning" "_law_meaning" scMeaning_st a.meaning d.meaning
  b_meaning : Binds K d.meaning ["_law_box_here", "_law_rows_here", "_law_calls"] []
  mg_meaning : mg "_law_meaning" = some (.ref a.meaning)
  F_samples : Fun K "_law_samples" "_law_samples" scSamples_st a.samples d.samples
  b_samples : Binds K d.samples ["_law_box_here", "_law_rows_here"] []
  mg_samples : mg "_law_samples" = some (.ref a.samples)
  F_due : Fun K "_law_due" "_law_due" scDue_st a.due d.due
  b_due : Binds K d.due ["_law_rows_here", "_law_parts_here", "_law_meaning_here", "_law_given"] []
  mg_due : mg "_law_due" = some (.ref a.due)
  F_walked : Fun K "_law_walked" "_law_walked" scWalked_st a.walked d.walked
  b_walked : Binds K d.walked ["_law_rows_here", "_law_parts_here", "_law_plain", "_law_given"] []
  mg_walked : mg "_law_walked" = some (.ref a.walked)
  F_told : Fun K "_law_told" "_law_told" scTold_st a.told d.told
  b_told : Binds K d.told ["_law_book", "_law_number", "_law_meaning_here", "_law_given"] []
  mg_told : mg "_law_told" = some (.ref a.told)
  F_measured : Fun K "_law_measured" "_law_measured" scMeasured_st a.measured d.measured
  b_measured : Binds K d.measured ["_law_rows_here", "_law_parts_here"] []
  mg_measured : mg "_law_measured" = some (.ref a.measured)
  F_right : Fun K "_law_right" "_law_right" scRight_st a.right d.right
  b_right : Binds K d.right ["_law_book", "_law_rows_here", "_law_number", "_law_meaning_here", "_law_given", "_law_calls"] []
  mg_right : mg "_law_right" = some (.ref a.right)
  F_measure : Fun K "_law_measure" "_law_measure" scMeasure_st a.measure d.measure
  b_measure : Binds K d.measure ["_law_book", "_law_door", "_law_number"] []
  mg_measure : mg "_law_measure" = some (.ref a.measure)
  F_refused : Fun K "_law_refused" "_law_refused" scRefused_st a.refused d.refused
  b_refused : Binds K d.refused ["_law_book", "_law_rows_here", "_law_meaning_here", "_law_number"] []
  mg_refused : mg "_law_refused" = some (.ref a.refused)
  F_law : Fun K "law" "law" scLaw_st a.law d.law
  b_law : Binds K d.law ["_law_script"] []
  mg_law : mg "law" = some (.ref a.law)
  mg_LETTERS : ∃ t, mg "LETTERS" = some (.str "abcdefghijklmnopqrstuvwxyz" t)
  mg_DIGITS : ∃ t, mg "DIGITS" = some (.str "0123456789" t)
  mg_LONGEST_NAME : ∃ t, mg "LONGEST_NAME" = some (.int 8 t)
  mg_MOST_ARGUMENTS : ∃ t, mg "MOST_ARGUMENTS" = some (.int 3 t)
  len_ : mg "len" = none
  max_ : mg "max" = none
  min_ : mg "min" = none
  isinstance_ : mg "isinstance" = none
  str_ : mg "str" = none
  int_ : mg "int" = none
  all_ : mg "all" = none
  range_ : mg "range" = none
  repr_ : mg "repr" = none
  list_ : mg "list" = none
  tuple_ : mg "tuple" = none
  bool_ : mg "bool" = none
  sum_ : mg "sum" = none
  sorted_ : mg "sorted" = none
  dict_ : mg "dict" = none
  set_ : mg "set" = none
  enumerate_ : mg "enumerate" = none
  mg_NetError : mg "NetError" = some (.ref a.CNetError)
  cx_NetError : Tp.ClsX .ve K a.CNetError []
  ba_NetError : Tp.BaseB .ve K a.CNetError
  mg_MissingError : mg "MissingError" = some (.ref a.CMissingError)
  cx_MissingError : Tp.ClsX .ke K a.CMissingError []
  ba_MissingError : Tp.BaseB .ke K a.CMissingError
  mg_InvalidMeaning : mg "InvalidMeaning" = some (.ref a.CInvalidMeaning)
  cx_InvalidMeaning : Tp.ClsX .ve K a.CInvalidMeaning [a.CNetError]
  xi_InvalidMeaning : Tp.InitX K a.CInvalidMeaning a.iInvalidMeaning ["value"]
  mg_InvalidValues : mg "InvalidValues" = some (.ref a.CInvalidValues)
  cx_InvalidValues : Tp.ClsX .ve K a.CInvalidValues [a.CNetError]
  xi_InvalidValues : Tp.InitX K a.CInvalidValues a.iInvalidValues ["value"]
  mg_UnknownSymbol : mg "UnknownSymbol" = some (.ref a.CUnknownSymbol)
  cx_UnknownSymbol : Tp.ClsX .ke K a.CUnknownSymbol [a.CMissingError]
  xi_UnknownSymbol : Tp.InitX K a.CUnknownSymbol a.iUnknownSymbol ["name"]
  mg_UnknownSample : mg "UnknownSample" = some (.ref a.CUnknownSample)
  cx_UnknownSample : Tp.ClsX .ke K a.CUnknownSample [a.CMissingError]
  xi_UnknownSample : Tp.InitX K a.CUnknownSample a.iUnknownSample ["name", "index"]
  mg_UnknownTerm : mg "UnknownTerm" = some (.ref a.CUnknownTerm)
  cx_UnknownTerm : Tp.ClsX .ke K a.CUnknownTerm [a.CMissingError]
  xi_UnknownTerm : Tp.InitX K a.CUnknownTerm a.iUnknownTerm ["number"]
  mg_Book : mg "Book" = some (.ref a.CBook)
  cl_Book : Cls K a.CBook
  mk_Book : Mk K a.CBook a.bookInit
  ca_Book : PySem.W.findIn K (.ref a.CBook) "__class__" = some (some (.builtin "object.__class__"))
  cm_Book : PySem.W.mroIn K a.CBook (.type "object") = some true
  hd_Book : PySem.W.hasDictIn K a.CBook = true
  ty_Book : PySem.W.typeIn K (.ref a.CBook) = some (.type "type")
  n_Book_held : NoAttr K a.CBook "held"
  n_Book_numbers : NoAttr K a.CBook "numbers"
  ki_Book_str : PySem.W.kitOne K (.ref a.CBook) (.type "str") = some false
  ki_Book_int : PySem.W.kitOne K (.ref a.CBook) (.type "int") = some false
  ki_Book_list : PySem.W.kitOne K (.ref a.CBook) (.type "list") = some false
  ki_Book_tuple : PySem.W.kitOne K (.ref a.CBook) (.type "tuple") = some false
  ki_Book_dict : PySem.W.kitOne K (.ref a.CBook) (.type "dict") = some false
  ki_Book_bool : PySem.W.kitOne K (.ref a.CBook) (.type "bool") = some false
  me_addItem : Meth K a.CBook "add_item" a.addItem
  me_hasNumber : Meth K a.CBook "has_number" a.hasNumber
  me_needNumber : Meth K a.CBook "need_number" a.needNumber
  me_numberOf : Meth K a.CBook "number_of" a.numberOf
  me_rows : Meth K a.CBook "rows" a.rows
  me_parts : Meth K a.CBook "parts" a.parts
  me_size : Meth K a.CBook "size" a.size
  me_depth : Meth K a.CBook "depth" a.depth
  me_evaluate : Meth K a.CBook "evaluate" a.evaluate
  cn_ : PySem.W.specialIn K (.builtin "object.__class__") "__get__" = some (some (.builtin "getset_descriptor.__get__"))
  ct_ : PySem.W.takesIn K (.builtin "object.__class__") = some true
  lkE : ∃ o n, K.lookup a.bkE = some o ∧ o.cls = .type "tuple" ∧ o.data = .seq #[] n
  xnd : [a.CInvalidMeaning, a.CInvalidValues, a.CUnknownSymbol, a.CUnknownSample, a.CUnknownTerm, a.CNetError, a.CMissingError].Nodup
  cdFn : d.func.code = .ref a.cFn
section
variable {P : Program} {w : World} {K : PySem.W.Frag} {mg : Str → Option Value} {base : Heap} {a : Ad} {d : Fd}
theorem ok_cell (T : Txt K mg a d) : FnG P w K mg base CX0 1 a.cell d.cell ["_law_script", "_law_k"] (Tp.spCell K) := by
  refine okG T.F_cell scCell (fun vs H Q E h => ?_) (fun cdv A outer s H vs Q E hr hg h => ?_)
  · obtain ⟨s, ns, k, rfl, _⟩ := h
    rfl
  · obtain ⟨s, ns, k, rfl, hS, h0, h1, q⟩ := h
    refine ⟨_, (pss_cons (ps_if (pt_cmpR op_lt (pv 1) (pe_callB call_len_seq (by rfl) T.len_ Tp.bt_len (pa_cons (pv 0) pa_nil)) (nomark _)) (pss_one (ps_ret (pe_ix ix_list (pv 0) (pv 1) (fun _ _ => rfl)))) pss_nil)
      (pss_one (ps_ret (pe_op op_add (pe_op op_mul pe_int (pv 1)) pe_int)))), ?_⟩
    refine ⟨_, rfl, _, rfl, s, _, rfl, .inl hS, _, _, rfl, rfl, _, rfl, ?_⟩
    refine ite2 (fun c => ?_) (fun c => ?_)
    · have c' := of_decide_eq_true c
      rw [List.length_map] at c'
      obtain ⟨j, rfl⟩ := Int.eq_ofNat_of_zero_le h0
      have hj : j < ns.length := by omega
      exact ⟨_, rfl, _, rfl, s, _, _, _, rfl, rfl, hS, atI_nat (by rw [List.getElem?_map, List.getElem?_eq_getElem hj]; rfl), q _⟩
    · exact ⟨_, rfl, _, _, rfl, rfl, .inl ⟨by decide, by decide⟩, _, _, rfl, rfl, q _⟩
theorem ok_box (T : Txt K mg a d) : FnG P w K mg base CX0 1 a.box d.box ["_law_cell_here"] Tp.spBox := by
  refine okG T.F_box scBox (fun vs H Q E h => ?_) (fun cdv A outer s H vs Q E hr hg h => ?_)
  · obtain ⟨c, rfl, _⟩ := h
    rfl
  · obtain ⟨c, rfl, q⟩ := h
    refine ⟨_, (pss_one (ps_ret (pe_lst (pa_cons (pe_callB (call_max2 rfl) (by rfl) T.max_ Tp.bt_max (pa_cons pe_int (pa_cons (pe_op op_sub (pv 0) (pe_op op_pow pe_int pe_int)) pa_nil))) (pa_cons (pe_op op_modN (pv 0) pe_int) (pa_cons pe_int pa_nil)))))), ?_⟩
    refine ⟨_, rfl, _, _, rfl, rfl, ⟨by decide, by decide, by decide⟩, _, _, rfl, rfl, _, _, rfl, _, rfl, _, _, rfl, rfl, (show (_ : Int) ≠ 0 from by decide), (show 3 ≤ sizeLine from by decide), fun p hp => q p _ _ hp ?_ ?_ ?_⟩
    · split <;> omega
    · rw [Int.fmod_eq_emod_of_nonneg _ (by decide)]; exact Int.emod_nonneg _ (by decide)
    · rw [Int.fmod_eq_emod_of_nonneg _ (by decide)]; exact Int.emod_lt_of_pos _ (by decide)
theorem ok_take (T : Txt K mg a d) : FnG P w K mg base CX0 1 a.take d.take ["_law_box_here", "_law_many"] Tp.spTake := by
  refine okG T.F_take scTake (fun vs H Q E h => ?_) (fun cdv A outer s H vs Q E hr hg h => ?_)
  · obtain ⟨b, m, n, rfl, _⟩ := h
    rfl
  · obtain ⟨b, m, n, rfl, ⟨x, y, z, hb, x0, y0, y1, z0, z1⟩, hn, m0, m1, q⟩ := h
    refine ⟨_, (pss_cons (ps_if (pt_cmpR op_gt (pe_ix ix_list (pv 0) pe_int (fun _ _ => rfl)) pe_int (nomark _)) (pss_cons (ps_set (i := 2) scTake.nd rfl (Or.inl rfl) (pe_op op_modN (pe_ix ix_list (pv 0) pe_int (fun _ _ => rfl)) (pv 1)))
      (pss_cons (ps_asg (pe_op op_fdivN (pe_ix ix_list (pv 0) pe_int (fun _ _ => rfl)) (pv 1)) (pg_sub (pv 0) pe_int set_list))
      (pss_one (ps_ret (pv 2))))) pss_nil)
      (pss_cons (ps_asg (pe_op op_add (pe_ix ix_list (pv 0) pe_int (fun _ _ => rfl)) pe_int) (pg_sub (pv 0) pe_int set_list))
      (pss_cons (ps_set (i := 3) scTake.nd rfl (Or.inl rfl) (pe_op op_modN (pe_op op_pow (pe_op op_add (pe_op op_add (pe_ix ix_list (pv 0) pe_int (fun _ _ => rfl)) (pe_op op_mul pe_int (pe_ix ix_list (pv 0) pe_int (fun _ _ => rfl)))) pe_int) pe_int) pe_int))
      (pss_cons (ps_set (i := 3) scTake.nd rfl (Or.inl rfl) (pe_op op_modN (pe_op op_pow (pe_op op_add (pv 3) (pe_op op_mul pe_int (pe_ix ix_list (pv 0) pe_int (fun _ _ => rfl)))) pe_int) pe_int))
      (pss_one (ps_ret (pe_op op_modN (pe_op op_fdivN (pv 3) pe_int) (pv 1)))))))), ?_⟩
    refine ⟨_, rfl, b, _, _, _, rfl, rfl, SqL.of hb, rfl, _, _, rfl, rfl, _, rfl, ?_⟩
    refine ite2 (fun c => ?_) (fun c => ?_)
    · have c' := of_decide_eq_true c
      refine ⟨_, rfl, b, _, _, _, rfl, rfl, SqL.of hb, rfl, _, rfl, _, _, rfl, rfl, (by show m ≠ 0; omega), ?_⟩
      refine ⟨_, rfl, b, _, _, _, rfl, rfl, SqL.of hb, rfl, _, rfl, _, _, rfl, rfl, ⟨by omega, by omega⟩, _, rfl, b, _, _, _, rfl, rfl, hb, rfl, _, rfl, ?_⟩
      show Q (V.int (x.fmod m)) _
      rw [Int.fmod_eq_emod_of_nonneg _ (by omega)]
      refine q _ _ (Int.emod_nonneg _ (by omega)) (Int.emod_lt_of_pos _ m0) Kp.box ⟨x.fdiv m, y, z, upd_same, ?_, y0, y1, z0, by omega⟩
      rw [Int.fdiv_eq_ediv_of_nonneg _ (by omega)]
      exact Int.ediv_nonneg x0 (by omega)
    · refine ⟨_, rfl, b, _, _, _, rfl, rfl, SqL.of hb, rfl, _, _, rfl, rfl, _, rfl, b, _, _, _, rfl, rfl, hb, rfl, ?_⟩
      have h2 : (upd H b (.lst [V.int x, V.int y, V.int (z + 1)])) b = some (.lst [V.int x, V.int y, V.int (z + 1)]) := upd_same
      refine ⟨_, rfl, b, _, _, _, rfl, rfl, SqL.of h2, rfl, _, rfl, b, _, _, _, rfl, rfl, SqL.of h2, rfl, _, _, rfl, rfl, .inl ⟨by decide, by decide⟩, _, _, rfl, rfl, _, _, rfl, rfl, _, _, rfl, rfl, ⟨by decide, by decide, mixA y0 y1 z0 (by omega) (by decide) (by decide)⟩, _, _, rfl, rfl, (show (_ : Int) ≠ 0 from by decide), ?_⟩
      refine ⟨_, rfl, _, rfl, b, _, _, _, rfl, rfl, SqL.of h2, rfl, _, _, rfl, rfl, .inl ⟨by decide, by decide⟩, _, _, rfl, rfl, _, _, rfl, rfl, ⟨by decide, by decide, mixB z0 (by omega) (by decide)⟩, _, _, rfl, rfl, (show (_ : Int) ≠ 0 from by decide), ?_⟩
      refine ⟨_, rfl, _, _, rfl, rfl, ⟨by decide, by decide⟩, _, rfl, _, _, rfl, rfl, (by show m ≠ 0; omega), ?_⟩
      show Q (V.int (Int.fmod _ m)) _
      rw [Int.fmod_eq_emod_of_nonneg _ (by omega : (0 : Int) ≤ m)]
      exact q _ _ (Int.emod_nonneg _ (by omega)) (Int.emod_lt_of_pos _ m0) Kp.box ⟨x, y, z + 1, h2, x0, y0, y1, by omega, by omega⟩
def nmF (_ _ : Nat) : Str := "_law_function.<locals>._law_called"
abbrev TT (a : Ad) : List NdefX.NTab := [(a.pFn, nmF)]
end
end L05
set_option Elab.async false
set_option linter.all false
set_option maxRecDepth 100000
set_option maxHeartbeats 4000000
set_option pp.deepTerms false
set_option pp.deepTerms.threshold 4
set_option pp.maxSteps 1000
namespace L05
open PySem L2 Tp
section
variable {P : Program} {w : World} {K : PySem.W.Frag} {mg : Str → Option Value} {base : Heap} {a : Ad} {d : Fd}
theorem ok_isName (T : Txt K mg a d) : FnOk P w K mg base CX0 1 a.isName d.isName ["value"] (spName K) := by
  refine okN T.F_isName scIsName (fun vs H Q E h => ?_) (fun cdv A outer s H vs Q E hr h => ?_)
  · obtain ⟨v, b, rfl, _⟩ := h
    rfl
  · obtain ⟨v, b, rfl, h, q⟩ := h
    refine ⟨_, (pss_cons (ps_if (PW.pt (pw_or (pt_not (pt_val (pe_callB (Tp.call_isA (K := K) rfl) (by rfl) T.isinstance_ Tp.bt_isinstance (pa_cons (pv 0) (pa_cons (pe_bltn (v := .ty "str") (by rfl) T.str_ Tp.bt_str rfl) pa_nil))))) (pw_or1 (pt_not (pt_chain op_lt op_le pe_int (pe_callB call_len_str (by rfl) T.len_ Tp.bt_len (pa_cons (pv 0) pa_nil)) (Tp.pe_glI (by rfl) T.mg_LONGEST_NAME)))))) (pss_one (ps_ret pe_bl)) pss_nil)
      (pss_one (ps_ret (pe_and (pe_cmpR op_in_sign (pe_ix ix_str (pv 0) pe_int (fun _ _ => rfl)) (Tp.pe_glS (by rfl) T.mg_LETTERS) (by rfl)) (pe_one (pe_cmpR op_eq (pe_bm PySem.F.plainAttrs_str PySem.F.slot_str_strip PySem.F.type_str_strip mt_stripChars (pv 0) (pa_cons (pe_op op_add_str (Tp.pe_glS (by rfl) T.mg_LETTERS) (Tp.pe_glS (by rfl) T.mg_DIGITS)) pa_nil)) pe_str (nomark _))))))), ?_⟩
    rcases h with ⟨z, rfl, hz, rfl⟩ | ⟨⟨t, ty, kt⟩, rfl⟩
    · have hz' : z.length ≤ sizeLine := Nat.le_trans hz (by decide)
      refine ⟨_, rfl, _, _, _, _, true, rfl, .ty _, .x (.base (.str z)), kit_ty (by decide +kernel), _, rfl, iteF ?_⟩
      refine ⟨_, rfl, z, rfl, hz', _, _, rfl, rfl, _, rfl, if2 (fun l0 => ?_) (fun l0 => ?_)⟩
      rotate_left
      · rw [nm_nil l0] at q
        exact ⟨_, rfl, iteT q⟩
      refine ⟨_, _, rfl, rfl, _, rfl, ifn2 (fun l1 => ?_) (fun l1 => ?_)⟩
      rotate_left
      · rw [nm_long l1] at q
        exact q
      obtain ⟨c, cs, e⟩ : ∃ c cs, z.cps.toList = c :: cs := by
        cases e : z.cps.toList with
        | nil => have l := len_list z; rw [e] at l; simp at l; omega
        | cons c cs => exact ⟨c, cs, rfl⟩
      rw [nm_cons e l1] at q
      have at0 : atI z.cps.toList 0 = some c := by rw [e]; exact atI_nat (j := 0) rfl
      refine ⟨_, rfl, z, _, c, rfl, rfl, hz', at0, c, _, rfl, rfl, ?_⟩
      rw [show decide (c ∈ (Str.ofString "abcdefghijklmnopqrstuvwxyz").cps.toList) = lowC c from by
        by_cases h : c ∈ ("abcdefghijklmnopqrstuvwxyz" : Str).cps.toList
        · exact (decide_eq_true h).trans ((mem_low c).mp h).symm
        · exact (decide_eq_false h).trans (Bool.eq_false_iff.mpr fun k => h ((mem_low c).mpr k)).symm]
      refine ⟨_, rfl, ?_⟩
      cases hl : lowC c with
      | false =>
        rw [hl, Bool.false_and] at q
        exact iteF q
      | true =>
        rw [hl, Bool.true_and] at q
        refine iteT ⟨_, rfl, rfl, _, _, rfl, rfl, (by decide), z, _, rfl, rfl, hz', rfl, ?_⟩
        have e2 : decide (V.str (Txt.stripChars z (Str.ofString "abcdefghijklmnopqrstuvwxyz" ++ Str.ofString "0123456789")) = V.str (Str.ofString "")) = (c :: cs).all fun x => lowC x || digC x := by
          cases hb : (c :: cs).all fun x => lowC x || digC x with
          | true => exact decide_eq_true (congrArg V.str ((strip_empty _ _).mpr fun x hx => (mem_sign x).mpr (List.all_eq_true.mp hb x (by rw [← e]; exact hx))))
          | false =>
            refine decide_eq_false fun k => Bool.eq_false_iff.mp hb (List.all_eq_true.mpr fun x hx => ?_)
            exact (mem_sign x).mp ((strip_empty _ _).mp (V.str.inj k) x (by rw [e]; exact hx))
        show Q (V.bl (decide _)) H
        rw [e2]
        exact q
    · exact ⟨_, rfl, _, _, _, _, false, rfl, .ty _, ty, kt, _, rfl, iteT q⟩
theorem ok_iInvalidMeaning (T : Txt K mg a d) : FnOk P w K mg base CX0 1 a.iInvalidMeaning d.iInvalidMeaning ["self", "value"] (spXI a.CInvalidMeaning "value") := by
  refine okN T.F_iInvalidMeaning scInvalidMeaning (fun vs H Q E h => ?_) (fun cdv A outer s H vs Q E hr h => ?_)
  · obtain ⟨x, v, rfl, _⟩ := h
    rfl
  · obtain ⟨x, v, rfl, hx, q⟩ := h
    refine ⟨_, (pss_cons (ps_expr (Tp.pe_initB (by rfl) T.mg_NetError T.ba_NetError (pa_cons (pv 0) (pa_cons pe_str pa_nil))))
      (pss_one (Tp.ps_ostB (b := .ve) (pv 0) (pv 1)))), ?_⟩
    exact ⟨_, rfl, x, _, _, rfl, by decide, T.cx_InvalidMeaning.ox, hx, _, rfl, _, rfl, x, _, rfl, T.cx_InvalidMeaning.ox, (T.xi_InvalidMeaning.no "value" (by decide)), .inl ⟨hx, fun dx h1 h2 => q dx h1 h2⟩⟩
theorem x_InvalidMeaning (T : Txt K mg a d) : ExB .ve P w K mg base a.CInvalidMeaning a.iInvalidMeaning d.iInvalidMeaning ["self", "value"] (spXI a.CInvalidMeaning "value") := mkX T.cx_InvalidMeaning T.xi_InvalidMeaning (ok_iInvalidMeaning T) T.b_iInvalidMeaning
theorem ok_iInvalidValues (T : Txt K mg a d) : FnOk P w K mg base CX0 1 a.iInvalidValues d.iInvalidValues ["self", "value"] (spXI a.CInvalidValues "value") := by
  refine okN T.F_iInvalidValues scInvalidValues (fun vs H Q E h => ?_) (fun cdv A outer s H vs Q E hr h => ?_)
  · obtain ⟨x, v, rfl, _⟩ := h
    rfl
  · obtain ⟨x, v, rfl, hx, q⟩ := h
    refine ⟨_, (pss_cons (ps_expr (Tp.pe_initB (by rfl) T.mg_NetError T.ba_NetError (pa_cons (pv 0) (pa_cons pe_str pa_nil))))
      (pss_one (Tp.ps_ostB (b := .ve) (pv 0) (pv 1)))), ?_⟩
    exact ⟨_, rfl, x, _, _, rfl, by decide, T.cx_InvalidValues.ox, hx, _, rfl, _, rfl, x, _, rfl, T.cx_InvalidValues.ox, (T.xi_InvalidValues.no "value" (by decide)), .inl ⟨hx, fun dx h1 h2 => q dx h1 h2⟩⟩
theorem x_InvalidValues (T : Txt K mg a d) : ExB .ve P w K mg base a.CInvalidValues a.iInvalidValues d.iInvalidValues ["self", "value"] (spXI a.CInvalidValues "value") := mkX T.cx_InvalidValues T.xi_InvalidValues (ok_iInvalidValues T) T.b_iInvalidValues
theorem ok_iUnknownSymbol (T : Txt K mg a d) : FnOk P w K mg base CX0 1 a.iUnknownSymbol d.iUnknownSymbol ["self", "name"] (spXI a.CUnknownSymbol "name") := by
  refine okN T.F_iUnknownSymbol scUnknownSymbol (fun vs H Q E h => ?_) (fun cdv A outer s H vs Q E hr h => ?_)
  · obtain ⟨x, v, rfl, _⟩ := h
    rfl
  · obtain ⟨x, v, rfl, hx, q⟩ := h
    refine ⟨_, (pss_cons (ps_expr (Tp.pe_initB (by rfl) T.mg_MissingError T.ba_MissingError (pa_cons (pv 0) (pa_cons pe_str pa_nil))))
      (pss_one (Tp.ps_ostB (b := .ke) (pv 0) (pv 1)))), ?_⟩
    exact ⟨_, rfl, x, _, _, rfl, by decide, T.cx_UnknownSymbol.ox, hx, _, rfl, _, rfl, x, _, rfl, T.cx_UnknownSymbol.ox, (T.xi_UnknownSymbol.no "name" (by decide)), .inl ⟨hx, fun dx h1 h2 => q dx h1 h2⟩⟩
theorem x_UnknownSymbol (T : Txt K mg a d) : ExB .ke P w K mg base a.CUnknownSymbol a.iUnknownSymbol d.iUnknownSymbol ["self", "name"] (spXI a.CUnknownSymbol "name") := mkX T.cx_UnknownSymbol T.xi_UnknownSymbol (ok_iUnknownSymbol T) T.b_iUnknownSymbol
theorem ok_iUnknownTerm (T : Txt K mg a d) : FnOk P w K mg base CX0 1 a.iUnknownTerm d.iUnknownTerm ["self", "number"] (spXI a.CUnknownTerm "number") := by
  refine okN T.F_iUnknownTerm scUnknownTerm (fun vs H Q E h => ?_) (fun cdv A outer s H vs Q E hr h => ?_)
  · obtain ⟨x, v, rfl, _⟩ := h
    rfl
  · obtain ⟨x, v, rfl, hx, q⟩ := h
    refine ⟨_, (pss_cons (ps_expr (Tp.pe_initB (by rfl) T.mg_MissingError T.ba_MissingError (pa_cons (pv 0) (pa_cons pe_str pa_nil))))
      (pss_one (Tp.ps_ostB (b := .ke) (pv 0) (pv 1)))), ?_⟩
    exact ⟨_, rfl, x, _, _, rfl, by decide, T.cx_UnknownTerm.ox, hx, _, rfl, _, rfl, x, _, rfl, T.cx_UnknownTerm.ox, (T.xi_UnknownTerm.no "number" (by decide)), .inl ⟨hx, fun dx h1 h2 => q dx h1 h2⟩⟩
theorem x_UnknownTerm (T : Txt K mg a d) : ExB .ke P w K mg base a.CUnknownTerm a.iUnknownTerm d.iUnknownTerm ["self", "number"] (spXI a.CUnknownTerm "number") := mkX T.cx_UnknownTerm T.xi_UnknownTerm (ok_iUnknownTerm T) T.b_iUnknownTerm
theorem ok_iUnknownSample (T : Txt K mg a d) : FnOk P w K mg base CX0 1 a.iUnknownSample d.iUnknownSample ["self", "name", "index"] (spX2 a.CUnknownSample "name" "index") := by
  refine okN T.F_iUnknownSample scUnknownSample (fun vs H Q E h => ?_) (fun cdv A outer s H vs Q E hr h => ?_)
  · obtain ⟨x, v, w, rfl, _⟩ := h
    rfl
  · obtain ⟨x, v, w, rfl, hx, q⟩ := h
    refine ⟨_, (pss_cons (ps_expr (Tp.pe_initB (by rfl) T.mg_MissingError T.ba_MissingError (pa_cons (pv 0) (pa_cons pe_str pa_nil))))
      (pss_cons (Tp.ps_ostB (b := .ke) (pv 0) (pv 1))
      (pss_one (Tp.ps_ostB (b := .ke) (pv 0) (pv 2))))), ?_⟩
    refine ⟨_, rfl, x, _, _, rfl, by decide, T.cx_UnknownSample.ox, hx, _, rfl, _, rfl, x, _, rfl, T.cx_UnknownSample.ox, (T.xi_UnknownSample.no "name" (by decide)), .inl ⟨hx, fun dx h1 h2 => ⟨_, rfl, _, rfl, x, _, rfl, T.cx_UnknownSample.ox, (T.xi_UnknownSample.no "index" (by decide)), .inr ⟨dx, [("name", v)], upd_same, by rw [upd_ne h2]; exact upd_same, (show 1 ≤ 900 from by decide), ?_⟩⟩⟩⟩
    rw [two_heap h2]
    exact q dx h1 h2
theorem x_UnknownSample (T : Txt K mg a d) : ExB .ke P w K mg base a.CUnknownSample a.iUnknownSample d.iUnknownSample ["self", "name", "index"] (spX2 a.CUnknownSample "name" "index") := mkX T.cx_UnknownSample T.xi_UnknownSample (ok_iUnknownSample T) T.b_iUnknownSample
def intD (d : PyData) (lo hi : Int) : Bool := match d with
  | .int i => decide (lo ≤ i) && decide (i ≤ hi)
  | _ => false
def IntIs (K : PySem.W.Frag) (H : Hp) (v : V) (lo hi : Int) (b : Bool) : Prop := (∃ d, Dq K H v d ∧ b = intD d lo hi) ∨ ((∃ t, TyX K H v t ∧ PySem.W.kitOne K t (.type "int") = some false) ∧ b = false)
def spIsInt (K : PySem.W.Frag) : Sp := fun vs H Q _ => ∃ (v : V) (lo hi : Int) (b : Bool), vs = [v, .int lo, .int hi] ∧ IntIs K H v lo hi b ∧ Q (.bl b) H
theorem ok_isInt (T : Txt K mg a d) : FnOk P w K mg base CX0 1 a.isInt d.isInt ["value", "low", "high"] (spIsInt K) := by
  refine okN T.F_isInt scIsInt (fun vs H Q E h => ?_) (fun cdv A outer s H vs Q E hr h => ?_)
  · obtain ⟨v, lo, hi, b, rfl, _⟩ := h
    rfl
  · obtain ⟨v, lo, hi, b, rfl, h, q⟩ := h
    refine ⟨_, (pss_one (ps_ret (pe_and (pe_callB call_isi (by rfl) T.isinstance_ Tp.bt_isinstance (pa_cons (pv 0) (pa_cons (pe_bltn (v := .ty "int") (by rfl) T.int_ Tp.bt_int rfl) pa_nil))) (pe_and (pe_not (pe_callB call_isi (by rfl) T.isinstance_ Tp.bt_isinstance (pa_cons (pv 0) (pa_cons (pe_bltn (v := .ty "bool") (by rfl) T.bool_ Tp.bt_bool rfl) pa_nil)))) (pe_one (pe_chain op_le op_le (pv 1) (pv 0) (pv 2))))))), ?_⟩
    rcases h with ⟨dd, dq, rfl⟩ | ⟨⟨t, ty, kt⟩, rfl⟩
    · refine ⟨_, rfl, _, _, _, _, isI dd, rfl, .ty _, dq_ty dq, kit_int dd, _, rfl, ?_⟩
      cases dq with
      | int i =>
        refine iteT ⟨_, rfl, _, _, _, _, false, rfl, .ty _, .base (.int i), kit_ty (by decide +kernel), _, rfl, _, rfl, iteT ?_⟩
        refine ⟨_, rfl, _, rfl, _, _, rfl, rfl, _, rfl, if2 (fun c => ?_) (fun c => ?_)⟩
        · refine ⟨_, rfl, _, _, rfl, rfl, ?_⟩
          show Q (.bl (decide (i ≤ hi))) H
          have e : intD (.int i) lo hi = decide (i ≤ hi) := by
            show (decide (lo ≤ i) && decide (i ≤ hi)) = _
            rw [decide_eq_true c, Bool.true_and]
          rw [e] at q
          exact q
        · have e : intD (.int i) lo hi = false := by
            show (decide (lo ≤ i) && decide (i ≤ hi)) = _
            rw [decide_eq_false c, Bool.false_and]
          rw [e] at q
          exact q
      | bl b => exact iteT ⟨_, rfl, _, _, _, _, true, rfl, .ty _, .base (.bl b), kit_ty (by decide +kernel), _, rfl, _, rfl, iteF q⟩
      | _ => exact iteF q
    · exact ⟨_, rfl, _, _, _, _, false, rfl, .ty _, ty, kt, _, rfl, iteF q⟩
def spIsList (K : PySem.W.Frag) : Sp := fun vs H Q _ => ∃ (v : V) (t : Value) (b : Bool), vs = [v] ∧ TyX K H v t ∧ PySem.W.kitAny K t [.type "list", .type "tuple"] = some b ∧ ∀ H', Same H H' → Q (.bl b) H'
theorem ok_isList (T : Txt K mg a d) : FnOk P w K mg base CX0 1 a.isList d.isList ["value"] (spIsList K) := by
  refine okN T.F_isList scIsList (fun vs H Q E h => ?_) (fun cdv A outer s H vs Q E hr h => ?_)
  · obtain ⟨v, t, b, rfl, _⟩ := h
    rfl
  · obtain ⟨v, t, b, rfl, ty, kt, q⟩ := h
    refine ⟨_, (pss_one (ps_ret (pe_callB call_isiT (by rfl) T.isinstance_ Tp.bt_isinstance (pa_cons (pv 0) (pa_cons (pe_tup (pa_cons (pe_bltn (v := .ty "list") (by rfl) T.list_ Tp.bt_list rfl) (pa_cons (pe_bltn (v := .ty "tuple") (by rfl) T.tuple_ Tp.bt_tuple rfl) pa_nil))) pa_nil))))), ?_⟩
    refine ⟨_, rfl, (show 2 ≤ sizeLine from by decide), fun tp ntp => ?_⟩
    exact ⟨v, tp, _, t, _, b, rfl, upd_same, cls_lt, ty_same (same_new ntp) ty, kt, q _ (same_new ntp)⟩
def NoLT (K : PySem.W.Frag) (H : Hp) (v : V) : Prop := ∃ t, TyX K H v t ∧ PySem.W.kitAny K t [.type "list", .type "tuple"] = some false
def pairD (d : PyData) : Bool := isLT d && decide ((itemsD d).length = 2)
def PairIs (K : PySem.W.Frag) (H : Hp) (v : V) (b : Bool) : Prop := (∃ d, Dq K H v d ∧ b = pairD d) ∨ (NoLT K H v ∧ b = false)
def spIsPair (K : PySem.W.Frag) : Sp := fun vs H Q _ => ∃ (v : V) (b : Bool), vs = [v] ∧ PairIs K H v b ∧ ∀ H', Same H H' → Q (.bl b) H'
theorem ok_isPair (T : Txt K mg a d) : FnOk P w K mg base CX0 2 a.isPair d.isPair ["value"] (spIsPair K) := by
  have G_isList := ok_isList (P := P) (w := w) (base := base) T
  refine okN T.F_isPair scIsPair (fun vs H Q E h => ?_) (fun cdv A outer s H vs Q E hr h => ?_)
  · obtain ⟨v, b, rfl, _⟩ := h
    rfl
  · obtain ⟨v, b, rfl, h, q⟩ := h
    refine ⟨_, (pss_one (ps_ret (pe_and (pe_call G_isList (hr.mono (by decide)) (by rfl) T.mg_isList T.F_isList.kp T.b_isList .nil pass0 (pa_cons (pv 0) pa_nil)) (pe_one (pe_cmpR op_eq (pe_callB call_len_seq (by rfl) T.len_ Tp.bt_len (pa_cons (pv 0) pa_nil)) pe_int (nomark _)))))), ?_⟩
    rcases h with ⟨dd, dq, rfl⟩ | ⟨⟨t, ty, kt⟩, rfl⟩
    · refine ⟨_, rfl, v, _, _, rfl, dq_ty dq, kit_lt dd, fun H1 S1 => ⟨_, rfl, ?_⟩⟩
      cases e : isLT dd with
      | false =>
        have q := q H1 S1
        unfold pairD at q
        rw [e, Bool.false_and] at q
        exact iteF q
      | true =>
        obtain ⟨l, xs, rfl, sq, da⟩ := dq_seq dq e
        refine iteT ⟨_, rfl, l, xs, rfl, sqB_len (sq.same S1), rfl, ?_⟩
        have q := q H1 S1
        have e2 : decide (V.int (xs.length : Int) = V.int 2) = decide ((itemsD dd).length = 2) := by
          rw [← dqAll_len da]
          by_cases h : xs.length = 2
          · rw [decide_eq_true h]; exact decide_eq_true (by rw [h]; rfl)
          · rw [decide_eq_false h]; exact decide_eq_false (fun k => h (by have := V.int.inj k; omega))
        unfold pairD at q
        rw [e, Bool.true_and, ← e2] at q
        exact q
    · exact ⟨_, rfl, v, _, _, rfl, ty, kt, fun H1 S1 => ⟨_, rfl, iteF (q _ S1)⟩⟩
def turnD (d : PyData) : Bool := match d with
  | .int i => decide (0 ≤ i)
  | _ => false
def spIsTurn (K : PySem.W.Frag) : Sp := fun vs H Q _ => ∃ (v : V) (b : Bool), vs = [v] ∧ ((∃ e, Dq K H v e ∧ b = turnD e) ∨ ((∃ t, TyX K H v t ∧ PySem.W.kitOne K t (.type "int") = some false) ∧ b = false)) ∧ Q (.bl b) H
theorem ok_isTurn (T : Txt K mg a d) : FnOk P w K mg base CX0 1 a.isTurn d.isTurn ["value"] (spIsTurn K) := by
  refine okN T.F_isTurn scIsTurn (fun vs H Q E h => ?_) (fun cdv A outer s H vs Q E hr h => ?_)
  · obtain ⟨v, b, rfl, _⟩ := h
    rfl
  · obtain ⟨v, b, rfl, h, q⟩ := h
    refine ⟨_, (pss_one (ps_ret (pe_and (pe_callB call_isi (by rfl) T.isinstance_ Tp.bt_isinstance (pa_cons (pv 0) (pa_cons (pe_bltn (v := .ty "int") (by rfl) T.int_ Tp.bt_int rfl) pa_nil))) (pe_and (pe_not (pe_callB call_isi (by rfl) T.isinstance_ Tp.bt_isinstance (pa_cons (pv 0) (pa_cons (pe_bltn (v := .ty "bool") (by rfl) T.bool_ Tp.bt_bool rfl) pa_nil)))) (pe_one (pe_cmpR op_ge (pv 0) pe_int (nomark _))))))), ?_⟩
    rcases h with ⟨dd, dq, rfl⟩ | ⟨⟨t, ty, kt⟩, rfl⟩
    · refine ⟨_, rfl, _, _, _, _, isI dd, rfl, .ty _, dq_ty dq, kit_int dd, _, rfl, ?_⟩
      cases dq with
      | int i => exact iteT ⟨_, rfl, _, _, _, _, false, rfl, .ty _, .base (.int i), kit_ty (by decide +kernel), _, rfl, _, rfl, iteT ⟨_, rfl, _, _, rfl, rfl, q⟩⟩
      | bl b => exact iteT ⟨_, rfl, _, _, _, _, true, rfl, .ty _, .base (.bl b), kit_ty (by decide +kernel), _, rfl, _, rfl, iteF q⟩
      | _ => exact iteF q
    · exact ⟨_, rfl, _, _, _, _, false, rfl, .ty _, ty, kt, _, rfl, iteF q⟩
def isSm (r : BRow) : Bool := match r.sec with
  | .inl _ => false
  | .inr _ => true
def spIsSample (K : PySem.W.Frag) : Sp := fun vs H Q _ => ∃ (p : Addr) (r : BRow), vs = [.ref p] ∧ RowAt K H r p ∧ Q (.bl (isSm r)) H
theorem ok_isSample (T : Txt K mg a d) : FnOk P w K mg base CX0 1 a.isSample d.isSample ["row"] (spIsSample K) := by
  refine okN T.F_isSample scIsSample (fun vs H Q E h => ?_) (fun cdv A outer s H vs Q E hr h => ?_)
  · obtain ⟨p, r, rfl, _⟩ := h
    rfl
  · obtain ⟨p, r, rfl, h, q⟩ := h
    refine ⟨_, (pss_one (ps_ret (pe_callB call_isi (by rfl) T.isinstance_ Tp.bt_isinstance (pa_cons (pe_ix ix_tup (pv 0) pe_int (fun _ _ => rfl)) (pa_cons (pe_bltn (v := .ty "int") (by rfl) T.int_ Tp.bt_int rfl) pa_nil))))), ?_⟩
    unfold isSm at q
    rcases h.inv with ⟨l, b, e, h1, h2⟩ | ⟨t, e, h1⟩
    · rw [e] at q
      exact ⟨_, rfl, p, _, 1, _, rfl, rfl, h1, rfl, _, _, _, _, false, rfl, .ty _, ty_sqT h2, kit_int (.tuple []), q⟩
    · rw [e] at q
      exact ⟨_, rfl, p, _, 1, _, rfl, rfl, h1, rfl, _, _, _, _, true, rfl, .ty _, .base (.int _), kit_int (.int 0), q⟩
def spArgsOf (K : PySem.W.Frag) : Sp := fun vs H Q _ => ∃ (p : Addr) (r : BRow), vs = [.ref p] ∧ RowAt K H r p ∧ ∀ b H', Same H H' → SqT K H' b (numsV r.args) → Q (.ref b) H'
theorem ok_argsOf (T : Txt K mg a d) : FnOk P w K mg base CX0 2 a.argsOf d.argsOf ["row"] (spArgsOf K) := by
  have G_isSample := ok_isSample (P := P) (w := w) (base := base) T
  refine okN T.F_argsOf scArgsOf (fun vs H Q E h => ?_) (fun cdv A outer s H vs Q E hr h => ?_)
  · obtain ⟨p, r, rfl, _⟩ := h
    rfl
  · obtain ⟨p, r, rfl, h, q⟩ := h
    refine ⟨_, (pss_one (ps_ret (pe_ifExp (pt_val (pe_call G_isSample (hr.mono (by decide)) (by rfl) T.mg_isSample T.F_isSample.kp T.b_isSample .nil pass0 (pa_cons (pv 0) pa_nil))) (pe_tup pa_nil) (pe_ix ix_tup (pv 0) pe_int (fun _ _ => rfl))))), ?_⟩
    refine ⟨_, rfl, p, r, rfl, h, _, rfl, ?_⟩
    unfold BRow.args at q
    unfold isSm
    rcases h.inv with ⟨l, b, e, h1, h2⟩ | ⟨t, e, h1⟩
    · rw [e] at q ⊢
      exact iteF ⟨_, rfl, p, _, 1, _, rfl, rfl, h1, rfl, q _ _ (Same.refl _) h2⟩
    · rw [e] at q ⊢
      exact iteT ⟨Nat.zero_le _, fun z hz => q z _ (same_new hz) (SqT.of upd_same)⟩
end
end L05
set_option Elab.async false
set_option linter.all false
set_option maxRecDepth 100000
set_option maxHeartbeats 4000000
set_option pp.deepTerms false
set_option pp.deepTerms.threshold 4
set_option pp.maxSteps 1000
namespace L05
open PySem L2 Tp
section
variable {P : Program} {w : World} {K : PySem.W.Frag} {mg : Str → Option Value} {base : Heap} {a : Ad} {d : Fd}
theorem hd_look {x y : V} : List.lookup ("held" : Str) [("held", x), ("numbers", y)] = some x := by simp [List.lookup]
theorem nm_look {x y : V} : List.lookup ("numbers" : Str) [("held", x), ("numbers", y)] = some y := by
  have : (("numbers" : Str) == ("held" : Str)) = false := by decide
  simp [List.lookup, this]
theorem no_look {x y : V} {m : Str} (h1 : m ≠ "held") (h2 : m ≠ "numbers") : List.lookup m [("held", x), ("numbers", y)] = none := by
  have e1 : (m == ("held" : Str)) = false := beq_eq_false_iff_ne.mpr h1
  have e2 : (m == ("numbers" : Str)) = false := beq_eq_false_iff_ne.mpr h2
  simp [List.lookup, e1, e2]
def spHasNumber (P : Program) (w : World) (K : PySem.W.Frag) (C : Addr) : Sp := fun vs H Q _ => ∃ (x l m : Addr) (rows : List BRow) (as : List Addr) (v : V) (b : Bool), vs = [.ref x, v] ∧ BookAt P w K C H x l m rows as ∧ IntIs K H v 0 ((rows.length : Nat) - 1) b ∧ Q (.bl b) H
theorem ok_hasNumber (T : Txt K mg a d) : FnOk P w K mg base CX0 2 a.hasNumber d.hasNumber ["self", "number"] (spHasNumber P w K a.CBook) := by
  have G_isInt := ok_isInt (P := P) (w := w) (base := base) T
  refine okN T.F_hasNumber scHasNumber (fun vs H Q E h => ?_) (fun cdv A outer s H vs Q E hr h => ?_)
  · obtain ⟨x, l, m, rows, as, v, b, rfl, _⟩ := h
    rfl
  · obtain ⟨x, l, m, rows, as, v, b, rfl, bk, iv, q⟩ := h
    refine ⟨_, (pss_one (ps_ret (pe_call G_isInt (hr.mono (by decide)) (by rfl) T.mg_isInt T.F_isInt.kp T.b_isInt .nil pass0 (pa_cons (pv 1) (pa_cons pe_int (pa_cons (pe_op op_sub (pe_callB call_len_seq (by rfl) T.len_ Tp.bt_len (pa_cons (pe_fld (pv 0) (by rfl)) pa_nil)) pe_int) pa_nil)))))), ?_⟩
    obtain ⟨dx, ho⟩ := bk.obj
    refine ⟨_, rfl, _, rfl, x, _, _, _, _, rfl, ho, T.cl_Book, T.n_Book_held, hd_look, l, _, rfl, .inl (SqL.of bk.lst), _, _, rfl, rfl, v, 0, _, b, rfl, ?_, q⟩
    rw [List.length_map, ← bk.len]
    exact iv
theorem int_is {H : Hp} {n L : Nat} (h : n < L) : IntIs K H (.int (n : Nat)) 0 ((L : Nat) - 1) true := by
  refine .inl ⟨.int (n : Nat), .int _, ?_⟩
  show true = (decide ((0 : Int) ≤ ((n : Nat) : Int)) && decide (((n : Nat) : Int) ≤ ((L : Nat) : Int) - 1))
  rw [decide_eq_true (show (0 : Int) ≤ (n : Nat) by omega), decide_eq_true (show ((n : Nat) : Int) ≤ (L : Nat) - 1 by omega)]
  rfl
def Rz (E : XK) (X : Addr) (f : Str) (v : V) (H : Hp) : Prop := ∀ dx H', Same H H' → H' dx = some (.xd [(f, v)]) → E (.ref X) (some dx) H'
theorem Rz.same {E : XK} {X : Addr} {f : Str} {v : V} {H H' : Hp} (h : Rz E X f v H) (S : Same H H') : Rz E X f v H' := fun dx H2 S2 g => h dx H2 (S.trans S2) g
theorem IntIs.same {H H' : Hp} {v : V} {lo hi : Int} {b : Bool} (h : IntIs K H v lo hi b) (S : Same H H') : IntIs K H' v lo hi b := by
  rcases h with ⟨d, dq, e⟩ | ⟨⟨t, ty, k⟩, e⟩
  · exact .inl ⟨d, (dq_same S).1 dq, e⟩
  · exact .inr ⟨⟨t, ty_same S ty, k⟩, e⟩
def NumIs (K : PySem.W.Frag) (H : Hp) (rows : List BRow) (v : V) (b : Bool) : Prop := IntIs K H v 0 ((rows.length : Nat) - 1) b
def spNeedNumberX (P : Program) (w : World) (K : PySem.W.Frag) (C X : Addr) : Sp := fun vs H Q E => ∃ (x l m : Addr) (rows : List BRow) (as : List Addr) (v : V) (b : Bool), vs = [.ref x, v] ∧ BookAt P w K C H x l m rows as ∧ NumIs K H rows v b ∧ (b = true → Q .non H) ∧ (b = false → Rz E X "number" v H)
theorem ok_needNumberX (T : Txt K mg a d) : FnOk P w K mg base (L2.CX P w) 3 a.needNumber d.needNumber ["self", "number"] (spNeedNumberX P w K a.CBook a.CUnknownTerm) := by
  have G_hasNumber := ok_hasNumber (P := P) (w := w) (base := base) T
  refine okX T.F_needNumber scNeedNumber (fun vs H Q E h => ?_) (fun cdv A outer s H vs Q E hr h tk po => ?_)
  · obtain ⟨x, l, m, rows, as, v, b, rfl, _⟩ := h
    rfl
  · obtain ⟨x, l, m, rows, as, v, b, rfl, bk, hn, q1, q2⟩ := h
    refine ⟨_, (pss_one (ps_if (pt_not (pt_val (pe_meth (pv 0) T.cl_Book T.me_hasNumber G_hasNumber (hr.mono (by decide)) T.b_hasNumber .nil pass0 (pa_cons (pv 1) pa_nil)))) (pss_one (Tp.ps_raiseB (k := 0) rfl (x_UnknownTerm T) (hr.mono (by decide)) tk (by rfl) T.mg_UnknownTerm (pa_cons (pv 1) pa_nil))) pss_nil)), ?_⟩
    obtain ⟨dx, ho⟩ := bk.obj
    refine ⟨_, rfl, x, _, _, rfl, ho, no_look (by decide) (by decide), _, rfl, x, l, m, rows, as, v, b, rfl, bk, hn, _, rfl, ?_⟩
    cases b with
    | true => exact iteF (q1 rfl)
    | false => exact iteT ⟨_, rfl, (show 1 ≤ 1000 from by decide), fun z hz => ⟨z, _, rfl, upd_same, fun dz k n => ⟨rfl, dz, _, upd_same, by rw [upd_ne n]; exact upd_same, by rw [upd_ne n] at k; exact k, q2 rfl dz _ (same_fly hz k) upd_same⟩⟩⟩
def spNumberOf (P : Program) (w : World) (K : PySem.W.Frag) (C : Addr) : Sp := fun vs H Q _ => ∃ (x l m : Addr) (rows : List BRow) (as : List Addr) (p : Addr) (r : BRow), vs = [.ref x, .ref p] ∧ BookAt P w K C H x l m rows as ∧ RowAt K H r p ∧ rows.length < 100000 ∧
  (∀ i : Nat, idxR rows r = some i → Q (.int (i : Nat)) H) ∧ (r ∉ rows → ∀ H', Kp2 l m H H' → BookAt P w K C H' x l m (rows ++ [r]) (as ++ [p]) → Q (.int (rows.length : Nat)) H')
theorem mem_idx : ∀ {rows : List BRow} {r : BRow}, idxR rows r = none → r ∉ rows
  | [], _, _ => by simp
  | y :: l, r, h => by
    unfold idxR at h
    by_cases e : y = r
    · rw [if_pos e] at h; cases h
    · rw [if_neg e] at h
      intro m
      rcases List.mem_cons.mp m with z | m
      · exact e z.symm
      · exact mem_idx (Option.map_eq_none_iff.mp h) m
theorem ok_numberOf (T : Txt K mg a d) : FnOk P w K mg base CX0 1 a.numberOf d.numberOf ["self", "row"] (spNumberOf P w K a.CBook) := by
  refine okN T.F_numberOf scNumberOf (fun vs H Q E h => ?_) (fun cdv A outer s H vs Q E hr h => ?_)
  · obtain ⟨x, l, m, rows, as, p, r, rfl, _⟩ := h
    rfl
  · obtain ⟨x, l, m, rows, as, p, r, rfl, bk, rw_, few, q1, q2⟩ := h
    refine ⟨_, (pss_cons (ps_if (pt_cmpR (Tp.op_notInN hr.units) (pv 1) (pe_fld (pv 0) (by rfl)) (by rfl)) (pss_cons (Tp.ps_nput hr.units (pe_fld (pv 0) (by rfl)) (pv 1) (pe_callB call_len_seq (by rfl) T.len_ Tp.bt_len (pa_cons (pe_fld (pv 0) (by rfl)) pa_nil)) rfl)
      (pss_one (ps_expr (pe_bm PySem.F.plainAttrs_list PySem.F.slot_list_append PySem.F.type_list_append mt_append (pe_fld (pv 0) (by rfl)) (pa_cons (pv 1) pa_nil))))) pss_nil)
      (pss_one (ps_ret (Tp.pe_nget hr.units (pe_fld (pv 0) (by rfl)) (pv 1) (fun _ _ => rfl))))), ?_⟩
    obtain ⟨dx, ho⟩ := bk.obj
    have lk := ents_look 0 rows as r bk.len
    refine ⟨_, rfl, _, rfl, x, _, _, _, _, rfl, ho, T.cl_Book, T.n_Book_numbers, nm_look, m, p, _, r.key, rfl, rfl, bk.num, bk.nok, rw_.nk, key_depth r, _, rfl, ?_⟩
    cases hi : idxR rows r with
    | some i =>
      rw [hi] at lk
      rw [lk]
      refine iteF ?_
      refine ⟨_, rfl, x, _, _, _, _, rfl, ho, T.cl_Book, T.n_Book_numbers, nm_look, _, rfl, m, p, _, r.key, _, rfl, rfl, bk.num, bk.nok, rw_.nk, key_depth r, lk, ?_⟩
      have := q1 i hi
      show Q (V.int ((0 + i : Nat) : Int)) H
      rw [Nat.zero_add]
      exact this
    | none =>
      rw [hi] at lk
      have lk : lookN (ents 0 rows as) r.key = none := lk
      rw [lk]
      refine iteT ?_
      have hlen : (ents 0 rows as).length < sizeLine := by
        rw [ents_len 0 rows as bk.len]
        exact Nat.lt_of_lt_of_le few (by decide)
      refine ⟨_, rfl, x, _, _, _, _, rfl, ho, T.cl_Book, T.n_Book_held, hd_look, l, _, rfl, .inl (SqL.of bk.lst), _, rfl, x, _, _, _, _, rfl, ho, T.cl_Book, T.n_Book_numbers, nm_look, _, rfl, m, p, _, r.key, rfl, rfl, bk.num, bk.nok, rw_.nk, key_depth r, lk, hlen, ?_⟩
      rw [List.length_map, ← bk.len]
      have e1 : ents 0 rows as ++ [(r.key, p, V.int (rows.length : Nat))] = ents 0 (rows ++ [r]) (as ++ [p]) := by
        rw [ents_snoc 0 rows as r p bk.len, Nat.zero_add]
      rw [e1]
      have nlm := bk.nlm
      have ho1 : (upd H m (dN P w m (ents 0 (rows ++ [r]) (as ++ [p])))) x = some (.ins a.CBook dx [("held", .ref l), ("numbers", .ref m)]) := by rw [upd_ne bk.nxm]; exact ho
      have hl1 : (upd H m (dN P w m (ents 0 (rows ++ [r]) (as ++ [p])))) l = some (.lst (as.map V.ref)) := by rw [upd_ne nlm]; exact bk.lst
      have hla : (as.map V.ref).length < sizeLine := by
        rw [List.length_map, ← bk.len]
        exact Nat.lt_of_lt_of_le few (by decide)
      refine ⟨_, rfl, x, _, _, _, _, rfl, ho1, T.cl_Book, T.n_Book_held, hd_look, .inl ⟨rfl, _, SqL.of hl1⟩, _, rfl, l, _, _, rfl, rfl, hl1, hla, ?_⟩
      have k2 : Kp2 l m H (upd (upd H m (dN P w m (ents 0 (rows ++ [r]) (as ++ [p])))) l (.lst (as.map V.ref ++ [.ref p]))) := fun b o n1 n2 h => by rw [upd_ne n1, upd_ne n2]; exact h
      have S := bk.sameT k2
      have bk2 : BookAt P w K a.CBook (upd (upd H m (dN P w m (ents 0 (rows ++ [r]) (as ++ [p])))) l (.lst (as.map V.ref ++ [.ref p]))) x l m (rows ++ [r]) (as ++ [p]) := by
        refine ⟨⟨dx, k2 _ _ bk.nxl bk.nxm ho⟩, ?_, ?_, paired_snoc (paired_imp (fun _ _ h => h.sameT S) bk.row) (rw_.sameT S), ?_, ?_⟩
        · rw [upd_same, List.map_append]
          rfl
        · rw [upd_ne (Ne.symm nlm)]
          exact upd_same
        · rw [List.nodup_append]
          refine ⟨bk.nd, by simp, fun y hy z hz => ?_⟩
          rw [List.mem_singleton.mp hz]
          exact fun e => mem_idx hi (by rw [← e]; exact hy)
        · rw [List.length_append]
          exact few
      obtain ⟨dx', ho'⟩ := bk2.obj
      have rw2 := rw_.sameT S
      have lk2 : lookN (ents 0 (rows ++ [r]) (as ++ [p])) r.key = some (.int (rows.length : Nat)) := by
        rw [← e1]
        exact lookN_new lk
      exact ⟨_, rfl, x, _, _, _, _, rfl, ho', T.cl_Book, T.n_Book_numbers, nm_look, _, rfl, m, p, _, r.key, _, rfl, rfl, bk2.num, bk2.nok, rw2.nk, key_depth r, lk2, q2 (mem_idx hi) _ k2 bk2⟩
def GoodL (r : BRow) (n : Nat) : Prop := nmB r.nm = true ∧ r.nm.length ≤ 10000 ∧ ((∃ l, r.sec = .inl l ∧ l.length ≤ 3 ∧ ∀ j ∈ l, j < n) ∨ ∃ t, r.sec = .inr t ∧ t < 5)
def spAddItem (P : Program) (w : World) (K : PySem.W.Frag) (C : Addr) : Sp := fun vs H Q _ => ∃ (x l m : Addr) (rows : List BRow) (as : List Addr) (p : Addr) (r : BRow), vs = [.ref x, .ref p] ∧ BookAt P w K C H x l m rows as ∧ RowAt K H r p ∧ rows.length < 100000 ∧ GoodL r rows.length ∧ r ∉ rows ∧
  ∀ H' p', Kp2 l m H H' → BookAt P w K C H' x l m (rows ++ [r]) (as ++ [p']) → Q .non H'
theorem ok_addItem (T : Txt K mg a d) : FnOk P w K mg base CX0 3 a.addItem d.addItem ["self", "item"] (spAddItem P w K a.CBook) := by
  have G_isPair := ok_isPair (P := P) (w := w) (base := base) T
  have G_isTurn := ok_isTurn (P := P) (w := w) (base := base) T
  have G_isList := ok_isList (P := P) (w := w) (base := base) T
  have G_isName := ok_isName (P := P) (w := w) (base := base) T
  have G_hasNumber := ok_hasNumber (P := P) (w := w) (base := base) T
  have G_numberOf := ok_numberOf (P := P) (w := w) (base := base) T
  refine okN T.F_addItem scAddItem (fun vs H Q E h => ?_) (fun cdv A outer s H vs Q E hr h => ?_)
  · obtain ⟨x, l, m, rows, as, p, r, rfl, _⟩ := h
    rfl
  · obtain ⟨x, l, m, rows, as, p, r, rfl, bk, rw_, few, ⟨gn, gl, hsec⟩, new, q⟩ := h
    obtain ⟨n, sec⟩ := r
    refine ⟨_, (pss_cons (ps_if (pt_not (pt_val (pe_call G_isPair (hr.mono (by decide)) (by rfl) T.mg_isPair T.F_isPair.kp T.b_isPair .nil pass0 (pa_cons (pv 1) pa_nil)))) (pss_one ps_never) pss_nil)
      (pss_cons (ps_asg (pv 1) (pg_tup (by rfl) (pgs_cons (pg_name (i := 2) scAddItem.nd rfl (Or.inl rfl)) (pgs_cons (pg_name (i := 3) scAddItem.nd rfl (Or.inl rfl)) pgs_nil))))
      (pss_cons (ps_if (PW.pt (pw_and (pt_not (pt_val (pe_call G_isTurn (hr.mono (by decide)) (by rfl) T.mg_isTurn T.F_isTurn.kp T.b_isTurn .nil pass0 (pa_cons (pv 3) pa_nil)))) (pw_and1 (pt_not (PW.pt (pw_and (pt_val (pe_call G_isList (hr.mono (by decide)) (by rfl) T.mg_isList T.F_isList.kp T.b_isList .nil pass0 (pa_cons (pv 3) pa_nil))) (pw_and1 (pt_cmpR op_le (pe_callB call_len_seq (by rfl) T.len_ Tp.bt_len (pa_cons (pv 3) pa_nil)) (Tp.pe_glI (by rfl) T.mg_MOST_ARGUMENTS) (nomark _))))))))) (pss_one ps_never) pss_nil)
      (pss_cons (ps_if (pt_not (pt_val (pe_call G_isName (hr.mono (by decide)) (by rfl) T.mg_isName T.F_isName.kp T.b_isName .nil pass0 (pa_cons (pv 2) pa_nil)))) (pss_one ps_never) pss_nil)
      (pss_cons (ps_if (pt_val (pe_call G_isList (hr.mono (by decide)) (by rfl) T.mg_isList T.F_isList.kp T.b_isList .nil pass0 (pa_cons (pv 3) pa_nil))) (pss_cons (ps_if (pt_not (pt_val (pe_callB (cr_all rfl) (by rfl) T.all_ Tp.bt_all (pa_cons (pe_lc (own := [("number", 4)]) (by rfl) scAddItem.nd (pi_tup (pv 3)) (blkOk_by (own := [("number", 4)]) (N := scAddItem_N) (sc := defScope scAddItem_st) (by decide +kernel)) (fun _ _ _ _ _ => (pg_name (i := 4) scAddItem.nd rfl (Or.inl rfl))) (fun _ _ _ _ _ => pts_nil) (fun _ _ _ _ _ => (pe_meth (pv 0) T.cl_Book T.me_hasNumber G_hasNumber (hr.mono (by decide)) T.b_hasNumber .nil pass0 (pa_cons (pv 4) pa_nil)))) pa_nil)))) (pss_one ps_never) pss_nil)
      (pss_one (ps_set (i := 3) scAddItem.nd rfl (Or.inl rfl) (pe_callTy call_tuple_of (by rfl) T.tuple_ Tp.bt_tuple (pa_cons (pv 3) pa_nil))))) pss_nil)
      (pss_cons (ps_if (pt_cmpR (Tp.op_inN hr.units) (pe_tup (pa_cons (pv 2) (pa_cons (pv 3) pa_nil))) (pe_fld (pv 0) (by rfl)) (by rfl)) (pss_one ps_never) pss_nil)
      (pss_one (ps_expr (pe_meth (pv 0) T.cl_Book T.me_numberOf G_numberOf (hr.mono (by decide)) T.b_numberOf .nil pass0 (pa_cons (pe_tup (pa_cons (pv 2) (pa_cons (pv 3) pa_nil))) pa_nil)))))))))), ?_⟩
    refine ⟨_, rfl, .ref p, _, rfl, .inl ⟨_, dp_dq.1 rw_, rfl⟩, fun H1 S1 => ⟨_, rfl, iteF ?_⟩⟩
    have rw1 := rw_.same S1
    have bk1 := bk.same S1
    rcases rw1.inv with ⟨ns, b, e, h1, h2⟩ | ⟨tn, e, h1⟩
    rotate_left
    · obtain rfl : sec = .inr tn := e
      refine ⟨_, rfl, p, _, rfl, h1, rfl, _, _, rfl, _, _, rfl, rfl, ?_⟩
      refine ⟨_, rfl, .int (tn : Nat), true, rfl, .inl ⟨.int (tn : Nat), .int _, (decide_eq_true (show (0 : Int) ≤ (tn : Nat) by omega)).symm⟩, _, rfl, iteF ?_⟩
      refine ⟨_, rfl, .str n, true, rfl, .inl ⟨n, rfl, gl, gn.symm⟩, _, rfl, iteF ?_⟩
      refine ⟨_, rfl, .int (tn : Nat), _, false, rfl, .base (.int _), kit_lt (.int 0), fun H4 S4 => ⟨_, rfl, iteF ?_⟩⟩
      have bk4 := bk1.same S4
      refine ⟨_, rfl, _, rfl, (show 2 ≤ sizeLine from by decide), fun t ht => ?_⟩
      have S5 : Same H4 (upd H4 t (.tup [.str n, .int (tn : Nat)])) := same_new ht
      have g5 : (upd H4 t (.tup [.str n, .int (tn : Nat)])) t = some (.tup [.str n, .int (tn : Nat)]) := upd_same
      generalize upd H4 t (.tup [.str n, .int (tn : Nat)]) = H5 at S5 g5 ⊢
      have bk5 := bk4.same S5
      obtain ⟨dx, ho⟩ := bk5.obj
      have rw5 : RowAt K H5 ⟨n, .inr tn⟩ t := .mkT (SqT.of g5)
      have lk : lookN (ents 0 rows as) (BRow.key ⟨n, .inr tn⟩) = none := by
        rw [ents_look 0 rows as _ bk5.len, idx_none new]
        rfl
      refine ⟨_, rfl, x, _, _, _, _, rfl, ho, T.cl_Book, T.n_Book_numbers, nm_look, m, t, _, _, rfl, rfl, bk5.num, bk5.nok, rw5.nk, key_depth _, _, rfl, ?_⟩
      rw [lk]
      refine iteF ?_
      refine ⟨_, rfl, x, _, _, rfl, ho, no_look (by decide) (by decide), _, rfl, _, rfl, (show 2 ≤ sizeLine from by decide), fun t2 ht2 => ?_⟩
      have S6 : Same H5 (upd H5 t2 (.tup [.str n, .int (tn : Nat)])) := same_new ht2
      have g6 : (upd H5 t2 (.tup [.str n, .int (tn : Nat)])) t2 = some (.tup [.str n, .int (tn : Nat)]) := upd_same
      generalize upd H5 t2 (.tup [.str n, .int (tn : Nat)]) = H6 at S6 g6 ⊢
      refine ⟨x, l, m, rows, as, t2, ⟨n, .inr tn⟩, rfl, bk5.same S6, .mkT (SqT.of g6), few, fun i hi => ?_, fun _ H7 k7 bk7 => ?_⟩
      · rw [idx_none new] at hi
        cases hi
      · exact q H7 t2 ((Kp2.of (S1.trans (S4.trans (S5.trans S6)))).trans k7) bk7
    obtain rfl : sec = .inl ns := e
    rcases hsec with ⟨ns', es, l3, lt⟩ | ⟨_, es, _⟩
    rotate_left
    · cases es
    cases es
    refine ⟨_, rfl, p, _, rfl, h1, rfl, _, _, rfl, _, _, rfl, rfl, ?_⟩
    refine ⟨_, rfl, .ref b, false, rfl, .inl ⟨.tuple (numsD ns), .tup h2 (dp_dq.2 (dpN ns)), rfl⟩, _, rfl, iteT ?_⟩
    refine ⟨_, rfl, .ref b, _, true, rfl, ty_sqT h2, kit_lt (.tuple []), fun H2 S2 => ⟨_, rfl, iteT ?_⟩⟩
    refine ⟨_, rfl, b, _, rfl, .inr (sqT_same S2 h2), _, _, rfl, rfl, _, rfl, ifnY ?_ ?_⟩
    · show (((numsV ns).length : Nat) : Int) ≤ 3
      unfold numsV
      rw [List.length_map]
      omega
    refine ⟨_, rfl, .str n, true, rfl, .inl ⟨n, rfl, gl, gn.symm⟩, _, rfl, iteF ?_⟩
    refine ⟨_, rfl, .ref b, _, true, rfl, ty_sqT (sqT_same S2 h2), kit_lt (.tuple []), fun H3 S3 => ⟨_, rfl, iteT ?_⟩⟩
    have h3 := sqT_same S3 (sqT_same S2 h2)
    have bk3 := (bk1.same S2).same S3
    have S13 := S1.trans (S2.trans S3)
    refine ⟨_, rfl, b, rfl, ⟨_, h3⟩, fun D hD => lc_it (walk_tup (xs := numsV ns)) (fun i H' => Same H3 H' ∧ H' D = some (.lst ((List.replicate i true).map V.bl))) ⟨same_new hD, upd_same⟩ ?_ ?_ ?_⟩
    · rintro i H' _ ⟨S, _⟩
      exact sqT_same S h3
    · rintro i v _ H' hi ⟨S, hD'⟩ ⟨rfl, hv⟩
      unfold numsV at hv
      rw [List.getElem?_map] at hv
      obtain ⟨k, hk, rfl⟩ := Option.map_eq_some_iff.mp hv
      have bk' := bk3.same S
      obtain ⟨dx, ho⟩ := bk'.obj
      have hi : i < 4 := by
        have : (numsV ns).length = ns.length := by unfold numsV; rw [List.length_map]
        omega
      refine ⟨rfl, _, rfl, x, _, _, rfl, ho, no_look (by decide) (by decide), _, rfl, x, l, m, rows, as, _, true, rfl, bk', int_is (lt k (List.mem_of_getElem? hk)), _, hD', ?_, Tp.Same.mut S hD, ?_⟩
      · rw [List.length_map, List.length_replicate]
        exact Nat.lt_of_lt_of_le hi (by decide)
      · rw [upd_same, List.replicate_succ', List.map_append]
        rfl
    · rintro H4 ⟨S4, hD'⟩
      refine ⟨D, _, rfl, SqL.of hD', _, rfl, ?_⟩
      have ea : (List.replicate (numsV ns).length true).all id = true := List.all_eq_true.mpr fun y hy => by rw [List.eq_of_mem_replicate hy]; rfl
      rw [ea]
      refine iteF ?_
      have h4 := sqT_same S4 h3
      have bk4 := bk3.same S4
      refine ⟨_, rfl, b, _, rfl, .inr ⟨h4, ?_⟩⟩
      refine ⟨_, rfl, _, rfl, (show 2 ≤ sizeLine from by decide), fun t ht => ?_⟩
      have S5 : Same H4 (upd H4 t (.tup [.str n, .ref b])) := same_new ht
      have g5 : (upd H4 t (.tup [.str n, .ref b])) t = some (.tup [.str n, .ref b]) := upd_same
      generalize upd H4 t (.tup [.str n, .ref b]) = H5 at S5 g5 ⊢
      have bk5 := bk4.same S5
      obtain ⟨dx, ho⟩ := bk5.obj
      have rw5 : RowAt K H5 ⟨n, .inl ns⟩ t := .mkL (SqT.of g5) (sqT_same S5 h4)
      have lk : lookN (ents 0 rows as) (BRow.key ⟨n, .inl ns⟩) = none := by
        rw [ents_look 0 rows as _ bk5.len, idx_none new]
        rfl
      refine ⟨_, rfl, x, _, _, _, _, rfl, ho, T.cl_Book, T.n_Book_numbers, nm_look, m, t, _, _, rfl, rfl, bk5.num, bk5.nok, rw5.nk, key_depth _, _, rfl, ?_⟩
      rw [lk]
      refine iteF ?_
      refine ⟨_, rfl, x, _, _, rfl, ho, no_look (by decide) (by decide), _, rfl, _, rfl, (show 2 ≤ sizeLine from by decide), fun t2 ht2 => ?_⟩
      have S6 : Same H5 (upd H5 t2 (.tup [.str n, .ref b])) := same_new ht2
      have g6 : (upd H5 t2 (.tup [.str n, .ref b])) t2 = some (.tup [.str n, .ref b]) := upd_same
      generalize upd H5 t2 (.tup [.str n, .ref b]) = H6 at S6 g6 ⊢
      refine ⟨x, l, m, rows, as, t2, ⟨n, .inl ns⟩, rfl, bk5.same S6, .mkL (SqT.of g6) (sqT_same S6 (sqT_same S5 h4)), few, fun i hi => ?_, fun _ H7 k7 bk7 => ?_⟩
      · rw [idx_none new] at hi
        cases hi
      · exact q H7 t2 ((Kp2.of (S13.trans (S4.trans (S5.trans S6)))).trans k7) bk7
end
end L05
set_option Elab.async false
set_option linter.all false
set_option maxRecDepth 100000
set_option maxHeartbeats 4000000
set_option pp.deepTerms false
set_option pp.deepTerms.threshold 4
set_option pp.maxSteps 1000
namespace L05
open PySem L2 Tp
section
variable {P : Program} {w : World} {K : PySem.W.Frag} {mg : Str → Option Value} {base : Heap} {a : Ad} {d : Fd}
theorem nm_ok {z : Str} (h : nmB z = true) : PyData.strOk z = true := by
  unfold PyData.strOk
  rw [← Array.all_toList]
  unfold nmB at h
  cases e : z.cps.toList with
  | nil => rfl
  | cons c cs =>
    rw [e] at h
    obtain ⟨_, h⟩ := Bool.and_eq_true_iff.mp h
    obtain ⟨_, h⟩ := Bool.and_eq_true_iff.mp h
    refine List.all_eq_true.mpr fun x hx => ?_
    have := List.all_eq_true.mp h x hx
    refine decide_eq_true ?_
    rcases Bool.or_eq_true_iff.mp this with k | k
    · obtain ⟨_, k2⟩ := Bool.and_eq_true_iff.mp k
      have := of_decide_eq_true k2
      omega
    · obtain ⟨_, k2⟩ := Bool.and_eq_true_iff.mp k
      have := of_decide_eq_true k2
      omega
theorem nums_lay : ∀ l : List Nat, PyData.canLayAll0 (numsD l) = true ∧ PyData.depthAll (numsD l) = 0
  | [] => ⟨rfl, rfl⟩
  | n :: l => by
    obtain ⟨h1, h2⟩ := nums_lay l
    unfold numsD at h1 h2 ⊢
    rw [List.map_cons]
    simp only [PyData.canLayAll0, PyData.depthAll, PyData.canLay0, PyData.depth, h1, h2, Bool.and_self, Nat.max_self, and_self]
theorem row_lay {r : BRow} (g : nmB r.nm = true) : r.data.canLay0 = true ∧ r.data.depth ≤ 2 := by
  obtain ⟨n, s⟩ := r
  have g := nm_ok g
  cases s with
  | inl l =>
    obtain ⟨h1, h2⟩ := nums_lay l
    simp only [BRow.data, PyData.canLay0, PyData.canLayAll0, PyData.depth, PyData.depthAll, h1, h2, g]
    decide
  | inr t =>
    simp only [BRow.data, PyData.canLay0, PyData.canLayAll0, PyData.depth, PyData.depthAll, g]
    decide
def rowsD (rows : List BRow) : PyData := .list (rows.map BRow.data)
theorem rows_lay : ∀ {rows : List BRow}, (∀ r ∈ rows, nmB r.nm = true) → PyData.canLayAll0 (rows.map BRow.data) = true ∧ PyData.depthAll (rows.map BRow.data) ≤ 2
  | [], _ => ⟨rfl, Nat.zero_le _⟩
  | r :: rows, g => by
    obtain ⟨h1, h2⟩ := rows_lay (rows := rows) fun x hx => g x (List.mem_cons_of_mem _ hx)
    obtain ⟨k1, k2⟩ := row_lay (g r List.mem_cons_self)
    rw [List.map_cons]
    simp only [PyData.canLayAll0, PyData.depthAll, k1, h1, Bool.and_self, true_and]
    omega
theorem rows_shaped {rows : List BRow} (g : ∀ r ∈ rows, nmB r.nm = true) : SeqAt.shaped (rowsD rows) = true := by
  obtain ⟨h1, h2⟩ := rows_lay g
  unfold SeqAt.shaped rowsD
  simp only [PyData.canLay0, PyData.depth, h1, Bool.true_and]
  exact decide_eq_true (by omega)
theorem rows_eqv {rows : List BRow} (g : ∀ r ∈ rows, nmB r.nm = true) : PyData.eqv (rowsD rows) (rowsD rows) = true := SeqAt.eqv_refl _ (by
  unfold rowsD
  simp only [PyData.canLay0]
  exact (rows_lay g).1)
theorem rows_dp {H : Hp} {rows : List BRow} {as : List Addr} (h : Paired (RowAt K H) rows as) : DpAll K H (as.map V.ref) (rows.map BRow.data) := by
  induction h with
  | nil => exact .nil
  | cons h _ ih => exact .cons h ih
theorem sqB_off {b : Bool} {H H' : Hp} {p x C dx : Addr} {fs : List (Str × V)} {xs : List V} (h : SqB b K H p xs) (hx : H x = some (.ins C dx fs)) (k : ∀ b o, b ≠ x → H b = some o → H' b = some o) : SqB b K H' p xs := by
  cases b with
  | true =>
    rcases h with (h | ⟨o, h⟩) | h
    · exact .inl (.inl (k _ _ (fun z => by rw [z, hx] at h; cases h) h))
    · exact .inl (.inr ⟨o, k _ _ (fun z => by rw [z, hx] at h; cases h) h⟩)
    · exact .inr h
  | false =>
    rcases h with (h | ⟨o, h⟩) | h
    · exact .inl (.inl (k _ _ (fun z => by rw [z, hx] at h; cases h) h))
    · exact .inl (.inr ⟨o, k _ _ (fun z => by rw [z, hx] at h; cases h) h⟩)
    · exact .inr h
theorem sameT_off {H H' : Hp} {x C dx : Addr} {fs : List (Str × V)} (hx : H x = some (.ins C dx fs)) (k : ∀ b o, b ≠ x → H b = some o → H' b = some o) : SameT H H' :=
  ⟨fun a xs h => k _ _ (fun z => by rw [z, hx] at h; cases h) h, fun a o xs h => k _ _ (fun z => by rw [z, hx] at h; cases h) h⟩
theorem take_succ {α : Type} {l : List α} {i : Nat} {r : α} (h : l[i]? = some r) : l.take (i + 1) = l.take i ++ [r] := by
  rw [List.take_add_one, h]
  rfl
def spBookInit (P : Program) (w : World) (K : PySem.W.Frag) (C : Addr) : Sp := fun vs H Q _ => ∃ (x dx : Addr) (b : Bool) (p : Addr) (rows : List BRow) (ps : List Addr), vs = [.ref x, .ref p] ∧ H x = some (.ins C dx []) ∧ SqB b K H p (ps.map V.ref) ∧ Paired (RowAt K H) rows ps ∧ rows.Nodup ∧ rows.length ≤ 100000 ∧
  (∀ (i : Nat) (r : BRow), rows[i]? = some r → GoodL r i) ∧ ∀ H' l m as, H l = none → H m = none → (∀ b o, b ≠ x → H b = some o → H' b = some o) → BookAt P w K C H' x l m rows as → Q .non H'
theorem okD {k : Nat} {f : Addr} {fd : FuncData} {ps : List Str} {sp : Sp} {x qual : Str} {st : Stmt} {dvs : List V} {kws : List (Str × V)} {N : List Str} (F : FunD K x qual (defArgs st) (defBody st) (defScope st) dvs kws f fd) (S : FnScope N ps (defScope st))
    (ar : ∀ vs H Q E, sp vs H Q E → vs.length = ps.length)
    (bd : ∀ (cdv : Value) (A : Around) (outer : List Env) (s : Shared) (H : Hp) (vs : List V) (Q : VK) (E : XK), Room k (A.deeper (PyProof.Rows.envOfC qual (defScope st) s.heap.objs.size f cdv)) → sp vs H Q E →
      ∃ t, PSs (cxOf CX0 P w K mg base N qual (defScope st) f cdv A outer s H E).nox (defBody st) t ∧ t { nx := fun _ H' => Q .non H', rt := Q } (start N vs) H) :
    FnOk P w K mg base CX0 (k + 1) f fd ps sp := F.ok S ar fun cdv A outer s H vs Q E hr h => let ⟨t, p, q⟩ := bd cdv A outer s H vs Q E hr h; ⟨t, p.nox, q⟩
theorem ok_bookInit (T : Txt K mg a d) : FnOk P w K mg base CX0 4 a.bookInit d.bookInit ["self", "rows"] (spBookInit P w K a.CBook) := by
  have G_isList := ok_isList (P := P) (w := w) (base := base) T
  have G_addItem := ok_addItem (P := P) (w := w) (base := base) T
  refine okD T.F_bookInit scBookInit (fun vs H Q E h => ?_) (fun cdv A outer s H vs Q E hr h => ?_)
  · obtain ⟨x, dx, b, p, rows, ps, rfl, _⟩ := h
    rfl
  · obtain ⟨x, dx, b, p, rows, ps, rfl, hx, sq, pr, nd, few, good, q⟩ := h
    refine ⟨_, (pss_cons (ps_if (pt_not (pt_val (pe_call G_isList (hr.mono (by decide)) (by rfl) T.mg_isList T.F_isList.kp T.b_isList .nil pass0 (pa_cons (pv 1) pa_nil)))) (pss_one ps_never) pss_nil)
      (pss_cons (ps_fld (pv 0) (pe_lst pa_nil) rfl)
      (pss_cons (ps_fld (pv 0) Tp.pe_dnewN rfl)
      (pss_one (ps_for PassesOwn.never rfl (Tp.pi_B (K := K) rfl (pv 1)) (pg_name (i := 2) scBookInit.nd rfl (Or.inl rfl)) (pss_one (ps_expr (pe_meth (pv 0) T.cl_Book T.me_addItem G_addItem (hr.mono (by decide)) T.b_addItem .nil pass0 (pa_cons (pv 2) pa_nil))))))))), ?_⟩
    have tyP : ∃ t, TyX K H (.ref p) t ∧ PySem.W.kitAny K t [.type "list", .type "tuple"] = some true := by
      cases b with
      | true => exact ⟨_, ty_sqT sq, kit_lt (.tuple [])⟩
      | false => exact ⟨_, ty_sqL sq, kit_lt (.list [])⟩
    obtain ⟨t, ty, kt⟩ := tyP
    refine ⟨_, rfl, .ref p, t, true, rfl, ty, kt, fun H1 S1 => ⟨_, rfl, iteF ?_⟩⟩
    have hx1 := S1 _ _ hx
    refine ⟨Nat.zero_le _, fun l hl => ?_⟩
    have nxl : x ≠ l := ne_of_none hx1 hl
    refine ⟨_, rfl, x, a.CBook, dx, [], rfl, (by rw [upd_ne nxl]; exact hx1), T.cl_Book, T.n_Book_held, (by show 0 < 1000; decide), fun m hm => ?_⟩
    have nxm : x ≠ m := fun z => by
      rw [z, upd_same] at hm
      cases hm
    have nlm : l ≠ m := fun z => by
      rw [← z, upd_ne (Ne.symm nxl), upd_same] at hm
      cases hm
    have hm1 : H1 m = none := by rw [upd_ne (Ne.symm nxm), upd_ne (Ne.symm nlm)] at hm; exact hm
    refine ⟨_, rfl, x, a.CBook, dx, _, rfl, (by rw [upd_ne nxm]; exact upd_same), T.cl_Book, T.n_Book_numbers, (by show 1 < 1000; decide), ?_⟩
    have bk0 : BookAt P w K a.CBook (upd (upd (upd (upd H1 l (.lst [])) x (.ins a.CBook dx (putF "held" (.ref l) []))) m (dN P w m [])) x (.ins a.CBook dx (putF "numbers" (.ref m) (putF "held" (.ref l) [])))) x l m [] [] := by
      refine ⟨⟨dx, upd_same⟩, ?_, ?_, .nil, List.nodup_nil, Nat.zero_le _⟩
      · rw [upd_ne (Ne.symm nxl), upd_ne nlm, upd_ne (Ne.symm nxl)]
        exact upd_same
      · rw [upd_ne (Ne.symm nxm)]
        exact upd_same
    have k0 : ∀ b o, b ≠ x → H b = some o → (upd (upd (upd (upd H1 l (.lst [])) x (.ins a.CBook dx (putF "held" (.ref l) []))) m (dN P w m [])) x (.ins a.CBook dx (putF "numbers" (.ref m) (putF "held" (.ref l) [])))) b = some o := fun b o nb h => by
      have h1 := S1 _ _ h
      rw [upd_ne nb, upd_ne (ne_of_none h1 hm1), upd_ne nb, upd_ne (ne_of_none h1 hl)]
      exact h1
    have hlH : H l = none := none_same S1 hl
    have hmH : H m = none := none_same S1 hm1
    refine ⟨_, rfl, b, p, _, rfl, sqB_off sq hx k0, for_it (walk_B (xs := ps.map V.ref)) (fun i σ H' => (∃ as, BookAt P w K a.CBook H' x l m (rows.take i) as) ∧ (∀ b o, b ≠ x → H b = some o → H' b = some o) ∧ ∃ v, σ = [some (.ref x), some (.ref p), v]) ⟨⟨[], bk0⟩, k0, _, rfl⟩ ?_ ?_ ?_⟩
    · rintro i σ H' _ ⟨_, k, _⟩
      exact sqB_off sq hx k
    · rintro i v σ _ H' hi ⟨⟨as, bk⟩, k, v0, rfl⟩ ⟨rfl, hv⟩
      rw [List.getElem?_map] at hv
      obtain ⟨pi, hp, rfl⟩ := Option.map_eq_some_iff.mp hv
      rw [List.length_map] at hi
      have lr : rows.length = ps.length := Paired.length pr
      have hir : i < rows.length := by omega
      have er : rows[i]? = some rows[i] := List.getElem?_eq_getElem hir
      obtain ⟨pi2, hp2, ra⟩ := Tp.paired_get pr er
      rw [hp] at hp2
      cases hp2
      obtain ⟨dx', ho⟩ := bk.obj
      have lt : (rows.take i).length = i := by rw [List.length_take]; omega
      refine ⟨_, rfl, x, _, _, rfl, ho, no_look (by decide) (by decide), _, rfl, x, l, m, rows.take i, as, pi, rows[i], rfl, bk, ra.sameT (sameT_off hx k), by omega, by rw [lt]; exact good i _ er, ?_, fun H'' p' k2 bk2 => ?_⟩
      · intro hm
        obtain ⟨j, hj, e⟩ := List.mem_iff_getElem.mp hm
        rw [lt] at hj
        rw [List.getElem_take] at e
        have := (List.getElem_inj nd).mp e
        omega
      · refine ⟨⟨as ++ [p'], by rw [take_succ er]; exact bk2⟩, fun b o nb h => k2 _ _ (ne_of_none h hlH) (ne_of_none h hmH) (k b o nb h), _, rfl⟩
    · rintro σ H' ⟨⟨as, bk⟩, k, _⟩
      have e : rows.take (ps.map V.ref).length = rows := by
        rw [List.length_map, ← Paired.length pr]
        exact List.take_length
      rw [e] at bk
      exact q H' l m as hlH hmH k bk
theorem bk0 (T : Txt K mg a d) : ∃ ds, Vals [V.ref a.bkE] ds ∧ Binds K d.bookInit ["self", "rows"] ds :=
  T.F_bookInit.binds1 1 0 (by simp) rfl fun TT kV doc pm an cdv ct us its hu hi => match us, hu, its, hi with
    | [_], _, [_], _ => ⟨_, rfl, rfl⟩
theorem bk1 (T : Txt K mg a d) : Binds K d.bookInit ["self", "rows"] [] := by
  obtain ⟨ds, v, h⟩ := T.F_bookInit.binds1 (ps := ["self", "rows"]) 2 1 (by simp) rfl fun TT kV doc pm an cdv ct us its hu hi => match us, hu, its, hi with
    | [_, _], _, [_], _ => ⟨_, rfl, rfl⟩
  cases v
  exact h
def spRowsB (P : Program) (w : World) (K : PySem.W.Frag) (C : Addr) : Sp := fun vs H Q _ => ∃ (x l m : Addr) (rows : List BRow) (as : List Addr), vs = [.ref x] ∧ BookAt P w K C H x l m rows as ∧ ∀ q, H q = none → Q (.ref q) (upd H q (.lst (as.map V.ref)))
theorem ok_rows (T : Txt K mg a d) : FnOk P w K mg base CX0 1 a.rows d.rows ["self"] (spRowsB P w K a.CBook) := by
  refine okN T.F_rows scRows (fun vs H Q E h => ?_) (fun cdv A outer s H vs Q E hr h => ?_)
  · obtain ⟨x, l, m, rows, as, rfl, _⟩ := h
    rfl
  · obtain ⟨x, l, m, rows, as, rfl, bk, q⟩ := h
    refine ⟨_, (pss_one (ps_ret (pe_callTy call_list_of (by rfl) T.list_ Tp.bt_list (pa_cons (pe_fld (pv 0) (by rfl)) pa_nil)))), ?_⟩
    obtain ⟨dx, ho⟩ := bk.obj
    exact ⟨_, rfl, x, _, _, _, _, rfl, ho, T.cl_Book, T.n_Book_held, hd_look, l, _, rfl, .inl (SqL.of bk.lst), fun q0 h0 => q q0 h0⟩
end
end L05
set_option Elab.async false
set_option linter.all false
set_option maxRecDepth 100000
set_option maxHeartbeats 4000000
set_option pp.deepTerms false
set_option pp.deepTerms.threshold 4
set_option pp.maxSteps 1000
namespace L05
open PySem L2 Tp
section
variable {P : Program} {w : World} {K : PySem.W.Frag} {mg : Str → Option Value} {base : Heap} {a : Ad} {d : Fd}
def ndK (ks : List Int) : List (L2.Key × V) := ks.map fun k => (Sum.inl k, V.bl true)
theorem nd_val (ks : List Int) (j : Int) : valV (ndK ks) (Sum.inl j) = if j ∈ ks then some (V.bl true) else none := by
  unfold ndK valV
  induction ks with
  | nil => rfl
  | cons k ks ih =>
    rw [List.map_cons, List.find?_cons]
    by_cases e : k = j
    · subst e
      rw [if_pos List.mem_cons_self]
      show (match decide ((Sum.inl k : L2.Key) = Sum.inl k) with | true => _ | false => _ : Option _).map _ = _
      rw [decide_eq_true rfl]
      rfl
    · show (match decide ((Sum.inl k : L2.Key) = Sum.inl j) with | true => _ | false => _ : Option _).map _ = _
      rw [decide_eq_false (fun z => e (Sum.inl.inj z))]
      show (List.find? _ _).map _ = _
      rw [ih]
      by_cases m : j ∈ ks
      · rw [if_pos m, if_pos (List.mem_cons_of_mem _ m)]
      · rw [if_neg m, if_neg (fun z => (List.mem_cons.mp z).elim (fun z => e z.symm) m)]
theorem nd_put (ks : List Int) (j : Int) : putK (ndK ks) (Sum.inl j) (.bl true) = ndK (if j ∈ ks then ks else ks ++ [j]) := by
  by_cases m : j ∈ ks
  · rw [if_pos m]
    unfold putK
    have a : ((ndK ks).any fun kv => decide (kv.1 = (Sum.inl j : L2.Key))) = true := List.any_eq_true.mpr ⟨(Sum.inl j, .bl true), List.mem_map.mpr ⟨j, m, rfl⟩, decide_eq_true rfl⟩
    rw [if_pos a]
    unfold ndK
    rw [List.map_map]
    refine List.map_congr_left fun k _ => ?_
    show (if (Sum.inl k : L2.Key) = Sum.inl j then ((Sum.inl k : L2.Key), V.bl true) else (Sum.inl k, V.bl true)) = _
    split <;> rfl
  · rw [if_neg m, putK_new _ (by rw [nd_val, if_neg m])]
    unfold ndK
    rw [List.map_append]
    rfl
structure NdOk (ks : List Int) (f : Nat → Bool) : Prop where
  nd : ks.Nodup
  mem : ∀ i : Int, i ∈ ks ↔ ∃ k : Nat, i = (k : Nat) ∧ f k = true
theorem NdOk.val {ks : List Int} {f : Nat → Bool} (h : NdOk ks f) (k : Nat) : (valV (ndK ks) (Sum.inl ((k : Nat) : Int))).isSome = f k := by
  rw [nd_val]
  cases e : f k with
  | true => rw [if_pos ((h.mem _).mpr ⟨k, rfl, e⟩)]; rfl
  | false =>
    rw [if_neg]
    · rfl
    · intro m
      obtain ⟨k', e1, e2⟩ := (h.mem _).mp m
      have : k = k' := by omega
      rw [← this, e] at e2
      cases e2
theorem NdOk.put {ks : List Int} {f : Nat → Bool} (h : NdOk ks f) (k : Nat) : NdOk (if ((k : Nat) : Int) ∈ ks then ks else ks ++ [((k : Nat) : Int)]) (fun j => f j || decide (j = k)) := by
  by_cases m : ((k : Nat) : Int) ∈ ks
  · rw [if_pos m]
    refine ⟨h.nd, fun i => ⟨fun hi => ?_, fun hi => ?_⟩⟩
    · obtain ⟨k', e1, e2⟩ := (h.mem i).mp hi
      exact ⟨k', e1, by rw [e2]; rfl⟩
    · obtain ⟨k', e1, e2⟩ := hi
      rcases Bool.or_eq_true_iff.mp e2 with e2 | e2
      · exact (h.mem i).mpr ⟨k', e1, e2⟩
      · rw [e1, of_decide_eq_true e2]
        exact m
  · rw [if_neg m]
    refine ⟨List.nodup_append.mpr ⟨h.nd, by simp, fun y hy z hz e => m (by rw [← List.mem_singleton.mp hz, ← e]; exact hy)⟩, fun i => ⟨fun hi => ?_, fun hi => ?_⟩⟩
    · rcases List.mem_append.mp hi with hi | hi
      · obtain ⟨k', e1, e2⟩ := (h.mem i).mp hi
        exact ⟨k', e1, by rw [e2]; rfl⟩
      · exact ⟨k, List.mem_singleton.mp hi, by simp⟩
    · obtain ⟨k', e1, e2⟩ := hi
      rcases Bool.or_eq_true_iff.mp e2 with e2 | e2
      · exact List.mem_append_left _ ((h.mem i).mpr ⟨k', e1, e2⟩)
      · rw [e1, of_decide_eq_true e2]
        exact List.mem_append_right _ (List.mem_singleton.mpr rfl)
theorem NdOk.congr {ks : List Int} {f g : Nat → Bool} (h : NdOk ks f) (e : ∀ j, f j = g j) : NdOk ks g := ⟨h.nd, fun i => (h.mem i).trans ⟨fun ⟨k, a, b⟩ => ⟨k, a, by rw [← e]; exact b⟩, fun ⟨k, a, b⟩ => ⟨k, a, by rw [e]; exact b⟩⟩⟩
def Few3 (rows : List BRow) : Prop := ∀ r ∈ rows, r.args.length ≤ 3
theorem none_of {H H' : Hp} {z : Addr} (S : Same H H') (h : H' z = none) : H z = none := by
  cases e : H z with
  | none => rfl
  | some o => rw [S _ _ e] at h; cases h
def spParts (P : Program) (w : World) (K : PySem.W.Frag) (C : Addr) : Sp := fun vs H Q _ => ∃ (x l m : Addr) (rows : List BRow) (as : List Addr) (n : Nat), vs = [.ref x, .int (n : Nat)] ∧ BookAt P w K C H x l m rows as ∧ WfR rows ∧ Few3 rows ∧ n < rows.length ∧
  ∀ q H', Same H H' → H q = none → H' q = some (.lst (numsV (partsR rows n))) → Q (.ref q) H'
def spPartsX (P : Program) (w : World) (K : PySem.W.Frag) (C X : Addr) : Sp := fun vs H _ E => ∃ (x l m : Addr) (rows : List BRow) (as : List Addr) (v : V), vs = [.ref x, v] ∧ BookAt P w K C H x l m rows as ∧ NumIs K H rows v false ∧ Rz E X "number" v H
def spPartsE (P : Program) (w : World) (K : PySem.W.Frag) (C X : Addr) : Sp := fun vs H Q E => spParts P w K C vs H Q E ∨ spPartsX P w K C X vs H Q E
theorem ok_parts (T : Txt K mg a d) : FnOk P w K mg base (L2.CX P w) 4 a.parts d.parts ["self", "number"] (spPartsE P w K a.CBook a.CUnknownTerm) := by
  have G_needNumber := ok_needNumberX (P := P) (w := w) (base := base) T
  have G_argsOf := ok_argsOf (P := P) (w := w) (base := base) T
  refine okX T.F_parts scParts (fun vs H Q E h => ?_) (fun cdv A outer s H vs Q E hr h tk po => ?_)
  · rcases h with ⟨x, l, m, rows, as, n, rfl, _⟩ | ⟨x, l, m, rows, as, v, rfl, _⟩ <;> rfl
  · refine ⟨_, (pss_cons (ps_expr (Tp.pe_methE (pv 0) T.cl_Book T.me_needNumber G_needNumber (hr.mono (by decide)) T.b_needNumber .nil (fun σ => passAt tk σ) (pa_cons (pv 1) pa_nil)))
      (pss_cons (ps_set (i := 2) scParts.nd rfl (Or.inl rfl) (pe_disp (pps_cons (pv 1) pe_bl pps_nil) (by rfl) (by rfl) (fun z => by cases z) (by decide)))
      (pss_cons (ps_for po rfl (pi_range3 (by rfl) T.range_ (pa_cons (pv 1) (pa_cons (pe_un un_neg pe_int) (pa_cons (pe_un un_neg pe_int) pa_nil)))) (pg_name (i := 3) scParts.nd rfl (Or.inl rfl)) (pss_one (ps_if (pt_cmpR (Tp.op_inDk (Tp.hu1 hr)) (pv 3) (pv 2) (by rfl)) (pss_one (ps_for po rfl (pi_tup (pe_call G_argsOf (hr.mono (by decide)) (by rfl) T.mg_argsOf T.F_argsOf.kp T.b_argsOf .nil pass0 (pa_cons (pe_ix ix_list (pe_fld (pv 0) (by rfl)) (pv 3) (fun _ _ => rfl)) pa_nil))) (pg_name (i := 4) scParts.nd rfl (Or.inl rfl)) (pss_one (ps_dput (Tp.hu1 hr) (pv 2) (pv 4) pe_bl rfl)))) pss_nil)))
      (pss_one (ps_ret (pe_callB (Tp.call_sortedKV rfl) (by rfl) T.sorted_ Tp.bt_sorted (pa_cons (Tp.pe_keysV (pv 2)) pa_nil))))))), ?_⟩
    rcases h with ⟨x, l, m, rows, as, n, rfl, bk, wf, f3, hn, q⟩ | ⟨x, l, m, rows, as, v, rfl, bk, hn, q⟩
    rotate_left
    · obtain ⟨dx, ho⟩ := bk.obj
      exact ⟨_, rfl, x, _, _, rfl, ho, no_look (by decide) (by decide), _, rfl, x, l, m, rows, as, v, false, rfl, bk, hn, (fun z => by cases z), fun _ => q⟩
    obtain ⟨dx, ho⟩ := bk.obj
    have n5 : n < 100000 := Nat.lt_of_lt_of_le hn bk.few
    refine ⟨_, rfl, x, _, _, rfl, ho, no_look (by decide) (by decide), _, rfl, x, l, m, rows, as, _, true, rfl, bk, int_is hn, (fun _ => ?_), (fun z => by cases z)⟩
    refine fun dd hd => ⟨_, rfl, upd_same, [(Sum.inl ((n : Nat) : Int), .bl true)], rfl, (show 1 ≤ 15 from by decide), ?_⟩
    have k0 : ∀ b o, b ≠ dd → H b = some o → (upd (upd H dd (.dK [])) dd (.dK (mergeK [] [(Sum.inl ((n : Nat) : Int), .bl true)]))) b = some o := fun b o nb h => by rw [upd_ne nb, upd_ne nb]; exact h
    have g0 : (upd (upd H dd (.dK [])) dd (.dK (mergeK [] [(Sum.inl ((n : Nat) : Int), .bl true)]))) dd = some (.dK (ndK [((n : Nat) : Int)])) := upd_same
    generalize upd (upd H dd (.dK [])) dd (.dK (mergeK [] [(Sum.inl ((n : Nat) : Int), .bl true)])) = H0 at k0 g0 ⊢
    have fr : ∀ {H' : Hp}, (∀ b o, b ≠ dd → H b = some o → H' b = some o) → Same H H' := fun k b o h => k b o (ne_of_none h hd) h
    have st0 : NdOk [((n : Nat) : Int)] (marks rows n 0) := ⟨by simp, fun i => ⟨fun h => ⟨n, List.mem_singleton.mp h, decide_eq_true rfl⟩, fun ⟨k, e1, e2⟩ => by rw [e1, of_decide_eq_true (p := k = n) e2]; exact List.mem_singleton.mpr rfl⟩⟩
    have rg : RgC ((n : Nat) : Int) (-1) (-1) (n + 1) := by
      have := RgC.neg (i := ((n : Nat) : Int)) (j := -1) (by omega) (by omega) (by omega) (by omega)
      rw [show (((n : Nat) : Int) - -1).toNat = n + 1 by omega] at this
      exact this
    refine ⟨_, rfl, _, rfl, _, rfl, _, _, _, n + 1, rfl, rg, for_rangeC (lo := ((n : Nat) : Int)) (c := -1) (n := n + 1) (fun i σ H' => (∃ ks, H' dd = some (.dK (ndK ks)) ∧ NdOk ks (marks rows n i) ∧ ks.length ≤ 1 + 3 * i) ∧ (∀ b o, b ≠ dd → H b = some o → H' b = some o) ∧ ∃ v3 v4, σ = [some (.ref x), some (.int (n : Nat)), some (.ref dd), v3, v4]) ⟨⟨_, g0, st0, by simp⟩, k0, _, _, rfl⟩ ?_ ?_⟩
    · rintro i σ H1 hi ⟨⟨ks, g1, ok, lk⟩, k1, v3, v4, rfl⟩
      have e1 : ((n : Nat) : Int) + ((i : Nat) : Int) * -1 = ((n - i : Nat) : Int) := by omega
      rw [e1]
      refine ⟨_, rfl, _, rfl, dd, _, rfl, .inl ⟨_, Sum.inl ((n - i : Nat) : Int), .inl g1, rfl, rfl⟩, _, rfl, ?_⟩
      rw [ok.val (n - i)]
      have hlt : n - i < rows.length := by omega
      have er : rows[n - i]? = some rows[n - i] := List.getElem?_eq_getElem hlt
      cases ef : marks rows n i (n - i) with
      | false =>
        refine iteF ⟨⟨ks, g1, ok.congr fun j => ?_, by omega⟩, k1, _, _, rfl⟩
        show _ = (marks rows n i j || (marks rows n i (n - i) && _))
        rw [ef, Bool.false_and, Bool.or_false]
      | true =>
        refine iteT ?_
        have bk1 := bk.same (fr k1)
        obtain ⟨dx1, ho1⟩ := bk1.obj
        obtain ⟨p, hp, rp⟩ := Tp.paired_get bk1.row er
        have a3 : (rows[n - i]).args.length ≤ 3 := f3 _ (List.getElem_mem hlt)
        refine ⟨_, rfl, x, _, _, _, _, rfl, ho1, T.cl_Book, T.n_Book_held, hd_look, _, rfl, l, _, _, _, rfl, rfl, SqL.of bk1.lst, atI_nat (by rw [List.getElem?_map, hp]; rfl), p, rows[n - i], rfl, rp, fun b H2 S2 sq => ?_⟩
        have k2 : ∀ b o, b ≠ dd → H b = some o → H2 b = some o := fun b o nb h => S2 _ _ (k1 b o nb h)
        have nb : ∀ {H' : Hp}, (∀ c o, c ≠ dd → H2 c = some o → H' c = some o) → SqT K H' b (numsV (rows[n - i]).args) := fun {H'} k => by
          have g2 := S2 _ _ g1
          rcases sq with (h | ⟨o, h⟩) | h
          · exact .inl (.inl (k _ _ (fun z => by rw [z, g2] at h; cases h) h))
          · exact .inl (.inr ⟨o, k _ _ (fun z => by rw [z, g2] at h; cases h) h⟩)
          · exact .inr h
        refine ⟨b, rfl, ⟨_, sq⟩, for_it (walk_tup (xs := numsV (rows[n - i]).args)) (fun j σ H' => (∃ ks, H' dd = some (.dK (ndK ks)) ∧ NdOk ks (fun k => marks rows n i k || decide (k ∈ (rows[n - i]).args.take j)) ∧ ks.length ≤ 1 + 3 * i + j) ∧ (∀ c o, c ≠ dd → H2 c = some o → H' c = some o) ∧ ∃ v4, σ = [some (.ref x), some (.int (n : Nat)), some (.ref dd), some (.int ((n - i : Nat) : Int)), v4]) ⟨⟨ks, S2 _ _ g1, ok.congr (fun j => by simp), lk⟩, fun _ _ _ h => h, _, rfl⟩ ?_ ?_ ?_⟩
        · rintro j σ H' _ ⟨_, k, _⟩
          exact nb k
        · rintro j v σ _ H' hj ⟨⟨ks', g', ok', lk'⟩, k', v4', rfl⟩ ⟨rfl, hv⟩
          unfold numsV at hv
          rw [List.getElem?_map] at hv
          obtain ⟨c, hc, rfl⟩ := Option.map_eq_some_iff.mp hv
          have hj2 : j < (rows[n - i]).args.length := (List.getElem?_eq_some_iff.mp hc).1
          have hlen : (ndK ks').length < sizeLine := by
            unfold ndK
            rw [List.length_map]
            exact Nat.lt_of_le_of_lt (show _ ≤ 400000 by omega) (by decide)
          refine ⟨_, rfl, _, rfl, dd, _, rfl, .inl ⟨_, Sum.inl ((c : Nat) : Int), g', rfl, hlen, rfl⟩, ?_⟩
          refine ⟨⟨_, upd_same.trans (by rw [nd_put]), ?_, ?_⟩, fun b o nb h => by rw [upd_ne nb]; exact k' b o nb h, _, rfl⟩
          · refine (ok'.put c).congr fun k => ?_
            rw [take_succ hc]
            show ((marks rows n i k || decide (k ∈ _)) || decide (k = c)) = (marks rows n i k || decide (k ∈ _ ++ [c]))
            rw [Bool.or_assoc]
            refine congrArg _ ?_
            rw [Bool.eq_iff_iff]
            simp
          · split
            · omega
            · rw [List.length_append]
              show ks'.length + 1 ≤ _
              omega
        · rintro σ H' ⟨⟨ks', g', ok', lk'⟩, k', v4', rfl⟩
          refine ⟨⟨ks', g', ok'.congr fun j => ?_, ?_⟩, fun b o nb h => k' b o nb (k2 b o nb h), _, _, rfl⟩
          · have el : (numsV (rows[n - i]).args).length = (rows[n - i]).args.length := by unfold numsV; rw [List.length_map]
            rw [el, List.take_length]
            show _ = (marks rows n i j || (marks rows n i (n - i) && decide (j ∈ argsAt rows (n - i))))
            rw [ef, Bool.true_and]
            unfold argsAt
            rw [er]
          · have el : (numsV (rows[n - i]).args).length = (rows[n - i]).args.length := by unfold numsV; rw [List.length_map]
            rw [el] at lk'
            omega
    · rintro σ H1 ⟨⟨ks, g1, ok, lk⟩, k1, v3, v4, rfl⟩
      refine ⟨_, rfl, dd, _, rfl, .inl g1, fun rv hrv => ?_⟩
      have S2 : Same H1 (upd H1 rv (kview rv dd)) := same_new hrv
      refine ⟨rv, dd, _, ks, rfl, upd_same, .inl (S2 _ _ g1), ?_, fun ys p pm srt hp => ?_⟩
      · unfold ndK
        rw [List.map_map]
        rfl
      · have e : ys = (partsR rows n).map fun k => ((k : Nat) : Int) := by
          refine sorted_nums pm srt ok.nd (fun i => ?_) (parts_sorted rows n)
          rw [ok.mem]
          constructor
          · rintro ⟨k, rfl, hk⟩
            exact List.mem_map.mpr ⟨k, parts_mem.mpr ⟨marks_le wf hk, hk⟩, rfl⟩
          · intro hi
            obtain ⟨k, hk, rfl⟩ := List.mem_map.mp hi
            exact ⟨k, rfl, (parts_mem.mp hk).2⟩
        refine q p _ ((fr k1).trans (S2.trans (same_new hp))) (none_of ((fr k1).trans S2) hp) ?_
        rw [upd_same, e, List.map_map]
        rfl
end
end L05
set_option Elab.async false
set_option linter.all false
set_option maxRecDepth 100000
set_option maxHeartbeats 4000000
set_option pp.deepTerms false
set_option pp.deepTerms.threshold 4
set_option pp.maxSteps 1000
namespace L05
open PySem L2 Tp
section
variable {P : Program} {w : World} {K : PySem.W.Frag} {mg : Str → Option Value} {base : Heap} {a : Ad} {d : Fd}
def tabK (f : Nat → V) (ps : List Nat) : List (L2.Key × V) := ps.map fun p => (Sum.inl ((p : Nat) : Int), f p)
theorem tab_val (f : Nat → V) (ps : List Nat) (j : Nat) : valV (tabK f ps) (Sum.inl ((j : Nat) : Int)) = if j ∈ ps then some (f j) else none := by
  unfold tabK valV
  induction ps with
  | nil => rfl
  | cons k ps ih =>
    rw [List.map_cons, List.find?_cons]
    by_cases e : k = j
    · subst e
      rw [if_pos List.mem_cons_self]
      show (match decide ((Sum.inl ((k : Nat) : Int) : L2.Key) = Sum.inl ((k : Nat) : Int)) with | true => _ | false => _ : Option _).map _ = _
      rw [decide_eq_true rfl]
      rfl
    · show (match decide ((Sum.inl ((k : Nat) : Int) : L2.Key) = Sum.inl ((j : Nat) : Int)) with | true => _ | false => _ : Option _).map _ = _
      rw [decide_eq_false (fun z => e (by have := Sum.inl.inj z; omega))]
      show (List.find? _ _).map _ = _
      rw [ih]
      by_cases m : j ∈ ps
      · rw [if_pos m, if_pos (List.mem_cons_of_mem _ m)]
      · rw [if_neg m, if_neg (fun z => (List.mem_cons.mp z).elim (fun z => e z.symm) m)]
theorem tab_put {f : Nat → V} {ps : List Nat} {j : Nat} (h : j ∉ ps) : putK (tabK f ps) (Sum.inl ((j : Nat) : Int)) (f j) = tabK f (ps ++ [j]) := by
  rw [putK_new _ (by rw [tab_val, if_neg h])]
  unfold tabK
  rw [List.map_append]
  rfl
theorem take_new {α : Type} {ps : List α} {i : Nat} {p : α} (nd : ps.Nodup) (h : ps[i]? = some p) : p ∉ ps.take i := fun m => by
  obtain ⟨hi, e⟩ := List.getElem?_eq_some_iff.mp h
  obtain ⟨j, hj, ej⟩ := List.mem_iff_getElem.mp m
  rw [List.getElem_take] at ej
  have := (List.getElem_inj nd).mp (ej.trans e.symm)
  rw [List.length_take] at hj
  omega
theorem numsV_len (l : List Nat) : (numsV l).length = l.length := by unfold numsV; rw [List.length_map]
theorem parts_len (rows : List BRow) (n : Nat) : (partsR rows n).length ≤ n + 1 := by
  unfold partsR
  exact Nat.le_trans (List.length_filter_le _ _) (by rw [List.length_range]; exact Nat.le_refl _)
theorem args_at {rows : List BRow} {p : Nat} {r : BRow} (h : rows[p]? = some r) : argsAt rows p = r.args := by
  unfold argsAt
  rw [h]
def FTab (rows : List BRow) (g : BRow → List Int → Int) (f : Nat → Int) : Prop := ∀ (p : Nat) (r : BRow), rows[p]? = some r → f p = g r (r.args.map f)
def spTab (P : Program) (w : World) (K : PySem.W.Frag) (C : Addr) (g : BRow → List Int → Int) : Sp := fun vs H Q _ => ∃ (x l m : Addr) (rows : List BRow) (as : List Addr) (n : Nat) (f : Nat → Int), vs = [.ref x, .int (n : Nat)] ∧ BookAt P w K C H x l m rows as ∧ WfR rows ∧ Few3 rows ∧ n < rows.length ∧ FTab rows g f ∧
  ∀ H', Same H H' → Q (.int (f n)) H'
def sizeG : BRow → List Int → Int := fun _ l => 1 + l.sum
def spTabE (P : Program) (w : World) (K : PySem.W.Frag) (C X : Addr) (g : BRow → List Int → Int) : Sp := fun vs H Q E => spTab P w K C g vs H Q E ∨ spPartsX P w K C X vs H Q E
theorem NumIs.same {H H' : Hp} {rows : List BRow} {v : V} {b : Bool} (h : NumIs K H rows v b) (S : Same H H') : NumIs K H' rows v b := IntIs.same h S
theorem ok_size (T : Txt K mg a d) : FnOk P w K mg base (L2.CX P w) 5 a.size d.size ["self", "number"] (spTabE P w K a.CBook a.CUnknownTerm sizeG) := by
  have G_parts := ok_parts (P := P) (w := w) (base := base) T
  have G_argsOf := ok_argsOf (P := P) (w := w) (base := base) T
  refine okX T.F_size scSize (fun vs H Q E h => ?_) (fun cdv A outer s H vs Q E hr h tk po => ?_)
  · rcases h with ⟨x, l, m, rows, as, n, f, rfl, _⟩ | ⟨x, l, m, rows, as, v, rfl, _⟩ <;> rfl
  · refine ⟨_, (pss_cons (ps_set (i := 2) scSize.nd rfl (Or.inr rfl) pe_dnewK)
      (pss_cons (ps_for po rfl (pi_list (Tp.pe_methE (pv 0) T.cl_Book T.me_parts G_parts (hr.mono (by decide)) T.b_parts .nil (fun σ => passAt tk σ) (pa_cons (pv 1) pa_nil))) (pg_name (i := 3) scSize.nd rfl (Or.inl rfl)) (pss_one (ps_dput (Tp.hu1 hr) (pv 2) (pv 3) (pe_op op_add pe_int (pe_callB (cr_sum rfl) (by rfl) T.sum_ Tp.bt_sum (pa_cons (pe_lc (own := [("argument", 4)]) (by rfl) scSize.nd (pi_tup (pe_call G_argsOf (hr.mono (by decide)) (by rfl) T.mg_argsOf T.F_argsOf.kp T.b_argsOf .nil pass0 (pa_cons (pe_ix ix_list (pe_fld (pv 0) (by rfl)) (pv 3) (fun _ _ => rfl)) pa_nil))) (blkOk_by (own := [("argument", 4)]) (N := scSize_N) (sc := defScope scSize_st) (by decide +kernel)) (fun _ _ _ _ _ => (pg_name (i := 4) scSize.nd rfl (Or.inl rfl))) (fun _ _ _ _ _ => pts_nil) (fun _ _ _ _ _ => (pe_dget (Tp.hu1 hr) (pv 2) (pv 4) (fun _ _ => rfl)))) pa_nil))) rfl)))
      (pss_one (ps_ret (pe_dget (Tp.hu1 hr) (pv 2) (pv 1) (fun _ _ => rfl)))))), ?_⟩
    rcases h with ⟨x, l, m, rows, as, n, f, rfl, bk, wf, f3, hn, ft, q⟩ | ⟨x, l, m, rows, as, v, rfl, bk, hn, q⟩
    rotate_left
    · intro dd hd
      have bk0 := bk.same (same_new (o := .dK []) hd)
      obtain ⟨dx, ho⟩ := bk0.obj
      exact ⟨_, rfl, x, _, _, rfl, ho, no_look (by decide) (by decide), _, rfl, .inr ⟨x, l, m, rows, as, v, rfl, bk0, hn.same (same_new hd), q.same (same_new hd)⟩⟩
    refine fun dd hd => ?_
    have S0 : Same H (upd H dd (.dK [])) := same_new hd
    have g0 : (upd H dd (.dK [])) dd = some (.dK (tabK (fun p => .int (f p)) [])) := upd_same
    generalize upd H dd (.dK []) = H0 at S0 g0 ⊢
    have bk0 := bk.same S0
    obtain ⟨dx, ho⟩ := bk0.obj
    refine ⟨_, rfl, x, _, _, rfl, ho, no_look (by decide) (by decide), _, rfl, .inl ⟨x, l, m, rows, as, n, rfl, bk0, wf, f3, hn, fun qa H1 S1 _ g1 => ?_⟩⟩
    have lp := parts_len rows n
    have n5 : n < 100000 := Nat.lt_of_lt_of_le hn bk.few
    have fr : ∀ {H' : Hp}, (∀ b o, b ≠ dd → H1 b = some o → H' b = some o) → Same H H' := fun k b o h => k b o (ne_of_none h hd) (S1 _ _ (S0 _ _ h))
    have nqd : qa ≠ dd := fun z => by rw [z, S1 _ _ g0] at g1; cases g1
    refine ⟨qa, rfl, ⟨_, SqL.of g1⟩, for_it (walk_list (xs := numsV (partsR rows n))) (fun i σ H' => H' dd = some (.dK (tabK (fun p => .int (f p)) ((partsR rows n).take i))) ∧ (∀ b o, b ≠ dd → H1 b = some o → H' b = some o) ∧ ∃ v, σ = [some (.ref x), some (.int (n : Nat)), some (.ref dd), v, none]) ⟨S1 _ _ g0, fun _ _ _ h => h, _, rfl⟩ ?_ ?_ ?_⟩
    · rintro i σ H' _ ⟨_, k, _⟩
      exact SqL.of (k _ _ nqd g1)
    · rintro i v σ _ H2 hi ⟨g2, k2, v3, rfl⟩ ⟨rfl, hv⟩
      unfold numsV at hv
      rw [List.getElem?_map] at hv
      obtain ⟨p, hp, rfl⟩ := Option.map_eq_some_iff.mp hv
      have hpn := (parts_mem.mp (List.mem_of_getElem? hp)).1
      have hpr : p < rows.length := by omega
      have er : rows[p]? = some rows[p] := List.getElem?_eq_getElem hpr
      have bk2 := bk.same (fr k2)
      obtain ⟨dx2, ho2⟩ := bk2.obj
      obtain ⟨pa, hpa, rp⟩ := Tp.paired_get bk2.row er
      have a3 : (rows[p]).args.length ≤ 3 := f3 _ (List.getElem_mem hpr)
      refine ⟨_, rfl, x, _, _, _, _, rfl, ho2, T.cl_Book, T.n_Book_held, hd_look, _, rfl, l, _, _, _, rfl, rfl, SqL.of bk2.lst, atI_nat (by rw [List.getElem?_map, hpa]; rfl), pa, rows[p], rfl, rp, fun b H3 S3 sq => ?_⟩
      have g3 := S3 _ _ g2
      refine ⟨b, rfl, ⟨_, sq⟩, fun D hD => lc_it (walk_tup (xs := numsV (rows[p]).args)) (fun j H' => Same H3 H' ∧ H' D = some (.lst ((((rows[p]).args.take j).map f).map V.int))) ⟨same_new hD, upd_same⟩ ?_ ?_ ?_⟩
      · rintro j H' _ ⟨S, _⟩
        exact sqT_same S sq
      · rintro j u _ H' hj ⟨S, hD'⟩ ⟨rfl, hu⟩
        unfold numsV at hu
        rw [List.getElem?_map] at hu
        obtain ⟨c, hc, rfl⟩ := Option.map_eq_some_iff.mp hu
        have mc : c ∈ (partsR rows n).take i := parts_before wf hp (by rw [args_at er]; exact List.mem_of_getElem? hc)
        have hj3 : j < 3 := by rw [numsV_len] at hj; omega
        refine ⟨rfl, _, rfl, _, rfl, dd, .int (f c), rfl, .inl ⟨_, Sum.inl ((c : Nat) : Int), .inl (S _ _ g3), rfl, by rw [tab_val, if_pos mc]⟩, _, hD', ?_, Tp.Same.mut S hD, ?_⟩
        · rw [List.length_map, List.length_map, List.length_take]
          exact Nat.lt_of_le_of_lt (show _ ≤ 3 by omega) (by decide)
        · rw [upd_same, take_succ hc, List.map_append, List.map_append]
          rfl
      · rintro H4 ⟨S4, hD'⟩
        rw [numsV_len, List.take_length] at hD'
        have fin : ∀ mm : Int, ((rows[p]).args.map f).sum = mm → ∃ (a_1 : Addr) (H5 : Hp), V.ref dd = V.ref a_1 ∧ DPut H4 a_1 (.int ((p : Nat) : Int)) (.int (1 + mm)) H5 ∧ H5 dd = some (.dK (tabK (fun p => .int (f p)) ((partsR rows n).take (i + 1)))) ∧ (∀ b o, b ≠ dd → H1 b = some o → H5 b = some o) := by
          intro mm em
          refine ⟨dd, _, rfl, .inl ⟨_, Sum.inl ((p : Nat) : Int), S4 _ _ g3, rfl, ?_, rfl⟩, ?_, fun b o nb h => by rw [upd_ne nb]; exact S4 _ _ (S3 _ _ (k2 b o nb h))⟩
          · unfold tabK
            rw [List.length_map, List.length_take]
            exact Nat.lt_of_le_of_lt (show _ ≤ 100001 by omega) (by decide)
          · have ef : V.int (1 + mm) = V.int (f p) := by rw [ft p _ er, ← em]; rfl
            rw [upd_same, ef, tab_put (f := fun p => .int (f p)) (take_new (parts_nodup rows n) hp), ← take_succ hp]
        obtain ⟨a1, H5, e1, dp, g5, k5⟩ := fin _ rfl
        exact ⟨D, _, rfl, SqL.of hD', _, _, rfl, rfl, _, rfl, _, rfl, a1, H5, e1, dp, g5, k5, _, rfl⟩
    · rintro σ H2 ⟨g2, k2, v3, rfl⟩
      rw [numsV_len, List.take_length] at g2
      exact ⟨_, rfl, _, rfl, dd, .int (f n), rfl, .inl ⟨_, Sum.inl ((n : Nat) : Int), .inl g2, rfl, by rw [tab_val, if_pos parts_self]⟩, q _ (fr k2)⟩
def maxL : List Int → Int
  | [] => 0
  | x :: l => if l = [] then x else max x (maxL l)
theorem maxL_is : ∀ {l : List Int} {m : Int}, m ∈ l → (∀ y, y ∈ l → y ≤ m) → maxL l = m
  | [x], m, h, _ => (List.mem_singleton.mp h).symm
  | x :: y :: l, m, h, k => by
    show (if (y :: l) = [] then x else max x (maxL (y :: l))) = m
    rw [if_neg (by simp)]
    rcases List.mem_cons.mp h with e | h
    · subst e
      have : maxL (y :: l) ≤ m := by
        have mem : ∀ (z : Int) (l : List Int), maxL (z :: l) ∈ z :: l := by
          intro z l
          induction l generalizing z with
          | nil => exact List.mem_cons_self
          | cons a l ih =>
            show (if (a :: l) = [] then z else max z (maxL (a :: l))) ∈ _
            rw [if_neg (by simp)]
            rcases Int.le_total z (maxL (a :: l)) with q | q
            · rw [Int.max_eq_right q]; exact List.mem_cons_of_mem _ (ih a)
            · rw [Int.max_eq_left q]; exact List.mem_cons_self
        exact k _ (List.mem_cons_of_mem _ (mem y l))
      omega
    · have := maxL_is h fun z hz => k z (List.mem_cons_of_mem _ hz)
      have := k x List.mem_cons_self
      omega
def depthG : BRow → List Int → Int := fun _ l => 1 + maxL l
theorem ok_depth (T : Txt K mg a d) : FnOk P w K mg base (L2.CX P w) 5 a.depth d.depth ["self", "number"] (spTabE P w K a.CBook a.CUnknownTerm depthG) := by
  have G_parts := ok_parts (P := P) (w := w) (base := base) T
  have G_argsOf := ok_argsOf (P := P) (w := w) (base := base) T
  refine okX T.F_depth scDepth (fun vs H Q E h => ?_) (fun cdv A outer s H vs Q E hr h tk po => ?_)
  · rcases h with ⟨x, l, m, rows, as, n, f, rfl, _⟩ | ⟨x, l, m, rows, as, v, rfl, _⟩ <;> rfl
  · refine ⟨_, (pss_cons (ps_set (i := 2) scDepth.nd rfl (Or.inr rfl) pe_dnewK)
      (pss_cons (ps_for po rfl (pi_list (Tp.pe_methE (pv 0) T.cl_Book T.me_parts G_parts (hr.mono (by decide)) T.b_parts .nil (fun σ => passAt tk σ) (pa_cons (pv 1) pa_nil))) (pg_name (i := 3) scDepth.nd rfl (Or.inl rfl)) (pss_one (ps_dput (Tp.hu1 hr) (pv 2) (pv 3) (pe_op op_add pe_int (pe_callBK (Tp.cr_maxDf rfl) (by rfl) T.max_ Tp.bt_max (pa_cons (pe_lc (own := [("argument", 4)]) (by rfl) scDepth.nd (pi_tup (pe_call G_argsOf (hr.mono (by decide)) (by rfl) T.mg_argsOf T.F_argsOf.kp T.b_argsOf .nil pass0 (pa_cons (pe_ix ix_list (pe_fld (pv 0) (by rfl)) (pv 3) (fun _ _ => rfl)) pa_nil))) (blkOk_by (own := [("argument", 4)]) (N := scDepth_N) (sc := defScope scDepth_st) (by decide +kernel)) (fun _ _ _ _ _ => (pg_name (i := 4) scDepth.nd rfl (Or.inl rfl))) (fun _ _ _ _ _ => pts_nil) (fun _ _ _ _ _ => (pe_dget (Tp.hu1 hr) (pv 2) (pv 4) (fun _ _ => rfl)))) pa_nil) (pk_cons pe_int pk_nil))) rfl)))
      (pss_one (ps_ret (pe_dget (Tp.hu1 hr) (pv 2) (pv 1) (fun _ _ => rfl)))))), ?_⟩
    rcases h with ⟨x, l, m, rows, as, n, f, rfl, bk, wf, f3, hn, ft, q⟩ | ⟨x, l, m, rows, as, v, rfl, bk, hn, q⟩
    rotate_left
    · intro dd hd
      have bk0 := bk.same (same_new (o := .dK []) hd)
      obtain ⟨dx, ho⟩ := bk0.obj
      exact ⟨_, rfl, x, _, _, rfl, ho, no_look (by decide) (by decide), _, rfl, .inr ⟨x, l, m, rows, as, v, rfl, bk0, hn.same (same_new hd), q.same (same_new hd)⟩⟩
    refine fun dd hd => ?_
    have S0 : Same H (upd H dd (.dK [])) := same_new hd
    have g0 : (upd H dd (.dK [])) dd = some (.dK (tabK (fun p => .int (f p)) [])) := upd_same
    generalize upd H dd (.dK []) = H0 at S0 g0 ⊢
    have bk0 := bk.same S0
    obtain ⟨dx, ho⟩ := bk0.obj
    refine ⟨_, rfl, x, _, _, rfl, ho, no_look (by decide) (by decide), _, rfl, .inl ⟨x, l, m, rows, as, n, rfl, bk0, wf, f3, hn, fun qa H1 S1 _ g1 => ?_⟩⟩
    have lp := parts_len rows n
    have n5 : n < 100000 := Nat.lt_of_lt_of_le hn bk.few
    have fr : ∀ {H' : Hp}, (∀ b o, b ≠ dd → H1 b = some o → H' b = some o) → Same H H' := fun k b o h => k b o (ne_of_none h hd) (S1 _ _ (S0 _ _ h))
    have nqd : qa ≠ dd := fun z => by rw [z, S1 _ _ g0] at g1; cases g1
    refine ⟨qa, rfl, ⟨_, SqL.of g1⟩, for_it (walk_list (xs := numsV (partsR rows n))) (fun i σ H' => H' dd = some (.dK (tabK (fun p => .int (f p)) ((partsR rows n).take i))) ∧ (∀ b o, b ≠ dd → H1 b = some o → H' b = some o) ∧ ∃ v, σ = [some (.ref x), some (.int (n : Nat)), some (.ref dd), v, none]) ⟨S1 _ _ g0, fun _ _ _ h => h, _, rfl⟩ ?_ ?_ ?_⟩
    · rintro i σ H' _ ⟨_, k, _⟩
      exact SqL.of (k _ _ nqd g1)
    · rintro i v σ _ H2 hi ⟨g2, k2, v3, rfl⟩ ⟨rfl, hv⟩
      unfold numsV at hv
      rw [List.getElem?_map] at hv
      obtain ⟨p, hp, rfl⟩ := Option.map_eq_some_iff.mp hv
      have hpn := (parts_mem.mp (List.mem_of_getElem? hp)).1
      have hpr : p < rows.length := by omega
      have er : rows[p]? = some rows[p] := List.getElem?_eq_getElem hpr
      have bk2 := bk.same (fr k2)
      obtain ⟨dx2, ho2⟩ := bk2.obj
      obtain ⟨pa, hpa, rp⟩ := Tp.paired_get bk2.row er
      have a3 : (rows[p]).args.length ≤ 3 := f3 _ (List.getElem_mem hpr)
      refine ⟨_, rfl, x, _, _, _, _, rfl, ho2, T.cl_Book, T.n_Book_held, hd_look, _, rfl, l, _, _, _, rfl, rfl, SqL.of bk2.lst, atI_nat (by rw [List.getElem?_map, hpa]; rfl), pa, rows[p], rfl, rp, fun b H3 S3 sq => ?_⟩
      have g3 := S3 _ _ g2
      refine ⟨b, rfl, ⟨_, sq⟩, fun D hD => lc_it (walk_tup (xs := numsV (rows[p]).args)) (fun j H' => Same H3 H' ∧ H' D = some (.lst ((((rows[p]).args.take j).map f).map V.int))) ⟨same_new hD, upd_same⟩ ?_ ?_ ?_⟩
      · rintro j H' _ ⟨S, _⟩
        exact sqT_same S sq
      · rintro j u _ H' hj ⟨S, hD'⟩ ⟨rfl, hu⟩
        unfold numsV at hu
        rw [List.getElem?_map] at hu
        obtain ⟨c, hc, rfl⟩ := Option.map_eq_some_iff.mp hu
        have mc : c ∈ (partsR rows n).take i := parts_before wf hp (by rw [args_at er]; exact List.mem_of_getElem? hc)
        have hj3 : j < 3 := by rw [numsV_len] at hj; omega
        refine ⟨rfl, _, rfl, _, rfl, dd, .int (f c), rfl, .inl ⟨_, Sum.inl ((c : Nat) : Int), .inl (S _ _ g3), rfl, by rw [tab_val, if_pos mc]⟩, _, hD', ?_, Tp.Same.mut S hD, ?_⟩
        · rw [List.length_map, List.length_map, List.length_take]
          exact Nat.lt_of_le_of_lt (show _ ≤ 3 by omega) (by decide)
        · rw [upd_same, take_succ hc, List.map_append, List.map_append]
          rfl
      · rintro H4 ⟨S4, hD'⟩
        rw [numsV_len, List.take_length] at hD'
        have fin : ∀ mm : Int, maxL ((rows[p]).args.map f) = mm → ∃ (a_1 : Addr) (H5 : Hp), V.ref dd = V.ref a_1 ∧ DPut H4 a_1 (.int ((p : Nat) : Int)) (.int (1 + mm)) H5 ∧ H5 dd = some (.dK (tabK (fun p => .int (f p)) ((partsR rows n).take (i + 1)))) ∧ (∀ b o, b ≠ dd → H1 b = some o → H5 b = some o) := by
          intro mm em
          refine ⟨dd, _, rfl, .inl ⟨_, Sum.inl ((p : Nat) : Int), S4 _ _ g3, rfl, ?_, rfl⟩, ?_, fun b o nb h => by rw [upd_ne nb]; exact S4 _ _ (S3 _ _ (k2 b o nb h))⟩
          · unfold tabK
            rw [List.length_map, List.length_take]
            exact Nat.lt_of_le_of_lt (show _ ≤ 100001 by omega) (by decide)
          · have ef : V.int (1 + mm) = V.int (f p) := by rw [ft p _ er, ← em]; rfl
            rw [upd_same, ef, tab_put (f := fun p => .int (f p)) (take_new (parts_nodup rows n) hp), ← take_succ hp]
        refine ⟨D, _, .int 0, rfl, rfl, SqL.of hD', fun en => ?_, fun mm hm hy => ?_⟩
        · obtain ⟨a1, H5, e1, dp, g5, k5⟩ := fin 0 (by rw [en]; rfl)
          exact ⟨_, _, rfl, rfl, _, rfl, _, rfl, a1, H5, e1, dp, g5, k5, _, rfl⟩
        · obtain ⟨a1, H5, e1, dp, g5, k5⟩ := fin mm (maxL_is hm hy)
          exact ⟨_, _, rfl, rfl, _, rfl, _, rfl, a1, H5, e1, dp, g5, k5, _, rfl⟩
    · rintro σ H2 ⟨g2, k2, v3, rfl⟩
      rw [numsV_len, List.take_length] at g2
      exact ⟨_, rfl, _, rfl, dd, .int (f n), rfl, .inl ⟨_, Sum.inl ((n : Nat) : Int), .inl g2, rfl, by rw [tab_val, if_pos parts_self]⟩, q _ (fr k2)⟩
end
end L05
set_option Elab.async false
set_option linter.all false
set_option maxRecDepth 100000
set_option maxHeartbeats 4000000
set_option pp.deepTerms false
set_option pp.deepTerms.threshold 4
set_option pp.maxSteps 1000
namespace L05
open PySem L2 Tp
section
variable {P : Program} {w : World} {K : PySem.W.Frag} {mg : Str → Option Value} {base : Heap} {a : Ad} {d : Fd}
def one (c : Nat) : Str := ⟨#[c]⟩
def sgC (c : Nat) : Bool := lowC c || digC c
theorem joinL_one : ∀ cs : List Nat, TL.joinL [] (cs.map fun c => [c]) = cs
  | [] => rfl
  | [c] => rfl
  | c :: e :: cs => by
    show [c] ++ ([] ++ TL.joinL [] ((e :: cs).map fun c => [c])) = _
    rw [joinL_one (e :: cs)]
    rfl
theorem join_one (cs : List Nat) : (Txt.join "" (cs.map one)).cps.toList = cs := by
  have e : Txt.join "" (cs.map one) = Str.join "" (cs.map one) := StrLaws.glued_eq_join _ _
  rw [e]
  have := TL.tl_join "" (cs.map one)
  rw [List.map_map] at this
  exact this.trans (joinL_one cs)
theorem nm_label {c : Nat} {cs : List Nat} (h : lowC c = true) (hs : ∀ x ∈ cs, sgC x = true) (l : cs.length ≤ 7) : nmB (one c ++ Txt.join "" (cs.map one)) = true ∧ (one c ++ Txt.join "" (cs.map one)).length ≤ 8 := by
  have e : (one c ++ Txt.join "" (cs.map one)).cps.toList = c :: cs := by
    show ((one c).cps ++ (Txt.join "" (cs.map one)).cps).toList = _
    rw [Array.toList_append, join_one]
    rfl
  constructor
  · unfold nmB
    rw [e]
    show (decide (cs.length + 1 ≤ 8) && (lowC c && (c :: cs).all fun x => lowC x || digC x)) = true
    rw [decide_eq_true (by omega), h, Bool.true_and, Bool.true_and]
    refine List.all_eq_true.mpr fun x hx => ?_
    rcases List.mem_cons.mp hx with z | z
    · rw [z, h]
      rfl
    · exact hs x z
  · show (one c ++ Txt.join "" (cs.map one)).cps.size ≤ 8
    rw [← Array.length_toList, e, List.length_cons]
    omega
theorem lab6 : ∀ z ∈ [("f" : Str), "g", "a", "b", "x", "f1"], nmB z = true ∧ z.length ≤ 8 := by decide +kernel
theorem sig26 : ∀ j, j < 26 → ∃ c, ("abcdefghijklmnopqrstuvwxyz0123456789" : Str).cps.toList[j]? = some c ∧ lowC c = true := fun j hj => by
  have e : ("abcdefghijklmnopqrstuvwxyz0123456789" : Str).cps.toList = [97, 98, 99, 100, 101, 102, 103, 104, 105, 106, 107, 108, 109, 110, 111, 112, 113, 114, 115, 116, 117, 118, 119, 120, 121, 122, 48, 49, 50, 51, 52, 53, 54, 55, 56, 57] := by decide +kernel
  have h : ∀ j : Fin 26, ([97, 98, 99, 100, 101, 102, 103, 104, 105, 106, 107, 108, 109, 110, 111, 112, 113, 114, 115, 116, 117, 118, 119, 120, 121, 122, 48, 49, 50, 51, 52, 53, 54, 55, 56, 57] : List Nat)[j.1]? = some (97 + j.1) ∧ lowC (97 + j.1) = true := by decide +kernel
  rw [e]
  exact ⟨97 + j, h ⟨j, hj⟩⟩
def spLabel : Sp := fun vs H Q _ => ∃ (b : Addr) (n : Nat), vs = [.ref b] ∧ BoxAt b n H ∧ n < 900000 ∧ ∀ z H', nmB z = true → z.length ≤ 8 → Kp b H H' → BoxAt b (n + 20) H' → Q (.str z) H'
theorem ok_label (T : Txt K mg a d) : FnG P w K mg base CX0 2 a.label d.label ["_law_box_here"] spLabel := by
  have G_take := ok_take (P := P) (w := w) (base := base) T
  refine okG T.F_label scLabel (fun vs H Q E h => ?_) (fun cdv A outer s H vs Q E hr hg h => ?_)
  · obtain ⟨b, n, rfl, _⟩ := h
    rfl
  · obtain ⟨b, n, rfl, hB, hn, q⟩ := h
    refine ⟨_, (pss_cons (ps_set (i := 1) scLabel.nd rfl (Or.inr rfl) pe_str)
      (pss_cons (ps_if (pt_cmpR op_gt (Tp.pe_callG G_take (hr.mono (by decide)) hg (by rfl) T.mg_take T.F_take.kp T.b_take .nil pass0 (pa_cons (pv 0) (pa_cons pe_int pa_nil))) pe_int (nomark _)) (pss_one (ps_ret (pe_ix ix_list (pe_lst (pa_cons pe_str (pa_cons pe_str (pa_cons pe_str (pa_cons pe_str (pa_cons pe_str (pa_cons pe_str pa_nil))))))) (Tp.pe_callG G_take (hr.mono (by decide)) hg (by rfl) T.mg_take T.F_take.kp T.b_take .nil pass0 (pa_cons (pv 0) (pa_cons pe_int pa_nil))) (fun _ _ => rfl)))) pss_nil)
      (pss_one (ps_ret (pe_op op_add_str (pe_ix ix_str (pv 1) (Tp.pe_callG G_take (hr.mono (by decide)) hg (by rfl) T.mg_take T.F_take.kp T.b_take .nil pass0 (pa_cons (pv 0) (pa_cons pe_int pa_nil))) (fun _ _ => rfl)) (pe_join pe_str (pe_lc (own := [("_law_k", 2)]) (by rfl) scLabel.nd (pi_range1 (by rfl) T.range_ (pa_cons (Tp.pe_callG G_take (hr.mono (by decide)) hg (by rfl) T.mg_take T.F_take.kp T.b_take .nil pass0 (pa_cons (pv 0) (pa_cons pe_int pa_nil))) pa_nil)) (blkOk_by (own := [("_law_k", 2)]) (N := scLabel_N) (sc := defScope scLabel_st) (by decide +kernel)) (fun _ _ _ _ _ => (pg_name (i := 2) scLabel.nd rfl (Or.inl rfl))) (fun _ _ _ _ _ => pts_nil) (fun _ _ _ _ _ => (pe_ix ix_str (pv 1) (Tp.pe_callG G_take (hr.mono (by decide)) hg (by rfl) T.mg_take T.F_take.kp T.b_take .nil pass0 (pa_cons (pv 0) (pa_cons pe_int pa_nil))) (fun _ _ => rfl)))))))))), ?_⟩
    refine ⟨_, rfl, b, 3, n, rfl, hB, by omega, by decide, by decide, fun r1 H1 a1 b1 k1 B1 => ⟨_, _, rfl, rfl, _, rfl, if2 (fun c => ?_) (fun c => ?_)⟩⟩
    · refine ⟨(show 6 ≤ sizeLine from by decide), fun l hl => ?_⟩
      have nl : l ≠ b := B1.ne hl
      have k2 := Kp.new (o := .lst [V.str "f", V.str "g", V.str "a", V.str "b", V.str "x", V.str "f1"]) (b := b) hl
      have gl : (upd H1 l (.lst [V.str "f", V.str "g", V.str "a", V.str "b", V.str "x", V.str "f1"])) l = some (.lst [V.str "f", V.str "g", V.str "a", V.str "b", V.str "x", V.str "f1"]) := upd_same
      have B2 := B1.off (o := .lst [V.str "f", V.str "g", V.str "a", V.str "b", V.str "x", V.str "f1"]) nl
      refine ⟨_, rfl, b, 6, _, rfl, B2, by omega, by decide, by decide, fun r2 H3 a3 b3 k3 B3 => ?_⟩
      obtain ⟨v, hv, z, rfl, p1, p2⟩ := at_some (xs := [("f" : Str), "g", "a", "b", "x", "f1"].map V.str) (r := r2) (P := fun v => ∃ z, v = V.str z ∧ nmB z = true ∧ z.length ≤ 8) (fun x hx => by
        obtain ⟨z, hz, rfl⟩ := List.mem_map.mp hx
        exact ⟨z, rfl, lab6 z hz⟩) a3 b3
      exact ⟨l, _, _, _, rfl, rfl, SqL.of (k3 _ _ nl gl), hv, q z H3 p1 p2 ((k1.trans k2).trans k3) (B3.up (by omega))⟩
    · refine ⟨_, rfl, _, rfl, b, 26, _, rfl, B1, by omega, by decide, by decide, fun r2 H2 a2 b2 k2 B2 => ?_⟩
      obtain ⟨j, rfl⟩ := Int.eq_ofNat_of_zero_le a2
      obtain ⟨c1, hc1, lc1⟩ := sig26 j (by omega)
      refine ⟨_, _, c1, rfl, rfl, by decide, atI_nat hc1, ⟨_, rfl⟩, _, rfl, b, 8, _, rfl, B2, by omega, by decide, by decide, fun r3 H3 a3 b3 k3 B3 => ?_⟩
      refine ⟨r3, rfl, by omega, by omega, fun D hD => lc_range (lo := 0) (n := r3.toNat) (fun i H' => BoxAt b (n + 3 + i) H' ∧ Kp b H3 H' ∧ ∃ cs : List Nat, H' D = some (.lst ((cs.map one).map V.str)) ∧ cs.length = i ∧ ∀ y ∈ cs, sgC y = true)
        ⟨B3.same (same_new hD), Kp.new hD, [], upd_same, rfl, (by simp)⟩ ?_ ?_⟩
      · rintro i H4 hi ⟨B4, k4, cs, hy, ly, l1⟩
        have nDb : D ≠ b := B3.ne hD
        refine ⟨rfl, _, rfl, _, rfl, b, 36, _, rfl, B4, by omega, by decide, by decide, fun r H5 a5 b5 k5 B5 => ?_⟩
        obtain ⟨e, he, se⟩ := at_some (xs := ("abcdefghijklmnopqrstuvwxyz0123456789" : Str).cps.toList) (r := r) (P := fun c => sgC c = true) (by decide +kernel) a5 b5
        refine ⟨_, _, e, rfl, rfl, by decide, he, _, k5 _ _ nDb hy, ?_, B5.off nDb, (k4.trans k5).mut hD, cs ++ [e], ?_, by rw [List.length_append, ly]; rfl, fun y hy => ?_⟩
        · rw [List.length_map, List.length_map]
          exact Nat.lt_of_lt_of_le (show cs.length < 100 by omega) (by decide)
        · rw [upd_same, List.map_append, List.map_append]
          rfl
        · rcases List.mem_append.mp hy with hy | hy
          · exact l1 y hy
          · rw [List.mem_singleton.mp hy]
            exact se
      · rintro H4 ⟨B4, k4, cs, hy, ly, l1⟩
        obtain ⟨n1, n2⟩ := nm_label lc1 l1 (by omega)
        refine ⟨_, D, cs.map one, rfl, rfl, .inl (SqL.of hy), ?_, ?_⟩
        · have sl := sum_len (ys := cs.map one) (m := 1) (fun y hy => by
            obtain ⟨c, _, rfl⟩ := List.mem_map.mp hy
            exact Nat.le_refl 1)
          have e0 : ("" : Str).length = 0 := by decide
          have l0 : (cs.map one).length = cs.length := List.length_map _
          rw [e0]
          omega
        · refine ⟨_, _, rfl, rfl, ?_, q _ H4 n1 n2 (((k1.trans k2).trans k3).trans k4) (B4.up (by omega))⟩
          refine Nat.le_trans ?_ (show 8 ≤ sizeLine from by decide)
          have e : (one c1 ++ Txt.join "" (cs.map one)).length = (one c1).length + (Txt.join "" (cs.map one)).length := Array.size_append
          rw [e] at n2
          exact n2
def GoodB (rows : List BRow) : Prop := rows.Nodup ∧ ∀ (i : Nat) (r : BRow), rows[i]? = some r → GoodL r i
theorem GoodB.wf {rows : List BRow} (h : GoodB rows) : WfR rows := fun i r hr j hj => by
  obtain ⟨_, _, ⟨l, e, _, h3⟩ | ⟨t, e, _⟩⟩ := h.2 i r hr
  · unfold BRow.args at hj
    rw [e] at hj
    exact h3 j hj
  · unfold BRow.args at hj
    rw [e] at hj
    cases hj
theorem GoodB.few {rows : List BRow} (h : GoodB rows) : Few3 rows := fun r hr => by
  obtain ⟨i, hi⟩ := List.mem_iff_getElem?.mp hr
  obtain ⟨_, _, ⟨l, e, h2, _⟩ | ⟨t, e, _⟩⟩ := h.2 i r hi
  · unfold BRow.args
    rw [e]
    exact h2
  · unfold BRow.args
    rw [e]
    exact Nat.zero_le _
theorem GoodB.nm {rows : List BRow} (h : GoodB rows) : ∀ r ∈ rows, nmB r.nm = true := fun r hr => by
  obtain ⟨i, hi⟩ := List.mem_iff_getElem?.mp hr
  exact (h.2 i r hi).1
theorem good_nil : GoodB [] := ⟨.nil, (fun i r h => by cases h)⟩
theorem good_snoc {rows : List BRow} {r : BRow} (h : GoodB rows) (g : GoodL r rows.length) (n : r ∉ rows) : GoodB (rows ++ [r]) := by
  refine ⟨List.nodup_append.mpr ⟨h.1, by simp, fun y hy z hz e => n (by rw [← List.mem_singleton.mp hz, ← e]; exact hy)⟩, fun i r' hr => ?_⟩
  by_cases hl : i < rows.length
  · rw [List.getElem?_append_left hl] at hr
    exact h.2 i r' hr
  · have hi := (List.getElem?_eq_some_iff.mp hr).1
    rw [List.length_append] at hi
    have h1 : ([r] : List BRow).length = 1 := rfl
    have : i = rows.length := by omega
    subst this
    rw [List.getElem?_append_right (Nat.le_refl _), Nat.sub_self] at hr
    cases hr
    exact g
end
end L05
set_option Elab.async false
set_option linter.all false
set_option maxRecDepth 100000
set_option maxHeartbeats 4000000
set_option pp.deepTerms false
set_option pp.deepTerms.threshold 4
set_option pp.maxSteps 1000
namespace L05
open PySem L2 Tp
section
variable {P : Program} {w : World} {K : PySem.W.Frag} {mg : Str → Option Value} {base : Heap} {a : Ad} {d : Fd}
theorem un65 {k : Nat} {A : Around} (r : Room k A) : A.units + 65 < cLine := by have := r.un; omega
theorem nums_eqvD : ∀ l k : List Nat, PyData.eqvAll (numsD l) (numsD k) = decide (l = k)
  | [], [] => by simp [numsD, PyData.eqvAll]
  | [], _ :: _ => by simp [numsD, PyData.eqvAll]
  | _ :: _, [] => by simp [numsD, PyData.eqvAll]
  | x :: l, y :: k => by
    have ih := nums_eqvD l k
    unfold numsD at ih ⊢
    rw [List.map_cons, List.map_cons]
    unfold PyData.eqvAll
    rw [ih]
    by_cases h : x = y
    · subst h
      by_cases h2 : l = k
      · simp [PyData.eqv, h2]
      · simp [PyData.eqv, h2]
    · have : ¬ ((x : Int) = (y : Int)) := by omega
      simp [PyData.eqv, h, this]
theorem row_eqvD (r s : BRow) : PyData.eqv r.data s.data = decide (r = s) := by
  obtain ⟨n, a⟩ := r
  obtain ⟨m, b⟩ := s
  cases a with
  | inl l =>
    cases b with
    | inl k =>
      have := nums_eqvD l k
      by_cases h : n = m
      · subst h
        by_cases h2 : l = k
        · subst h2
          simp [BRow.data, PyData.eqv, PyData.eqvAll, this]
        · simp [BRow.data, PyData.eqv, PyData.eqvAll, this, h2]
      · simp [BRow.data, PyData.eqv, PyData.eqvAll, h]
    | inr t => simp [BRow.data, PyData.eqv, PyData.eqvAll]
  | inr u =>
    cases b with
    | inl k => simp [BRow.data, PyData.eqv, PyData.eqvAll]
    | inr t =>
      by_cases h : n = m
      · subst h
        by_cases h2 : u = t
        · subst h2
          simp [BRow.data, PyData.eqv, PyData.eqvAll]
        · have : ¬ ((u : Int) = (t : Int)) := by omega
          simp [BRow.data, PyData.eqv, PyData.eqvAll, h2, this]
      · simp [BRow.data, PyData.eqv, PyData.eqvAll, h]
theorem rows_any (rows : List BRow) (r : BRow) : ((rows.map BRow.data).any fun z => PyData.eqv z r.data) = decide (r ∈ rows) := by
  rw [List.any_map]
  have e : ((fun z => PyData.eqv z r.data) ∘ BRow.data) = fun s => decide (s = r) := funext fun s => row_eqvD s r
  rw [e]
  by_cases h : r ∈ rows
  · rw [decide_eq_true h]
    exact List.any_eq_true.mpr ⟨r, h, decide_eq_true rfl⟩
  · rw [decide_eq_false h]
    exact List.any_eq_false.mpr fun s hs => by
      rw [decide_eq_false (fun z => h (by rw [← z]; exact hs))]
      exact Bool.false_ne_true
theorem row_shaped {r : BRow} (g : nmB r.nm = true) : SeqAt.shaped r.data = true := by
  obtain ⟨h1, h2⟩ := row_lay g
  unfold SeqAt.shaped
  rw [h1, Bool.true_and]
  exact decide_eq_true (by omega)
theorem kp_sameT {b : Addr} {n : Nat} {H H' : Hp} (bx : BoxAt b n H) (k : Kp b H H') : SameT H H' := by
  obtain ⟨x, y, z, h, _⟩ := bx
  exact ⟨fun a xs e => k _ _ (fun q => by rw [q, h] at e; cases e) e, fun a o xs e => k _ _ (fun q => by rw [q, h] at e; cases e) e⟩
theorem lst_sameT {q : Addr} {H : Hp} {xs ys : List V} (h : H q = some (.lst xs)) : SameT H (upd H q (.lst ys)) := by
  exact ⟨fun a zs e => by rw [upd_ne (fun z => by rw [z, h] at e; cases e)]; exact e, fun a o zs e => by rw [upd_ne (fun z => by rw [z, h] at e; cases e)]; exact e⟩
end
end L05
set_option Elab.async false
set_option linter.all false
set_option maxRecDepth 100000
set_option maxHeartbeats 4000000
set_option pp.deepTerms false
set_option pp.deepTerms.threshold 4
set_option pp.maxSteps 1000
namespace L05
open PySem L2 Tp
section
variable {P : Program} {w : World} {K : PySem.W.Frag} {mg : Str → Option Value} {base : Heap} {a : Ad} {d : Fd}
theorem kp_to2 {b q : Addr} {H H' : Hp} (k : Kp b H H') : Kp2 b q H H' := fun a o n _ h => k a o n h
structure Gr (K : PySem.W.Frag) (H : Hp) (b q : Addr) (n : Nat) (rows : List BRow) (as : List Addr) : Prop where
  box : BoxAt b n H
  lst : H q = some (.lst (as.map V.ref))
  row : Paired (RowAt K H) rows as
  good : GoodB rows
theorem Gr.nbq {H : Hp} {b q : Addr} {n : Nat} {rows : List BRow} {as : List Addr} (g : Gr K H b q n rows as) : q ≠ b := fun z => by
  obtain ⟨x, y, t, h, _⟩ := g.box
  have := g.lst
  rw [z, h] at this
  have e := HO.lst.inj (Option.some.inj this)
  cases as with
  | nil => cases e
  | cons p l => cases e
theorem Gr.same {H H' : Hp} {b q : Addr} {n : Nat} {rows : List BRow} {as : List Addr} (g : Gr K H b q n rows as) (S : Same H H') : Gr K H' b q n rows as := ⟨g.box.same S, S _ _ g.lst, paired_imp (fun _ _ h => h.same S) g.row, g.good⟩
theorem Gr.kp {H H' : Hp} {b q : Addr} {n m : Nat} {rows : List BRow} {as : List Addr} (g : Gr K H b q n rows as) (k : Kp b H H') (B : BoxAt b m H') : Gr K H' b q m rows as := ⟨B, k _ _ g.nbq g.lst, paired_imp (fun _ _ h => h.sameT (kp_sameT g.box k)) g.row, g.good⟩
theorem Gr.up {H : Hp} {b q : Addr} {n m : Nat} {rows : List BRow} {as : List Addr} (g : Gr K H b q n rows as) (h : n ≤ m) : Gr K H b q m rows as := ⟨g.box.up h, g.lst, g.row, g.good⟩
def spRowsL (K : PySem.W.Frag) : Sp := fun vs H Q _ => ∃ (b : Addr) (n : Nat) (most : Int), vs = [.ref b, .int most, .bl true] ∧ BoxAt b n H ∧ n < 100000 ∧ 1 ≤ most ∧ most ≤ 30 ∧
  ∀ q rows as H', H q = none → Kp b H H' → Gr K H' b q (n + 1000) rows as → 1 ≤ rows.length → (rows.length : Int) ≤ most → Q (.ref q) H'
theorem ok_rowsL (T : Txt K mg a d) : FnG P w K mg base CX0 3 a.rowsL d.rowsL ["_law_box_here", "_law_most", "_law_given"] (spRowsL K) := by
  have G_take := ok_take (P := P) (w := w) (base := base) T
  have G_label := ok_label (P := P) (w := w) (base := base) T
  refine okG T.F_rowsL scRowsL (fun vs H Q E h => ?_) (fun cdv A outer s H vs Q E hr hg h => ?_)
  · obtain ⟨b, n, most, rfl, _⟩ := h
    rfl
  · obtain ⟨b, n, most, rfl, hB, hn, m1, m2, q⟩ := h
    refine ⟨_, (pss_cons (ps_set (i := 3) scRowsL.nd rfl (Or.inr rfl) (pe_lst pa_nil))
      (pss_cons (ps_for PassesOwn.never rfl (pi_range1 (by rfl) T.range_ (pa_cons (pe_op op_add pe_int (Tp.pe_callG G_take (hr.mono (by decide)) hg (by rfl) T.mg_take T.F_take.kp T.b_take .nil pass0 (pa_cons (pv 0) (pa_cons (pv 1) pa_nil)))) pa_nil)) (pg_name (i := 4) scRowsL.nd rfl (Or.inl rfl)) (pss_cons (ps_par (i := 5) (j := 6) (by rfl) scRowsL.nd rfl rfl (by decide) rfl rfl (pa_cons (Tp.pe_callG G_label (hr.mono (by decide)) hg (by rfl) T.mg_label T.F_label.kp T.b_label .nil pass0 (pa_cons (pv 0) pa_nil)) (pa_cons (Tp.pe_callG G_take (hr.mono (by decide)) hg (by rfl) T.mg_take T.F_take.kp T.b_take .nil pass0 (pa_cons (pv 0) (pa_cons pe_int pa_nil))) pa_nil)) (by rfl))
      (pss_cons (ps_set (i := 7) scRowsL.nd rfl (Or.inl rfl) (pe_tup (pa_cons (pv 5) (pa_cons (pe_tup pa_nil) pa_nil))))
      (Evl.pss_cut (ps_if (PW.pt (pw_and (pt_cmpR op_lt (pv 6) pe_int (nomark _)) (pw_and1 (pt_val (pv 2))))) (pss_one (ps_set (i := 7) scRowsL.nd rfl (Or.inl rfl) (pe_tup (pa_cons (pe_ix ix_list (pe_lst (pa_cons pe_str (pa_cons pe_str (pa_cons (pv 5) pa_nil)))) (Tp.pe_callG G_take (hr.mono (by decide)) hg (by rfl) T.mg_take T.F_take.kp T.b_take .nil pass0 (pa_cons (pv 0) (pa_cons pe_int pa_nil))) (fun _ _ => rfl)) (pa_cons (Tp.pe_callG G_take (hr.mono (by decide)) hg (by rfl) T.mg_take T.F_take.kp T.b_take .nil pass0 (pa_cons (pv 0) (pa_cons pe_int pa_nil))) pa_nil))))) (pss_one (ps_if (PW.pt (pw_and (pt_cmpR op_lt (pv 6) pe_int (nomark _)) (pw_and1 (pt_cmpR (op_neD hr.units) (pv 3) (pe_lst pa_nil) (nomark _))))) (pss_one (ps_set (i := 7) scRowsL.nd rfl (Or.inl rfl) (pe_tup (pa_cons (pv 5) (pa_cons (pe_callTy call_tuple_of (by rfl) T.tuple_ Tp.bt_tuple (pa_cons (pe_lc (own := [("_law_j", 8)]) (by rfl) scRowsL.nd (pi_range1 (by rfl) T.range_ (pa_cons (pe_op op_add pe_int (Tp.pe_callG G_take (hr.mono (by decide)) hg (by rfl) T.mg_take T.F_take.kp T.b_take .nil pass0 (pa_cons (pv 0) (pa_cons pe_int pa_nil)))) pa_nil)) (blkOk_by (own := [("_law_j", 8)]) (N := scRowsL_N) (sc := defScope scRowsL_st) (by decide +kernel)) (fun _ _ _ _ _ => (pg_name (i := 8) scRowsL.nd rfl (Or.inl rfl))) (fun _ _ _ _ _ => pts_nil) (fun _ _ _ _ _ => (Tp.pe_callG G_take (hr.mono (by decide)) hg (by rfl) T.mg_take T.F_take.kp T.b_take .nil pass0 (pa_cons (pv 0) (pa_cons (pe_callB (Tp.call_lenK (K := K) rfl) (by rfl) T.len_ Tp.bt_len (pa_cons (pv 3) pa_nil)) pa_nil))))) pa_nil)) pa_nil))))) pss_nil)))
      (pss_one (ps_if (pt_cmpR (op_notInD (un65 hr)) (pv 7) (pv 3) (by rfl)) (pss_one (ps_expr (pe_bm PySem.F.plainAttrs_list PySem.F.slot_list_append PySem.F.type_list_append mt_append (pv 3) (pa_cons (pv 7) pa_nil)))) pss_nil))))))
      (pss_one (ps_ret (pv 3))))), ?_⟩
    refine ⟨Nat.zero_le _, fun f hf => ?_⟩
    have nfb : f ≠ b := hB.ne hf
    have k1 : Kp b H (upd H f (.lst [])) := Kp.new hf
    have g1 : Gr K (upd H f (.lst [])) b f n [] [] := ⟨hB.off nfb, upd_same, .nil, good_nil⟩
    generalize upd H f (.lst []) = H1 at k1 g1 ⊢
    refine ⟨_, rfl, _, rfl, b, most, n, rfl, g1.box, by omega, by omega, by omega, fun r H2 r0 r1 k2 B2 => ⟨_, _, rfl, rfl, ?_⟩⟩
    have g2 := g1.kp k2 B2
    refine ⟨_, rfl, by omega, by omega, for_range (lo := 0) (n := (1 + r).toNat) (fun i σ H' => ∃ rows as, Gr K H' b f (n + 1 + 30 * i) rows as ∧ Kp2 b f H2 H' ∧ rows.length ≤ i ∧ (1 ≤ i → 1 ≤ rows.length) ∧ ∃ v4 v5 v6 v7, σ = [some (.ref b), some (.int most), some (.bl true), some (.ref f), v4, v5, v6, v7, none]) ⟨[], [], g2, Kp2.refl _ _ _, Nat.le_refl _, (fun z => absurd z (by decide)), _, _, _, _, rfl⟩ ?_ ?_⟩
    · rintro i σ H3 hi ⟨rows, as, g3, k3, l3, p3, v4, v5, v6, v7, rfl⟩
      refine ⟨_, rfl, b, _, rfl, g3.box, by omega, fun z H4 nz lz k4 B4 => ?_⟩
      have g4 := g3.kp k4 B4
      refine ⟨_, rfl, b, 8, _, rfl, g4.box, by omega, by decide, by decide, fun way H5 w0 w1 k5 B5 => ?_⟩
      have g5 := g4.kp k5 B5
      refine ⟨_, _, rfl, _, rfl, Nat.zero_le _, fun e he => ⟨(show 2 ≤ sizeLine from by decide), fun t ht => ?_⟩⟩
      have S6 : Same H5 (upd (upd H5 e (.tup [])) t (.tup [.str z, .ref e])) := (same_new he).trans (same_new ht)
      have r6 : RowAt K (upd (upd H5 e (.tup [])) t (.tup [.str z, .ref e])) ⟨z, .inl []⟩ t := .mkL (SqT.of upd_same) (SqT.of (by rw [upd_ne (fun y => by rw [← y, upd_same] at ht; cases ht)]; exact upd_same))
      generalize upd (upd H5 e (.tup [])) t (.tup [.str z, .ref e]) = H6 at S6 r6 ⊢
      have g6 := g5.same S6
      have k6 : Kp2 b f H2 H6 := (k3.trans (kp_to2 (k4.trans k5))).same S6
      have gl0 : GoodL ⟨z, .inl []⟩ rows.length := ⟨nz, Nat.le_trans lz (by decide), .inl ⟨[], rfl, Nat.zero_le _, (fun j hj => by cases hj)⟩⟩
      clear S6 g5 g4 g3 k3 k4 k5 B4 B5 he ht
      refine ⟨fun σ H' => ∃ r p, RowAt K H' r p ∧ GoodL r rows.length ∧ Gr K H' b f (n + 1 + 30 * (i + 1)) rows as ∧ Kp2 b f H2 H' ∧ σ = [some (.ref b), some (.int most), some (.bl true), some (.ref f), some (.int (0 + ((i : Nat) : Int))), some (.str z), some (.int way), some (.ref p), none], ?_, ?_⟩
      · refine ⟨_, rfl, _, _, rfl, rfl, _, rfl, if2 (fun c => ?_) (fun c => ?_)⟩
        · refine ⟨_, rfl, _, rfl, iteT ?_⟩
          refine ⟨_, rfl, (show 3 ≤ sizeLine from by decide), fun l hl => ?_⟩
          have S7 := same_new (o := .lst [V.str "x", V.str "y", V.str z]) hl
          have gl7 : (upd H6 l (.lst [V.str "x", V.str "y", V.str z])) l = some (.lst [V.str "x", V.str "y", V.str z]) := upd_same
          generalize upd H6 l (.lst [V.str "x", V.str "y", V.str z]) = H7 at S7 gl7 ⊢
          have g7 := g6.same S7
          have nlb : l ≠ b := fun y => by
            obtain ⟨_, _, _, h, _⟩ := g6.box
            rw [y, h] at hl
            cases hl
          refine ⟨_, rfl, b, 3, _, rfl, g7.box, by omega, by decide, by decide, fun r3 H8 a8 b8 k8 B8 => ?_⟩
          have g8 := g7.kp k8 B8
          obtain ⟨v, hv, y, rfl, p1, p2⟩ := at_some (xs := [("x" : Str), "y", z].map V.str) (r := r3) (P := fun v => ∃ y, v = V.str y ∧ nmB y = true ∧ y.length ≤ 8) (fun x hx => by
            obtain ⟨u, hu, rfl⟩ := List.mem_map.mp hx
            rcases List.mem_cons.mp hu with e | hu
            · exact ⟨u, rfl, by rw [e]; decide +kernel, by rw [e]; decide +kernel⟩
            · rcases List.mem_cons.mp hu with e | hu
              · exact ⟨u, rfl, by rw [e]; decide +kernel, by rw [e]; decide +kernel⟩
              · rw [List.mem_singleton.mp hu]
                exact ⟨z, rfl, nz, lz⟩) a8 b8
          refine ⟨l, _, _, _, rfl, rfl, SqL.of (k8 _ _ nlb gl7), hv, _, rfl, b, 5, _, rfl, g8.box, by omega, by decide, by decide, fun r4 H9 a9 b9 k9 B9 => ?_⟩
          have g9 := g8.kp k9 B9
          obtain ⟨tn, rfl⟩ := Int.eq_ofNat_of_zero_le a9
          refine ⟨(show 2 ≤ sizeLine from by decide), fun t2 ht2 => ?_⟩
          have S10 := same_new (o := .tup [V.str y, V.int ((tn : Nat) : Int)]) ht2
          exact ⟨⟨y, .inr tn⟩, t2, .mkT (SqT.of upd_same), ⟨p1, Nat.le_trans p2 (by decide), .inr ⟨tn, rfl, by omega⟩⟩, (g9.same S10).up (by omega), ((k6.same S7).trans (kp_to2 (k8.trans k9))).same S10, rfl⟩
        · refine iteF ?_
          refine ⟨_, rfl, _, _, rfl, rfl, _, rfl, if2 (fun c2 => ?_) (fun c2 => ?_)⟩
          · refine ⟨_, rfl, Nat.zero_le _, fun l hl => ?_⟩
            have S7 := same_new (o := .lst []) hl
            have gl7 : (upd H6 l (.lst [])) l = some (.lst []) := upd_same
            generalize upd H6 l (.lst []) = H7 at S7 gl7 ⊢
            have g7 := g6.same S7
            have r7 := r6.same S7
            refine ⟨rowsD rows, .list [], .lst (SqL.of g7.lst) (rows_dp g7.row), .lst (SqL.of gl7) .nil, rows_shaped g7.good.nm, by decide +kernel, _, rfl, ?_⟩
            by_cases hrows : rows = []
            · rw [show PyData.eqv (rowsD rows) (.list []) = true by rw [hrows]; simp [rowsD, PyData.eqv, PyData.eqvAll]]
              exact iteF ⟨_, t, r7, gl0, g7.up (by omega), k6.same S7, rfl⟩
            · have lpos : 0 < rows.length := List.length_pos_iff.mpr hrows
              rw [show PyData.eqv (rowsD rows) (.list []) = false by
                cases rows with
                | nil => exact absurd rfl hrows
                | cons r0 l => simp [rowsD, PyData.eqv, PyData.eqvAll]]
              have lcap : rows.length ≤ 40 := by omega
              clear hrows
              refine iteT ⟨_, rfl, _, rfl, b, 3, _, rfl, g7.box, by omega, by decide, by decide, fun r3 H8 a8 b8 k8 B8 => ⟨_, _, rfl, rfl, _, rfl, by omega, by omega, fun D hD => ?_⟩⟩
              have g8 := g7.kp k8 B8
              have nDb : D ≠ b := g8.box.ne hD
              have nDf : D ≠ f := fun y => by rw [y, g8.lst] at hD; cases hD
              refine lc_range (lo := 0) (n := (1 + r3).toNat) (fun c H' => Gr K H' b f (n + 1 + 30 * i + 22 + c) rows as ∧ Kp b H8 H' ∧ ∃ ns : List Nat, H' D = some (.lst (numsV ns)) ∧ ns.length = c ∧ ∀ y ∈ ns, y < rows.length) ⟨(g8.same (same_new hD)).up (by omega), Kp.new hD, [], upd_same, rfl, (fun y hy => by cases hy)⟩ ?_ ?_
              · rintro c H9 hc ⟨g9, k9, ns, hns, lns, bns⟩
                refine ⟨rfl, _, rfl, _, rfl, f, _, rfl, .inl (SqL.of g9.lst), b, _, _, rfl, g9.box, by omega, ?_, ?_, fun r5 H10 a10 b10 k10 B10 => ?_⟩
                · rw [List.length_map, ← Paired.length g9.row]
                  omega
                · rw [List.length_map, ← Paired.length g9.row]
                  omega
                · rw [List.length_map, ← Paired.length g9.row] at b10
                  obtain ⟨x, rfl⟩ := Int.eq_ofNat_of_zero_le a10
                  have g10 := g9.kp k10 B10
                  refine ⟨_, k10 _ _ nDb hns, ?_, ⟨g10.box.off nDb, ?_, paired_imp (fun _ _ h => h.sameT (lst_sameT (k10 _ _ nDb hns))) g10.row, g10.good⟩, (k9.trans k10).mut hD, ns ++ [x], ?_, by rw [List.length_append, lns]; rfl, fun y hy => ?_⟩
                  · rw [numsV_len]
                    exact Nat.lt_of_lt_of_le (show ns.length < 100 by omega) (by decide)
                  · rw [upd_ne (Ne.symm nDf)]
                    exact g10.lst
                  · rw [upd_same]
                    unfold numsV
                    rw [List.map_append]
                    rfl
                  · rcases List.mem_append.mp hy with hy | hy
                    · exact bns y hy
                    · rw [List.mem_singleton.mp hy]
                      omega
              · rintro H9 ⟨g9, k9, ns, hns, lns, bns⟩
                refine ⟨D, _, rfl, .inl ⟨SqL.of hns, fun tt htt => ?_⟩⟩
                have S10 := same_new (o := .tup (numsV ns)) htt
                have gt10 : (upd H9 tt (.tup (numsV ns))) tt = some (.tup (numsV ns)) := upd_same
                generalize upd H9 tt (.tup (numsV ns)) = H10 at S10 gt10 ⊢
                refine ⟨(show 2 ≤ sizeLine from by decide), fun t2 ht2 => ?_⟩
                have S11 := same_new (o := .tup [V.str z, V.ref tt]) ht2
                exact ⟨⟨z, .inl ns⟩, t2, .mkL (SqT.of upd_same) (SqT.of (S11 _ _ gt10)), ⟨nz, Nat.le_trans lz (by decide), .inl ⟨ns, rfl, by omega, bns⟩⟩, ((g9.same S10).same S11).up (by omega), (((k6.same S7).trans (kp_to2 (k8.trans k9))).same S10).same S11, rfl⟩
          · exact iteF ⟨_, t, r6, gl0, g6.up (by omega), k6, rfl⟩
      · rintro σ H' ⟨r, p, hr_, gl, g, k, rfl⟩
        refine ⟨_, rfl, _, rfl, r.data, rows.map BRow.data, hr_, .lst (SqL.of g.lst) (rows_dp g.row), row_shaped gl.1, rows_shaped g.good.nm, ?_⟩
        rw [rows_any]
        refine ⟨_, rfl, ?_⟩
        by_cases h : r ∈ rows
        · rw [decide_eq_true h]
          refine iteF ⟨rows, as, g, k, by omega, fun _ => ?_, _, _, _, _, rfl⟩
          cases rows with
          | nil => cases h
          | cons _ l => exact Nat.succ_le_succ (Nat.zero_le _)
        · rw [decide_eq_false h]
          refine iteT ⟨_, rfl, .inl ⟨rfl, _, SqL.of g.lst⟩, _, rfl, f, _, _, rfl, rfl, g.lst, ?_, ?_⟩
          · have := Paired.length g.row
            rw [List.length_map, ← this]
            exact Nat.lt_of_lt_of_le (show rows.length < 100 by omega) (by decide)
          · have S := lst_sameT (ys := as.map V.ref ++ [V.ref p]) g.lst
            refine ⟨rows ++ [r], as ++ [p], ⟨g.box.off g.nbq, ?_, paired_snoc (paired_imp (fun _ _ h => h.sameT S) g.row) (hr_.sameT S), good_snoc g.good gl h⟩, fun a o n1 n2 e => by rw [upd_ne n2]; exact k a o n1 n2 e, by rw [List.length_append]; exact Nat.succ_le_succ l3, fun _ => by rw [List.length_append]; exact Nat.le_add_left _ _, _, _, _, _, rfl⟩
            rw [upd_same, List.map_append]
            rfl
    · rintro σ H' ⟨rows, as, g, k, l, p, v4, v5, v6, v7, rfl⟩
      refine ⟨_, rfl, q f rows as H' hf (fun a o n1 h => k a o n1 (ne_of_none h hf) (k2 a o n1 (k1 a o n1 h))) (g.up (by omega)) (p (by omega)) (by omega)⟩
end
end L05
set_option Elab.async false
set_option linter.all false
set_option maxRecDepth 100000
set_option maxHeartbeats 4000000
set_option pp.deepTerms false
set_option pp.deepTerms.threshold 4
set_option pp.maxSteps 1000
namespace L05
open PySem L2 Tp
section
variable {P : Program} {w : World} {K : PySem.W.Frag} {mg : Str → Option Value} {base : Heap} {a : Ad} {d : Fd}
theorem nums_in (k : Nat) : ∀ ws : List Nat, inV (.int (k : Nat)) (numsV ws) = decide (k ∈ ws)
  | [] => by simp [inV, numsV]
  | x :: ws => by
    have ih := nums_in k ws
    unfold inV numsV at ih ⊢
    rw [List.map_cons, List.any_cons, ih]
    show (((x : Nat) : Int) == ((k : Nat) : Int) || _) = _
    by_cases h : x = k
    · subst h
      simp
    · have h2 : ¬ ((x : Int) = (k : Int)) := by omega
      have h3 : ¬ k = x := fun z => h z.symm
      simp [h2, h3]
theorem nums_flat (ws : List Nat) : (numsV ws).all flatV = true := List.all_eq_true.mpr fun v hv => by
  unfold numsV at hv
  obtain ⟨n, _, rfl⟩ := List.mem_map.mp hv
  rfl
theorem nums_ints (ws : List Nat) : numsV ws = (ws.map fun (n : Nat) => ((n : Nat) : Int)).map V.int := by
  unfold numsV
  rw [List.map_map]
  rfl
theorem asc_eq {ys zs : List Int} (hy : ys.Pairwise (· < ·)) (hz : zs.Pairwise (· < ·)) (h : ∀ k, k ∈ ys ↔ k ∈ zs) : ys = zs := by
  have nd : zs.Nodup := hz.imp fun h => Int.ne_of_lt h
  have ny : ys.Nodup := hy.imp fun h => Int.ne_of_lt h
  have p : ys.Perm zs := (List.perm_ext_iff_of_nodup ny nd).mpr h
  exact p.eq_of_pairwise (fun a b _ _ h1 h2 => by omega) hy hz
def spPartsL (K : PySem.W.Frag) : Sp := fun vs H Q _ => ∃ (q : Addr) (rows : List BRow) (as : List Addr) (n : Nat), vs = [.ref q, .int (n : Nat)] ∧ H q = some (.lst (as.map V.ref)) ∧ Paired (RowAt K H) rows as ∧ GoodB rows ∧ n < rows.length ∧ rows.length ≤ 1330 ∧
  ∀ p H', Same H H' → H p = none → H' p = some (.lst (numsV (partsR rows n))) → Q (.ref p) H'
theorem ok_partsL (T : Txt K mg a d) : FnG P w K mg base CX0 1 a.partsL d.partsL ["_law_rows_here", "_law_number"] (spPartsL K) := by
  refine okG T.F_partsL scPartsL (fun vs H Q E h => ?_) (fun cdv A outer s H vs Q E hr hg h => ?_)
  · obtain ⟨q, rows, as, n, rfl, _⟩ := h
    rfl
  · obtain ⟨q, rows, as, n, rfl, gq, pr, good, hn, few, Z⟩ := h
    refine ⟨_, (pss_cons (ps_set (i := 2) scPartsL.nd rfl (Or.inr rfl) (pe_lst (pa_cons (pv 1) pa_nil)))
      (pss_cons (ps_for PassesOwn.never rfl (pi_range3 (by rfl) T.range_ (pa_cons (pv 1) (pa_cons (pe_op op_sub pe_int pe_int) (pa_cons (pe_op op_sub pe_int pe_int) pa_nil)))) (pg_name (i := 3) scPartsL.nd rfl (Or.inl rfl)) (pss_one (ps_if (PW.pt (pw_and (pt_cmpR op_in_seq (pv 3) (pv 2) (by rfl)) (pw_and1 (pt_val (pe_callB call_isi (by rfl) T.isinstance_ Tp.bt_isinstance (pa_cons (pe_ix ix_tup (pe_ix ix_list (pv 0) (pv 3) (fun _ _ => rfl)) pe_int (fun _ _ => rfl)) (pa_cons (pe_bltn (v := .ty "tuple") (by rfl) T.tuple_ Tp.bt_tuple rfl) pa_nil))))))) (pss_one (ps_expr (pe_bm PySem.F.plainAttrs_list PySem.F.slot_list_extend PySem.F.type_list_extend mt_extend (pv 2) (pa_cons (pe_lc (own := [("_law_one", 4)]) (by rfl) scPartsL.nd (pi_tup (pe_ix ix_tup (pe_ix ix_list (pv 0) (pv 3) (fun _ _ => rfl)) pe_int (fun _ _ => rfl))) (blkOk_by (own := [("_law_one", 4)]) (N := scPartsL_N) (sc := defScope scPartsL_st) (by decide +kernel)) (fun _ _ _ _ _ => (pg_name (i := 4) scPartsL.nd rfl (Or.inl rfl))) (fun _ _ _ _ _ => (pts_one (pt_cmpR (Tp.op_notInK rfl) (pv 4) (pv 2) (by rfl)))) (fun _ _ _ _ _ => (pv 4))) pa_nil)))) pss_nil)))
      (pss_one (ps_ret (pe_callB (Tp.cr_sortedSB rfl) (by rfl) T.sorted_ Tp.bt_sorted (pa_cons (pe_callTy (Tp.cr_setL rfl) (by rfl) T.set_ Tp.bt_set (pa_cons (pv 2) pa_nil)) pa_nil)))))), ?_⟩
    refine ⟨_, rfl, (show 1 ≤ sizeLine from by decide), fun D hD => ?_⟩
    have k0 : ∀ b o, b ≠ D → H b = some o → (upd H D (.lst [.int (n : Nat)])) b = some o := fun b o nb h => by rw [upd_ne nb]; exact h
    have g0 : (upd H D (.lst [.int (n : Nat)])) D = some (.lst (numsV [n])) := upd_same
    generalize upd H D (.lst [.int (n : Nat)]) = H0 at k0 g0 ⊢
    have fr : ∀ {H' : Hp}, (∀ b o, b ≠ D → H b = some o → H' b = some o) → Same H H' := fun k b o h => k b o (ne_of_none h hD) h
    have rg : RgC ((n : Nat) : Int) (-1) (-1) (n + 1) := by
      have := RgC.neg (i := ((n : Nat) : Int)) (j := -1) (by omega) (by omega) (by omega) (by omega)
      rw [show (((n : Nat) : Int) - -1).toNat = n + 1 by omega] at this
      exact this
    refine ⟨_, rfl, _, _, rfl, rfl, _, _, rfl, rfl, _, _, _, n + 1, rfl, rg, for_rangeC (lo := ((n : Nat) : Int)) (c := -1) (n := n + 1) (fun i σ H' => (∃ ws, H' D = some (.lst (numsV ws)) ∧ (∀ k, k ∈ ws ↔ marks rows n i k = true) ∧ ws.length ≤ 1 + 3 * i) ∧ (∀ b o, b ≠ D → H b = some o → H' b = some o) ∧ ∃ v3, σ = [some (.ref q), some (.int (n : Nat)), some (.ref D), v3, none]) ⟨⟨[n], g0, fun k => ⟨fun h => decide_eq_true (List.mem_singleton.mp h), fun h => List.mem_singleton.mpr (of_decide_eq_true h)⟩, Nat.le_refl _⟩, k0, _, rfl⟩ ?_ ?_⟩
    · rintro i σ H1 hi ⟨⟨ws, g1, mw, lw⟩, k1, v3, rfl⟩
      have e1 : ((n : Nat) : Int) + ((i : Nat) : Int) * -1 = ((n - i : Nat) : Int) := by omega
      rw [e1]
      refine ⟨_, rfl, _, rfl, D, _, rfl, .inl (SqL.of g1), rfl, nums_flat ws, _, rfl, ?_⟩
      rw [show (if false = true then !inV (V.int ((n - i : Nat) : Int)) (numsV ws) else inV (V.int ((n - i : Nat) : Int)) (numsV ws)) = decide (n - i ∈ ws) from nums_in (n - i) ws]
      have hlt : n - i < rows.length := by omega
      have er : rows[n - i]? = some rows[n - i] := List.getElem?_eq_getElem hlt
      have mk : ∀ k, marks rows n (i + 1) k = (marks rows n i k || (marks rows n i (n - i) && decide (k ∈ (rows[n - i]).args))) := fun k => by
        rw [← args_at er]
        rfl
      by_cases hm : n - i ∈ ws
      · rw [decide_eq_true hm]
        refine iteT ?_
        have hmk := (mw (n - i)).mp hm
        have S1 := fr k1
        obtain ⟨p, hp, rp⟩ := Tp.paired_get (paired_imp (fun _ _ h => h.same S1) pr) er
        have gq1 := S1 _ _ gq
        have hat : atI (as.map V.ref) ((n - i : Nat) : Int) = some (.ref p) := atI_nat (by rw [List.getElem?_map, hp]; rfl)
        have a3 : (rows[n - i]).args.length ≤ 3 := good.few _ (List.getElem_mem hlt)
        generalize rows[n - i] = r at mk rp a3
        rcases rp.inv with ⟨l, b, e, h1, h2⟩ | ⟨t, e, h1⟩
        · have ea : r.args = l := by unfold BRow.args; rw [e]
          rw [ea] at mk a3
          refine ⟨_, rfl, _, rfl, q, _, _, _, rfl, rfl, SqL.of gq1, hat, p, _, 1, _, rfl, rfl, h1, rfl, _, _, _, _, true, rfl, .ty _, ty_sqT h2, kit_ty (by decide +kernel), _, rfl, iteT ?_⟩
          refine ⟨_, rfl, .inl ⟨rfl, _, SqL.of g1⟩, _, rfl, _, rfl, q, _, _, _, rfl, rfl, SqL.of gq1, hat, p, _, 1, _, rfl, rfl, h1, rfl, b, rfl, ⟨_, h2⟩, fun D2 hD2 => lc_it (walk_tup (xs := numsV l)) (fun c H' => Same H1 H' ∧ H' D2 = some (.lst (numsV ((l.take c).filter fun k => decide (k ∉ ws))))) ⟨same_new hD2, upd_same⟩ ?_ ?_ ?_⟩
          · rintro c H' _ ⟨S, _⟩
            exact sqT_same S h2
          · rintro c v _ H' hc ⟨S, gD⟩ ⟨rfl, hv⟩
            unfold numsV at hv
            rw [List.getElem?_map] at hv
            obtain ⟨y, hy, rfl⟩ := Option.map_eq_some_iff.mp hv
            have hcl := (List.getElem?_eq_some_iff.mp hy).1
            refine ⟨rfl, _, rfl, _, rfl, D, _, rfl, .inl (SqL.of (S _ _ g1)), rfl, nums_flat ws, _, rfl, ?_⟩
            rw [show (if true = true then !inV (V.int ((y : Nat) : Int)) (numsV ws) else inV (V.int ((y : Nat) : Int)) (numsV ws)) = !decide (y ∈ ws) from congrArg (!·) (nums_in y ws)]
            rw [take_succ hy, List.filter_append]
            by_cases hyw : y ∈ ws
            · refine ifnY hyw ⟨S, ?_⟩
              have : ([y] : List Nat).filter (fun k => decide (k ∉ ws)) = [] := List.filter_cons_of_neg (p := fun k => decide (k ∉ ws)) (fun z => of_decide_eq_true z hyw)
              rw [this, List.append_nil]
              exact gD
            · refine ifnN hyw ⟨_, rfl, _, gD, ?_, Tp.Same.mut S hD2, ?_⟩
              · rw [numsV_len]
                exact Nat.lt_of_le_of_lt (Nat.le_trans (List.length_filter_le _ _) (by rw [List.length_take]; exact (show _ ≤ 3 by omega))) (by decide)
              · have : ([y] : List Nat).filter (fun k => decide (k ∉ ws)) = [y] := List.filter_cons_of_pos (p := fun k => decide (k ∉ ws)) (decide_eq_true hyw)
                rw [upd_same, this]
                unfold numsV
                rw [List.map_append]
                rfl
          · rintro H2 ⟨S2, gD⟩
            rw [numsV_len, List.take_length] at gD
            have lf : (l.filter fun k => decide (k ∉ ws)).length ≤ 3 := Nat.le_trans (List.length_filter_le _ _) a3
            refine ⟨D, D2, _, _, rfl, rfl, S2 _ _ g1, gD, ?_, ⟨ws ++ l.filter fun k => decide (k ∉ ws), ?_, fun k => ?_, ?_⟩, fun b o nb h => by rw [upd_ne nb]; exact S2 _ _ (k1 b o nb h), _, rfl⟩
            · rw [numsV_len, numsV_len]
              exact Nat.le_trans (show _ ≤ 5000 by omega) (by decide)
            · rw [upd_same]
              unfold numsV
              rw [List.map_append]
            · rw [mk k, hmk, Bool.true_and, Bool.or_eq_true, List.mem_append, List.mem_filter]
              constructor
              · rintro (h | ⟨h, _⟩)
                · exact .inl ((mw k).mp h)
                · exact .inr (decide_eq_true h)
              · rintro (h | h)
                · exact .inl ((mw k).mpr h)
                · by_cases hk : k ∈ ws
                  · exact .inl hk
                  · exact .inr ⟨of_decide_eq_true h, decide_eq_true hk⟩
            · rw [List.length_append]
              omega
        · have ea : r.args = [] := by unfold BRow.args; rw [e]
          refine ⟨_, rfl, _, rfl, q, _, _, _, rfl, rfl, SqL.of gq1, hat, p, _, 1, _, rfl, rfl, h1, rfl, _, _, _, _, false, rfl, .ty _, .base (.int _), kit_ty (by decide +kernel), _, rfl, iteF ⟨⟨ws, g1, fun k => ?_, by omega⟩, k1, _, rfl⟩⟩
          rw [mk k, ea, mw k]
          simp
      · rw [decide_eq_false hm]
        refine iteF (iteF ⟨⟨ws, g1, fun k => ?_, by omega⟩, k1, _, rfl⟩)
        have : marks rows n i (n - i) = false := by
          cases e : marks rows n i (n - i) with
          | false => rfl
          | true => exact absurd ((mw _).mpr e) hm
        rw [mk k, this, Bool.false_and, Bool.or_false, mw k]
    · rintro σ H1 ⟨⟨ws, g1, mw, lw⟩, k1, v3, rfl⟩
      refine ⟨_, rfl, D, ws.map fun (n : Nat) => ((n : Nat) : Int), rfl, by rw [← nums_ints]; exact SqL.of g1, ?_, fun sa c hsa => ?_⟩
      · rw [List.length_map]
        exact Nat.lt_of_le_of_lt (show _ ≤ 4000 by omega) (by decide)
      refine ⟨sa, _, _, rfl, upd_same, fun ys p hy my hp => ?_⟩
      have e : ys = (partsR rows n).map fun (n : Nat) => ((n : Nat) : Int) := by
        refine asc_eq hy (List.pairwise_map.mpr ((parts_sorted rows n).imp fun h => by omega)) fun k => ?_
        rw [my k]
        constructor
        · intro h
          obtain ⟨m, hm, rfl⟩ := List.mem_map.mp (of_decide_eq_true h)
          have := (mw m).mp hm
          exact List.mem_map.mpr ⟨m, parts_mem.mpr ⟨marks_le good.wf this, this⟩, rfl⟩
        · intro h
          obtain ⟨m, hm, rfl⟩ := List.mem_map.mp h
          exact decide_eq_true (List.mem_map.mpr ⟨m, (mw m).mpr (parts_mem.mp hm).2, rfl⟩)
      subst e
      exact Z p _ ((fr k1).trans ((same_new hsa).trans (same_new hp))) (none_of ((fr k1).trans (same_new hsa)) hp) (by rw [upd_same, nums_ints])
end
end L05
set_option Elab.async false
set_option linter.all false
set_option maxRecDepth 100000
set_option maxHeartbeats 4000000
set_option pp.deepTerms false
set_option pp.deepTerms.threshold 4
set_option pp.maxSteps 1000
namespace L05
open PySem L2 Tp
section
variable {P : Program} {w : World} {K : PySem.W.Frag} {mg : Str → Option Value} {base : Heap} {a : Ad} {d : Fd}
theorem rd_lock {H : Hp} {D a : Addr} {kvs : List (Key × V)} {od : Obj} {o : HO} (hD : H D = some (.dK kvs)) (h : Rd H a o) : Rd (upd H D (.frz od (.dK kvs))) a o := by
  by_cases e : a = D
  · rw [e] at h ⊢
    rcases h with h | ⟨o', h⟩
    · rw [hD] at h
      cases h
      exact .inr ⟨od, upd_same⟩
    · rw [hD] at h
      cases h
  · rcases h with h | ⟨o', h⟩
    · exact .inl (by rw [upd_ne e]; exact h)
    · exact .inr ⟨o', by rw [upd_ne e]; exact h⟩
theorem dq_rd {K : PySem.W.Frag} {H H' : Hp} (S : ∀ a o, Rd H a o → Rd H' a o) : (∀ {v : V} {d : PyData}, Dq K H v d → Dq K H' v d) ∧ (∀ {vs : List V} {ds : List PyData}, DqAll K H vs ds → DqAll K H' vs ds) := by
  constructor
  · intro v d h
    exact Dq.rec (motive_1 := fun v d _ => Dq K H' v d) (motive_2 := fun vs ds _ => DqAll K H' vs ds) .non .bl .int .str (fun s _ ih => .lst (s.imp (S _ _) id) ih) (fun s _ ih => .tup (s.imp (S _ _) id) ih) (fun r _ _ i1 i2 => .dic (S _ _ r) i1 i2) .nil (fun _ _ a b => .cons a b) h
  · intro vs ds h
    exact DqAll.rec (motive_1 := fun v d _ => Dq K H' v d) (motive_2 := fun vs ds _ => DqAll K H' vs ds) .non .bl .int .str (fun s _ ih => .lst (s.imp (S _ _) id) ih) (fun s _ ih => .tup (s.imp (S _ _) id) ih) (fun r _ _ i1 i2 => .dic (S _ _ r) i1 i2) .nil (fun _ _ a b => .cons a b) h
theorem un_lock {H H' : Hp} {D : Addr} {kvs : List (Key × V)} {od : Obj} (hD : H D = some (.dK kvs)) (S : Same (upd H D (.frz od (.dK kvs))) H') : Same H (upd H' D (.dK kvs)) := fun b o h => by
  by_cases e : b = D
  · rw [e] at h ⊢
    rw [hD] at h
    cases h
    exact upd_same
  · rw [upd_ne e]
    exact S _ _ (by rw [upd_ne e]; exact h)
def smpB (ds : List PyData) : Bool := ds.all isLT
def spAreSmp (K : PySem.W.Frag) : Sp := fun vs H Q _ => ∃ (v : V), vs = [v] ∧ ((∃ e, Dq K H v e ∧ isDc e = false ∧ Q (.bl false) H) ∨
  ∃ d kvs ds, v = .ref d ∧ H d = some (.dK kvs) ∧ DqAll K H (kvs.map (·.2)) ds ∧ kvs.length ≤ 1000 ∧ ∀ H', Same H H' → Q (.bl (smpB ds)) H')
theorem ok_areSmp (T : Txt K mg a d) : FnOk P w K mg base CX0 2 a.areSmp d.areSmp ["value"] (spAreSmp K) := by
  have G_isList := ok_isList (P := P) (w := w) (base := base) T
  refine okN T.F_areSmp scAreSmp (fun vs H Q E h => ?_) (fun cdv A outer s H vs Q E hr h => ?_)
  · obtain ⟨v, rfl, _⟩ := h
    rfl
  · obtain ⟨v, rfl, h⟩ := h
    refine ⟨_, (pss_one (ps_ret (pe_and (pe_callB (Tp.call_isA (K := K) rfl) (by rfl) T.isinstance_ Tp.bt_isinstance (pa_cons (pv 0) (pa_cons (pe_bltn (v := .ty "dict") (by rfl) T.dict_ Tp.bt_dict rfl) pa_nil))) (pe_one (pe_callB (cr_all rfl) (by rfl) T.all_ Tp.bt_all (pa_cons (pe_lock (pe_lc (own := [("items", 1)]) (by rfl) scAreSmp.nd (pi_values (pv 0)) (blkOk_by (own := [("items", 1)]) (N := scAreSmp_N) (sc := defScope scAreSmp_st) (by decide +kernel)) (fun _ _ _ _ _ => (pg_name (i := 1) scAreSmp.nd rfl (Or.inl rfl))) (fun _ _ _ _ _ => pts_nil) (fun _ _ _ _ _ => (pe_call G_isList (hr.mono (by decide)) (by rfl) T.mg_isList T.F_isList.kp T.b_isList .nil pass0 (pa_cons (pv 1) pa_nil))))) pa_nil)))))), ?_⟩
    rcases h with ⟨e, dq, nd, q⟩ | ⟨D, kvs, ds, rfl, hD, da, l, q⟩
    · refine ⟨_, rfl, _, _, _, _, isDc e, rfl, .ty _, .x (dq_ty dq), kit_dict e, _, rfl, ?_⟩
      rw [nd]
      exact iteF q
    · refine ⟨_, rfl, _, _, _, _, true, rfl, .ty _, .x (.base (.dK hD)), kit_ty (by decide +kernel), _, rfl, iteT ?_⟩
      refine ⟨D, _, hD, True.intro, fun od => ⟨_, rfl, D, od, kvs, rfl, upd_same, fun M hM => ?_⟩⟩
      have rk : ∀ a o, Rd H a o → Rd (upd H D (.frz od (.dK kvs))) a o := fun a o h => rd_lock hD h
      have daL := (dq_rd rk).2 da
      refine lc_it walk_values (fun i H' => Same (upd H D (.frz od (.dK kvs))) H' ∧ H' M = some (.lst (((ds.take i).map isLT).map V.bl))) ⟨same_new hM, upd_same⟩ ?_ ?_ ?_
      · rintro i H' _ ⟨S, _⟩
        exact S _ _ upd_same
      · rintro i x _ H' hi ⟨S, gM⟩ ⟨rfl, k, hk⟩
        obtain ⟨e, he, de⟩ := dqAll_get daL (v := x) (i := i) (by rw [List.getElem?_map, hk]; rfl)
        refine ⟨rfl, _, rfl, x, _, _, rfl, dq_ty ((dq_same S).1 de), kit_lt e, fun H2 S2 => ⟨_, S2 _ _ gM, ?_, Tp.Same.mut (S.trans S2) hM, ?_⟩⟩
        · rw [List.length_map, List.length_map, List.length_take]
          exact Nat.lt_of_le_of_lt (show _ ≤ 1000 by omega) (by decide)
        · rw [upd_same, List.take_add_one, he, List.map_append, List.map_append]
          rfl
      · rintro H2 ⟨S2, gM⟩
        have ld : kvs.length = ds.length := by have := dqAll_len da; rw [List.length_map] at this; exact this
        rw [ld, List.take_length] at gM
        refine ⟨S2 _ _ upd_same, M, ds.map isLT, rfl, ?_, ?_⟩
        · have nMD : M ≠ D := fun e => by rw [e, upd_same] at hM; cases hM
          exact SqL.of (by rw [upd_ne nMD]; exact gM)
        · have e3 : ((ds.map isLT).all id) = smpB ds := by rw [List.all_map]; rfl
          rw [e3]
          exact q _ (un_lock hD S2)
end
end L05
set_option Elab.async false
set_option linter.all false
set_option maxRecDepth 100000
set_option maxHeartbeats 4000000
set_option pp.deepTerms false
set_option pp.deepTerms.threshold 4
set_option pp.maxSteps 1000
namespace L05
open PySem L2 Tp
section
variable {P : Program} {w : World} {K : PySem.W.Frag} {mg : Str → Option Value} {base : Heap} {a : Ad} {d : Fd}
def Rz2 (E : XK) (X : Addr) (f g : Str) (v u : V) (H : Hp) : Prop := ∀ dx H', Same H H' → H' dx = some (.xd [(g, u), (f, v)]) → E (.ref X) (some dx) H'
inductive Known (K : PySem.W.Frag) (a : Ad) (H : Hp) (E : XK) (Q : VK) (r : BRow) (ms : List (Key × V)) (sv : V) : Prop
  | fn (l : List Nat) (v : V) (e : r.sec = .inl l) (h : valV ms (.inr r.nm) = some v) (q : Q .non H)
  | nofn (l : List Nat) (e : r.sec = .inl l) (h : valV ms (.inr r.nm) = none) (z : Rz E a.CUnknownSymbol "name" (.str r.nm) H)
  | none (t : Nat) (e : r.sec = .inr t) (h : sv = .non) (z : Rz2 E a.CUnknownSample "name" "index" (.str r.nm) (.int (t : Nat)) H)
  | lack (t : Nat) (S : Addr) (ss : List (Key × V)) (e : r.sec = .inr t) (h : sv = .ref S) (g : H S = some (.dK ss)) (n : valV ss (.inr r.nm) = none) (z : Rz2 E a.CUnknownSample "name" "index" (.str r.nm) (.int (t : Nat)) H)
  | short (t : Nat) (S s : Addr) (c : Bool) (ss : List (Key × V)) (xs : List V) (e : r.sec = .inr t) (h : sv = .ref S) (g : H S = some (.dK ss)) (n : valV ss (.inr r.nm) = some (.ref s)) (sq : SqB c K H s xs) (l : xs.length ≤ t) (z : Rz2 E a.CUnknownSample "name" "index" (.str r.nm) (.int (t : Nat)) H)
  | smp (t : Nat) (S s : Addr) (c : Bool) (ss : List (Key × V)) (xs : List V) (e : r.sec = .inr t) (h : sv = .ref S) (g : H S = some (.dK ss)) (n : valV ss (.inr r.nm) = some (.ref s)) (sq : SqB c K H s xs) (l : t < xs.length) (q : Q .non H)
def spKnown (K : PySem.W.Frag) (a : Ad) : Sp := fun vs H Q E => ∃ (p M : Addr) (sv : V) (r : BRow) (ms : List (Key × V)), vs = [.ref p, .ref M, sv] ∧ RowAt K H r p ∧ H M = some (.dK ms) ∧ Known K a H E Q r ms sv
theorem ok_needKnown (T : Txt K mg a d) : FnOk P w K mg base (L2.CX P w) 3 a.needKnown d.needKnown ["row", "meaning", "samples"] (spKnown K a) := by
  have G_isSample := ok_isSample (P := P) (w := w) (base := base) T
  refine okX T.F_needKnown scNeedKnown (fun vs H Q E h => ?_) (fun cdv A outer s H vs Q E hr h tk po => ?_)
  · obtain ⟨p, M, sv, r, ms, rfl, _⟩ := h
    rfl
  · obtain ⟨p, M, sv, r, ms, rfl, rp, hM, kn⟩ := h
    refine ⟨_, (pss_cons (ps_asg (pv 0) (pg_tup (by rfl) (pgs_cons (pg_name (i := 3) scNeedKnown.nd rfl (Or.inl rfl)) (pgs_cons (pg_name (i := 4) scNeedKnown.nd rfl (Or.inl rfl)) pgs_nil))))
      (pss_one (ps_if (pt_not (pt_val (pe_call G_isSample (hr.mono (by decide)) (by rfl) T.mg_isSample T.F_isSample.kp T.b_isSample .nil pass0 (pa_cons (pv 0) pa_nil)))) (pss_one (ps_if (pt_cmpR (Tp.op_notInDk (Tp.hu1 hr)) (pv 3) (pv 1) (by rfl)) (pss_one (Tp.ps_raiseB (k := 0) rfl (x_UnknownSymbol T) (hr.mono (by decide)) tk (by rfl) T.mg_UnknownSymbol (pa_cons (pv 3) pa_nil))) pss_nil)) (pss_one (ps_if (PW.pt (pw_or (pt_cmpR op_isN (pv 2) pe_non (nomark _)) (pw_or (pt_cmpR (Tp.op_notInDk (Tp.hu1 hr)) (pv 3) (pv 2) (by rfl)) (pw_or1 (pt_cmpR op_ge (pv 4) (pe_callB call_len_seq (by rfl) T.len_ Tp.bt_len (pa_cons (pe_dget (Tp.hu1 hr) (pv 2) (pv 3) (fun _ _ => rfl)) pa_nil)) (nomark _)))))) (pss_one (Tp.ps_raiseB (k := 0) rfl (x_UnknownSample T) (hr.mono (by decide)) tk (by rfl) T.mg_UnknownSample (pa_cons (pv 3) (pa_cons (pv 4) pa_nil)))) pss_nil))))), ?_⟩
    have inv := rp.inv
    have go : ∀ (v2 : V), SqT K H p [.str r.nm, v2] → True := fun _ _ => trivial
    rcases inv with ⟨l, q, e, h1, h2⟩ | ⟨t, e, h1⟩
    · refine ⟨_, rfl, p, _, rfl, h1, rfl, _, _, rfl, _, _, rfl, rfl, _, rfl, p, r, rfl, rp, _, rfl, ?_⟩
      unfold isSm
      rw [e]
      refine iteT ⟨_, rfl, _, rfl, M, _, rfl, DGet.k (k := .inr r.nm) hM, _, rfl, ?_⟩
      cases kn with
      | fn l' v e' hv q => rw [hv]; exact iteF q
      | nofn l' e' hv z =>
        rw [hv]
        exact iteT ⟨_, rfl, (show 1 ≤ 1000 from by decide), fun y hy => ⟨y, _, rfl, upd_same, fun dz k n => ⟨rfl, dz, _, upd_same, by rw [upd_ne n]; exact upd_same, by rw [upd_ne n] at k; exact k, z dz _ (same_fly hy k) upd_same⟩⟩⟩
      | none t e' => rw [e] at e'; cases e'
      | lack t S ss e' => rw [e] at e'; cases e'
      | short t S s c ss xs e' => rw [e] at e'; cases e'
      | smp t S s c ss xs e' => rw [e] at e'; cases e'
    · refine ⟨_, rfl, p, _, rfl, h1, rfl, _, _, rfl, _, _, rfl, rfl, _, rfl, p, r, rfl, rp, _, rfl, ?_⟩
      unfold isSm
      rw [e]
      refine iteF ?_
      cases kn with
      | fn l' v e' => rw [e] at e'; cases e'
      | nofn l' e' => rw [e] at e'; cases e'
      | none t' e' hv z =>
        rw [e] at e'
        cases e'
        subst hv
        exact ⟨_, rfl, rfl, _, rfl, iteT ⟨_, rfl, _, rfl, (show 2 ≤ 1000 from by decide), fun y hy => ⟨y, _, _, rfl, upd_same, fun dz k n => ⟨rfl, dz, _, upd_same, by rw [upd_ne n]; exact upd_same, by rw [upd_ne n] at k; exact k, z dz _ (same_fly hy k) upd_same⟩⟩⟩⟩
      | lack t' S ss e' hv g n z =>
        rw [e] at e'
        cases e'
        subst hv
        refine ⟨_, rfl, rfl, _, rfl, iteF ⟨_, rfl, _, rfl, S, _, rfl, DGet.k (k := .inr r.nm) g, _, rfl, ?_⟩⟩
        rw [n]
        exact iteT ⟨_, rfl, _, rfl, (show 2 ≤ 1000 from by decide), fun y hy => ⟨y, _, _, rfl, upd_same, fun dz k n => ⟨rfl, dz, _, upd_same, by rw [upd_ne n]; exact upd_same, by rw [upd_ne n] at k; exact k, z dz _ (same_fly hy k) upd_same⟩⟩⟩
      | short t' S s c ss xs e' hv g n sq lt z =>
        rw [e] at e'
        cases e'
        subst hv
        refine ⟨_, rfl, rfl, _, rfl, iteF ⟨_, rfl, _, rfl, S, _, rfl, DGet.k (k := .inr r.nm) g, _, rfl, ?_⟩⟩
        rw [n]
        refine iteF ⟨_, rfl, _, rfl, _, rfl, S, .ref s, rfl, .inl ⟨ss, .inr r.nm, .inl g, rfl, n.symm⟩, s, xs, rfl, sqB_len sq, _, _, rfl, rfl, _, rfl, ifY (by omega) ⟨_, rfl, _, rfl, (show 2 ≤ 1000 from by decide), fun y hy => ⟨y, _, _, rfl, upd_same, fun dz k n => ⟨rfl, dz, _, upd_same, by rw [upd_ne n]; exact upd_same, by rw [upd_ne n] at k; exact k, z dz _ (same_fly hy k) upd_same⟩⟩⟩⟩
      | smp t' S s c ss xs e' hv g n sq lt q =>
        rw [e] at e'
        cases e'
        subst hv
        refine ⟨_, rfl, rfl, _, rfl, iteF ⟨_, rfl, _, rfl, S, _, rfl, DGet.k (k := .inr r.nm) g, _, rfl, ?_⟩⟩
        rw [n]
        exact iteF ⟨_, rfl, _, rfl, _, rfl, S, .ref s, rfl, .inl ⟨ss, .inr r.nm, .inl g, rfl, n.symm⟩, s, xs, rfl, sqB_len sq, _, _, rfl, rfl, _, rfl, ifN (by omega) q⟩
end
end L05
set_option Elab.async false
set_option linter.all false
set_option maxRecDepth 100000
set_option maxHeartbeats 4000000
set_option pp.deepTerms false
set_option pp.deepTerms.threshold 4
set_option pp.maxSteps 1000
namespace L05
open PySem L2 Tp
section
variable {P : Program} {w : World} {K : PySem.W.Frag} {mg : Str → Option Value} {base : Heap} {a : Ad} {d : Fd}
theorem exT {b : XB} {C : Addr} {up : List Addr} (c : ClsX b K C up) : PySem.W.exmOne K (.ref C) (.ref C) = some true := by
  rw [exm_X c c, List.contains_cons, beq_self_eq_true]
  rfl
def spMeasure (P : Program) (w : World) (K : PySem.W.Frag) (C : Addr) : Sp := fun vs H Q _ => ∃ (x l m : Addr) (rows : List BRow) (as : List Addr) (v : V) (door : Int), vs = [.ref x, .int door, v] ∧ BookAt P w K C H x l m rows as ∧ NumIs K H rows v false ∧
  ∀ p H', Same H H' → H' p = some (.lst [.str "term", v]) → Q (.ref p) H'
theorem ok_measure (T : Txt K mg a d) : FnG P w K mg base CX0 7 a.measure d.measure ["_law_book", "_law_door", "_law_number"] (spMeasure P w K a.CBook) := by
  have G_parts := ok_parts (P := P) (w := w) (base := base) T
  have G_size := ok_size (P := P) (w := w) (base := base) T
  have G_depth := ok_depth (P := P) (w := w) (base := base) T
  refine okG T.F_measure scMeasure (fun vs H Q E h => ?_) (fun cdv A outer s H vs Q E hr hg h => ?_)
  · obtain ⟨x, l, m, rows, as, v, door, rfl, _⟩ := h
    rfl
  · obtain ⟨x, l, m, rows, as, v, door, rfl, bk, hn, q⟩ := h
    refine ⟨_, (pss_one (Tp.ps_tryA rfl rfl Tp.takes0 (fun W pn xe tk po => (pss_cons (ps_if (pt_cmpR op_eq (pv 1) pe_int (nomark _)) (pss_one (ps_ret (pe_lst (pa_cons pe_str (pa_cons (Tp.pe_methE (pv 0) T.cl_Book T.me_parts G_parts (hr.mono (by decide)) T.b_parts .nil (fun σ => passAt tk σ) (pa_cons (pv 2) pa_nil)) pa_nil))))) pss_nil)
      (pss_one (ps_ret (pe_lst (pa_cons pe_str (pa_cons (pe_ifExp (pt_cmpR op_eq (pv 1) pe_int (nomark _)) (Tp.pe_methE (pv 0) T.cl_Book T.me_size G_size (hr.mono (by decide)) T.b_size .nil (fun σ => passAt tk σ) (pa_cons (pv 2) pa_nil)) (Tp.pe_methE (pv 0) T.cl_Book T.me_depth G_depth (hr.mono (by decide)) T.b_depth .nil (fun σ => passAt tk σ) (pa_cons (pv 2) pa_nil))) pa_nil))))))) (.as_ (i := 3) scMeasure.nd rfl rfl ⟨rfl, by decide, Or.inl T.mg_UnknownTerm⟩ (fun ea oe cls ed pn hz hf => (pss_one (ps_ret (pe_lst (pa_cons pe_str (pa_cons (pe_xf T.cx_UnknownTerm.xf (T.xi_UnknownTerm.no "number" (by decide)) hz hf (pv 3)) pa_nil)))))) .nil))), ?_⟩
    obtain ⟨dx, ho⟩ := bk.obj
    refine ⟨_, rfl, rfl, _, rfl, if2 (fun _ => ?_) (fun _ => ?_)⟩
    · exact ⟨_, rfl, x, _, _, rfl, ho, no_look (by decide) (by decide), _, rfl, .inr ⟨x, l, m, rows, as, v, rfl, bk, hn, fun dz H1 S1 g => ⟨_, exT T.cx_UnknownTerm, (fun _ ea hea => ⟨_, rfl, rfl, rfl, dz, _, _, rfl, g, rfl, (show 2 ≤ sizeLine from by decide), fun p hp => q p _ (S1.trans (same_new hp)) upd_same⟩), (fun z => by cases z)⟩⟩⟩
    · refine ⟨_, rfl, rfl, _, rfl, if2 (fun _ => ?_) (fun _ => ?_)⟩
      · exact ⟨_, rfl, x, _, _, rfl, ho, no_look (by decide) (by decide), _, rfl, .inr ⟨x, l, m, rows, as, v, rfl, bk, hn, fun dz H1 S1 g => ⟨_, exT T.cx_UnknownTerm, (fun _ ea hea => ⟨_, rfl, rfl, rfl, dz, _, _, rfl, g, rfl, (show 2 ≤ sizeLine from by decide), fun p hp => q p _ (S1.trans (same_new hp)) upd_same⟩), (fun z => by cases z)⟩⟩⟩
      · exact ⟨_, rfl, x, _, _, rfl, ho, no_look (by decide) (by decide), _, rfl, .inr ⟨x, l, m, rows, as, v, rfl, bk, hn, fun dz H1 S1 g => ⟨_, exT T.cx_UnknownTerm, (fun _ ea hea => ⟨_, rfl, rfl, rfl, dz, _, _, rfl, g, rfl, (show 2 ≤ sizeLine from by decide), fun p hp => q p _ (S1.trans (same_new hp)) upd_same⟩), (fun z => by cases z)⟩⟩⟩
end
end L05
set_option Elab.async false
set_option linter.all false
set_option maxRecDepth 100000
set_option maxHeartbeats 4000000
set_option pp.deepTerms false
set_option pp.deepTerms.threshold 4
set_option pp.maxSteps 1000
namespace L05
open PySem L2 Tp
section
variable {P : Program} {w : World} {K : PySem.W.Frag} {mg : Str → Option Value} {base : Heap} {a : Ad} {d : Fd}
def valF {α : Type} (g : BRow → List α → α) (z : α) (rows : List BRow) : Nat → Nat → α
  | 0, _ => z
  | k + 1, p => match rows[p]? with
    | some r => g r (r.args.map (valF g z rows k))
    | none => z
def FTabG {α : Type} (rows : List BRow) (g : BRow → List α → α) (f : Nat → α) : Prop := ∀ (p : Nat) (r : BRow), rows[p]? = some r → f p = g r (r.args.map f)
theorem valF_up {α : Type} {g : BRow → List α → α} {z : α} {rows : List BRow} (wf : WfR rows) : ∀ (k k' p : Nat), p < k → p < k' → valF g z rows k p = valF g z rows k' p
  | k + 1, k' + 1, p, h, h' => by
    unfold valF
    cases e : rows[p]? with
    | none => rfl
    | some r =>
      show g r (r.args.map (valF g z rows k)) = g r (r.args.map (valF g z rows k'))
      refine congrArg (g r) (List.map_congr_left fun j hj => ?_)
      have := wf p r e j hj
      exact valF_up wf k k' j (by omega) (by omega)
def tabF {α : Type} (g : BRow → List α → α) (z : α) (rows : List BRow) (p : Nat) : α := valF g z rows (p + 1) p
theorem tabF_ok {α : Type} {g : BRow → List α → α} {z : α} {rows : List BRow} (wf : WfR rows) : FTabG rows g (tabF g z rows) := fun p r e => by
  have h : tabF g z rows p = g r (r.args.map (valF g z rows p)) := by
    unfold tabF valF
    rw [e]
  rw [h]
  refine congrArg (g r) (List.map_congr_left fun j hj => ?_)
  have := wf p r e j hj
  exact valF_up wf p (j + 1) j this (by omega)
theorem maxL_nn : ∀ {l : List Int}, (∀ y ∈ l, 0 ≤ y) → 0 ≤ maxL l
  | [], _ => Int.le_refl 0
  | x :: l, h => by
    show 0 ≤ (if l = [] then x else max x (maxL l))
    have h1 := h x List.mem_cons_self
    split
    · exact h1
    · omega
theorem dep_pos {rows : List BRow} {f : Nat → Int} (wf : WfR rows) (ft : FTab rows depthG f) : ∀ (n p : Nat), p < n → p < rows.length → 1 ≤ f p
  | n + 1, p, h, hp => by
    have e := List.getElem?_eq_getElem hp
    rw [ft p _ e]
    show 1 ≤ 1 + maxL _
    have := maxL_nn (l := (rows[p]).args.map f) fun y hy => by
      obtain ⟨j, hj, rfl⟩ := List.mem_map.mp hy
      have lt := wf p _ e j hj
      have := dep_pos wf ft n j (by omega) (by omega)
      omega
    omega
theorem max0 {l : List Int} {m : Int} (pos : ∀ y ∈ l, 1 ≤ y) (hm : m ∈ [0] ++ l) (hy : ∀ y, y ∈ [0] ++ l → y ≤ m) : maxL l = m := by
  cases l with
  | nil => exact (List.mem_singleton.mp hm).symm
  | cons x l =>
    have h1 := hy x (List.mem_append_right _ List.mem_cons_self)
    have h2 := pos x List.mem_cons_self
    rcases List.mem_append.mp hm with e | hm
    · have := List.mem_singleton.mp e
      omega
    · exact maxL_is hm fun y h => hy y (List.mem_append_right _ h)
theorem parts_last (rows : List BRow) (n : Nat) : ∃ l, partsR rows n = l ++ [n] := by
  refine ⟨(List.range n).filter (marks rows n (n + 1)), ?_⟩
  unfold partsR
  rw [List.range_succ, List.filter_append]
  have : marks rows n (n + 1) n = true := (parts_mem.mp (parts_self (rows := rows) (n := n))).2
  rw [List.filter_cons_of_pos this]
  rfl
theorem parts_at {rows : List BRow} {n : Nat} : (partsR rows n)[(partsR rows n).length - 1]? = some n := by
  obtain ⟨l, e⟩ := parts_last rows n
  rw [e]
  simp
theorem atI_m1 {xs : List V} {v : V} (h : xs[xs.length - 1]? = some v) : atI xs (-1) = some v := by
  rcases List.eq_nil_or_concat xs with rfl | ⟨L, b, rfl⟩
  · cases h
  · simp at h
    subst h
    simpa using atI_last L b
theorem at_last {rows : List BRow} {n : Nat} : atI (numsV (partsR rows n)) (-1) = some (.int (n : Nat)) := atI_m1 (by
  rw [numsV_len]
  unfold numsV
  rw [List.getElem?_map, parts_at]
  rfl)
def numD : PyData → Int
  | .int i => i
  | .bool b => if b = true then 1 else 0
  | _ => 0
def oddD : Nat → PyData
  | 0 => .none
  | 1 => .bool false
  | 2 => .int 0
  | 3 => .str ""
  | 4 => .list []
  | _ => .dict []
def valD (nm : Str) (salt : Nat) (ds : List PyData) : PyData :=
  if salt % 3 = 0 then (if 5 < salt ∧ ds.length < 2 then .list ds else .tuple [.str nm, .int (ds.length : Nat), .bool true])
  else if salt % 3 = 1 then oddD ((ds.length + salt) % 6)
  else .int (((ds.filter isI).map numD).sum + (salt : Nat) + 1)
def gV (salt : Str → Nat) (smp : Str → Option (List PyData)) : BRow → List PyData → PyData := fun r l => match r.sec with
  | .inl _ => valD r.nm (salt r.nm) l
  | .inr t => ((smp r.nm).getD []).getD t .none
def callD (rows : List BRow) (vf : Nat → PyData) (p : Nat) : List PyData := match rows[p]? with
  | some r => match r.sec with
    | .inl l => [.tuple [.str r.nm, .list (l.map vf)]]
    | .inr _ => []
  | none => []
def callsD (rows : List BRow) (vf : Nat → PyData) (ps : List Nat) : List PyData := ps.flatMap (callD rows vf)
theorem calls_snoc {rows : List BRow} {vf : Nat → PyData} {ps : List Nat} {p : Nat} : callsD rows vf (ps ++ [p]) = callsD rows vf ps ++ callD rows vf p := by
  unfold callsD
  rw [List.flatMap_append]
  simp
structure FitV (p : Nat) (d : PyData) : Prop where
  fit : FitQ (p + 2) (300 + 8 * p) d
  num : (numD d).natAbs ≤ 4 ^ (p + 2)
theorem FitV.up {p q : Nat} {d : PyData} (h : FitV p d) (l : p ≤ q) : FitV q d := ⟨h.fit.up (by omega) (by omega), Nat.le_trans h.num (Nat.pow_le_pow_right (by decide) (by omega))⟩
theorem odd_fit : ∀ n, FitQ 2 300 (oddD n) ∧ (numD (oddD n)).natAbs = 0 := by
  have h : ∀ n, n < 6 → FitQ 2 300 (oddD n) ∧ (numD (oddD n)).natAbs = 0 := by
    unfold FitQ
    decide +kernel
  intro n
  by_cases l : n < 6
  · exact h n l
  · have e : oddD n = oddD 5 := by
      match n, l with
      | n + 5, _ => rfl
      | 0, l => exact absurd (by decide) l
      | 1, l => exact absurd (by decide) l
      | 2, l => exact absurd (by decide) l
      | 3, l => exact absurd (by decide) l
      | 4, l => exact absurd (by decide) l
    rw [e]
    exact h 5 (by decide)
theorem sum_bound {b : Nat} : ∀ {l : List Int}, (∀ x ∈ l, x.natAbs ≤ b) → l.sum.natAbs ≤ l.length * b
  | [], _ => Nat.zero_le _
  | x :: l, h => by
    have h1 := h x List.mem_cons_self
    have h2 := sum_bound (l := l) fun y hy => h y (List.mem_cons_of_mem _ hy)
    rw [List.sum_cons, List.length_cons, Nat.succ_mul]
    omega
theorem val_fit {nm : Str} {salt p : Nat} {ds : List PyData} (hn : nmB nm = true) (hs : salt < 9) (h : ∀ d ∈ ds, FitV p d) (l3 : ds.length ≤ 3) (p40 : p ≤ 40) : FitV (p + 1) (valD nm salt ds) := by
  have pw : (16 : Nat) ≤ 4 ^ (p + 2) := by
    have := Nat.pow_le_pow_right (n := 4) (by decide) (show 2 ≤ p + 2 by omega)
    exact this
  have pe : (4 : Nat) ^ (p + 1 + 2) = 4 * 4 ^ (p + 2) := by rw [show p + 1 + 2 = (p + 2) + 1 by omega, Nat.pow_succ, Nat.mul_comm]
  have pz : (4 : Nat) ^ (p + 1 + 2) < 10 ^ 40 := Nat.lt_of_le_of_lt (Nat.pow_le_pow_right (by decide) (show p + 1 + 2 ≤ 43 by omega)) (by decide)
  unfold valD
  split
  · split
    · rename_i hl
      refine ⟨(fitq_list (n := p + 2) (w := 300 + 8 * p) fun x hx => (h x hx).fit).up (by omega) ?_, Nat.zero_le _⟩
      have : ds.length * (300 + 8 * p + 2) ≤ 1 * (300 + 8 * p + 2) := Nat.mul_le_mul_right _ (by omega)
      refine Nat.le_trans (Nat.add_le_add_right this 3) ?_
      omega
    · refine ⟨(fitq_tuple (n := 1) (w := 90) fun x hx => ?_).up (by omega) (by simp; omega), Nat.zero_le _⟩
      simp only [List.mem_cons, List.not_mem_nil, or_false] at hx
      rcases hx with rfl | rfl | rfl
      · exact (fitq_str (nm_sm hn)).up (Nat.le_refl _) (by decide)
      · exact (fitq_int (n := 1) (Nat.lt_of_le_of_lt (show ((ds.length : Nat) : Int).natAbs ≤ 3 by omega) (by decide))).up (Nat.le_refl _) (by decide)
      · unfold FitQ
        decide +kernel
  · split
    · obtain ⟨a, b⟩ := odd_fit ((ds.length + salt) % 6)
      exact ⟨a.up (by omega) (by omega), by rw [b]; exact Nat.zero_le _⟩
    · have lf : (ds.filter isI).length ≤ 3 := Nat.le_trans (List.length_filter_le _ _) l3
      have sb := sum_bound (b := 4 ^ (p + 2)) (l := (ds.filter isI).map numD) fun x hx => by
        obtain ⟨d, hd, rfl⟩ := List.mem_map.mp hx
        exact (h d (List.mem_filter.mp hd).1).num
      rw [List.length_map] at sb
      have sb2 : (ds.filter isI).length * 4 ^ (p + 2) ≤ 3 * 4 ^ (p + 2) := Nat.mul_le_mul_right _ lf
      have nb : (((ds.filter isI).map numD).sum + (salt : Nat) + 1).natAbs ≤ 4 ^ (p + 1 + 2) := by
        rw [pe]
        omega
      exact ⟨(fitq_int (n := p + 1 + 2) (Nat.lt_of_le_of_lt nb pz)).up (Nat.le_refl _) (by omega), nb⟩
structure SmpOk (smp : Str → Option (List PyData)) : Prop where
  fit : ∀ nm ds, smp nm = some ds → ∀ d ∈ ds, FitV 0 d
theorem vals_fit {rows : List BRow} {salt : Str → Nat} {smp : Str → Option (List PyData)} {vf : Nat → PyData} (gd : GoodB rows) (ft : FTabG rows (gV salt smp) vf) (hs : ∀ nm, salt nm < 9) (so : SmpOk smp) (l40 : rows.length ≤ 40) : ∀ (n p : Nat), p < n → p < rows.length → FitV p (vf p)
  | n + 1, p, h, hp => by
    have e := List.getElem?_eq_getElem hp
    rw [ft p _ e]
    obtain ⟨g1, g2, g3⟩ := gd.2 p _ e
    unfold gV
    rcases g3 with ⟨l, es, l3, lt⟩ | ⟨t, es, _⟩
    · rw [es]
      have ea : (rows[p]).args = l := by unfold BRow.args; rw [es]
      rw [ea]
      cases p with
      | zero =>
        have : l = [] := by
          cases l with
          | nil => rfl
          | cons j l => exact absurd (lt j List.mem_cons_self) (Nat.not_lt_zero _)
        subst this
        have := val_fit (p := 0) (ds := []) g1 (hs (rows[0]).nm) (fun d hd => by cases hd) (by decide) (by decide)
        show FitV 0 (valD _ _ [])
        unfold valD
        split
        · split
          · exact ⟨(by unfold FitQ; decide +kernel), by decide⟩
          · refine ⟨(fitq_tuple (n := 1) (w := 90) fun x hx => ?_).up (by omega) (by simp), Nat.zero_le _⟩
            simp only [List.mem_cons, List.not_mem_nil, or_false] at hx
            rcases hx with rfl | rfl | rfl
            · exact (fitq_str (nm_sm g1)).up (Nat.le_refl _) (by decide)
            · unfold FitQ
              decide +kernel
            · unfold FitQ
              decide +kernel
        · split
          · obtain ⟨a, b⟩ := odd_fit ((([] : List PyData).length + salt (rows[0]).nm) % 6)
            exact ⟨a.up (by omega) (by omega), by rw [b]; exact Nat.zero_le _⟩
          · have s9 := hs (rows[0]).nm
            have nb : (((([] : List PyData).filter isI).map numD).sum + ((salt (rows[0]).nm : Nat) : Int) + 1).natAbs ≤ 4 ^ (0 + 2) := by
              show (0 + ((salt (rows[0]).nm : Nat) : Int) + 1).natAbs ≤ 16
              omega
            exact ⟨(fitq_int (n := 2) (Nat.lt_of_le_of_lt nb (by decide))).up (Nat.le_refl _) (by omega), nb⟩
      | succ p =>
        refine val_fit g1 (hs _) (fun d hd => ?_) (by rw [List.length_map]; exact l3) (by omega)
        obtain ⟨j, hj, rfl⟩ := List.mem_map.mp hd
        have := lt j hj
        exact (vals_fit gd ft hs so l40 n j (by omega) (by omega)).up (by omega)
    · rw [es]
      show FitV p (((smp (rows[p]).nm).getD []).getD t .none)
      have hn : FitV 0 PyData.none := ⟨by unfold FitQ; decide +kernel, by decide⟩
      cases e1 : smp (rows[p]).nm with
      | none => exact hn.up (Nat.zero_le _)
      | some ds =>
        show FitV p (ds.getD t .none)
        rw [List.getD_eq_getElem?_getD]
        cases e2 : ds[t]? with
        | none => exact hn.up (Nat.zero_le _)
        | some d => exact (so.fit _ ds e1 d (List.mem_of_getElem? e2)).up (Nat.zero_le _)
inductive Due
  | sym (nm : Str)
  | smp (nm : Str) (t : Nat)
def dueR (fn : Str → Bool) (sm : Str → Option (List PyData)) (r : BRow) : Option Due := match r.sec with
  | .inl _ => if fn r.nm = true then none else some (.sym r.nm)
  | .inr t => match sm r.nm with
    | some ds => if t < ds.length then none else some (.smp r.nm t)
    | none => some (.smp r.nm t)
def dueP (fn : Str → Bool) (sm : Str → Option (List PyData)) (rows : List BRow) (p : Nat) : Option Due := rows[p]?.bind (dueR fn sm)
def firstDue (fn : Str → Bool) (sm : Str → Option (List PyData)) (rows : List BRow) (n : Nat) : Option Due := (partsR rows n).findSome? (dueP fn sm rows)
theorem findSome_at {α β : Type} {f : α → Option β} : ∀ {l : List α} {i : Nat} {x : α} {d : β}, l[i]? = some x → (∀ y ∈ l.take i, f y = none) → f x = some d → l.findSome? f = some d
  | y :: l, 0, x, d, hx, _, hd => by
    cases hx
    rw [List.findSome?_cons, hd]
  | y :: l, i + 1, x, d, hx, hb, hd => by
    rw [List.findSome?_cons, hb y (by rw [List.take_succ_cons]; exact List.mem_cons_self)]
    exact findSome_at hx (fun z hz => hb z (by rw [List.take_succ_cons]; exact List.mem_cons_of_mem _ hz)) hd
end
end L05
set_option Elab.async false
set_option linter.all false
set_option maxRecDepth 100000
set_option maxHeartbeats 4000000
set_option pp.deepTerms false
set_option pp.deepTerms.threshold 4
set_option pp.maxSteps 1000
namespace L05
open PySem L2 Tp
section
variable {P : Program} {w : World} {K : PySem.W.Frag} {mg : Str → Option Value} {base : Heap} {a : Ad} {d : Fd}
def spMeasured (K : PySem.W.Frag) : Sp := fun vs H Q _ => ∃ (q pl : Addr) (rows : List BRow) (as : List Addr) (n : Nat) (fS fD : Nat → Int), vs = [.ref q, .ref pl] ∧ H q = some (.lst (as.map V.ref)) ∧ Paired (RowAt K H) rows as ∧ H pl = some (.lst (numsV (partsR rows n))) ∧ GoodB rows ∧ n < rows.length ∧ rows.length ≤ 1330 ∧ FTab rows sizeG fS ∧ FTab rows depthG fD ∧
  ∀ p H', Same H H' → H' p = some (.lst [.int (fS n), .int (fD n)]) → Q (.ref p) H'
theorem ok_measured (T : Txt K mg a d) : FnG P w K mg base CX0 1 a.measured d.measured ["_law_rows_here", "_law_parts_here"] (spMeasured K) := by
  refine okG T.F_measured scMeasured (fun vs H Q E h => ?_) (fun cdv A outer s H vs Q E hr hg h => ?_)
  · obtain ⟨q, pl, rows, as, n, fS, fD, rfl, _⟩ := h
    rfl
  · obtain ⟨q, pl, rows, as, n, fS, fD, rfl, gq, pr, gp, good, hn, few, ftS, ftD, Z⟩ := h
    have S0 := Same.refl H
    refine ⟨_, (pss_cons (ps_asg (pe_tup (pa_cons pe_dnewK (pa_cons pe_dnewK pa_nil))) (pg_tup (by rfl) (pgs_cons (pg_name (i := 2) scMeasured.nd rfl (Or.inr rfl)) (pgs_cons (pg_name (i := 3) scMeasured.nd rfl (Or.inr rfl)) pgs_nil))))
      (pss_cons (ps_for PassesOwn.never rfl (pi_list (pv 1)) (pg_name (i := 4) scMeasured.nd rfl (Or.inl rfl)) (Evl.pss_cut (ps_set (i := 5) scMeasured.nd rfl (Or.inl rfl) (pe_ifExp (pt_val (pe_callB call_isi (by rfl) T.isinstance_ Tp.bt_isinstance (pa_cons (pe_ix ix_tup (pe_ix ix_list (pv 0) (pv 4) (fun _ _ => rfl)) pe_int (fun _ _ => rfl)) (pa_cons (pe_bltn (v := .ty "tuple") (by rfl) T.tuple_ Tp.bt_tuple rfl) pa_nil)))) (pe_ix ix_tup (pe_ix ix_list (pv 0) (pv 4) (fun _ _ => rfl)) pe_int (fun _ _ => rfl)) (pe_tup pa_nil)))
      (pss_cons (ps_dput (Tp.hu1 hr) (pv 2) (pv 4) (pe_op op_add pe_int (pe_callB (cr_sum rfl) (by rfl) T.sum_ Tp.bt_sum (pa_cons (pe_lc (own := [("_law_one", 6)]) (by rfl) scMeasured.nd (pi_tup (pv 5)) (blkOk_by (own := [("_law_one", 6)]) (N := scMeasured_N) (sc := defScope scMeasured_st) (by decide +kernel)) (fun _ _ _ _ _ => (pg_name (i := 6) scMeasured.nd rfl (Or.inl rfl))) (fun _ _ _ _ _ => pts_nil) (fun _ _ _ _ _ => (pe_dget (Tp.hu1 hr) (pv 2) (pv 6) (fun _ _ => rfl)))) pa_nil))) rfl)
      (pss_one (ps_dput (Tp.hu1 hr) (pv 3) (pv 4) (pe_op op_add pe_int (pe_callB (cr_max rfl) (by rfl) T.max_ Tp.bt_max (pa_cons (pe_op op_cat (pe_lst (pa_cons pe_int pa_nil)) (pe_lc (own := [("_law_one", 6)]) (by rfl) scMeasured.nd (pi_tup (pv 5)) (blkOk_by (own := [("_law_one", 6)]) (N := scMeasured_N) (sc := defScope scMeasured_st) (by decide +kernel)) (fun _ _ _ _ _ => (pg_name (i := 6) scMeasured.nd rfl (Or.inl rfl))) (fun _ _ _ _ _ => pts_nil) (fun _ _ _ _ _ => (pe_dget (Tp.hu1 hr) (pv 3) (pv 6) (fun _ _ => rfl))))) pa_nil))) rfl)))))
      (pss_one (ps_ret (pe_lst (pa_cons (pe_dget (Tp.hu1 hr) (pv 2) (pe_ix ix_list (pv 1) (pe_un un_neg pe_int) (fun _ _ => rfl)) (fun _ _ => rfl)) (pa_cons (pe_dget (Tp.hu1 hr) (pv 3) (pe_ix ix_list (pv 1) (pe_un un_neg pe_int) (fun _ _ => rfl)) (fun _ _ => rfl)) pa_nil))))))), ?_⟩
    refine fun d1 hd1 => fun d2 hd2 => ⟨(show 2 ≤ sizeLine from by decide), fun t ht => ?_⟩
    have n12 : d1 ≠ d2 := fun e => by rw [← e, upd_same] at hd2; cases hd2
    have g1 : (upd H d1 (.dK [])) d1 = some (.dK []) := upd_same
    have S1 : Same H (upd H d1 (.dK [])) := same_new hd1
    have S2 : Same (upd H d1 (.dK [])) (upd (upd H d1 (.dK [])) d2 (.dK [])) := same_new hd2
    have g2 : (upd (upd H d1 (.dK [])) d2 (.dK [])) d2 = some (.dK []) := upd_same
    have S3 : Same (upd (upd H d1 (.dK [])) d2 (.dK [])) (upd (upd (upd H d1 (.dK [])) d2 (.dK [])) t (.tup [.ref d1, .ref d2])) := same_new ht
    have gt : (upd (upd (upd H d1 (.dK [])) d2 (.dK [])) t (.tup [.ref d1, .ref d2])) t = some (.tup [.ref d1, .ref d2]) := upd_same
    have k0 : ∀ b o, b ≠ d1 → b ≠ d2 → H b = some o → (upd (upd (upd H d1 (.dK [])) d2 (.dK [])) t (.tup [.ref d1, .ref d2])) b = some o := fun b o _ _ h => S3 _ _ (S2 _ _ (S1 _ _ h))
    have gd1 := S3 _ _ (S2 _ _ g1)
    have gd2 := S3 _ _ g2
    generalize upd (upd (upd H d1 (.dK [])) d2 (.dK [])) t (.tup [.ref d1, .ref d2]) = H0 at gt k0 gd1 gd2 ⊢
    refine ⟨t, _, rfl, SqT.of gt, rfl, _, _, rfl, _, _, rfl, rfl, ?_⟩
    have fr : ∀ {H' : Hp}, (∀ b o, b ≠ d1 → b ≠ d2 → H b = some o → H' b = some o) → Same H H' := fun k b o h => k b o (ne_of_none h hd1) (fun e => by
      rw [e] at h
      rw [S1 _ _ h] at hd2
      cases hd2) h
    have gp0 := fr k0 _ _ gp
    refine ⟨_, rfl, pl, rfl, ⟨_, SqL.of gp0⟩, for_it (walk_list (xs := numsV (partsR rows n))) (fun i σ H' => H' d1 = some (.dK (tabK (fun p => .int (fS p)) ((partsR rows n).take i))) ∧ H' d2 = some (.dK (tabK (fun p => .int (fD p)) ((partsR rows n).take i))) ∧ (∀ b o, b ≠ d1 → b ≠ d2 → H b = some o → H' b = some o) ∧ ∃ v4 v5, σ = [some (.ref q), some (.ref pl), some (.ref d1), some (.ref d2), v4, v5, none]) ⟨gd1, gd2, k0, _, _, rfl⟩ ?_ ?_ ?_⟩
    · rintro i σ H' _ ⟨_, _, k, _⟩
      exact SqL.of (fr k _ _ gp)
    · rintro i v σ _ H3 hi ⟨g1, g2, k, v4, v5, rfl⟩ ⟨rfl, hv⟩
      unfold numsV at hv
      rw [List.getElem?_map] at hv
      obtain ⟨p, hp, rfl⟩ := Option.map_eq_some_iff.mp hv
      have hpn := (parts_mem.mp (List.mem_of_getElem? hp)).1
      have hpr : p < rows.length := by omega
      have er : rows[p]? = some rows[p] := List.getElem?_eq_getElem hpr
      have S3 := fr k
      obtain ⟨pa, hpa, rp⟩ := Tp.paired_get (paired_imp (fun _ _ h => h.same S3) pr) er
      have a3 : (rows[p]).args.length ≤ 3 := good.few _ (List.getElem_mem hpr)
      have gq3 := S3 _ _ gq
      have hat : atI (as.map V.ref) ((p : Nat) : Int) = some (.ref pa) := atI_nat (by rw [List.getElem?_map, hpa]; rfl)
      have sqI : ∀ {H' : Hp} {b : Addr}, SqT K H' b (numsV (rows[p]).args) → True := fun _ => trivial
      refine ⟨fun σ H4 => ∃ b, Same H3 H4 ∧ SqT K H4 b (numsV (rows[p]).args) ∧ σ = [some (.ref q), some (.ref pl), some (.ref d1), some (.ref d2), some (.int ((p : Nat) : Int)), some (.ref b), none], ?_, ?_⟩
      · rcases rp.inv with ⟨l, b, e, h1, h2⟩ | ⟨tt, e, h1⟩
        · have ea : (rows[p]).args = l := by unfold BRow.args; rw [e]
          rw [ea]
          exact ⟨_, rfl, _, rfl, q, _, _, _, rfl, rfl, SqL.of gq3, hat, pa, _, 1, _, rfl, rfl, h1, rfl, _, _, _, _, true, rfl, .ty _, ty_sqT h2, kit_ty (by decide +kernel), _, rfl, iteT ⟨_, rfl, _, rfl, q, _, _, _, rfl, rfl, SqL.of gq3, hat, pa, _, 1, _, rfl, rfl, h1, rfl, b, Same.refl _, h2, rfl⟩⟩
        · have ea : (rows[p]).args = [] := by unfold BRow.args; rw [e]
          rw [ea]
          refine ⟨_, rfl, _, rfl, q, _, _, _, rfl, rfl, SqL.of gq3, hat, pa, _, 1, _, rfl, rfl, h1, rfl, _, _, _, _, false, rfl, .ty _, .base (.int _), kit_ty (by decide +kernel), _, rfl, iteF ?_⟩
          refine ⟨(show 0 ≤ sizeLine from by decide), fun t ht => ⟨t, same_new ht, SqT.of upd_same, rfl⟩⟩
      · rintro σ H4 ⟨b, S4, sq, rfl⟩
        have gd1' := S4 _ _ g1
        have gd2' := S4 _ _ g2
        have mc : ∀ c ∈ (rows[p]).args, c ∈ (partsR rows n).take i := fun c hc => parts_before good.wf hp (by rw [args_at er]; exact hc)
        refine ⟨_, rfl, b, rfl, ⟨_, sq⟩, fun D hD => lc_it (walk_tup (xs := numsV (rows[p]).args)) (fun j H' => Same H4 H' ∧ H' D = some (.lst ((((rows[p]).args.take j).map fS).map V.int))) ⟨same_new hD, upd_same⟩ ?_ ?_ ?_⟩
        · rintro j H' _ ⟨S, _⟩
          exact sqT_same S sq
        · rintro j u _ H' hj ⟨S, hD'⟩ ⟨rfl, hu⟩
          unfold numsV at hu
          rw [List.getElem?_map] at hu
          obtain ⟨c, hc, rfl⟩ := Option.map_eq_some_iff.mp hu
          have mc := mc c (List.mem_of_getElem? hc)
          have hj3 : j < 3 := by rw [numsV_len] at hj; omega
          refine ⟨rfl, _, rfl, _, rfl, d1, .int (fS c), rfl, .inl ⟨_, Sum.inl ((c : Nat) : Int), .inl (S _ _ gd1'), rfl, by rw [tab_val, if_pos mc]⟩, _, hD', ?_, Tp.Same.mut S hD, ?_⟩
          · rw [List.length_map, List.length_map, List.length_take]
            exact Nat.lt_of_le_of_lt (show _ ≤ 3 by omega) (by decide)
          · rw [upd_same, take_succ hc, List.map_append, List.map_append]
            rfl
        · rintro H5 ⟨S5, hD'⟩
          rw [numsV_len, List.take_length] at hD'
          have lpn := parts_len rows n
          have dp1 : ∃ H6, DPut H5 d1 (.int ((p : Nat) : Int)) (.int (1 + ((rows[p]).args.map fS).sum)) H6 ∧ H6 d1 = some (.dK (tabK (fun p => .int (fS p)) ((partsR rows n).take (i + 1)))) ∧ (∀ b o, b ≠ d1 → H4 b = some o → H6 b = some o) := by
            refine ⟨_, .inl ⟨_, Sum.inl ((p : Nat) : Int), S5 _ _ gd1', rfl, ?_, rfl⟩, ?_, fun b o nb h => by rw [upd_ne nb]; exact S5 _ _ h⟩
            · unfold tabK
              rw [List.length_map, List.length_take]
              exact Nat.lt_of_le_of_lt (show _ ≤ 100001 by omega) (by decide)
            · have ef : V.int (1 + ((rows[p]).args.map fS).sum) = V.int (fS p) := by rw [ftS p _ er]; rfl
              rw [upd_same, ef, tab_put (f := fun p => .int (fS p)) (take_new (parts_nodup rows n) hp), ← take_succ hp]
          obtain ⟨H6, dp1, gd16, k6⟩ := dp1
          refine ⟨D, _, rfl, SqL.of hD', _, _, rfl, rfl, _, rfl, _, rfl, d1, H6, rfl, dp1, ?_⟩
          have gd26 := k6 _ _ (Ne.symm n12) gd2'
          have sq6 : SqT K H6 b (numsV (rows[p]).args) := by
            have ne : ∀ o, H4 d1 = some o → o ≠ .tup (numsV (rows[p]).args) := fun o h => by rw [gd1'] at h; cases h; exact fun z => by cases z
            rcases sq with (h | ⟨o, h⟩) | h
            · exact .inl (.inl (k6 _ _ (fun z => by rw [z, gd1'] at h; cases h) h))
            · exact .inl (.inr ⟨o, k6 _ _ (fun z => by rw [z, gd1'] at h; cases h) h⟩)
            · exact .inr h
          have pos : ∀ y ∈ (rows[p]).args.map fD, 1 ≤ y := fun y hy => by
            obtain ⟨j, hj, rfl⟩ := List.mem_map.mp hy
            have lt := good.wf p _ er j hj
            exact dep_pos good.wf ftD (j + 1) j (by omega) (by omega)
          refine ⟨(show 1 ≤ sizeLine from by decide), fun l0 hl0 => ?_⟩
          have S7 : Same H6 (upd H6 l0 (.lst [.int 0])) := same_new hl0
          have g70 : (upd H6 l0 (.lst [.int 0])) l0 = some (.lst [.int 0]) := upd_same
          generalize upd H6 l0 (.lst [.int 0]) = H7 at S7 g70 ⊢
          refine ⟨_, rfl, b, rfl, ⟨_, sqT_same S7 sq6⟩, fun D2 hD2 => lc_it (walk_tup (xs := numsV (rows[p]).args)) (fun j H' => Same H7 H' ∧ H' D2 = some (.lst ((((rows[p]).args.take j).map fD).map V.int))) ⟨same_new hD2, upd_same⟩ ?_ ?_ ?_⟩
          · rintro j H' _ ⟨S, _⟩
            exact sqT_same (S7.trans S) sq6
          · rintro j u _ H' hj ⟨S, hD'⟩ ⟨rfl, hu⟩
            unfold numsV at hu
            rw [List.getElem?_map] at hu
            obtain ⟨c, hc, rfl⟩ := Option.map_eq_some_iff.mp hu
            have mc := mc c (List.mem_of_getElem? hc)
            have hj3 : j < 3 := by rw [numsV_len] at hj; omega
            refine ⟨rfl, _, rfl, _, rfl, d2, .int (fD c), rfl, .inl ⟨_, Sum.inl ((c : Nat) : Int), .inl (S _ _ (S7 _ _ gd26)), rfl, by rw [tab_val, if_pos mc]⟩, _, hD', ?_, Tp.Same.mut S hD2, ?_⟩
            · rw [List.length_map, List.length_map, List.length_take]
              exact Nat.lt_of_le_of_lt (show _ ≤ 3 by omega) (by decide)
            · rw [upd_same, take_succ hc, List.map_append, List.map_append]
              rfl
          · rintro H8 ⟨S8, hD2'⟩
            rw [numsV_len, List.take_length] at hD2'
            refine ⟨l0, D2, _, _, rfl, rfl, S8 _ _ g70, hD2', ?_, fun l1 hl1 => ?_⟩
            · rw [List.length_map, List.length_map]
              exact Nat.le_trans (show 1 + (rows[p]).args.length ≤ 4 by omega) (by decide)
            have S9 : Same H8 (upd H8 l1 (.lst ([V.int 0] ++ ((rows[p]).args.map fD).map V.int))) := same_new hl1
            have g9 : (upd H8 l1 (.lst ([V.int 0] ++ ((rows[p]).args.map fD).map V.int))) l1 = some (.lst (([0] ++ (rows[p]).args.map fD).map V.int)) := upd_same
            generalize upd H8 l1 (.lst ([V.int 0] ++ ((rows[p]).args.map fD).map V.int)) = H9 at S9 g9 ⊢
            refine ⟨l1, _, rfl, SqL.of g9, (by simp), fun mm hm hy => ?_⟩
            have em := max0 pos hm hy
            have S79 := (S7.trans S8).trans S9
            have dp2 : ∃ H10, DPut H9 d2 (.int ((p : Nat) : Int)) (.int (1 + mm)) H10 ∧ H10 d2 = some (.dK (tabK (fun p => .int (fD p)) ((partsR rows n).take (i + 1)))) ∧ (∀ b o, b ≠ d2 → H6 b = some o → H10 b = some o) := by
              refine ⟨_, .inl ⟨_, Sum.inl ((p : Nat) : Int), S79 _ _ gd26, rfl, ?_, rfl⟩, ?_, fun b o nb h => by rw [upd_ne nb]; exact S79 _ _ h⟩
              · unfold tabK
                rw [List.length_map, List.length_take]
                exact Nat.lt_of_le_of_lt (show _ ≤ 100001 by omega) (by decide)
              · have ef : V.int (1 + mm) = V.int (fD p) := by rw [ftD p _ er, ← em]; rfl
                rw [upd_same, ef, tab_put (f := fun p => .int (fD p)) (take_new (parts_nodup rows n) hp), ← take_succ hp]
            obtain ⟨H10, dp2, gd210, k10⟩ := dp2
            exact ⟨_, _, rfl, rfl, _, rfl, _, rfl, d2, H10, rfl, dp2, k10 _ _ n12 gd16, gd210, fun b o nb1 nb2 h => k10 _ _ nb2 (k6 _ _ nb1 (S4 _ _ (k _ _ nb1 nb2 h))), _, _, rfl⟩
    · rintro σ H3 ⟨g1, g2, k, v4, v5, rfl⟩
      rw [numsV_len, List.take_length] at g1 g2
      have gp3 := fr k _ _ gp
      refine ⟨_, rfl, _, rfl, _, rfl, pl, _, -1, _, rfl, rfl, SqL.of gp3, at_last, d1, .int (fS n), rfl, .inl ⟨_, Sum.inl ((n : Nat) : Int), .inl g1, rfl, by rw [tab_val, if_pos parts_self]⟩, ?_⟩
      refine ⟨_, rfl, _, rfl, _, rfl, pl, _, -1, _, rfl, rfl, SqL.of gp3, at_last, d2, .int (fD n), rfl, .inl ⟨_, Sum.inl ((n : Nat) : Int), .inl g2, rfl, by rw [tab_val, if_pos parts_self]⟩, ?_⟩
      exact ⟨(show 2 ≤ sizeLine from by decide), fun r hr' => Z r _ ((fr k).trans (same_new hr')) upd_same⟩
end
end L05
set_option Elab.async false
set_option linter.all false
set_option maxRecDepth 100000
set_option maxHeartbeats 4000000
set_option pp.deepTerms false
set_option pp.deepTerms.threshold 4
set_option pp.maxSteps 1000
namespace L05
open PySem L2 Tp
section
variable {P : Program} {w : World} {K : PySem.W.Frag} {mg : Str → Option Value} {base : Heap} {a : Ad} {d : Fd}
def offM (M : List Addr) (H : Hp) : Hp := fun z => if z ∈ M then none else H z
theorem offM_get {M : List Addr} {z : Addr} {H : Hp} {o : HO} (n : z ∉ M) (h : H z = some o) : offM M H z = some o := by
  unfold offM
  rw [if_neg n]
  exact h
theorem offM_to {M : List Addr} {H : Hp} : Same (offM M H) H := fun z o h => by
  unfold offM at h
  split at h
  · cases h
  · exact h
theorem offM_nin {M : List Addr} {z : Addr} {H : Hp} {o : HO} (h : offM M H z = some o) : z ∉ M := fun m => by
  unfold offM at h
  rw [if_pos m] at h
  cases h
theorem offM_of {M : List Addr} {H H' : Hp} (S : Same H H') : Same (offM M H) (offM M H') := fun z o h => offM_get (offM_nin h) (S _ _ (offM_to _ _ h))
theorem offM_kp {M : List Addr} {L : Addr} {H H' : Hp} (m : L ∈ M) (k : Kp L H H') : Same (offM M H) (offM M H') := fun z o h => offM_get (offM_nin h) (k _ _ (fun e => offM_nin h (by rw [e]; exact m)) (offM_to _ _ h))
theorem offM_less {M M' : List Addr} {H : Hp} (k : ∀ z ∈ M, z ∈ M' ∨ H z = none) : Same (offM M' H) (offM M H) := fun z o h => offM_get (fun m => (k z m).elim (offM_nin h) fun e => by
  have := offM_to _ _ h
  rw [e] at this
  cases this) (offM_to _ _ h)
theorem offM_upd {M : List Addr} {z : Addr} {H : Hp} {o : HO} (m : z ∈ M) : Same (offM M H) (offM M (upd H z o)) := fun y u h => offM_get (offM_nin h) (by
  rw [upd_ne fun e => offM_nin h (by rw [e]; exact m)]
  exact offM_to _ _ h)
def MutM (M : List Addr) (H : Hp) : Prop := ∀ z ∈ M, (∃ xs, H z = some (.lst xs)) ∨ ∃ kvs, H z = some (.dK kvs)
theorem MutM.new {M : List Addr} {H : Hp} {z : Addr} (h : MutM M H) (n : H z = none) : z ∉ M := fun m => by
  rcases h z m with ⟨xs, e⟩ | ⟨kvs, e⟩ <;> (rw [n] at e; cases e)
theorem MutM.same {M : List Addr} {H H' : Hp} (h : MutM M H) (S : Same H H') : MutM M H' := fun z m => (h z m).imp (fun ⟨xs, e⟩ => ⟨xs, S _ _ e⟩) fun ⟨kvs, e⟩ => ⟨kvs, S _ _ e⟩
theorem MutM.kp {M : List Addr} {L : Addr} {xs : List V} {H H' : Hp} (h : MutM M H) (k : Kp L H H') (g : H' L = some (.lst xs)) : MutM M H' := fun z m => by
  by_cases e : z = L
  · rw [e]
    exact .inl ⟨xs, g⟩
  · exact (h z m).imp (fun ⟨xs, h⟩ => ⟨xs, k _ _ e h⟩) fun ⟨kvs, h⟩ => ⟨kvs, k _ _ e h⟩
theorem dq_rdN {K : PySem.W.Frag} {H H' : Hp} (S : ∀ a o, (∀ φ, o ≠ .ext φ) → (∀ ob u, o ≠ .frz ob u) → Rd H a o → Rd H' a o) : (∀ {v : V} {d : PyData}, Dq K H v d → Dq K H' v d) ∧ (∀ {vs : List V} {ds : List PyData}, DqAll K H vs ds → DqAll K H' vs ds) := by
  constructor
  · intro v d h
    exact Dq.rec (motive_1 := fun v d _ => Dq K H' v d) (motive_2 := fun vs ds _ => DqAll K H' vs ds) .non .bl .int .str (fun s _ ih => .lst (s.imp (S _ _ (fun _ z => by cases z) fun _ _ z => by cases z) id) ih) (fun s _ ih => .tup (s.imp (S _ _ (fun _ z => by cases z) fun _ _ z => by cases z) id) ih) (fun r _ _ i1 i2 => .dic (S _ _ (fun _ z => by cases z) (fun _ _ z => by cases z) r) i1 i2) .nil (fun _ _ a b => .cons a b) h
  · intro vs ds h
    exact DqAll.rec (motive_1 := fun v d _ => Dq K H' v d) (motive_2 := fun vs ds _ => DqAll K H' vs ds) .non .bl .int .str (fun s _ ih => .lst (s.imp (S _ _ (fun _ z => by cases z) fun _ _ z => by cases z) id) ih) (fun s _ ih => .tup (s.imp (S _ _ (fun _ z => by cases z) fun _ _ z => by cases z) id) ih) (fun r _ _ i1 i2 => .dic (S _ _ (fun _ z => by cases z) (fun _ _ z => by cases z) r) i1 i2) .nil (fun _ _ a b => .cons a b) h
structure CallIs (K : PySem.W.Frag) (M : List Addr) (L : Addr) (H H' : Hp) (cs : List V) (nm : Str) (salt : Nat) (ds : List PyData) (v t : V) : Prop where
  kp : Kp L H H'
  calls : H' L = some (.lst (cs ++ [t]))
  note : Dq K (offM M H') t (.tuple [.str nm, .list ds])
  val : Dq K (offM M H') v (valD nm salt ds)
theorem num_dq {H : Hp} {v : V} {d : PyData} (h : Dq K H v d) : isNumBV v = isI d ∧ (isI d = true → numBV v = numD d) := by
  cases h with
  | int i => exact ⟨rfl, fun _ => rfl⟩
  | bl b => exact ⟨rfl, fun _ => rfl⟩
  | _ => exact ⟨rfl, fun h => by cases h⟩
theorem nums_dq {H : Hp} : ∀ {vs : List V} {ds : List PyData}, DqAll K H vs ds → (vs.filter isNumBV).map numBV = (ds.filter isI).map numD
  | _, _, .nil => rfl
  | v :: vs, d :: ds, .cons h t => by
    obtain ⟨e1, e2⟩ := num_dq h
    rw [List.filter_cons, List.filter_cons, e1]
    cases hb : isI d with
    | true => rw [if_pos rfl, if_pos rfl, List.map_cons, List.map_cons, e2 hb, nums_dq t]
    | false => rw [if_neg (by decide), if_neg (by decide), nums_dq t]
theorem odd_at {H : Hp} {e1 e2 : Addr} (h1 : H e1 = some (.lst [])) (h2 : H e2 = some (.dK [])) : ∀ i, i < 6 → ∃ v, ([V.non, .bl false, .int 0, .str "", .ref e1, .ref e2] : List V)[i]? = some v ∧ Dq K H v (oddD i)
  | 0, _ => ⟨_, rfl, .non⟩
  | 1, _ => ⟨_, rfl, .bl _⟩
  | 2, _ => ⟨_, rfl, .int _⟩
  | 3, _ => ⟨_, rfl, .str _⟩
  | 4, _ => ⟨_, rfl, .lst (SqL.of h1) .nil⟩
  | 5, _ => ⟨_, rfl, .dic (.inl h2) .nil .nil⟩
theorem fmod_nat (n m : Nat) : ((n : Nat) : Int).fmod ((m : Nat) : Int) = ((n % m : Nat) : Int) := by
  rw [Int.fmod_eq_emod_of_nonneg _ (Int.natCast_nonneg m)]
  rfl
theorem cutP {B G : Prop} (els : B) (h : B → G) : G := h els
def spCalled (K : PySem.W.Frag) : List (Option V) → Sp := fun ws vs H Q _ => ∃ (M : List Addr) (L q : Addr) (nm : Str) (salt : Nat) (cs xs : List V) (ds : List PyData), ws = [some (.ref L), some (.str nm), some (.int (salt : Nat))] ∧ vs = [.ref q] ∧ H L = some (.lst cs) ∧ H q = some (.lst xs) ∧ q ∉ M ∧ L ∈ M ∧ MutM M H ∧ cs.length < 1000 ∧ xs.length ≤ 3 ∧ salt < 9 ∧ DqAll K (offM M H) xs ds ∧
  ∀ v t H', CallIs K M L H H' cs nm salt ds v t → Q v H'
abbrev mkCalled (cells : List (Str × Addr)) (c' : Addr) : NdefX.NF := NdefX.NF.of scNCalled_st "_law_called" "_law_function.<locals>._law_called" (cloFrom cells (C8.fnScope scNCalled_st).names []) c'
theorem nok_called (T : Txt K mg a d) (cells : List (Str × Addr)) (f c' : Addr) : NdefX.NOk P w K mg base CX0 1 f (mkCalled cells c') ["_law_items"] scNCalled_fr (spCalled K) :=
  Tp.nok_nox scNCalled (fun doc pm ctv us hl => match us, hl with | [_], _ => rfl) (fun ws vs H Q E h => by obtain ⟨_, _, _, _, _, _, _, _, _, rfl, _⟩ := h; rfl) fun A0 outer s H vs ws Q E hr hf hc hl h => by
    refine ⟨_, (pss_cons (ps_expr (pe_bm PySem.F.plainAttrs_list PySem.F.slot_list_append PySem.F.type_list_append mt_append (pv 1) (pa_cons (pe_tup (pa_cons (pv 2) (pa_cons (pe_callTy call_list_of (by rfl) T.list_ Tp.bt_list (pa_cons (pv 0) pa_nil)) pa_nil))) pa_nil)))
      (pss_cons (ps_set (i := 4) scNCalled.nd rfl (Or.inl rfl) (pe_callB (Tp.call_isA (K := K) rfl) (by rfl) T.isinstance_ Tp.bt_isinstance (pa_cons (pv 0) (pa_cons (pe_bltn (v := .ty "list") (by rfl) T.list_ Tp.bt_list rfl) pa_nil))))
      (pss_cons (ps_if (pt_cmpR op_eq (pe_op op_modN (pv 3) pe_int) pe_int (nomark _)) (pss_one (ps_ret (pe_ifExp (PW.pt (pw_and (pt_cmpR op_gt (pv 3) pe_int (nomark _)) (pw_and1 (pt_cmpR op_lt (pe_callB call_len_seq (by rfl) T.len_ Tp.bt_len (pa_cons (pv 0) pa_nil)) pe_int (nomark _))))) (pv 0) (pe_tup (pa_cons (pv 2) (pa_cons (pe_callB call_len_seq (by rfl) T.len_ Tp.bt_len (pa_cons (pv 0) pa_nil)) (pa_cons (pv 4) pa_nil))))))) pss_nil)
      (pss_cons (ps_if (pt_cmpR op_eq (pe_op op_modN (pv 3) pe_int) pe_int (nomark _)) (pss_one (ps_ret (pe_ifExp (pt_val (pv 4)) (pe_ix ix_list (pe_lst (pa_cons pe_non (pa_cons pe_bl (pa_cons pe_int (pa_cons pe_str (pa_cons (pe_lst pa_nil) (pa_cons pe_dnewK pa_nil))))))) (pe_op op_modN (pe_callTy call_int1 (by rfl) T.int_ Tp.bt_int (pa_cons (pe_op op_add (pe_callB call_len_seq (by rfl) T.len_ Tp.bt_len (pa_cons (pv 0) pa_nil)) (pv 3)) pa_nil)) pe_int) (fun _ _ => rfl)) pe_int))) pss_nil)
      (pss_one (ps_ret (pe_op op_add (pe_op op_add (pe_callB (Tp.cr_sumB (K := K) rfl rfl) (by rfl) T.sum_ Tp.bt_sum (pa_cons (pe_lc (own := [("_law_one", 5)]) (by rfl) scNCalled.nd (pi_list (pv 0)) (blkOk_by (own := [("_law_one", 5)]) (by first | decide +kernel | kernel_rfl | rfl)) (fun _ _ _ _ _ => (pg_name (i := 5) scNCalled.nd rfl (Or.inl rfl))) (fun _ _ _ _ _ => (pts_one (pt_val (pe_callB (Tp.call_isA (K := K) rfl) (by rfl) T.isinstance_ Tp.bt_isinstance (pa_cons (pv 5) (pa_cons (pe_bltn (v := .ty "int") (by rfl) T.int_ Tp.bt_int rfl) pa_nil)))))) (fun _ _ _ _ _ => (pv 5))) pa_nil)) (pv 3)) (pe_callTy call_int1 (by rfl) T.int_ Tp.bt_int (pa_cons (pv 4) pa_nil))))))))), ?_⟩
    obtain ⟨M, L, q, nm, salt, cs, xs, ds, rfl, rfl, gL, gq, nqM, mL, mu, lc, l3, l9, da, k⟩ := h
    have nq : q ≠ L := fun e => nqM (by rw [e]; exact mL)
    have n0 : ∀ {H' : Hp} {z : Addr}, Same H H' → H' z = none → z ≠ L := fun S h e => by rw [e, S _ _ gL] at h; cases h
    refine ⟨_, rfl, .inl ⟨rfl, _, SqL.of gL⟩, _, rfl, _, rfl, q, _, rfl, .inl (SqL.of gq), fun p hp => ?_⟩
    have S1 : Same H (upd H p (.lst xs)) := same_new hp
    have g1 : (upd H p (.lst xs)) p = some (.lst xs) := upd_same
    generalize upd H p (.lst xs) = H1 at S1 g1 ⊢
    refine ⟨(show 2 ≤ sizeLine from by decide), fun t ht => ?_⟩
    have S2 := same_new (o := .tup [V.str nm, V.ref p]) ht
    have g2 : (upd H1 t (.tup [V.str nm, V.ref p])) t = some (.tup [V.str nm, V.ref p]) := upd_same
    generalize upd H1 t (.tup [V.str nm, V.ref p]) = H2 at S2 g2 ⊢
    have npL := n0 (Same.refl H) hp
    have ntL := n0 S1 ht
    have S12 := S1.trans S2
    refine ⟨L, cs, _, rfl, rfl, S12 _ _ gL, Nat.lt_of_lt_of_le lc (by decide), ?_⟩
    have kp : Kp L H (upd H2 L (.lst (cs ++ [.ref t]))) := fun z o n h => by rw [upd_ne n]; exact S12 _ _ h
    have g3L : (upd H2 L (.lst (cs ++ [.ref t]))) L = some (.lst (cs ++ [.ref t])) := upd_same
    have g3p : (upd H2 L (.lst (cs ++ [.ref t]))) p = some (.lst xs) := by rw [upd_ne npL]; exact S2 _ _ g1
    have g3t : (upd H2 L (.lst (cs ++ [.ref t]))) t = some (.tup [.str nm, .ref p]) := by rw [upd_ne ntL]; exact g2
    generalize upd H2 L (.lst (cs ++ [.ref t])) = H3 at kp g3L g3p g3t ⊢
    have gq3 := kp _ _ nq gq
    have da3 := (dq_same (offM_kp mL kp)).2 da
    have mu3 := mu.kp kp g3L
    have note : ∀ {H' : Hp}, Same H3 H' → Dq K (offM M H') (.ref t) (.tuple [.str nm, .list ds]) := fun S =>
      .tup (SqT.of (offM_get (mu.same S1 |>.new ht) (S _ _ g3t))) (.cons (.str nm) (.cons (.lst (SqL.of (offM_get (mu.new hp) (S _ _ g3p))) ((dq_same (offM_of S)).2 da3)) .nil))
    have fin : ∀ {H' : Hp} {v : V}, Same H3 H' → Dq K (offM M H') v (valD nm salt ds) → Q v H' := fun {H' v} S dv => k v (.ref t) H' ⟨fun z o n h => S _ _ (kp z o n h), S _ _ g3L, note S, dv⟩
    have ld : xs.length = ds.length := dqAll_len da
    have nL : ∀ {H' : Hp} {z : Addr}, Same H3 H' → H' z = none → z ∉ M := fun S h => (mu3.same S).new h
    have f3 := fmod_nat salt 3
    refine ⟨_, rfl, _, _, _, _, true, rfl, .ty _, .x (ty_sqL (SqL.of gq3)), kit_ty (by decide +kernel), ?_⟩
    refine ⟨_, rfl, _, _, rfl, rfl, (show (3 : Int) ≠ 0 from by decide), rfl, _, rfl, if2 (fun c0 => ?_) (fun c0 => ?_)⟩
    · have c0 : salt % 3 = 0 := by
        have h : ((salt : Nat) : Int).fmod 3 = 0 := V.int.inj c0
        have f3 : ((salt : Nat) : Int).fmod 3 = ((salt % 3 : Nat) : Int) := f3
        rw [f3] at h
        omega
      have ev : valD nm salt ds = if 5 < salt ∧ ds.length < 2 then .list ds else .tuple [.str nm, .int (ds.length : Nat), .bool true] := by
        unfold valD
        rw [if_pos c0]
      refine cutP (B := ∀ (c : ¬ (5 < salt ∧ ds.length < 2)), _) ?els (fun els => ⟨_, rfl, _, _, rfl, rfl, _, rfl, if2 (fun c1 => ⟨_, rfl, q, _, rfl, .inl (SqL.of gq3), _, _, rfl, rfl, _, rfl, if2 (fun c2 => ?one) (fun c2 => els ?n2)⟩) (fun c1 => iteF (els ?n1))⟩)
      case els =>
        intro nc
        rw [if_neg nc] at ev
        refine ⟨_, rfl, _, rfl, q, _, rfl, .inl (SqL.of gq3), _, rfl, (show 3 ≤ sizeLine from by decide), fun t2 ht2 => ?_⟩
        refine fin (same_new ht2) ?_
        rw [ev, ld]
        exact .tup (SqT.of (offM_get (nL (Same.refl _) ht2) upd_same)) (.cons (.str nm) (.cons (.int _) (.cons (.bl true) .nil)))
      case one =>
        have e1 : 5 < salt ∧ ds.length < 2 := ⟨by omega, by rw [← ld]; omega⟩
        rw [if_pos e1] at ev
        refine ⟨_, rfl, fin (Same.refl _) ?_⟩
        rw [ev]
        exact .lst (SqL.of (offM_get nqM gq3)) da3
      case n2 =>
        rintro ⟨_, h⟩
        rw [← ld] at h
        exact c2 (by omega)
      case n1 =>
        rintro ⟨h, _⟩
        exact c1 (by omega)
    · have c0 : salt % 3 ≠ 0 := fun e => c0 (by
        have f3 : ((salt : Nat) : Int).fmod 3 = ((salt % 3 : Nat) : Int) := f3
        show V.int (((salt : Nat) : Int).fmod 3) = V.int 0
        rw [f3, e]
        rfl)
      refine ⟨_, rfl, _, _, rfl, rfl, (show (3 : Int) ≠ 0 from by decide), rfl, _, rfl, if2 (fun c1 => ?_) (fun c1 => ?_)⟩
      · have c1 : salt % 3 = 1 := by
          have h : ((salt : Nat) : Int).fmod 3 = 1 := V.int.inj c1
          have f3 : ((salt : Nat) : Int).fmod 3 = ((salt % 3 : Nat) : Int) := f3
          rw [f3] at h
          omega
        have ev : valD nm salt ds = oddD ((ds.length + salt) % 6) := by
          unfold valD
          rw [if_neg c0, if_pos c1]
        refine ⟨_, rfl, _, rfl, iteT ?_⟩
        refine ⟨(show 0 ≤ sizeLine from by decide), fun e1 he1 => ?_⟩
        have S4 := same_new (o := .lst []) he1
        have g4 : (upd H3 e1 (.lst [])) e1 = some (.lst []) := upd_same
        generalize upd H3 e1 (.lst []) = H4 at S4 g4 ⊢
        intro e2 he2
        have S5 := same_new (o := .dK []) he2
        have g5 : (upd H4 e2 (.dK [])) e2 = some (.dK []) := upd_same
        generalize upd H4 e2 (.dK []) = H5 at S5 g5 ⊢
        refine ⟨(show 6 ≤ sizeLine from by decide), fun e3 he3 => ?_⟩
        have S6 := same_new (o := .lst [V.non, V.bl false, V.int 0, V.str "", V.ref e1, V.ref e2]) he3
        have g6 : (upd H5 e3 (.lst [V.non, V.bl false, V.int 0, V.str "", V.ref e1, V.ref e2])) e3 = some (.lst [V.non, V.bl false, V.int 0, V.str "", V.ref e1, V.ref e2]) := upd_same
        generalize upd H5 e3 (.lst [V.non, V.bl false, V.int 0, V.str "", V.ref e1, V.ref e2]) = H6 at S6 g6 ⊢
        have S36 := (S4.trans S5).trans S6
        have lt6 : (ds.length + salt) % 6 < 6 := Nat.mod_lt _ (by decide)
        obtain ⟨v, hv, dv⟩ := odd_at (K := K) (H := offM M H6) (offM_get (nL (Same.refl _) he1) (S6 _ _ (S5 _ _ g4))) (offM_get (nL S4 he2) (S6 _ _ g5)) _ lt6
        have f6 : (((xs.length : Nat) : Int) + ((salt : Nat) : Int)).fmod 6 = (((ds.length + salt) % 6 : Nat) : Int) := by
          rw [← ld]
          exact fmod_nat (xs.length + salt) 6
        refine ⟨_, rfl, q, _, rfl, .inl (SqL.of (S36 _ _ gq3)), _, rfl, _, _, rfl, rfl, .inl ⟨_, rfl, _, _, rfl, rfl, (show (6 : Int) ≠ 0 from by decide), e3, _, _, v, rfl, rfl, SqL.of g6, ?_, fin S36 ?_⟩⟩
        · rw [f6]
          exact atI_nat hv
        · rw [ev]
          exact dv
      · have c1 : salt % 3 ≠ 1 := fun e => c1 (by
          have f3 : ((salt : Nat) : Int).fmod 3 = ((salt % 3 : Nat) : Int) := f3
          show V.int (((salt : Nat) : Int).fmod 3) = V.int 1
          rw [f3, e]
          rfl)
        have ev : valD nm salt ds = .int (((ds.filter isI).map numD).sum + (salt : Nat) + 1) := by
          unfold valD
          rw [if_neg c0, if_neg c1]
        refine ⟨_, rfl, q, rfl, ⟨_, SqL.of gq3⟩, fun D hD => lc_it (walk_list (xs := xs)) (fun j H' => Same H3 H' ∧ H' D = some (.lst ((xs.take j).filter isNumBV))) ⟨same_new hD, upd_same⟩ ?_ ?_ ?_⟩
        · rintro j H' _ ⟨S, _⟩
          exact SqL.of (S _ _ gq3)
        · rintro j u _ H' hj ⟨S, gD⟩ ⟨rfl, hu⟩
          obtain ⟨e, he, de⟩ := dqAll_get da3 hu
          have de := (dq_same ((offM_to).trans S)).1 de
          obtain ⟨b1, b2⟩ := num_dq de
          have et : (xs.take (j + 1)).filter isNumBV = (xs.take j).filter isNumBV ++ if isI e = true then [u] else [] := by
            rw [take_succ hu, List.filter_append, List.filter_cons, b1]
            rfl
          refine ⟨rfl, _, rfl, _, _, _, _, isI e, rfl, .ty _, .x (dq_ty de), kit_int e, _, rfl, ?_⟩
          rw [et]
          cases hb : isI e with
          | true =>
            refine ⟨_, rfl, _, gD, ?_, Tp.Same.mut S hD, ?_⟩
            · exact Nat.lt_of_le_of_lt (Nat.le_trans (List.length_filter_le _ _) (by rw [List.length_take]; exact (show _ ≤ 3 by omega))) (by decide)
            · exact upd_same
          | false =>
            refine ⟨S, ?_⟩
            show H' D = some (.lst (_ ++ []))
            rw [List.append_nil]
            exact gD
        · rintro H5 ⟨S5, gD⟩
          rw [List.take_length] at gD
          have nb := nums_dq (H := offM M H3) da3
          refine ⟨D, _, rfl, SqL.of gD, ?_, _, rfl, _, _, rfl, rfl, _, rfl, .inr ⟨true, rfl, _, _, rfl, rfl, fin S5 ?_⟩⟩
          · exact List.all_eq_true.mpr fun x hx => (List.mem_filter.mp hx).2
          · rw [ev, nb]
            exact .int _
structure FnV (P : Program) (w : World) (K : PySem.W.Frag) (mg : Str → Option Value) (base : Heap) (H : Hp) (L : Addr) (nm : Str) (salt : Nat) (v : V) : Prop where
  ex : ∃ (f : Addr) (F : NdefX.NF) (b : FuncBody), v = .ref f ∧ CloAt H f F b scNCalled_fr [.ref L, .str nm, .int (salt : Nat)] ∧ VOk P w K mg base 2 f F b scNCalled_fr (spCalled K)
def KeepF (H H' : Hp) : Prop := ∀ z o, ((∃ φ, o = .ext φ) ∨ ∃ ob φ, o = .frz ob (.ext φ)) → H z = some o → H' z = some o
theorem KeepF.of {H H' : Hp} (S : Same H H') : KeepF H H' := fun z o _ h => S z o h
theorem KeepF.ext {H H' : Hp} (S : LamX.ExtN H H') : KeepF H H' := fun z o n h => S z o h fun ps e => by
  rcases n with ⟨φ, z⟩ | ⟨ob, φ, z⟩ <;> (rw [z] at e; cases e)
theorem KeepF.trans {H H' H'' : Hp} (a : KeepF H H') (b : KeepF H' H'') : KeepF H H'' := fun z o n h => b z o n (a z o n h)
theorem KeepF.kp {b : Addr} {xs : List V} {H H' : Hp} (k : Kp b H H') (h : H b = some (.lst xs)) : KeepF H H' := fun z o n g => k z o (fun e => by
  rw [e, h] at g
  cases g
  rcases n with ⟨φ, z⟩ | ⟨ob, φ, z⟩ <;> cases z) g
theorem KeepF.upd {b : Addr} {kvs : List (Key × V)} {H : Hp} {u : HO} (h : H b = some (.dK kvs)) : KeepF H (upd H b u) := fun z o n g => by
  rw [upd_ne fun e => by
    rw [e, h] at g
    cases g
    rcases n with ⟨φ, z⟩ | ⟨ob, φ, z⟩ <;> cases z]
  exact g
theorem KeepF.off {M : List Addr} {H : Hp} (h : MutM M H) : KeepF H (offM M H) := fun z o n g => offM_get (fun m => by
    rcases h z m with ⟨xs, e⟩ | ⟨kvs, e⟩ <;> (rw [g] at e; cases e; rcases n with ⟨φ, z⟩ | ⟨ob, φ, z⟩ <;> cases z)) g
theorem FnV.keep {H H' : Hp} {L : Addr} {nm : Str} {salt : Nat} {v : V} (h : FnV P w K mg base H L nm salt v) (S : KeepF H H') : FnV P w K mg base H' L nm salt v := by
  obtain ⟨f, F, b, e, x, vo⟩ := h.ex
  refine ⟨f, F, b, e, ⟨S _ _ (.inl ⟨_, rfl⟩) x.fn, S _ _ (.inl ⟨_, rfl⟩) x.code, x.len, x.inj, fun y c e => ?_, fun i y v e1 e2 => ?_⟩, vo⟩
  · obtain ⟨ob, v, h1, h2⟩ := x.all y c e
    exact ⟨ob, v, S _ _ (.inr ⟨_, _, rfl⟩) h1, h2⟩
  · obtain ⟨c, ob, u, h1, h2, h3⟩ := x.has i y v e1 e2
    exact ⟨c, ob, u, h1, S _ _ (.inr ⟨_, _, rfl⟩) h2, h3⟩
theorem FnV.call {H : Hp} {L : Addr} {nm : Str} {salt : Nat} {v : V} (h : FnV P w K mg base H L nm salt v) : ∃ f F b, v = .ref f ∧ H f = some (FnA f F b) ∧ ∀ (H1 : Hp) (M : List Addr) (q : Addr) (cs xs : List V) (ds : List PyData) (W : VK), KeepF H H1 → H1 L = some (.lst cs) → H1 q = some (.lst xs) → q ∉ M → L ∈ M → MutM M H1 → cs.length < 1000 → xs.length ≤ 3 → salt < 9 → DqAll K (offM M H1) xs ds →
    (∀ u t H2, ((∀ c ∈ csF F.cl, H2 c = none) → CallIs K M L H1 (bakC (csF F.cl) H1 H2) cs nm salt ds u t) → W u H2) → ∃ fr ws sp, CloAt H1 f F b fr ws ∧ VOk P w K mg base 2 f F b fr sp ∧ sp (ws.map some) [.ref q] (hidC (csF F.cl) H1) W E0 := by
  obtain ⟨f, F, b, e, x, vo⟩ := h.ex
  refine ⟨f, F, b, e, x.fn, fun H1 M q cs xs ds W S gL gq nq mL mu lc l3 l9 da k => ?_⟩
  have x1 : CloAt H1 f F b scNCalled_fr [.ref L, .str nm, .int (salt : Nat)] := by
    obtain ⟨f', F', b', e', x', _⟩ := (show FnV P w K mg base H1 L nm salt v from FnV.keep h S).ex
    exact ⟨S _ _ (.inl ⟨_, rfl⟩) x.fn, S _ _ (.inl ⟨_, rfl⟩) x.code, x.len, x.inj, (fun y c e => let ⟨ob, v, h1, h2⟩ := x.all y c e; ⟨ob, v, S _ _ (.inr ⟨_, _, rfl⟩) h1, h2⟩), fun i y v e1 e2 => let ⟨c, ob, u, h1, h2, h3⟩ := x.has i y v e1 e2; ⟨c, ob, u, h1, S _ _ (.inr ⟨_, _, rfl⟩) h2, h3⟩⟩
  have hidR : ∀ a o, (∀ φ, o ≠ .ext φ) → (∀ ob u, o ≠ .frz ob u) → Rd (offM M H1) a o → Rd (offM M (hidC (csF F.cl) H1)) a o := fun a o n n2 r => by
    have key : ∀ o', (∀ ob, o' ≠ cellH ob) → offM M H1 a = some o' → offM M (hidC (csF F.cl) H1) a = some o' := fun o' n' g => offM_get (offM_nin g) (x1.out (offM_to _ _ g) n')
    rcases r with g | ⟨o', g⟩
    · exact .inl (key _ (fun ob e => n2 _ _ e) g)
    · exact .inr ⟨o', key _ (fun ob e => by unfold cellH at e; injection e with e1 e2; exact n _ e2) g⟩
  have muh : MutM M (hidC (csF F.cl) H1) := fun z m => (mu z m).imp (fun ⟨xs, e⟩ => ⟨xs, x1.out e fun ob z => by cases z⟩) fun ⟨kvs, e⟩ => ⟨kvs, x1.out e fun ob z => by cases z⟩
  refine ⟨_, _, _, x1, vo, M, L, q, nm, salt, cs, xs, ds, rfl, rfl, x1.out gL (fun ob z => by cases z), x1.out gq (fun ob z => by cases z), nq, mL, muh, lc, l3, l9, (dq_rdN hidR).2 da, fun u t H2 ci => k u t H2 fun nn => ?_⟩
  have nc : ∀ {z : Addr} {o : HO}, H2 z = some o → bakC (csF F.cl) H1 H2 z = some o := fun {z o} g => by
    rw [bak_out (fun m => by rw [nn z m] at g; cases g)]
    exact g
  have sm : Same (offM M H2) (offM M (bakC (csF F.cl) H1 H2)) := fun z o g => offM_get (offM_nin g) (nc (offM_to _ _ g))
  refine ⟨fun z o n g => ?_, nc ci.calls, (dq_same sm).1 ci.note, (dq_same sm).1 ci.val⟩
  by_cases m : z ∈ csF F.cl
  · rw [bak_in m]
    exact g
  · rw [bak_out m]
    exact ci.kp z o n (by rw [hid_out m]; exact g)
theorem called_fr : ∀ y ∈ scNCalled_fr, (y, NameKind.free) ∈ (C8.fnScope scNCalled_st).names ∧ (defScope scFunc_st).names.lookup y = some .cell := by decide +kernel
def spFunc (P : Program) (w : World) (K : PySem.W.Frag) (mg : Str → Option Value) (base : Heap) (a : Ad) : Sp := fun vs H Q _ => ∃ (nm : Str) (L : Addr) (salt : Nat), vs = [.str nm, .ref L, .int (salt : Nat)] ∧ NdefX.TabsN (TT a) H ∧
  ∀ f H', LamX.ExtN H H' → NdefX.TabsN (TT a) H' → FnV P w K mg base H' L nm salt (.ref f) → Q (.ref f) H'
theorem ok_func (T : Txt K mg a d) (TB : LamX.TabB base mg a.cFn a.pFn) : FnG P w K mg base CX0 1 a.func d.func ["_law_name", "_law_calls", "_law_salt"] (spFunc P w K mg base a) := by
  refine okGR T.F_func T.cdFn scFunc (fun vs H Q E h => ?_) (fun A outer s H vs Q E hr hg h => ?_)
  · obtain ⟨nm, L, salt, rfl, _⟩ := h
    rfl
  · obtain ⟨nm, L, salt, rfl, tn, q⟩ := h
    refine ⟨_, (Tp.psr_cons (NdefX.ps_ndefMS (T := TT a) (nm := nmF) (i := 3) rfl TB rfl (List.mem_singleton.mpr rfl) (by rfl) (Tp.tab_one _) (NdefX.ndef_free (fr := scNCalled_fr) (show NdefX.ndefB (defScope scFunc_st) (C8.fnScope scNCalled_st) scNCalled_fr = true from by decide +kernel)) rfl rfl rfl scFunc.nd rfl (Or.inl rfl) (Or.inl rfl))
      (Tp.psr_ret (pv 3))), ?_⟩
    refine ⟨tn, fun f c' H1 X1 _ T1 nf hf hc => ⟨_, rfl, fun H2 S2 C => ?_⟩⟩
    refine q f H2 (fun b o h n => S2 _ _ (X1 _ _ h n)) (T1.ext fun b o h => S2 _ _ h) ⟨f, mkCalled (PyProof.Rows.envOfC (Str.ofString "_law_function") (defScope scFunc_st) s.heap.objs.size a.func (.ref a.cFn)).cells c', _, rfl, ?_, (vok_def (nok_called T _ f c')).mono (by decide)⟩
    refine clo_of (js := [1, 0, 2]) C rfl ?_ called_fr (S2 _ _ hf) (S2 _ _ hc) rfl rfl
    intro y hy e
    exact Option.isSome_iff_exists.mp (PySem.W.cellsFrom_some _ _ _ (.inl ((called_fr y.1 (scNCalled.free y hy e)).2)))
end
end L05
set_option Elab.async false
set_option linter.all false
set_option maxRecDepth 100000
set_option maxHeartbeats 4000000
set_option pp.deepTerms false
set_option pp.deepTerms.threshold 4
set_option pp.maxSteps 1000
namespace L05
open PySem L2 Tp
section
variable {P : Program} {w : World} {K : PySem.W.Frag} {mg : Str → Option Value} {base : Heap} {a : Ad} {d : Fd}
def lkS {α : Type} : List (Str × α) → Str → Option α
  | [], _ => none
  | e :: l, nm => if e.1 = nm then some e.2 else lkS l nm
def EntS {α : Type} (R : Str → α → V → Prop) (e : Str × α) (kv : Key × V) : Prop := kv.1 = .inr e.1 ∧ R e.1 e.2 kv.2
theorem look_pair {α : Type} {R : Str → α → V → Prop} {sm : List (Str × α)} {ss : List (Key × V)} (p : Paired (EntS R) sm ss) (nm : Str) : (lkS sm nm = none ∧ valV ss (.inr nm) = none) ∨ ∃ x v, lkS sm nm = some x ∧ valV ss (.inr nm) = some v ∧ R nm x v := by
  induction p with
  | nil => exact .inl ⟨rfl, rfl⟩
  | cons a t ih =>
    rename_i e kv sm ss
    obtain ⟨h1, h2⟩ := a
    show (lkS (e :: sm) nm = none ∧ _) ∨ _
    unfold lkS
    by_cases c : e.1 = nm
    · rw [if_pos c, valV_pos (h1.trans (by rw [c]))]
      exact .inr ⟨_, _, rfl, rfl, by rw [← c]; exact h2⟩
    · rw [if_neg c, valV_neg (fun z => c (Sum.inr.inj (h1.symm.trans z)))]
      exact ih
structure MeanA (P : Program) (w : World) (K : PySem.W.Frag) (mg : Str → Option Value) (base : Heap) (H : Hp) (L M : Addr) (fl : List (Str × Nat)) : Prop where
  ms : ∃ ms, H M = some (.dK ms) ∧ Paired (EntS fun nm salt v => FnV P w K mg base H L nm salt v) fl ms
  lt : ∀ e ∈ fl, e.2 < 9
def fnB (fl : List (Str × Nat)) (nm : Str) : Bool := (lkS fl nm).isSome
def saltF (fl : List (Str × Nat)) (nm : Str) : Nat := (lkS fl nm).getD 0
theorem lkS_mem {α : Type} {nm : Str} {x : α} : ∀ {l : List (Str × α)}, lkS l nm = some x → (nm, x) ∈ l
  | e :: l, h => by
    unfold lkS at h
    split at h
    · rename_i c
      cases h
      rw [← c]
      exact List.mem_cons_self
    · exact List.mem_cons_of_mem _ (lkS_mem h)
theorem salt_lt {fl : List (Str × Nat)} (h : ∀ e ∈ fl, e.2 < 9) (nm : Str) : saltF fl nm < 9 := by
  unfold saltF
  cases e : lkS fl nm with
  | none => decide
  | some s => exact h _ (lkS_mem e)
theorem MeanA.keep {H H' : Hp} {L M : Addr} {fl : List (Str × Nat)} (h : MeanA P w K mg base H L M fl) (S : Same H H') : MeanA P w K mg base H' L M fl :=
  ⟨let ⟨ms, h1, h2⟩ := h.ms; ⟨ms, S _ _ h1, paired_imp (fun _ _ x => ⟨x.1, x.2.keep (KeepF.of S)⟩) h2⟩, h.lt⟩
def SmpV (K : PySem.W.Frag) (H : Hp) (_ : Str) (ds : List PyData) (v : V) : Prop := ∃ s c xs, v = .ref s ∧ SqB c K H s xs ∧ DqAll K H xs ds
inductive SmpAt (K : PySem.W.Frag) (H : Hp) : V → (Str → Option (List PyData)) → Prop
  | none : SmpAt K H .non (fun _ => none)
  | dict (S : Addr) (ss : List (Key × V)) (sm : List (Str × List PyData)) (h : H S = some (.dK ss)) (p : Paired (EntS (SmpV K H)) sm ss) (l : ss.length ≤ 1000) : SmpAt K H (.ref S) (lkS sm)
theorem SmpV.same {H H' : Hp} {nm : Str} {ds : List PyData} {v : V} (h : SmpV K H nm ds v) (S : Same H H') : SmpV K H' nm ds v := let ⟨s, c, xs, e, h1, h2⟩ := h; ⟨s, c, xs, e, SqB.same S h1, (dq_same S).2 h2⟩
theorem SmpAt.same {H H' : Hp} {v : V} {smp : Str → Option (List PyData)} (h : SmpAt K H v smp) (S : Same H H') : SmpAt K H' v smp := by
  cases h with
  | none => exact .none
  | dict D ss sm h p l => exact .dict D ss sm (S _ _ h) (paired_imp (fun _ _ x => ⟨x.1, x.2.same S⟩) p) l
theorem SmpV.dq {H : Hp} {nm : Str} {ds : List PyData} {v : V} (h : SmpV K H nm ds v) : ∃ c, Dq K H v (if c = true then .tuple ds else .list ds) := by
  obtain ⟨s, c, xs, rfl, h1, h2⟩ := h
  cases c with
  | true => exact ⟨true, .tup h1 h2⟩
  | false => exact ⟨false, .lst h1 h2⟩
theorem smp_es {H : Hp} {sm : List (Str × List PyData)} {ss : List (Key × V)} (p : Paired (EntS (SmpV K H)) sm ss) : ∃ es, DqAll K H (ss.map (·.2)) es ∧ smpB es = true := by
  induction p with
  | nil => exact ⟨[], .nil, rfl⟩
  | cons a t ih =>
    obtain ⟨es, h1, h2⟩ := ih
    obtain ⟨c, h3⟩ := a.2.dq
    refine ⟨_ :: es, .cons h3 h1, ?_⟩
    unfold smpB at h2 ⊢
    rw [List.all_cons, h2]
    cases c <;> rfl
inductive Out
  | term
  | meaning
  | values
  | due (d : Due)
  | val (n : Nat) (vf : Nat → PyData)
inductive Ask (P : Program) (w : World) (K : PySem.W.Frag) (mg : Str → Option Value) (base : Heap) (H : Hp) (L : Addr) (rows : List BRow) (nv mv sv : V) : Out → Prop
  | term (h : NumIs K H rows nv false) : Ask P w K mg base H L rows nv mv sv .term
  | meaning (n : Nat) (e : nv = .int (n : Nat)) (hn : n < rows.length) (d : PyData) (h : Dq K H mv d) (nd : isDc d = false) : Ask P w K mg base H L rows nv mv sv .meaning
  | values (n : Nat) (e : nv = .int (n : Nat)) (hn : n < rows.length) (M : Addr) (ms : List (Key × V)) (em : mv = .ref M) (hM : H M = some (.dK ms)) (h : (∃ d, Dq K H sv d ∧ isDc d = false ∧ sv ≠ .non) ∨ ∃ S kvs ds, sv = .ref S ∧ H S = some (.dK kvs) ∧ DqAll K H (kvs.map (·.2)) ds ∧ kvs.length ≤ 1000 ∧ smpB ds = false) : Ask P w K mg base H L rows nv mv sv .values
  | due (n : Nat) (e : nv = .int (n : Nat)) (hn : n < rows.length) (M : Addr) (fl : List (Str × Nat)) (em : mv = .ref M) (mn : MeanA P w K mg base H L M fl) (smp : Str → Option (List PyData)) (sp : SmpAt K H sv smp) (d : Due) (h : firstDue (fnB fl) smp rows n = some d) : Ask P w K mg base H L rows nv mv sv (.due d)
  | val (n : Nat) (e : nv = .int (n : Nat)) (hn : n < rows.length) (M : Addr) (fl : List (Str × Nat)) (em : mv = .ref M) (mn : MeanA P w K mg base H L M fl) (smp : Str → Option (List PyData)) (sp : SmpAt K H sv smp) (h : firstDue (fnB fl) smp rows n = none) (vf : Nat → PyData) (ft : FTabG rows (gV (saltF fl) smp) vf) : Ask P w K mg base H L rows nv mv sv (.val n vf)
def RzD (E : XK) (a : Ad) (H : Hp) : Due → Prop
  | .sym nm => Rz E a.CUnknownSymbol "name" (.str nm) H
  | .smp nm t => Rz2 E a.CUnknownSample "name" "index" (.str nm) (.int (t : Nat)) H
theorem Rz2.same {E : XK} {X : Addr} {f g : Str} {v u : V} {H H' : Hp} (h : Rz2 E X f g v u H) (S : Same H H') : Rz2 E X f g v u H' := fun dx H2 S2 q => h dx H2 (S.trans S2) q
theorem RzD.same {E : XK} {H H' : Hp} {d : Due} (h : RzD E a H d) (S : Same H H') : RzD E a H' d := by
  cases d with
  | sym nm => exact Rz.same h S
  | smp nm t => exact Rz2.same h S
def DoesE (K : PySem.W.Frag) (a : Ad) (H : Hp) (M : List Addr) (L : Addr) (cs : List V) (rows : List BRow) (nv mv sv : V) (Q : VK) (E : XK) : Out → Prop
  | .term => Rz E a.CUnknownTerm "number" nv H
  | .meaning => Rz E a.CInvalidMeaning "value" mv H
  | .values => Rz E a.CInvalidValues "value" sv H
  | .due d => RzD E a H d
  | .val n vf => ∀ v H' new, Kp L H H' → H' L = some (.lst (cs ++ new)) → DqAll K (offM M H') new (callsD rows vf (partsR rows n)) → Dq K (offM M H') v (vf n) → Q v H'
def spEval (P : Program) (w : World) (K : PySem.W.Frag) (mg : Str → Option Value) (base : Heap) (a : Ad) : Sp := fun vs H Q E => ∃ (M : List Addr) (L x l m : Addr) (rows : List BRow) (as : List Addr) (cs : List V) (nv mv sv : V) (o : Out), vs = [.ref x, nv, mv, sv] ∧ BookAt P w K a.CBook (offM M H) x l m rows as ∧ GoodB rows ∧ rows.length ≤ 40 ∧ L ∈ M ∧ MutM M H ∧ H L = some (.lst cs) ∧ cs.length ≤ 900 ∧
  Ask P w K mg base (offM M H) L rows nv mv sv o ∧ DoesE K a H M L cs rows nv mv sv Q E o
structure GoodQ (P : Program) (w : World) (K : PySem.W.Frag) (mg : Str → Option Value) (base : Heap) (a : Ad) (H : Hp) (M : List Addr) (L : Addr) (cs : List V) (rows : List BRow) (nv mv sv : V) (Q : VK) (E : XK) (n : Nat) (MM : Addr) (fl : List (Str × Nat)) (smp : Str → Option (List PyData)) : Prop where
  e : nv = .int (n : Nat)
  hn : n < rows.length
  em : mv = .ref MM
  mn : MeanA P w K mg base (offM M H) L MM fl
  sp : SmpAt K (offM M H) sv smp
  due : ∀ d, firstDue (fnB fl) smp rows n = some d → RzD E a H d
  val : firstDue (fnB fl) smp rows n = none → ∃ vf, FTabG rows (gV (saltF fl) smp) vf ∧ ∀ v H' new, Kp L H H' → H' L = some (.lst (cs ++ new)) → DqAll K (offM M H') new (callsD rows vf (partsR rows n)) → Dq K (offM M H') v (vf n) → Q v H'
theorem good_q {H : Hp} {M : List Addr} {L : Addr} {cs : List V} {rows : List BRow} {nv mv sv : V} {Q : VK} {E : XK} {o : Out} (h : Ask P w K mg base (offM M H) L rows nv mv sv o) (q : DoesE K a H M L cs rows nv mv sv Q E o) :
    (NumIs K (offM M H) rows nv false ∧ Rz E a.CUnknownTerm "number" nv H) ∨ (∃ (n : Nat) (d : PyData), nv = .int (n : Nat) ∧ n < rows.length ∧ Dq K (offM M H) mv d ∧ isDc d = false ∧ Rz E a.CInvalidMeaning "value" mv H) ∨
    (∃ (n : Nat) (MM : Addr) (ms : List (Key × V)), nv = .int (n : Nat) ∧ n < rows.length ∧ mv = .ref MM ∧ offM M H MM = some (.dK ms) ∧ ((∃ d, Dq K (offM M H) sv d ∧ isDc d = false ∧ sv ≠ .non) ∨ ∃ S kvs ds, sv = .ref S ∧ offM M H S = some (.dK kvs) ∧ DqAll K (offM M H) (kvs.map (·.2)) ds ∧ kvs.length ≤ 1000 ∧ smpB ds = false) ∧ Rz E a.CInvalidValues "value" sv H) ∨
    ∃ n MM fl smp, GoodQ P w K mg base a H M L cs rows nv mv sv Q E n MM fl smp := by
  cases h with
  | term h => exact .inl ⟨h, q⟩
  | meaning n e hn d h nd => exact .inr (.inl ⟨n, d, e, hn, h, nd, q⟩)
  | values n e hn M ms em hM h => exact .inr (.inr (.inl ⟨n, M, ms, e, hn, em, hM, h, q⟩))
  | due n e hn M fl em mn smp sp d h => exact .inr (.inr (.inr ⟨n, M, fl, smp, e, hn, em, mn, sp, (fun d' h' => by rw [h] at h'; cases h'; exact q), fun h' => by rw [h] at h'; cases h'⟩))
  | val n e hn M fl em mn smp sp h vf ft => exact .inr (.inr (.inr ⟨n, M, fl, smp, e, hn, em, mn, sp, (fun d' h' => by rw [h] at h'; cases h'), fun _ => ⟨vf, ft, q⟩⟩))
theorem kbE (T : Txt K mg a d) : ∃ mv : List Value, KBn K d.evaluate ["self", "number", "meaning", "samples"] 3 ["samples"] (fun us ws => us ++ ws) (fun vs zs => vs ++ zs) :=
  kb0 T.F_evaluate 3 ["samples"] [] (fun us _ ws => us ++ ws) (by simp) (by simp) (fun r1 r2 r3 => r1.append r3) fun D doc pm an cdv ct us mv ws hu hm hw => match us, hu, ws, hw with
    | [_, _, _], _, [_], _ => rfl
theorem okXD {k : Nat} {f : Addr} {fd : FuncData} {ps : List Str} {sp : Sp} {x qual : Str} {st : Stmt} {dvs : List V} {kws : List (Str × V)} {N : List Str} (F : FunD K x qual (defArgs st) (defBody st) (defScope st) dvs kws f fd) (S : FnScope N ps (defScope st))
    (ar : ∀ vs H Q E, sp vs H Q E → vs.length = ps.length)
    (bd : ∀ (cdv : Value) (A : Around) (outer : List Env) (s : Shared) (H : Hp) (vs : List V) (Q : VK) (E : XK), Room k (A.deeper (PyProof.Rows.envOfC qual (defScope st) s.heap.objs.size f cdv)) → sp vs H Q E →
      Takes (cxOf (L2.CX P w) P w K mg base N qual (defScope st) f cdv A outer s H E) (fun cls d _ H => E cls d H) →
      PassesOwn (model P w) (cxOf (L2.CX P w) P w K mg base N qual (defScope st) f cdv A outer s H E).A (cxOf (L2.CX P w) P w K mg base N qual (defScope st) f cdv A outer s H E).env (cxOf (L2.CX P w) P w K mg base N qual (defScope st) f cdv A outer s H E).xe →
      ∃ t, PSs (cxOf (L2.CX P w) P w K mg base N qual (defScope st) f cdv A outer s H E) (defBody st) t ∧ t { nx := fun _ H' => Q .non H', rt := Q } (start N vs) H) :
    FnOk P w K mg base (L2.CX P w) (k + 1) f fd ps sp := F.ok S ar fun cdv A outer s H vs Q E hr h => bd cdv A outer s H vs Q E hr h (takes_of rfl rfl rfl rfl) (passes_of rfl)
theorem dqAll_map2 {H : Hp} {f : Nat → V} {g : Nat → PyData} : ∀ {l : List Nat}, (∀ c ∈ l, Dq K H (f c) (g c)) → DqAll K H (l.map f) (l.map g)
  | [], _ => .nil
  | c :: l, h => .cons (h c List.mem_cons_self) (dqAll_map2 fun y hy => h y (List.mem_cons_of_mem _ hy))
theorem ok_evaluate (T : Txt K mg a d) : FnOk P w K mg base (L2.CX P w) 6 a.evaluate d.evaluate ["self", "number", "meaning", "samples"] (spEval P w K mg base a) := by
  have G_parts := ok_parts (P := P) (w := w) (base := base) T
  have G_areSmp := ok_areSmp (P := P) (w := w) (base := base) T
  have G_needKnown := ok_needKnown (P := P) (w := w) (base := base) T
  have G_isSample := ok_isSample (P := P) (w := w) (base := base) T
  refine okXD T.F_evaluate scEvaluate (fun vs H Q E h => ?_) (fun cdv A outer s H vs Q E hr h tk po => ?_)
  · obtain ⟨M, L, x, l, m, rows, as, cs, nv, mv, sv, o, rfl, _⟩ := h
    rfl
  · obtain ⟨M, L, x, l, m, rows, as, cs, nv, mv, sv, o, rfl, bk, gd, l40, mL, mu, gL, lc, ask, q⟩ := h
    refine ⟨_, (pss_cons (ps_set (i := 4) scEvaluate.nd rfl (Or.inl rfl) (Tp.pe_methE (pv 0) T.cl_Book T.me_parts G_parts (hr.mono (by decide)) T.b_parts .nil (fun σ => passAt tk σ) (pa_cons (pv 1) pa_nil)))
      (pss_cons (ps_if (pt_not (pt_val (pe_callB (Tp.call_isB (K := K) rfl) (by rfl) T.isinstance_ Tp.bt_isinstance (pa_cons (pv 2) (pa_cons (pe_bltn (v := .ty "dict") (by rfl) T.dict_ Tp.bt_dict rfl) pa_nil))))) (pss_one (Tp.ps_raiseB (k := 0) rfl (x_InvalidMeaning T) (hr.mono (by decide)) tk (by rfl) T.mg_InvalidMeaning (pa_cons (pv 2) pa_nil))) pss_nil)
      (Evl.pss_cut (ps_if (PW.pt (pw_and (pt_cmpR op_notN (pv 3) pe_non (nomark _)) (pw_and1 (pt_not (pt_val (pe_call G_areSmp (hr.mono (by decide)) (by rfl) T.mg_areSmp T.F_areSmp.kp T.b_areSmp .nil pass0 (pa_cons (pv 3) pa_nil))))))) (pss_one (Tp.ps_raiseB (k := 0) rfl (x_InvalidValues T) (hr.mono (by decide)) tk (by rfl) T.mg_InvalidValues (pa_cons (pv 3) pa_nil))) pss_nil)
      (pss_cons (ps_for po rfl (pi_list (pv 4)) (pg_name (i := 5) scEvaluate.nd rfl (Or.inl rfl)) (pss_one (ps_expr (pe_callS G_needKnown (hr.mono (by decide)) (by rfl) T.mg_needKnown T.F_needKnown.kp T.b_needKnown (fun σ => passAt tk σ) (pa_cons (pe_ix ix_list (pe_fld (pv 0) (by rfl)) (pv 5) (fun _ _ => rfl)) (pa_cons (pv 2) (pa_cons (pv 3) pa_nil)))))))
      (pss_cons (ps_set (i := 6) scEvaluate.nd rfl (Or.inr rfl) pe_dnewK)
      (pss_cons (ps_for po rfl (pi_list (pv 4)) (pg_name (i := 5) scEvaluate.nd rfl (Or.inl rfl)) (pss_cons (ps_asg (pe_ix ix_list (pe_fld (pv 0) (by rfl)) (pv 5) (fun _ _ => rfl)) (pg_tup (by rfl) (pgs_cons (pg_name (i := 7) scEvaluate.nd rfl (Or.inl rfl)) (pgs_cons (pg_name (i := 8) scEvaluate.nd rfl (Or.inl rfl)) pgs_nil))))
      (pss_one (ps_if (pt_val (pe_call G_isSample (hr.mono (by decide)) (by rfl) T.mg_isSample T.F_isSample.kp T.b_isSample .nil pass0 (pa_cons (pe_tup (pa_cons (pv 7) (pa_cons (pv 8) pa_nil))) pa_nil))) (pss_one (ps_dput (Tp.hu1 hr) (pv 6) (pv 5) (pe_ix ix_seq (pe_dget (Tp.hu1 hr) (pv 3) (pv 7) (fun _ _ => rfl)) (pv 8) (fun _ _ => rfl)) rfl)) (pss_cons (ps_set (i := 9) scEvaluate.nd rfl (Or.inl rfl) (pe_dget (Tp.hu1 hr) (pv 2) (pv 7) (fun _ _ => rfl)))
      (pss_one (ps_dput (Tp.hu1 hr) (pv 6) (pv 5) (Tp.pe_callVN (i := 9) (j := 2) (hr.mono (by decide)) rfl (Or.inl rfl) (pa_cons (pe_lc (own := [("argument", 10)]) (by rfl) scEvaluate.nd (pi_tup (pv 8)) (blkOk_by (own := [("argument", 10)]) (N := scEvaluate_N) (sc := defScope scEvaluate_st) (by decide +kernel)) (fun _ _ _ _ _ => (pg_name (i := 10) scEvaluate.nd rfl (Or.inl rfl))) (fun _ _ _ _ _ => pts_nil) (fun _ _ _ _ _ => (pe_dget (Tp.hu1 hr) (pv 6) (pv 10) (fun _ _ => rfl)))) pa_nil)) rfl)))))))
      (pss_one (ps_ret (pe_dget (Tp.hu1 hr) (pv 6) (pv 1) (fun _ _ => rfl)))))))))), ?_⟩
    have B0 : Same (offM M H) H := offM_to
    have bk0 := bk.same B0
    obtain ⟨dx, ho⟩ := bk0.obj
    have S00 := Same.refl H
    have rai : ∀ {H1 : Hp}, Same H H1 → True := fun _ => trivial
    rcases good_q ask q with ⟨hn, z⟩ | ⟨n, dd, rfl, hn, hd, nd, z⟩ | ⟨n, MM, ms, rfl, hn, rfl, hM, h, z⟩ | ⟨n, MM, fl, smp, rfl, hn, rfl, mn, sp, zd, zv⟩
    · exact ⟨_, rfl, x, _, _, rfl, ho, no_look (by decide) (by decide), _, rfl, .inr ⟨x, l, m, rows, as, nv, rfl, bk0, hn.same B0, z⟩⟩
    · refine ⟨_, rfl, x, _, _, rfl, ho, no_look (by decide) (by decide), _, rfl, .inl ⟨x, l, m, rows, as, n, rfl, bk0, gd.wf, gd.few, hn, fun qa H1 S1 nqa g1 => ?_⟩⟩
      refine ⟨_, rfl, _, _, _, _, isDc dd, rfl, .ty _, .a (.x (dq_ty ((dq_same (B0.trans S1)).1 hd))), kit_dict dd, _, rfl, ?_⟩
      rw [nd]
      exact iteT ⟨_, rfl, (show 1 ≤ 1000 from by decide), fun y hy => ⟨y, _, rfl, upd_same, fun dz k n => ⟨rfl, dz, _, upd_same, by rw [upd_ne n]; exact upd_same, by rw [upd_ne n] at k; exact k, z dz _ (S1.trans (same_fly hy k)) upd_same⟩⟩⟩
    · refine ⟨_, rfl, x, _, _, rfl, ho, no_look (by decide) (by decide), _, rfl, .inl ⟨x, l, m, rows, as, n, rfl, bk0, gd.wf, gd.few, hn, fun qa H1 S1 nqa g1 => ?_⟩⟩
      have hM1 := S1 _ _ (B0 _ _ hM)
      have B1 := B0.trans S1
      refine ⟨_, rfl, _, _, _, _, true, rfl, .ty _, .a (.x (.base (.dK hM1))), kit_ty (by decide +kernel), _, rfl, iteF ?_⟩
      have ne : sv ≠ .non := by
        rcases h with ⟨d, _, _, e⟩ | ⟨S, kvs, ds, e, _⟩
        · exact e
        · rw [e]
          exact fun z => by cases z
      refine ⟨fun _ _ => False, ⟨_, rfl, rfl, _, rfl, ifnN ne ?_⟩, fun _ _ z => z.elim⟩
      rcases h with ⟨d, hd, nd, _⟩ | ⟨S, kvs, ds, rfl, hS, hds, lk, bad⟩
      · exact ⟨_, rfl, sv, rfl, .inl ⟨d, (dq_same B1).1 hd, nd, _, rfl, iteT ⟨_, rfl, (show 1 ≤ 1000 from by decide), fun y hy => ⟨y, _, rfl, upd_same, fun dz k n => ⟨rfl, dz, _, upd_same, by rw [upd_ne n]; exact upd_same, by rw [upd_ne n] at k; exact k, z dz _ (S1.trans (same_fly hy k)) upd_same⟩⟩⟩⟩⟩
      · refine ⟨_, rfl, .ref S, rfl, .inr ⟨S, kvs, ds, rfl, B1 _ _ hS, (dq_same B1).2 hds, lk, fun H2 S2 => ⟨_, rfl, ?_⟩⟩⟩
        rw [bad]
        exact iteT ⟨_, rfl, (show 1 ≤ 1000 from by decide), fun y hy => ⟨y, _, rfl, upd_same, fun dz k n => ⟨rfl, dz, _, upd_same, by rw [upd_ne n]; exact upd_same, by rw [upd_ne n] at k; exact k, z dz _ ((S1.trans S2).trans (same_fly hy k)) upd_same⟩⟩⟩
    · refine ⟨_, rfl, x, _, _, rfl, ho, no_look (by decide) (by decide), _, rfl, .inl ⟨x, l, m, rows, as, n, rfl, bk0, gd.wf, gd.few, hn, fun qa H1 S1 nqa g1 => ?_⟩⟩
      obtain ⟨ms, hM, pm⟩ := mn.ms
      have hM1 := S1 _ _ (B0 _ _ hM)
      have B1 := B0.trans S1
      refine ⟨_, rfl, _, _, _, _, true, rfl, .ty _, .a (.x (.base (.dK hM1))), kit_ty (by decide +kernel), _, rfl, iteF ?_⟩
      refine ⟨fun σ H2 => Same H1 H2 ∧ σ = [some (.ref x), some (.int (n : Nat)), some (.ref MM), some sv, some (.ref qa), none, none, none, none, none, none], ?_, ?_⟩
      · cases sp with
        | none => exact ⟨_, rfl, rfl, _, rfl, ifnY rfl ⟨Same.refl _, rfl⟩⟩
        | dict S ss sm hS p l =>
          obtain ⟨es, h1, h2⟩ := smp_es p
          refine ⟨_, rfl, rfl, _, rfl, ifnN (fun z => by cases z) ⟨_, rfl, .ref S, rfl, .inr ⟨S, ss, es, rfl, B1 _ _ hS, (dq_same B1).2 h1, l, fun H2 S2 => ⟨_, rfl, ?_⟩⟩⟩⟩
          rw [h2]
          exact iteF ⟨S2, rfl⟩
      · rintro σ H2 ⟨S2, rfl⟩
        have S12 := S1.trans S2
        have B2 := B0.trans S12
        have g2 := S2 _ _ g1
        refine ⟨_, rfl, qa, rfl, ⟨_, SqL.of g2⟩, for_it (walk_list (xs := numsV (partsR rows n))) (fun i σ H' => H' = H2 ∧ (∀ y ∈ (partsR rows n).take i, dueP (fnB fl) smp rows y = none) ∧ ∃ v5, σ = [some (.ref x), some (.int (n : Nat)), some (.ref MM), some sv, some (.ref qa), v5, none, none, none, none, none]) ⟨rfl, (fun y h => by cases h), _, rfl⟩ ?_ ?_ ?_⟩
        · rintro i σ H' _ ⟨rfl, _⟩
          exact SqL.of g2
        · rintro i v σ _ H' hi ⟨rfl, nb, v5, rfl⟩ ⟨rfl, hv⟩
          unfold numsV at hv
          rw [List.getElem?_map] at hv
          obtain ⟨p, hp, rfl⟩ := Option.map_eq_some_iff.mp hv
          have hpn := (parts_mem.mp (List.mem_of_getElem? hp)).1
          have hpr : p < rows.length := by omega
          have er : rows[p]? = some rows[p] := List.getElem?_eq_getElem hpr
          have bk2 := bk.same B2
          obtain ⟨dx2, ho2⟩ := bk2.obj
          obtain ⟨pa, hpa, rp⟩ := Tp.paired_get bk2.row er
          have ed : dueP (fnB fl) smp rows p = dueR (fnB fl) smp rows[p] := by unfold dueP; rw [er]; rfl
          refine ⟨_, rfl, x, _, _, _, _, rfl, ho2, T.cl_Book, T.n_Book_held, hd_look, _, rfl, l, _, _, _, rfl, rfl, SqL.of bk2.lst, atI_nat (by rw [List.getElem?_map, hpa]; rfl), _, rfl, _, rfl, pa, MM, sv, rows[p], ms, rfl, rp, B2 _ _ hM, ?_⟩
          generalize rows[p] = r at er ed rp ⊢
          have nx : dueR (fnB fl) smp r = none → ∀ y ∈ (partsR rows n).take (i + 1), dueP (fnB fl) smp rows y = none := fun e y hy => by
            rw [take_succ hp] at hy
            rcases List.mem_append.mp hy with hy | hy
            · exact nb y hy
            · rw [List.mem_singleton.mp hy, ed]
              exact e
          have dn : ∀ d, dueR (fnB fl) smp r = some d → RzD E a H' d := fun d e => (zd d (findSome_at hp nb (ed.trans e))).same S12
          rcases hsec : r.sec with ll | tt
          · rcases look_pair pm r.nm with ⟨e1, e2⟩ | ⟨salt, v, e1, e2, _⟩
            · refine .nofn ll hsec e2 (dn (.sym r.nm) ?_)
              unfold dueR fnB
              rw [hsec, e1]
              rfl
            · refine .fn ll v hsec e2 ⟨rfl, nx ?_, _, rfl⟩
              unfold dueR fnB
              rw [hsec, e1]
              rfl
          · cases sp with
            | none =>
              refine .none tt hsec rfl (dn (.smp r.nm tt) ?_)
              unfold dueR
              rw [hsec]
            | dict S ss sm hS pS lS =>
              rcases look_pair pS r.nm with ⟨e1, e2⟩ | ⟨ds, v, e1, e2, s, c, xs, rfl, sq, da⟩
              · refine .lack tt S ss hsec rfl (B2 _ _ hS) e2 (dn (.smp r.nm tt) ?_)
                unfold dueR
                rw [hsec]
                show (match lkS sm r.nm with | some ds => if tt < ds.length then none else some (Due.smp r.nm tt) | none => some (Due.smp r.nm tt)) = _
                rw [e1]
              · have ll := dqAll_len da
                by_cases c1 : tt < ds.length
                · refine .smp tt S s c ss xs hsec rfl (B2 _ _ hS) e2 (SqB.same B2 sq) (by omega) ⟨rfl, nx ?_, _, rfl⟩
                  unfold dueR
                  rw [hsec]
                  show (match lkS sm r.nm with | some ds => if tt < ds.length then none else some (Due.smp r.nm tt) | none => some (Due.smp r.nm tt)) = _
                  rw [e1]
                  exact if_pos c1
                · refine .short tt S s c ss xs hsec rfl (B2 _ _ hS) e2 (SqB.same B2 sq) (by omega) (dn (.smp r.nm tt) ?_)
                  unfold dueR
                  rw [hsec]
                  show (match lkS sm r.nm with | some ds => if tt < ds.length then none else some (Due.smp r.nm tt) | none => some (Due.smp r.nm tt)) = _
                  rw [e1]
                  exact if_neg c1
        · rintro σ H' ⟨rfl, nb, v5, rfl⟩
          rw [numsV_len, List.take_length] at nb
          obtain ⟨vf, ft, fin⟩ := zv (List.findSome?_eq_none_iff.mpr nb)
          intro VD hVD
          have SV : Same H' (upd H' VD (.dK [])) := same_new hVD
          have gV0 : (upd H' VD (.dK [])) VD = some (.dK (tabK (fun _ => .non) [])) := upd_same
          generalize upd H' VD (.dK []) = H3 at SV gV0 ⊢
          have gL3 := SV _ _ (S12 _ _ gL)
          have nVM : VD ∉ M := (mu.same S12).new hVD
          have nVL : VD ≠ L := fun e => nVM (by rw [e]; exact mL)
          have g3 := SV _ _ g2
          have nqV : qa ≠ VD := fun e => by rw [e, hVD] at g2; cases g2
          have nqL : qa ≠ L := fun e => by
            rw [e, gL] at nqa
            cases nqa
          refine ⟨_, rfl, qa, rfl, ⟨_, SqL.of g3⟩, for_it (walk_list (xs := numsV (partsR rows n))) (fun i σ H4 => (∃ f new, H4 VD = some (.dK (tabK f ((partsR rows n).take i))) ∧ H4 L = some (.lst (cs ++ new)) ∧ (∀ y ∈ (partsR rows n).take i, Dq K (offM (VD :: M) H4) (f y) (vf y)) ∧ DqAll K (offM (VD :: M) H4) new (callsD rows vf ((partsR rows n).take i)) ∧ new.length ≤ i) ∧ (∀ b o, b ≠ VD → b ≠ L → H3 b = some o → H4 b = some o) ∧ ∃ v5 v7 v8 v9, σ = [some (.ref x), some (.int (n : Nat)), some (.ref MM), some sv, some (.ref qa), v5, some (.ref VD), v7, v8, v9, none]) ⟨⟨_, [], gV0, by rw [List.append_nil]; exact gL3, (fun y h => by cases h), .nil, Nat.zero_le _⟩, fun _ _ _ _ h => h, _, _, _, _, rfl⟩ ?_ ?_ ?_⟩
          · rintro i σ H4 _ ⟨_, k, _⟩
            exact SqL.of (k _ _ nqV nqL g3)
          · rintro i v σ _ H4 hi ⟨⟨f, new, gV4, gL4, df, dnw, ln⟩, k4, v5, v7, v8, v9, rfl⟩ ⟨rfl, hv⟩
            unfold numsV at hv
            rw [List.getElem?_map] at hv
            obtain ⟨p, hp, rfl⟩ := Option.map_eq_some_iff.mp hv
            have hpn := (parts_mem.mp (List.mem_of_getElem? hp)).1
            have hpr : p < rows.length := by omega
            have er : rows[p]? = some rows[p] := List.getElem?_eq_getElem hpr
            have lpn := parts_len rows n
            have i40 : i ≤ 40 := by
              have := (List.getElem?_eq_some_iff.mp hp).1
              omega
            have fr4 : Same (offM M H) H4 := fun z o h => by
              have z3 := SV _ _ (S12 _ _ (offM_to _ _ h))
              refine k4 z o (fun e => ?_) (fun e => offM_nin h (by rw [e]; exact mL)) z3
              rw [e] at h
              have := S12 _ _ (offM_to _ _ h)
              rw [hVD] at this
              cases this
            have mu4 : MutM (VD :: M) H4 := fun z m => by
              by_cases e1 : z = VD
              · rw [e1]
                exact .inr ⟨_, gV4⟩
              · by_cases e2 : z = L
                · rw [e2]
                  exact .inl ⟨_, gL4⟩
                · have m := (List.mem_cons.mp m).resolve_left e1
                  exact (mu z m).imp (fun ⟨xs, h⟩ => ⟨xs, k4 _ _ e1 e2 (SV _ _ (S12 _ _ h))⟩) fun ⟨kvs, h⟩ => ⟨kvs, k4 _ _ e1 e2 (SV _ _ (S12 _ _ h))⟩
            have off4 : Same (offM M H) (offM (VD :: M) H4) := fun z o h => offM_get (fun m => (List.mem_cons.mp m).elim (fun e => by
              rw [e] at h
              have := S12 _ _ (offM_to _ _ h)
              rw [hVD] at this
              cases this) (offM_nin h)) (fr4 _ _ h)
            have bk4 := bk.same fr4
            obtain ⟨dx4, ho4⟩ := bk4.obj
            obtain ⟨pa, hpa, rp⟩ := Tp.paired_get bk4.row er
            have a3 : (rows[p]).args.length ≤ 3 := gd.few _ (List.getElem_mem hpr)
            have nd := nb p (List.mem_of_getElem? hp)
            have ed : dueP (fnB fl) smp rows p = dueR (fnB fl) smp rows[p] := by unfold dueP; rw [er]; rfl
            rw [ed] at nd
            have fp := ft p _ er
            have put : ∀ (v : V) (H5 : Hp) (new' : List V), Dq K (offM (VD :: M) H5) v (vf p) → H5 VD = some (.dK (tabK f ((partsR rows n).take i))) → H5 L = some (.lst (cs ++ new')) → Same (offM (VD :: M) H4) (offM (VD :: M) H5) → (∀ b o, b ≠ VD → b ≠ L → H4 b = some o → H5 b = some o) → DqAll K (offM (VD :: M) H5) new' (callsD rows vf ((partsR rows n).take (i + 1))) → new'.length ≤ i + 1 →
                ∃ H6, DPut H5 VD (.int ((p : Nat) : Int)) v H6 ∧ (∃ f new, H6 VD = some (.dK (tabK f ((partsR rows n).take (i + 1)))) ∧ H6 L = some (.lst (cs ++ new)) ∧ (∀ y ∈ (partsR rows n).take (i + 1), Dq K (offM (VD :: M) H6) (f y) (vf y)) ∧ DqAll K (offM (VD :: M) H6) new (callsD rows vf ((partsR rows n).take (i + 1))) ∧ new.length ≤ i + 1) ∧ (∀ b o, b ≠ VD → b ≠ L → H3 b = some o → H6 b = some o) := by
              intro v H5 new' dv gV5 gL5 S45 k5 dn5 ln5
              have nin := take_new (parts_nodup rows n) hp
              have eq1 : tabK f ((partsR rows n).take i) = tabK (fun y => if y = p then v else f y) ((partsR rows n).take i) := by
                unfold tabK
                refine List.map_congr_left fun y hy => ?_
                show (Sum.inl ((y : Nat) : Int), f y) = (Sum.inl ((y : Nat) : Int), if y = p then v else f y)
                rw [if_neg (fun e => nin (by rw [← e]; exact hy))]
              have so : Same (offM (VD :: M) H5) (offM (VD :: M) (upd H5 VD (.dK (putK (tabK f ((partsR rows n).take i)) (Sum.inl ((p : Nat) : Int)) v)))) := offM_upd List.mem_cons_self
              refine ⟨_, .inl ⟨_, Sum.inl ((p : Nat) : Int), gV5, rfl, ?_, rfl⟩, ⟨fun y => if y = p then v else f y, new', ?_, by rw [upd_ne (Ne.symm nVL)]; exact gL5, fun y hy => ?_, (dq_same so).2 dn5, ln5⟩, fun b o nb1 nb2 h => by rw [upd_ne nb1]; exact k5 _ _ nb1 nb2 (k4 _ _ nb1 nb2 h)⟩
              · unfold tabK
                rw [List.length_map, List.length_take]
                exact Nat.lt_of_le_of_lt (show _ ≤ 100 by omega) (by decide)
              · rw [upd_same, eq1]
                have := tab_put (f := fun y => if y = p then v else f y) nin
                rw [if_pos rfl] at this
                rw [this, ← take_succ hp]
              · show Dq K _ (if y = p then v else f y) (vf y)
                by_cases e : y = p
                · rw [if_pos e, e]
                  exact (dq_same so).1 dv
                · rw [if_neg e]
                  rw [take_succ hp] at hy
                  exact (dq_same (S45.trans so)).1 (df y ((List.mem_append.mp hy).resolve_right fun h => e (List.mem_singleton.mp h)))
            refine ⟨_, rfl, x, _, _, _, _, rfl, ho4, T.cl_Book, T.n_Book_held, hd_look, _, rfl, l, _, _, _, rfl, rfl, SqL.of bk4.lst, atI_nat (by rw [List.getElem?_map, hpa]; rfl), ?_⟩
            have ecall : callsD rows vf ((partsR rows n).take (i + 1)) = callsD rows vf ((partsR rows n).take i) ++ callD rows vf p := by rw [take_succ hp, calls_snoc]
            have ecd : callD rows vf p = match (rows[p]).sec with | .inl l => [.tuple [.str (rows[p]).nm, .list (l.map vf)]] | .inr _ => [] := by
              unfold callD
              rw [er]
              all_goals rfl
            have lt := gd.wf p _ er
            have mcA : ∀ c ∈ (rows[p]).args, c ∈ (partsR rows n).take i := fun c hc => parts_before gd.wf hp (by rw [args_at er]; exact hc)
            generalize rows[p] = r at er rp a3 nd fp ecd lt mcA
            rcases rp.inv with ⟨ns, b, hsec, h1, h2⟩ | ⟨tt, hsec, h1⟩
            · refine ⟨pa, _, rfl, h1, rfl, _, _, rfl, _, _, rfl, rfl, ?_⟩
              have ea : r.args = ns := by unfold BRow.args; rw [hsec]
              rw [ea] at a3 lt mcA
              refine ⟨_, rfl, _, rfl, (show 2 ≤ sizeLine from by decide), fun t ht => ?_⟩
              have S5 := same_new (o := .tup [V.str r.nm, V.ref b]) ht
              have g5 : (upd H4 t (.tup [V.str r.nm, V.ref b])) t = some (.tup [V.str r.nm, V.ref b]) := upd_same
              generalize upd H4 t (.tup [V.str r.nm, V.ref b]) = H5 at S5 g5 ⊢
              have rp5 : RowAt K H5 ⟨r.nm, .inl ns⟩ t := .mkL (SqT.of g5) (sqT_same S5 h2)
              refine ⟨t, _, rfl, rp5, _, rfl, iteF ?_⟩
              obtain ⟨salt, fv, e1, e2, fnv⟩ : ∃ salt fv, lkS fl r.nm = some salt ∧ valV ms (.inr r.nm) = some fv ∧ FnV P w K mg base (offM M H) L r.nm salt fv := by
                rcases look_pair pm r.nm with ⟨e1, e2⟩ | h
                · unfold dueR fnB at nd
                  rw [hsec, e1] at nd
                  cases nd
                · exact h
              obtain ⟨ff, F, bb, rfl, hff, call⟩ := fnv.call
              have fr5 := fr4.trans S5
              refine ⟨_, rfl, _, rfl, MM, _, rfl, .inl ⟨ms, .inr r.nm, .inl (fr5 _ _ hM), rfl, e2.symm⟩, ?_⟩
              refine ⟨ff, F, bb, rfl, fr5 _ _ hff, ?_⟩
              refine ⟨_, rfl, b, rfl, ⟨_, sqT_same S5 h2⟩, fun D hD => lc_it (walk_tup (xs := numsV ns)) (fun j H' => Same H5 H' ∧ H' D = some (.lst ((ns.take j).map f))) ⟨same_new hD, upd_same⟩ ?_ ?_ ?_⟩
              · rintro j H' _ ⟨S, _⟩
                exact sqT_same (S5.trans S) h2
              · rintro j u _ H' hj ⟨S, hD'⟩ ⟨rfl, hu⟩
                unfold numsV at hu
                rw [List.getElem?_map] at hu
                obtain ⟨c, hc, rfl⟩ := Option.map_eq_some_iff.mp hu
                have mc := mcA c (List.mem_of_getElem? hc)
                have hj3 : j < 3 := by rw [numsV_len] at hj; omega
                refine ⟨rfl, _, rfl, _, rfl, VD, f c, rfl, .inl ⟨_, Sum.inl ((c : Nat) : Int), .inl (S _ _ (S5 _ _ gV4)), rfl, by rw [tab_val, if_pos mc]⟩, _, hD', ?_, Tp.Same.mut S hD, ?_⟩
                · rw [List.length_map, List.length_take]
                  exact Nat.lt_of_le_of_lt (show _ ≤ 3 by omega) (by decide)
                · rw [upd_same, take_succ hc, List.map_append]
                  rfl
              · rintro H6 ⟨S6, hD'⟩
                rw [numsV_len, List.take_length] at hD'
                have S46 := S5.trans S6
                have mu6 := mu4.same S46
                have nDM : D ∉ VD :: M := (mu4.same S5).new hD
                have da : DqAll K (offM (VD :: M) H6) (ns.map f) (ns.map vf) := dqAll_map2 fun c hc => (dq_same (offM_of S46)).1 (df c (mcA c hc))
                refine call H6 (VD :: M) D (cs ++ new) (ns.map f) (ns.map vf) _ (KeepF.of (fr5.trans S6)) (S46 _ _ gL4) hD' nDM (List.mem_cons_of_mem _ mL) mu6 ?_ ?_ ?_ da fun u tv H2' ci nn => ?_
                · rw [List.length_append]
                  omega
                · rw [List.length_map]
                  exact a3
                · exact mn.lt _ (lkS_mem e1)
                · have ci := ci nn
                  generalize bakC (csF F.cl) H6 H2' = H7 at ci ⊢
                  have ev : vf p = valD r.nm salt (ns.map vf) := by
                    rw [fp, ea]
                    unfold gV saltF
                    rw [hsec, e1]
                    rfl
                  have ec : callsD rows vf ((partsR rows n).take (i + 1)) = callsD rows vf ((partsR rows n).take i) ++ [.tuple [.str r.nm, .list (ns.map vf)]] := by
                    rw [ecall, ecd, hsec]
                  have S47 : Same (offM (VD :: M) H4) (offM (VD :: M) H7) := (offM_of S46).trans (offM_kp (List.mem_cons_of_mem _ mL) ci.kp)
                  obtain ⟨H8, dp, inv, k8⟩ := put u H7 (new ++ [tv]) (by rw [ev]; exact ci.val) (ci.kp _ _ nVL (S46 _ _ gV4)) (by rw [← List.append_assoc]; exact ci.calls) S47 (fun z o _ n2 h => ci.kp z o n2 (S46 _ _ h)) (by rw [ec]; exact dqAll_app ((dq_same S47).2 dnw) (.cons ci.note .nil)) (by rw [List.length_append]; exact Nat.succ_le_succ ln)
                  exact ⟨_, rfl, _, rfl, VD, H8, rfl, dp, inv, k8, _, _, _, _, rfl⟩
            · refine ⟨pa, _, rfl, h1, rfl, _, _, rfl, _, _, rfl, rfl, ?_⟩
              refine ⟨_, rfl, _, rfl, (show 2 ≤ sizeLine from by decide), fun t ht => ?_⟩
              have S5 := same_new (o := .tup [V.str r.nm, V.int ((tt : Nat) : Int)]) ht
              have g5 : (upd H4 t (.tup [V.str r.nm, V.int ((tt : Nat) : Int)])) t = some (.tup [V.str r.nm, V.int ((tt : Nat) : Int)]) := upd_same
              generalize upd H4 t (.tup [V.str r.nm, V.int ((tt : Nat) : Int)]) = H5 at S5 g5 ⊢
              have rp5 : RowAt K H5 ⟨r.nm, .inr tt⟩ t := .mkT (SqT.of g5)
              refine ⟨t, _, rfl, rp5, _, rfl, iteT ?_⟩
              have fr5 := fr4.trans S5
              have ec : callsD rows vf ((partsR rows n).take (i + 1)) = callsD rows vf ((partsR rows n).take i) := by
                rw [ecall, ecd, hsec, List.append_nil]
              have put' : ∀ (v : V), Dq K (offM M H) v (vf p) → _ := fun v dv => put v H5 new ((dq_same (off4.trans (offM_of S5))).1 dv) (S5 _ _ gV4) (S5 _ _ gL4) (offM_of S5) (fun z o _ _ h => S5 _ _ h) (by rw [ec]; exact (dq_same (offM_of S5)).2 dnw) (Nat.le_succ_of_le ln)
              cases sp with
              | none =>
                unfold dueR at nd
                rw [hsec] at nd
                cases nd
              | dict S ss sm hS pS lS =>
                rcases look_pair pS r.nm with ⟨e1, e2⟩ | ⟨ds, v, e1, e2, s, c, xs, rfl, sq, da⟩
                · unfold dueR at nd
                  rw [hsec] at nd
                  have nd : (match lkS sm r.nm with | some ds => if tt < ds.length then none else some (Due.smp r.nm tt) | none => some (Due.smp r.nm tt)) = none := nd
                  rw [e1] at nd
                  cases nd
                · have lt2 : tt < ds.length := by
                    unfold dueR at nd
                    rw [hsec] at nd
                    have nd : (match lkS sm r.nm with | some ds => if tt < ds.length then none else some (Due.smp r.nm tt) | none => some (Due.smp r.nm tt)) = none := nd
                    rw [e1] at nd
                    have nd : (if tt < ds.length then (none : Option Due) else some (Due.smp r.nm tt)) = none := nd
                    by_cases c : tt < ds.length
                    · exact c
                    · rw [show (if tt < ds.length then (none : Option Due) else some (Due.smp r.nm tt)) = some (Due.smp r.nm tt) from if_neg c] at nd
                      cases nd
                  have ll := dqAll_len da
                  have hx : xs[tt]? = some xs[tt] := List.getElem?_eq_getElem (by omega)
                  obtain ⟨e, he, de⟩ := dqAll_get da hx
                  have ev : vf p = e := by
                    rw [fp]
                    unfold gV
                    rw [hsec]
                    show ((lkS sm r.nm).getD []).getD tt .none = e
                    rw [e1, Option.getD_some, List.getD_eq_getElem?_getD, he]
                    rfl
                  obtain ⟨H8, dp, inv, k8⟩ := put' xs[tt] (by rw [ev]; exact de)
                  refine ⟨_, rfl, _, rfl, S, .ref s, rfl, .inl ⟨ss, .inr r.nm, .inl (fr5 _ _ hS), rfl, e2.symm⟩, _, rfl, ?_⟩
                  have sq5 := SqB.same fr5 sq
                  have hat : atI xs ((tt : Nat) : Int) = some xs[tt] := atI_nat hx
                  cases c with
                  | true => exact .inr (.inl ⟨s, xs, _, _, rfl, rfl, sq5, hat, _, rfl, _, rfl, VD, H8, rfl, dp, inv, k8, _, _, _, _, rfl⟩)
                  | false => exact .inl ⟨s, xs, _, _, rfl, rfl, sq5, hat, _, rfl, _, rfl, VD, H8, rfl, dp, inv, k8, _, _, _, _, rfl⟩
          · rintro σ H4 ⟨⟨f, new, gV4, gL4, df, dnw, ln⟩, k4, v5, v7, v8, v9, rfl⟩
            rw [numsV_len, List.take_length] at gV4 df dnw
            refine ⟨_, rfl, _, rfl, VD, f n, rfl, .inl ⟨_, Sum.inl ((n : Nat) : Int), .inl gV4, rfl, by rw [tab_val, if_pos parts_self]⟩, fin _ _ new (fun z o nz h => ?_) gL4 ?_ ?_⟩
            · refine k4 z o (fun e => ?_) nz (SV _ _ (S12 _ _ h))
              rw [e] at h
              rw [S12 _ _ h] at hVD
              cases hVD
            · exact (dq_same (offM_less fun z m => .inl (List.mem_cons_of_mem _ m))).2 dnw
            · exact (dq_same (offM_less fun z m => .inl (List.mem_cons_of_mem _ m))).1 (df n parts_self)
end
end L05
set_option Elab.async false
set_option linter.all false
set_option maxRecDepth 100000
set_option maxHeartbeats 4000000
set_option pp.deepTerms false
set_option pp.deepTerms.threshold 4
set_option pp.maxSteps 1000
namespace L05
open PySem L2 Tp
section
variable {P : Program} {w : World} {K : PySem.W.Frag} {mg : Str → Option Value} {base : Heap} {a : Ad} {d : Fd}
theorem tabsN_data {L : List NdefX.NTab} {H H' : Hp} (t : NdefX.TabsN L H) (e : ∀ b o, (∀ xs, o ≠ .lst xs) → (∀ ks, o ≠ .dK ks) → H b = some o → H' b = some o) : NdefX.TabsN L H' := fun p hp => by
  obtain ⟨ps, h1, h2, h3⟩ := t p hp
  refine ⟨ps, e _ _ (fun _ z => by cases z) (fun _ z => by cases z) h1, h2, fun pos cv hc => ?_⟩
  obtain ⟨c, e1, e2⟩ := h3 pos cv hc
  exact ⟨c, e1, e _ _ (fun _ z => by cases z) (fun _ z => by cases z) e2⟩
theorem tabsN_lock {L : List NdefX.NTab} {H : Hp} {d : Addr} {kvs : List (Key × V)} {u : HO} (t : NdefX.TabsN L H) (h : H d = some (.dK kvs)) : NdefX.TabsN L (upd H d u) := tabsN_data t fun b o _ n k => by
  rw [upd_ne fun e => n kvs (by rw [e, h] at k; exact (Option.some.inj k).symm)]
  exact k
theorem tabsN_kp {L : List NdefX.NTab} {b : Addr} {xs : List V} {H H' : Hp} (t : NdefX.TabsN L H) (B : H b = some (.lst xs)) (k : Kp b H H') : NdefX.TabsN L H' := tabsN_data t fun z o n1 _ h => k z o (fun e => by
  rw [e, B] at h
  exact n1 _ (Option.some.inj h).symm) h
def KT (b : Addr) (H H' : Hp) : Prop := ∀ z o, z ≠ b → (∀ ps, o ≠ .tbl ps) → H z = some o → H' z = some o
theorem KT.ext {b : Addr} {H H' H'' : Hp} (h : KT b H H') (S : LamX.ExtN H' H'') : KT b H H'' := fun z o n1 n2 g => S _ _ (h z o n1 n2 g) n2
theorem KT.same {b : Addr} {H H' H'' : Hp} (h : KT b H H') (S : Same H' H'') : KT b H H'' := fun z o n1 n2 g => S _ _ (h z o n1 n2 g)
theorem KT.kp {b : Addr} {H H' H'' : Hp} (h : KT b H H') (S : Kp b H' H'') : KT b H H'' := fun z o n1 n2 g => S _ _ n1 (h z o n1 n2 g)
theorem KT.upd {b D : Addr} {H H' : Hp} {u : HO} (h : KT b H H') (n : H D = none) : KT b H (upd H' D u) := fun z o n1 n2 g => by
  rw [upd_ne fun e => by rw [e, n] at g; cases g]
  exact h z o n1 n2 g
theorem box_ext {b : Addr} {n : Nat} {H H' : Hp} (B : BoxAt b n H) (X : LamX.ExtN H H') : BoxAt b n H' := let ⟨x, y, z, h, r⟩ := B; ⟨x, y, z, X _ _ h (fun _ z => by cases z), r⟩
theorem Gr.ext {H H' : Hp} {b q : Addr} {n : Nat} {rows : List BRow} {as : List Addr} (g : Gr K H b q n rows as) (S : LamX.ExtN H H') : Gr K H' b q n rows as :=
  ⟨box_ext g.box S, S _ _ g.lst (fun _ z => by cases z), paired_imp (fun _ _ h => h.sameT ⟨fun a xs e => S _ _ e (fun _ z => by cases z), fun a o xs e => S _ _ e (fun _ z => by cases z)⟩) g.row, g.good⟩
theorem Gr.updD {H : Hp} {b q D : Addr} {n : Nat} {rows : List BRow} {as : List Addr} {fs : List (Key × V)} {u : HO} (g : Gr K H b q n rows as) (h : H D = some (.dK fs)) (nb : D ≠ b) : Gr K (upd H D u) b q n rows as :=
  ⟨g.box.off nb, by rw [upd_ne fun e => by have := g.lst; rw [e, h] at this; cases this]; exact g.lst, paired_imp (fun _ _ x => x.sameT ⟨fun a xs e => by rw [upd_ne fun z => by rw [z, h] at e; cases e]; exact e, fun a o xs e => by rw [upd_ne fun z => by rw [z, h] at e; cases e]; exact e⟩) g.row, g.good⟩
theorem keys_pair {α : Type} {R : Str → α → V → Prop} {sm : List (Str × α)} {ss : List (Key × V)} (p : Paired (EntS R) sm ss) : ss.map (·.1) = (sm.map (·.1)).map Sum.inr := by
  induction p with
  | nil => rfl
  | cons a t ih => rw [List.map_cons, List.map_cons, List.map_cons, ih, a.1]
theorem drop_pair {α : Type} {R : Str → α → V → Prop} {sm : List (Str × α)} {ss : List (Key × V)} (p : Paired (EntS R) sm ss) (nm : Str) : Paired (EntS R) (sm.filter fun e => decide (e.1 ≠ nm)) (dropK ss (Sum.inr nm)) := by
  induction p with
  | nil => exact .nil
  | cons a t ih =>
    rename_i e kv sm ss
    unfold dropK at ih ⊢
    rw [List.filter_cons, List.filter_cons]
    by_cases c : e.1 = nm
    · have c2 : ¬ (kv.1 ≠ (Sum.inr nm : Key)) := fun z => z (by rw [a.1, c])
      rw [if_neg (by rw [decide_eq_true_eq]; exact fun z => z c), if_neg (by rw [decide_eq_true_eq]; exact c2)]
      exact ih
    · have c2 : kv.1 ≠ (Sum.inr nm : Key) := fun z => c (Sum.inr.inj (a.1.symm.trans z))
      rw [if_pos (decide_eq_true c), if_pos (decide_eq_true c2)]
      exact .cons a ih
theorem mem_look {α : Type} {nm : Str} : ∀ {l : List (Str × α)}, nm ∈ l.map (·.1) → ∃ x, lkS l nm = some x
  | e :: l, h => by
    unfold lkS
    by_cases c : e.1 = nm
    · rw [if_pos c]
      exact ⟨_, rfl⟩
    · rw [if_neg c]
      exact mem_look ((List.mem_cons.mp h).resolve_left fun z => c z.symm)
theorem strs_dp {H : Hp} : ∀ xs : List Str, DpAll K H (xs.map V.str) (xs.map PyData.str)
  | [] => .nil
  | x :: xs => .cons (.str x) (strs_dp xs)
theorem ne_nil_strs {xs : List Str} : (!PyData.eqv (.list (xs.map PyData.str)) (.list [])) = decide (xs ≠ []) := by
  cases xs with
  | nil => simp [PyData.eqv, PyData.eqvAll]
  | cons x xs => simp [PyData.eqv, PyData.eqvAll]
theorem str_okN {z : Str} (h : nmB z = true) : PyData.strOk z = true := by
  unfold PyData.strOk
  rw [Array.all_eq_true']
  intro c hc
  exact decide_eq_true (Nat.lt_of_lt_of_le ((nm_sm h).2 c (Array.mem_toList_iff.mpr hc)) (by decide))
theorem strs_shaped {ws : List Str} (h : ∀ y ∈ ws, nmB y = true) : SeqAt.shaped (.list (ws.map PyData.str)) = true := by
  have key : ∀ ws : List Str, (∀ y ∈ ws, nmB y = true) → PyData.canLayAll0 (ws.map PyData.str) = true ∧ PyData.depthAll (ws.map PyData.str) = 0 := by
    intro ws
    induction ws with
    | nil => intro _; exact ⟨by simp [PyData.canLayAll0], by simp [PyData.depthAll]⟩
    | cons y ys ih =>
      intro h
      obtain ⟨i1, i2⟩ := ih fun z hz => h z (List.mem_cons_of_mem _ hz)
      have k := str_okN (h y List.mem_cons_self)
      exact ⟨by simp [PyData.canLayAll0, PyData.canLay0, k, i1], by simp [PyData.depthAll, PyData.depth, i2]⟩
  obtain ⟨k1, k2⟩ := key ws h
  unfold SeqAt.shaped
  simp [PyData.canLay0, PyData.depth, k1, k2]
abbrev FnR (P : Program) (w : World) (K : PySem.W.Frag) (mg : Str → Option Value) (base : Heap) (H : Hp) (L : Addr) : Str → Nat → V → Prop := fun nm salt v => FnV P w K mg base H L nm salt v
def spMeaningL (P : Program) (w : World) (K : PySem.W.Frag) (mg : Str → Option Value) (base : Heap) (a : Ad) : Sp := fun vs H Q _ => ∃ (b q L : Addr) (n : Nat) (rows : List BRow) (as : List Addr), vs = [.ref b, .ref q, .ref L] ∧ Gr K H b q n rows as ∧ n < 500000 ∧ rows.length ≤ 40 ∧ NdefX.TabsN (TT a) H ∧
  ∀ M fl H', KT b H H' → BoxAt b (n + 100) H' → NdefX.TabsN (TT a) H' → H M = none → MeanA P w K mg base H' L M fl → Q (.ref M) H'
theorem ok_meaning (T : Txt K mg a d) (TB : LamX.TabB base mg a.cFn a.pFn) : FnG P w K mg base CX0 3 a.meaning d.meaning ["_law_box_here", "_law_rows_here", "_law_calls"] (spMeaningL P w K mg base a) := by
  have G_take := ok_take (P := P) (w := w) (base := base) T
  have G_func := ok_func (P := P) (w := w) (base := base) T TB
  refine okG T.F_meaning scMeaning (fun vs H Q E h => ?_) (fun cdv A outer s H vs Q E hr hg h => ?_)
  · obtain ⟨b, q, L, n, rows, as, rfl, _⟩ := h
    rfl
  · obtain ⟨b, q, L, n, rows, as, rfl, g, hn, l40, tn, fin⟩ := h
    refine ⟨_, (pss_cons (ps_set (i := 3) scMeaning.nd rfl (Or.inl rfl) pe_dnewK)
      (pss_cons (ps_for PassesOwn.never rfl (pi_list (pv 1)) (pg_tup (by rfl) (pgs_cons (pg_name (i := 4) scMeaning.nd rfl (Or.inl rfl)) (pgs_cons (pg_name (i := 5) scMeaning.nd rfl (Or.inl rfl)) pgs_nil))) (pss_one (ps_if (PW.pt (pw_and (pt_val (pe_callB call_isi (by rfl) T.isinstance_ Tp.bt_isinstance (pa_cons (pv 5) (pa_cons (pe_bltn (v := .ty "tuple") (by rfl) T.tuple_ Tp.bt_tuple rfl) pa_nil)))) (pw_and1 (pt_cmpR (Tp.op_notInDk (Tp.hu1 hr)) (pv 4) (pv 3) (by rfl))))) (pss_one (ps_dput (Tp.hu1 hr) (pv 3) (pv 4) (Tp.pe_callG G_func (hr.mono (by decide)) hg (by rfl) T.mg_func T.F_func.kp T.b_func .nil pass0 (pa_cons (pv 4) (pa_cons (pv 2) (pa_cons (Tp.pe_callG G_take (hr.mono (by decide)) hg (by rfl) T.mg_take T.F_take.kp T.b_take .nil pass0 (pa_cons (pv 0) (pa_cons pe_int pa_nil))) pa_nil)))) rfl)) pss_nil)))
      (pss_cons (ps_set (i := 6) scMeaning.nd rfl (Or.inl rfl) (pe_callB (call_sortedD rfl) (by rfl) T.sorted_ Tp.bt_sorted (pa_cons (pv 3) pa_nil)))
      (Evl.pss_cut (ps_if (PW.pt (pw_and (pt_cmpR (op_neD hr.units) (pv 6) (pe_lst pa_nil) (nomark _)) (pw_and1 (pt_cmpR op_eq (Tp.pe_callG G_take (hr.mono (by decide)) hg (by rfl) T.mg_take T.F_take.kp T.b_take .nil pass0 (pa_cons (pv 0) (pa_cons pe_int pa_nil))) pe_int (nomark _))))) (pss_one (ps_expr (pe_dpop1 (pv 3) (pe_ix ix_list (pv 6) (Tp.pe_callG G_take (hr.mono (by decide)) hg (by rfl) T.mg_take T.F_take.kp T.b_take .nil pass0 (pa_cons (pv 0) (pa_cons (pe_callB call_len_seq (by rfl) T.len_ Tp.bt_len (pa_cons (pv 6) pa_nil)) pa_nil))) (fun _ _ => rfl)) ⟨rfl, rfl, rfl, rfl⟩))) pss_nil)
      (pss_one (ps_ret (pv 3))))))), ?_⟩
    intro D hD
    have SD : Same H (upd H D (.dK [])) := same_new hD
    have nDb : D ≠ b := g.box.ne hD
    have ll : (as.map V.ref).length = rows.length := by rw [List.length_map]; exact (Paired.length g.row).symm
    refine ⟨_, rfl, q, rfl, ⟨_, SqL.of (SD _ _ g.lst)⟩, for_it (walk_list (xs := as.map V.ref)) (fun i σ H' => (∃ fl fs, H' D = some (.dK fs) ∧ Paired (EntS (FnR P w K mg base H' L)) fl fs ∧ (∀ e ∈ fl, e.2 < 9 ∧ nmB e.1 = true) ∧ fl.length ≤ i) ∧ Gr K H' b q (n + i) rows as ∧ KT b H H' ∧ NdefX.TabsN (TT a) H' ∧ ∃ v4 v5, σ = [some (.ref b), some (.ref q), some (.ref L), some (.ref D), v4, v5, none]) ⟨⟨[], [], upd_same, .nil, (fun e h => by cases h), Nat.le_refl _⟩, g.same SD, (fun z o _ _ h => SD _ _ h), tn.ext fun z o h => SD _ _ h, _, _, rfl⟩ ?_ ?_ ?_⟩
    · rintro i σ H' _ ⟨_, g', _⟩
      exact SqL.of g'.lst
    · rintro i v σ _ H1 hi ⟨⟨fl, fs, gD, pf, l9, lf⟩, g1, k1, t1, v4, v5, rfl⟩ ⟨rfl, hv⟩
      rw [List.getElem?_map] at hv
      obtain ⟨pa, hpa, rfl⟩ := Option.map_eq_some_iff.mp hv
      obtain ⟨r, hr', rp⟩ := paired_rev g1.row hpa
      have rd := g1.good.nm r (List.mem_of_getElem? hr')
      have i40 : i < 40 := by omega
      rcases rp.inv with ⟨ns, bb, hsec, h1, h2⟩ | ⟨tt, hsec, h1⟩
      · refine ⟨pa, _, rfl, h1, rfl, _, _, rfl, _, _, rfl, rfl, ?_⟩
        refine ⟨_, rfl, _, _, _, _, true, rfl, .ty _, ty_sqT h2, kit_ty (by decide +kernel), _, rfl, iteT ?_⟩
        refine ⟨_, rfl, _, rfl, D, _, rfl, DGet.k (k := .inr r.nm) gD, _, rfl, ?_⟩
        rcases look_pair pf r.nm with ⟨e1, e2⟩ | ⟨x, v, e1, e2, _⟩
        rotate_left
        · rw [e2]
          exact iteF ⟨⟨fl, fs, gD, pf, l9, by omega⟩, g1.up (by omega), k1, t1, _, _, rfl⟩
        rw [e2]
        refine iteT ?_
        refine ⟨_, rfl, _, rfl, _, rfl, b, 9, _, rfl, g1.box, by omega, by decide, by decide, fun salt H2 s0 s9 k2 B2 => ?_⟩
        obtain ⟨st, rfl⟩ := Int.eq_ofNat_of_zero_le s0
        obtain ⟨bx, by_, bz, hb1, _⟩ := g1.box
        have g2 := g1.kp k2 B2
        have t2 := tabsN_kp t1 hb1 k2
        have gD2 := k2 _ _ nDb gD
        have f2 : KeepF H1 H2 := KeepF.kp k2 hb1
        refine ⟨r.nm, L, st, rfl, t2, fun f H3 X3 t3 fv => ?_⟩
        have gD3 := X3 _ _ gD2 (fun _ z => by cases z)
        have f3 := f2.trans (KeepF.ext X3)
        have g3 := g2.ext X3
        have lfs : fs.length < 100 := by have := Paired.length pf; omega
        refine ⟨_, rfl, _, rfl, D, _, rfl, .inl ⟨fs, .inr r.nm, gD3, rfl, Nat.lt_trans lfs (by decide), rfl⟩, ⟨fl ++ [(r.nm, st)], fs ++ [(.inr r.nm, .ref f)], ?_, ?_, ?_, ?_⟩, ?_, ?_, tabsN_lock t3 gD3, _, _, rfl⟩
        · rw [upd_same, putK_new _ e2]
        · have f4 : KeepF H3 (upd H3 D (.dK (putK fs (.inr r.nm) (.ref f)))) := KeepF.upd gD3
          exact paired_snoc (paired_imp (fun _ _ h => ⟨h.1, h.2.keep (f3.trans f4)⟩) pf) ⟨rfl, fv.keep f4⟩
        · intro e he
          rcases List.mem_append.mp he with he | he
          · exact l9 e he
          · rw [List.mem_singleton.mp he]
            exact ⟨by show st < 9; omega, rd⟩
        · rw [List.length_append]
          exact Nat.succ_le_succ lf
        · exact (g3.updD gD3 nDb).up (by omega)
        · exact ((k1.kp k2).ext X3).upd hD
      · refine ⟨pa, _, rfl, h1, rfl, _, _, rfl, _, _, rfl, rfl, ?_⟩
        exact ⟨_, rfl, _, _, _, _, false, rfl, .ty _, .base (.int _), kit_ty (by decide +kernel), _, rfl, iteF ⟨⟨fl, fs, gD, pf, l9, by omega⟩, g1.up (by omega), k1, t1, _, _, rfl⟩⟩
    · rintro σ H1 ⟨⟨fl, fs, gD, pf, l9, lf⟩, g1, k1, t1, v4, v5, rfl⟩
      have lk : (fl.map (·.1)).length < 64 := by rw [List.length_map]; omega
      refine ⟨_, rfl, D, fs, _, rfl, .inl gD, keys_pair pf, lk, fun ys p pm _ hp => ?_⟩
      have S2 : Same H1 (upd H1 p (.lst (ys.map V.str))) := same_new hp
      have g2p : (upd H1 p (.lst (ys.map V.str))) p = some (.lst (ys.map V.str)) := upd_same
      generalize upd H1 p (.lst (ys.map V.str)) = H2 at S2 g2p ⊢
      refine ⟨fun σ H4 => (∃ fl fs, H4 D = some (.dK fs) ∧ Paired (EntS (FnR P w K mg base H4 L)) fl fs ∧ (∀ e ∈ fl, e.2 < 9)) ∧ BoxAt b (n + 100) H4 ∧ KT b H H4 ∧ NdefX.TabsN (TT a) H4 ∧ ∃ v4 v5 v6, σ = [some (.ref b), some (.ref q), some (.ref L), some (.ref D), v4, v5, v6], ?_, ?_⟩
      · refine ⟨_, rfl, Nat.zero_le _, fun e0 he0 => ?_⟩
        have S3 := same_new (o := .lst []) he0
        have g3 : (upd H2 e0 (.lst [])) e0 = some (.lst []) := upd_same
        generalize upd H2 e0 (.lst []) = H3 at S3 g3 ⊢
        have S13 := S2.trans S3
        have gD3 := S13 _ _ gD
        have gg3 := g1.same S13
        have pf3 : Paired (EntS (FnR P w K mg base H3 L)) fl fs := paired_imp (fun _ _ h => ⟨h.1, h.2.keep (KeepF.of S13)⟩) pf
        have t3 : NdefX.TabsN (TT a) H3 := t1.ext fun z o h => S13 _ _ h
        have k3 := k1.same S13
        have done : ∀ {H4 : Hp}, KeepF H3 H4 → H4 D = some (.dK fs) → BoxAt b (n + 100) H4 → KT b H H4 → NdefX.TabsN (TT a) H4 → (∃ fl fs, H4 D = some (.dK fs) ∧ Paired (EntS (FnR P w K mg base H4 L)) fl fs ∧ (∀ e ∈ fl, e.2 < 9)) ∧ BoxAt b (n + 100) H4 ∧ KT b H H4 ∧ NdefX.TabsN (TT a) H4 ∧ ∃ v4' v5' v6', [some (.ref b), some (.ref q), some (.ref L), some (.ref D), v4, v5, some (.ref p)] = [some (.ref b), some (.ref q), some (.ref L), some (.ref D), v4', v5', v6'] := fun kf g B k t =>
          ⟨⟨fl, fs, g, paired_imp (fun _ _ h => ⟨h.1, h.2.keep kf⟩) pf3, fun e he => (l9 e he).1⟩, B, k, t, _, _, _, rfl⟩
        have ysn : ∀ y ∈ ys, nmB y = true := fun y hy => by
          obtain ⟨e, he, rfl⟩ := List.mem_map.mp (pm.mem_iff.mp hy)
          exact (l9 e he).2
        have yl : ys.length < 64 := by rw [pm.length_eq]; exact lk
        refine ⟨.list (ys.map PyData.str), .list [], .lst (SqL.of (S3 _ _ g2p)) (strs_dp ys), .lst (SqL.of g3) .nil, strs_shaped ysn, by decide +kernel, _, rfl, ?_⟩
        rw [ne_nil_strs]
        refine if2 (fun c1 => ?_) (fun c1 => done (KeepF.of (Same.refl _)) gD3 (gg3.box.up (by omega)) k3 t3)
        obtain ⟨bx, by_, bz, hb3, _⟩ := gg3.box
        refine ⟨_, rfl, b, 4, _, rfl, gg3.box, by omega, by decide, by decide, fun r1 H4 _ _ k4 B4 => ⟨rfl, _, rfl, if2 (fun c2 => ?_) (fun c2 => done (KeepF.kp k4 hb3) (k4 _ _ nDb gD3) (B4.up (by omega)) (k3.kp k4) (tabsN_kp t3 hb3 k4))⟩⟩
        have npb : p ≠ b := fun e => by
          have := S3 _ _ g2p
          rw [e, hb3] at this
          have h := HO.lst.inj (Option.some.inj this)
          cases ys with
          | nil => cases h
          | cons y ys => injection h with h _; cases h
        have gp4 := k4 _ _ npb (S3 _ _ g2p)
        have ypos : 0 < ys.length := List.length_pos_iff.mpr c1
        have el : ((ys.map V.str).length : Int) = (ys.length : Nat) := by rw [List.length_map]
        refine ⟨_, rfl, D, rfl, .inl ⟨_, .inl (k4 _ _ nDb gD3)⟩, _, rfl, _, rfl, _, rfl, p, _, rfl, .inl (SqL.of gp4), b, _, _, rfl, B4, by omega, by omega, by omega, fun r2 H5 r0 r2l k5 B5 => ?_⟩
        obtain ⟨j, rfl⟩ := Int.eq_ofNat_of_zero_le r0
        have jl : j < ys.length := by rw [el] at r2l; omega
        have gp5 := k5 _ _ npb gp4
        have gD5 := k5 _ _ nDb (k4 _ _ nDb gD3)
        refine ⟨p, _, _, .str ys[j], rfl, rfl, SqL.of gp5, atI_nat (by rw [List.getElem?_map, List.getElem?_eq_getElem jl]; rfl), ?_⟩
        have inf : ys[j] ∈ fl.map (·.1) := pm.mem_iff.mp (List.getElem_mem jl)
        obtain ⟨salt, hs⟩ := mem_look inf
        rcases look_pair pf3 ys[j] with ⟨e1, _⟩ | ⟨x, v, e1, e2, _⟩
        · rw [hs] at e1
          cases e1
        obtain ⟨bx5, by5, bz5, hb4, _⟩ := B4
        have kf5 : KeepF H3 H5 := (KeepF.kp k4 hb3).trans (KeepF.kp k5 hb4)
        have kf6 := kf5.trans (KeepF.upd (u := .dK (dropK fs (Sum.inr ys[j]))) gD5)
        refine ⟨fs, .inr ys[j], v, gD5, rfl, e2, ⟨fl.filter fun e => decide (e.1 ≠ ys[j]), dropK fs (.inr ys[j]), upd_same, drop_pair (paired_imp (fun _ _ h => ⟨h.1, h.2.keep kf6⟩) pf3) ys[j], fun e he => (l9 e (List.mem_filter.mp he).1).1⟩, (B5.off nDb).up (by omega), ((k3.kp k4).kp k5).upd hD, tabsN_lock (tabsN_kp (tabsN_kp t3 hb3 k4) hb4 k5) gD5, _, _, _, rfl⟩
      · rintro σ H4 ⟨⟨fl, fs, gD4, pf4, l94⟩, B4, k4, t4, v4, v5, v6, rfl⟩
        exact ⟨_, rfl, fin D fl H4 k4 B4 t4 hD ⟨⟨fs, gD4, pf4⟩, l94⟩⟩
end
end L05
set_option Elab.async false
set_option linter.all false
set_option maxRecDepth 100000
set_option maxHeartbeats 4000000
set_option pp.deepTerms false
set_option pp.deepTerms.threshold 4
set_option pp.maxSteps 1000
namespace L05
open PySem L2 Tp
section
variable {P : Program} {w : World} {K : PySem.W.Frag} {mg : Str → Option Value} {base : Heap} {a : Ad} {d : Fd}
theorem item_at {H : Hp} {t e : Addr} (h1 : H t = some (.tup [.int 1, .int 2])) (h2 : H e = some (.lst [])) : ∀ i, i < 5 → ∃ v d, ([V.int 7, .str "v", .non, .ref t, .ref e] : List V)[i]? = some v ∧ Dq K H v d ∧ FitV 0 d
  | 0, _ => ⟨_, _, rfl, .int 7, by unfold FitQ; decide +kernel, by decide⟩
  | 1, _ => ⟨_, _, rfl, .str "v", by unfold FitQ; decide +kernel, by decide⟩
  | 2, _ => ⟨_, _, rfl, .non, by unfold FitQ; decide +kernel, by decide⟩
  | 3, _ => ⟨_, _, rfl, .tup (SqT.of h1) (.cons (.int 1) (.cons (.int 2) .nil)), by unfold FitQ; decide +kernel, by decide⟩
  | 4, _ => ⟨_, _, rfl, .lst (SqL.of h2) .nil, by unfold FitQ; decide +kernel, by decide⟩
def SmOk (sm : List (Str × List PyData)) : Prop := ∀ e ∈ sm, nmB e.1 = true ∧ e.2.length ≤ 6 ∧ ∀ d ∈ e.2, FitV 0 d
def spSamplesL (K : PySem.W.Frag) : Sp := fun vs H Q _ => ∃ (M : List Addr) (b q : Addr) (n : Nat) (rows : List BRow) (as : List Addr), vs = [.ref b, .ref q] ∧ Gr K H b q n rows as ∧ b ∈ M ∧ MutM M H ∧ n < 500000 ∧ rows.length ≤ 40 ∧
  ∀ S ss sm H', Kp b H H' → BoxAt b (n + 600) H' → H S = none → H' S = some (.dK ss) → Paired (EntS (SmpV K (offM M H'))) sm ss → SmOk sm → sm.length ≤ 40 → Q (.ref S) H'
theorem ok_samples (T : Txt K mg a d) : FnG P w K mg base CX0 2 a.samples d.samples ["_law_box_here", "_law_rows_here"] (spSamplesL K) := by
  have G_take := ok_take (P := P) (w := w) (base := base) T
  refine okG T.F_samples scSamples (fun vs H Q E h => ?_) (fun cdv A outer s H vs Q E hr hg h => ?_)
  · obtain ⟨M, b, q, n, rows, as, rfl, _⟩ := h
    rfl
  · obtain ⟨M, b, q, n, rows, as, rfl, g, mb, mu, hn, l40, fin⟩ := h
    refine ⟨_, (pss_cons (ps_set (i := 2) scSamples.nd rfl (Or.inl rfl) pe_dnewK)
      (pss_cons (ps_for PassesOwn.never rfl (pi_list (pv 1)) (pg_tup (by rfl) (pgs_cons (pg_name (i := 3) scSamples.nd rfl (Or.inl rfl)) (pgs_cons (pg_name (i := 4) scSamples.nd rfl (Or.inl rfl)) pgs_nil))) (pss_one (ps_if (PW.pt (pw_and (pt_val (pe_callB call_isi (by rfl) T.isinstance_ Tp.bt_isinstance (pa_cons (pv 4) (pa_cons (pe_bltn (v := .ty "int") (by rfl) T.int_ Tp.bt_int rfl) pa_nil)))) (pw_and1 (pt_cmpR (Tp.op_notInDk (Tp.hu1 hr)) (pv 3) (pv 2) (by rfl))))) (pss_cons (ps_set (i := 5) scSamples.nd rfl (Or.inl rfl) (pe_ix ix_list (pe_lst (pa_cons pe_int (pa_cons pe_int (pa_cons pe_int (pa_cons (Tp.pe_callG G_take (hr.mono (by decide)) hg (by rfl) T.mg_take T.F_take.kp T.b_take .nil pass0 (pa_cons (pv 0) (pa_cons pe_int pa_nil))) pa_nil))))) (Tp.pe_callG G_take (hr.mono (by decide)) hg (by rfl) T.mg_take T.F_take.kp T.b_take .nil pass0 (pa_cons (pv 0) (pa_cons pe_int pa_nil))) (fun _ _ => rfl)))
      (pss_cons (ps_setLc (i := 6) (own := [("_law_k", 8)]) (by rfl) scSamples.nd rfl rfl (sw_true rfl rfl rfl (by decide +kernel)) (pi_range1 (by rfl) T.range_ (pa_cons (pv 5) pa_nil)) (blkOk_by (own := [("_law_k", 8)]) (N := scSamples_N) (sc := defScope scSamples_st) (by decide +kernel)) (fun _ _ _ _ _ => (pg_name (i := 8) scSamples.nd rfl (Or.inl rfl))) (fun _ _ _ _ _ => pts_nil) (fun _ _ _ _ _ => (pe_ix (Tp.ix_listK (K := K) rfl) (pe_lst (pa_cons pe_int (pa_cons pe_str (pa_cons pe_non (pa_cons (pe_tup (pa_cons pe_int (pa_cons pe_int pa_nil))) (pa_cons (pe_lst pa_nil) pa_nil)))))) (Tp.pe_callG G_take (hr.mono (by decide)) hg (by rfl) T.mg_take T.F_take.kp T.b_take .nil pass0 (pa_cons (pv 0) (pa_cons pe_int pa_nil))) (fun _ _ => rfl))))
      (pss_one (ps_dput (Tp.hu1 hr) (pv 2) (pv 3) (pe_ix ix_list (pe_lst (pa_cons (pv 6) (pa_cons (pe_callTy call_tuple_of (by rfl) T.tuple_ Tp.bt_tuple (pa_cons (pv 6) pa_nil)) pa_nil))) (Tp.pe_callG G_take (hr.mono (by decide)) hg (by rfl) T.mg_take T.F_take.kp T.b_take .nil pass0 (pa_cons (pv 0) (pa_cons pe_int pa_nil))) (fun _ _ => rfl)) rfl)))) pss_nil)))
      (pss_cons (ps_set (i := 7) scSamples.nd rfl (Or.inl rfl) (pe_callB (call_sortedD rfl) (by rfl) T.sorted_ Tp.bt_sorted (pa_cons (pv 2) pa_nil)))
      (Evl.pss_cut (ps_if (PW.pt (pw_and (pt_cmpR (op_neD hr.units) (pv 7) (pe_lst pa_nil) (nomark _)) (pw_and1 (pt_cmpR op_eq (Tp.pe_callG G_take (hr.mono (by decide)) hg (by rfl) T.mg_take T.F_take.kp T.b_take .nil pass0 (pa_cons (pv 0) (pa_cons pe_int pa_nil))) pe_int (nomark _))))) (pss_one (ps_expr (pe_dpop1 (pv 2) (pe_ix ix_list (pv 7) (Tp.pe_callG G_take (hr.mono (by decide)) hg (by rfl) T.mg_take T.F_take.kp T.b_take .nil pass0 (pa_cons (pv 0) (pa_cons (pe_callB call_len_seq (by rfl) T.len_ Tp.bt_len (pa_cons (pv 7) pa_nil)) pa_nil))) (fun _ _ => rfl)) ⟨rfl, rfl, rfl, rfl⟩))) pss_nil)
      (pss_one (ps_ret (pv 2))))))), ?_⟩
    intro D hD
    have SD : Same H (upd H D (.dK [])) := same_new hD
    have nDb : D ≠ b := g.box.ne hD
    have nDM : D ∉ M := mu.new hD
    have ll : (as.map V.ref).length = rows.length := by rw [List.length_map]; exact (Paired.length g.row).symm
    have mu0 : MutM (D :: M) (upd H D (.dK [])) := fun z m => (List.mem_cons.mp m).elim (fun e => .inr ⟨[], by rw [e]; exact upd_same⟩) fun m => mu.same SD z m
    have muK : ∀ {H' H'' : Hp} {m : Nat}, MutM (D :: M) H' → Kp b H' H'' → BoxAt b m H'' → MutM (D :: M) H'' := fun mu k ⟨x, y, z, h, _⟩ => mu.kp k h
    refine ⟨_, rfl, q, rfl, ⟨_, SqL.of (SD _ _ g.lst)⟩, for_it (walk_list (xs := as.map V.ref)) (fun i σ H' => (∃ sm ss, H' D = some (.dK ss) ∧ Paired (EntS (SmpV K (offM (D :: M) H'))) sm ss ∧ SmOk sm ∧ sm.length ≤ i) ∧ Gr K H' b q (n + 10 * i) rows as ∧ Kp b H H' ∧ MutM (D :: M) H' ∧ ∃ v3 v4 v5 v6, σ = [some (.ref b), some (.ref q), some (.ref D), v3, v4, v5, v6, none, none]) ⟨⟨[], [], upd_same, .nil, (fun e h => by cases h), Nat.le_refl _⟩, g.same SD, Kp.new hD, mu0, _, _, _, _, rfl⟩ ?_ ?_ ?_⟩
    · rintro i σ H' _ ⟨_, g', _⟩
      exact SqL.of g'.lst
    · rintro i v σ _ H1 hi ⟨⟨sm, ss, gD, pf, so, lf⟩, g1, k1, mu1, v3, v4, v5, v6, rfl⟩ ⟨rfl, hv⟩
      rw [List.getElem?_map] at hv
      obtain ⟨pa, hpa, rfl⟩ := Option.map_eq_some_iff.mp hv
      obtain ⟨r, hr', rp⟩ := paired_rev g1.row hpa
      have rd := g1.good.nm r (List.mem_of_getElem? hr')
      have i40 : i < 40 := by omega
      rcases rp.inv with ⟨ns, bb, hsec, h1, h2⟩ | ⟨tt, hsec, h1⟩
      · refine ⟨pa, _, rfl, h1, rfl, _, _, rfl, _, _, rfl, rfl, ?_⟩
        exact ⟨_, rfl, _, _, _, _, false, rfl, .ty _, ty_sqT h2, kit_ty (by decide +kernel), _, rfl, iteF ⟨⟨sm, ss, gD, pf, so, by omega⟩, g1.up (by omega), k1, mu1, _, _, _, _, rfl⟩⟩
      refine ⟨pa, _, rfl, h1, rfl, _, _, rfl, _, _, rfl, rfl, ?_⟩
      refine ⟨_, rfl, _, _, _, _, true, rfl, .ty _, .base (.int _), kit_ty (by decide +kernel), _, rfl, iteT ?_⟩
      refine ⟨_, rfl, _, rfl, D, _, rfl, DGet.k (k := .inr r.nm) gD, _, rfl, ?_⟩
      rcases look_pair pf r.nm with ⟨e1, e2⟩ | ⟨x, v, e1, e2, _⟩
      rotate_left
      · rw [e2]
        exact iteF ⟨⟨sm, ss, gD, pf, so, by omega⟩, g1.up (by omega), k1, mu1, _, _, _, _, rfl⟩
      rw [e2]
      refine iteT ?_
      refine ⟨_, rfl, b, 6, _, rfl, g1.box, by omega, by decide, by decide, fun r1 H2 a1 b1 k2 B2 => ⟨(show 4 ≤ sizeLine from by decide), fun l hl => ?_⟩⟩
      have S3 : Same H2 (upd H2 l (.lst [V.int 5, V.int 5, V.int 6, V.int r1])) := same_new hl
      have gl3 : (upd H2 l (.lst [V.int 5, V.int 5, V.int 6, V.int r1])) l = some (.lst [V.int 5, V.int 5, V.int 6, V.int r1]) := upd_same
      generalize upd H2 l (.lst [V.int 5, V.int 5, V.int 6, V.int r1]) = H3 at S3 gl3 ⊢
      have B3 := B2.same S3
      have nlb : l ≠ b := B2.ne hl
      refine ⟨_, rfl, b, 4, _, rfl, B3, by omega, by decide, by decide, fun r2 H4 a2 b2 k4 B4 => ?_⟩
      have k24 : Kp b H1 H4 := (k2.same S3).trans k4
      obtain ⟨m, hm, m0, m6⟩ : ∃ m : Int, atI [V.int 5, V.int 5, V.int 6, V.int r1] r2 = some (.int m) ∧ 0 ≤ m ∧ m ≤ 6 := by
        rcases (show r2 = 0 ∨ r2 = 1 ∨ r2 = 2 ∨ r2 = 3 by omega) with rfl | rfl | rfl | rfl
        · exact ⟨5, rfl, by decide, by decide⟩
        · exact ⟨5, rfl, by decide, by decide⟩
        · exact ⟨6, rfl, by decide, by decide⟩
        · exact ⟨r1, rfl, by omega, by omega⟩
      refine ⟨l, _, _, _, rfl, rfl, SqL.of (k4 _ _ nlb gl3), hm, ?_⟩
      have g4 := g1.kp k24 (B4.up (show _ ≤ n + 10 * i + 2 by omega))
      have mu4 := muK mu1 k24 B4
      have gD4 := k24 _ _ nDb gD
      refine ⟨_, rfl, m, rfl, by omega, by omega, fun R hR => ?_⟩
      have nRb : R ≠ b := g4.box.ne hR
      have nRD : R ≠ D := fun e => by rw [e, gD4] at hR; cases hR
      have nRM := mu4.new hR
      have mu4' : MutM (R :: D :: M) (upd H4 R (.lst [])) := fun z m => (List.mem_cons.mp m).elim (fun e => .inl ⟨[], by rw [e]; exact upd_same⟩) fun m => mu4.same (same_new hR) z m
      refine lc_range (lo := 0) (n := m.toNat) (fun j H' => BoxAt b (n + 10 * i + 2 + j) H' ∧ Kp b H4 H' ∧ MutM (R :: D :: M) H' ∧ ∃ us ds, H' R = some (.lst us) ∧ DqAll K (offM (R :: D :: M) H') us ds ∧ us.length = j ∧ ∀ d ∈ ds, FitV 0 d) ⟨(g4.box.same (same_new hR)).up (by omega), Kp.new hR, mu4', [], [], upd_same, .nil, rfl, (fun d h => by cases h)⟩ ?_ ?_
      · rintro j H5 hj ⟨B5, k5, mu5, us, ds, gR, da, lu, fi⟩
        have j6 : j < 6 := by omega
        refine ⟨rfl, (show 2 ≤ sizeLine from by decide), fun t ht => ?_⟩
        have S6 := same_new (o := .tup [V.int 1, V.int 2]) ht
        have g6 : (upd H5 t (.tup [V.int 1, V.int 2])) t = some (.tup [V.int 1, V.int 2]) := upd_same
        generalize upd H5 t (.tup [V.int 1, V.int 2]) = H6 at S6 g6 ⊢
        refine ⟨Nat.zero_le _, fun e he => ?_⟩
        have S7 := same_new (o := .lst []) he
        have g7 : (upd H6 e (.lst [])) e = some (.lst []) := upd_same
        generalize upd H6 e (.lst []) = H7 at S7 g7 ⊢
        refine ⟨(show 5 ≤ sizeLine from by decide), fun o ho => ?_⟩
        have S8 := same_new (o := .lst [V.int 7, V.str "v", V.non, V.ref t, V.ref e]) ho
        have g8 : (upd H7 o (.lst [V.int 7, V.str "v", V.non, V.ref t, V.ref e])) o = some (.lst [V.int 7, V.str "v", V.non, V.ref t, V.ref e]) := upd_same
        generalize upd H7 o (.lst [V.int 7, V.str "v", V.non, V.ref t, V.ref e]) = H8 at S8 g8 ⊢
        have S58 := (S6.trans S7).trans S8
        have B8 := B5.same S58
        have nob : o ≠ b := (B5.same (S6.trans S7)).ne ho
        refine ⟨_, rfl, b, 5, _, rfl, B8, by omega, by decide, by decide, fun r3 H9 a3 b3 k9 B9 => ?_⟩
        obtain ⟨i3, rfl⟩ := Int.eq_ofNat_of_zero_le a3
        have mu8 := mu5.same S58
        have mR : b ∈ R :: D :: M := List.mem_cons_of_mem _ (List.mem_cons_of_mem _ mb)
        obtain ⟨v, d, hv, dv, fd⟩ := item_at (K := K) (H := offM (R :: D :: M) H8) (offM_get (mu5.new ht) (S8 _ _ (S7 _ _ g6))) (offM_get ((mu5.same S6).new he) (S8 _ _ g7)) i3 (by omega)
        have off9 : Same (offM (R :: D :: M) H8) (offM (R :: D :: M) H9) := offM_kp mR k9
        have gR9 := k9 _ _ nRb (S58 _ _ gR)
        refine ⟨o, _, _, v, rfl, rfl, SqL.of (k9 _ _ nob g8), atI_nat hv, _, gR9, Nat.lt_of_le_of_lt (show us.length ≤ 6 by omega) (by decide), (B9.off nRb).up (by omega), fun z o n h => ?_, fun z m => ?_, us ++ [v], ds ++ [d], upd_same, ?_, by rw [List.length_append, lu]; rfl, fun d' hd' => ?_⟩
        · rw [upd_ne (fun e => by rw [e, hR] at h; cases h)]
          exact k9 _ _ n (S58 _ _ (k5 _ _ n h))
        · by_cases e : z = R
          · rw [e]
            exact .inl ⟨_, upd_same⟩
          · rw [upd_ne e]
            obtain ⟨x9, y9, z9, h9, _⟩ := B9
            exact mu8.kp k9 h9 z m
        · have o2 : Same (offM (R :: D :: M) H9) (offM (R :: D :: M) (upd H9 R (.lst (us ++ [v])))) := offM_upd List.mem_cons_self
          exact dqAll_app ((dq_same (((offM_of S58).trans off9).trans o2)).2 da) (.cons ((dq_same (off9.trans o2)).1 dv) .nil)
        · rcases List.mem_append.mp hd' with hd' | hd'
          · exact fi d' hd'
          · rw [List.mem_singleton.mp hd']
            exact fd
      · rintro H5 ⟨B5, k5, mu5, us, ds, gR, da, lu, fi⟩
        have gD5 := k5 _ _ nDb gD4
        refine ⟨_, rfl, _, rfl, R, us, rfl, .inl ⟨SqL.of gR, fun T hT => ?_⟩⟩
        have S6 := same_new (o := .tup us) hT
        have g6 : (upd H5 T (.tup us)) T = some (.tup us) := upd_same
        generalize upd H5 T (.tup us) = H6 at S6 g6 ⊢
        refine ⟨(show 2 ≤ sizeLine from by decide), fun o ho => ?_⟩
        have S7 := same_new (o := .lst [V.ref R, V.ref T]) ho
        have g7 : (upd H6 o (.lst [V.ref R, V.ref T])) o = some (.lst [V.ref R, V.ref T]) := upd_same
        generalize upd H6 o (.lst [V.ref R, V.ref T]) = H7 at S7 g7 ⊢
        have S57 := S6.trans S7
        have nob : o ≠ b := (B5.same S6).ne ho
        have nTb : T ≠ b := B5.ne hT
        refine ⟨_, rfl, b, 2, _, rfl, B5.same S57, by omega, by decide, by decide, fun r3 H8 a3 b3 k8 B8 => ?_⟩
        have k58 : Kp b H5 H8 := fun z o n h => k8 _ _ n (S57 _ _ h)
        have gR8 := k58 _ _ nRb gR
        have gT8 := k8 _ _ nTb (S7 _ _ g6)
        have gD8 := k58 _ _ nDb gD5
        have nTM : T ∉ D :: M := fun m => mu5.new hT (List.mem_cons_of_mem _ m)
        have bDM : b ∈ D :: M := List.mem_cons_of_mem _ mb
        have da8 : DqAll K (offM (D :: M) H8) us ds := (dq_same ((offM_less fun z m => .inl (List.mem_cons_of_mem _ m)).trans (offM_kp bDM k58))).2 da
        have ld : us.length = ds.length := dqAll_len da
        obtain ⟨v, hv, sv⟩ : ∃ v, atI [V.ref R, V.ref T] r3 = some v ∧ SmpV K (offM (D :: M) H8) r.nm ds v := by
          rcases (show r3 = 0 ∨ r3 = 1 by omega) with rfl | rfl
          · exact ⟨_, rfl, R, false, us, rfl, SqL.of (offM_get nRM gR8), da8⟩
          · exact ⟨_, rfl, T, true, us, rfl, SqT.of (offM_get nTM gT8), da8⟩
        refine ⟨o, _, _, v, rfl, rfl, SqL.of (k8 _ _ nob g7), hv, ?_⟩
        have k18 : Kp b H1 H8 := fun z o n h => k58 _ _ n (k5 _ _ n (k24 _ _ n h))
        have o2 : Same (offM (D :: M) H8) (offM (D :: M) (upd H8 D (.dK (putK ss (.inr r.nm) v)))) := offM_upd List.mem_cons_self
        have lss : ss.length < 100 := by have := Paired.length pf; omega
        refine ⟨_, rfl, _, rfl, D, _, rfl, .inl ⟨ss, .inr r.nm, gD8, rfl, Nat.lt_trans lss (by decide), rfl⟩, ⟨sm ++ [(r.nm, ds)], ss ++ [(.inr r.nm, v)], ?_, ?_, ?_, ?_⟩, ?_, ?_, ?_, _, _, _, _, rfl⟩
        · rw [upd_same, putK_new _ e2]
        · exact paired_snoc (paired_imp (fun _ _ h => ⟨h.1, h.2.same ((offM_kp bDM k18).trans o2)⟩) pf) ⟨rfl, sv.same o2⟩
        · intro e he
          rcases List.mem_append.mp he with he | he
          · exact so e he
          · rw [List.mem_singleton.mp he]
            exact ⟨rd, by show ds.length ≤ 6; omega, fi⟩
        · rw [List.length_append]
          exact Nat.succ_le_succ lf
        · exact ((g1.kp k18 B8).updD gD8 nDb).up (by omega)
        · exact fun z o n h => by
            rw [upd_ne (fun e => by rw [e, hD] at h; cases h)]
            exact k18 _ _ n (k1 _ _ n h)
        · exact fun z m => by
            by_cases e : z = D
            · rw [e]
              exact .inr ⟨_, upd_same⟩
            · rw [upd_ne e]
              exact muK mu1 k18 B8 z m
    · rintro σ H1 ⟨⟨sm, ss, gD, pf, so, lf⟩, g1, k1, mu1, v3, v4, v5, v6, rfl⟩
      have bDM : b ∈ D :: M := List.mem_cons_of_mem _ mb
      have lk : (sm.map (·.1)).length < 64 := by rw [List.length_map]; omega
      refine ⟨_, rfl, D, ss, _, rfl, .inl gD, keys_pair pf, lk, fun ys p pm _ hp => ?_⟩
      have S2 : Same H1 (upd H1 p (.lst (ys.map V.str))) := same_new hp
      have g2p : (upd H1 p (.lst (ys.map V.str))) p = some (.lst (ys.map V.str)) := upd_same
      generalize upd H1 p (.lst (ys.map V.str)) = H2 at S2 g2p ⊢
      refine ⟨fun σ H4 => (∃ sm ss, H4 D = some (.dK ss) ∧ Paired (EntS (SmpV K (offM (D :: M) H4))) sm ss ∧ SmOk sm ∧ sm.length ≤ 40) ∧ BoxAt b (n + 600) H4 ∧ Kp b H H4 ∧ ∃ v3 v4 v5 v6 v7, σ = [some (.ref b), some (.ref q), some (.ref D), v3, v4, v5, v6, v7, none], ?_, ?_⟩
      · refine ⟨_, rfl, Nat.zero_le _, fun e0 he0 => ?_⟩
        have S3 := same_new (o := .lst []) he0
        have g3 : (upd H2 e0 (.lst [])) e0 = some (.lst []) := upd_same
        generalize upd H2 e0 (.lst []) = H3 at S3 g3 ⊢
        have S13 := S2.trans S3
        have gD3 := S13 _ _ gD
        have gg3 := g1.same S13
        have pf3 : Paired (EntS (SmpV K (offM (D :: M) H3))) sm ss := paired_imp (fun _ _ h => ⟨h.1, h.2.same (offM_of S13)⟩) pf
        have k3 : Kp b H H3 := k1.same S13
        have done : ∀ {H4 : Hp}, Kp b H3 H4 → BoxAt b (n + 600) H4 → (∃ sm ss, H4 D = some (.dK ss) ∧ Paired (EntS (SmpV K (offM (D :: M) H4))) sm ss ∧ SmOk sm ∧ sm.length ≤ 40) ∧ BoxAt b (n + 600) H4 ∧ Kp b H H4 ∧ ∃ v3' v4' v5' v6' v7', [some (.ref b), some (.ref q), some (.ref D), v3, v4, v5, v6, some (.ref p), none] = [some (.ref b), some (.ref q), some (.ref D), v3', v4', v5', v6', v7', none] := fun k B =>
          ⟨⟨sm, ss, k _ _ nDb gD3, paired_imp (fun _ _ h => ⟨h.1, h.2.same (offM_kp bDM k)⟩) pf3, so, by omega⟩, B, (fun z o n h => k _ _ n (k3 _ _ n h)), _, _, _, _, _, rfl⟩
        have ysn : ∀ y ∈ ys, nmB y = true := fun y hy => by
          obtain ⟨e, he, rfl⟩ := List.mem_map.mp (pm.mem_iff.mp hy)
          exact (so e he).1
        have yl : ys.length < 64 := by rw [pm.length_eq]; exact lk
        refine ⟨.list (ys.map PyData.str), .list [], .lst (SqL.of (S3 _ _ g2p)) (strs_dp ys), .lst (SqL.of g3) .nil, strs_shaped ysn, by decide +kernel, _, rfl, ?_⟩
        rw [ne_nil_strs]
        refine if2 (fun c1 => ?_) (fun c1 => done (Kp.refl _ _) (gg3.box.up (by omega)))
        obtain ⟨bx, by_, bz, hb3, _⟩ := gg3.box
        refine ⟨_, rfl, b, 8, _, rfl, gg3.box, by omega, by decide, by decide, fun r1 H4 _ _ k4 B4 => ⟨rfl, _, rfl, if2 (fun c2 => ?_) (fun c2 => done k4 (B4.up (by omega)))⟩⟩
        have npb : p ≠ b := fun e => by
          have := S3 _ _ g2p
          rw [e, hb3] at this
          have h := HO.lst.inj (Option.some.inj this)
          cases ys with
          | nil => cases h
          | cons y ys => injection h with h _; cases h
        have gp4 := k4 _ _ npb (S3 _ _ g2p)
        have ypos : 0 < ys.length := List.length_pos_iff.mpr c1
        have el : ((ys.map V.str).length : Int) = (ys.length : Nat) := by rw [List.length_map]
        refine ⟨_, rfl, D, rfl, .inl ⟨_, .inl (k4 _ _ nDb gD3)⟩, _, rfl, _, rfl, _, rfl, p, _, rfl, .inl (SqL.of gp4), b, _, _, rfl, B4, by omega, by omega, by omega, fun r2 H5 r0 r2l k5 B5 => ?_⟩
        obtain ⟨j, rfl⟩ := Int.eq_ofNat_of_zero_le r0
        have jl : j < ys.length := by rw [el] at r2l; omega
        have gp5 := k5 _ _ npb gp4
        have gD5 := k5 _ _ nDb (k4 _ _ nDb gD3)
        refine ⟨p, _, _, .str ys[j], rfl, rfl, SqL.of gp5, atI_nat (by rw [List.getElem?_map, List.getElem?_eq_getElem jl]; rfl), ?_⟩
        have inf : ys[j] ∈ sm.map (·.1) := pm.mem_iff.mp (List.getElem_mem jl)
        obtain ⟨salt, hs⟩ := mem_look inf
        rcases look_pair pf3 ys[j] with ⟨e1, _⟩ | ⟨x, v, e1, e2, _⟩
        · rw [hs] at e1
          cases e1
        have k35 : Kp b H3 H5 := fun z o n h => k5 _ _ n (k4 _ _ n h)
        have o2 : Same (offM (D :: M) H5) (offM (D :: M) (upd H5 D (.dK (dropK ss (Sum.inr ys[j]))))) := offM_upd List.mem_cons_self
        refine ⟨ss, .inr ys[j], v, gD5, rfl, e2, ⟨sm.filter fun e => decide (e.1 ≠ ys[j]), dropK ss (.inr ys[j]), upd_same, drop_pair (paired_imp (fun _ _ h => ⟨h.1, h.2.same ((offM_kp bDM k35).trans o2)⟩) pf3) ys[j], fun e he => so e (List.mem_filter.mp he).1, Nat.le_trans (List.length_filter_le _ _) (by omega)⟩, (B5.off nDb).up (by omega), (fun z o n h => by
          rw [upd_ne (fun e => by rw [e, hD] at h; cases h)]
          exact k35 _ _ n (k3 _ _ n h)), _, _, _, _, _, rfl⟩
      · rintro σ H4 ⟨⟨sm, ss, gD4, pf4, so4, l4⟩, B4, k4, v3, v4, v5, v6, v7, rfl⟩
        exact ⟨_, rfl, fin D ss sm H4 k4 B4 hD gD4 (paired_imp (fun _ _ h => ⟨h.1, h.2.same (offM_less fun z m => .inl (List.mem_cons_of_mem _ m))⟩) pf4) so4 l4⟩
end
end L05
set_option Elab.async false
set_option linter.all false
set_option maxRecDepth 100000
set_option maxHeartbeats 4000000
set_option pp.deepTerms false
set_option pp.deepTerms.threshold 4
set_option pp.maxSteps 1000
namespace L05
open PySem L2 Tp
section
variable {P : Program} {w : World} {K : PySem.W.Frag} {mg : Str → Option Value} {base : Heap} {a : Ad} {d : Fd}
def dueV : Option Due → List V
  | none => [.str "value"]
  | some (.sym nm) => [.str "symbol", .str nm]
  | some (.smp nm t) => [.str "sample", .str nm, .int (t : Nat)]
abbrev AnyR : Str → Nat → V → Prop := fun _ _ _ => True
def spDueL (K : PySem.W.Frag) : Sp := fun vs H Q _ => ∃ (q pl MM S : Addr) (rows : List BRow) (as : List Addr) (n : Nat) (fl : List (Str × Nat)) (ms : List (Key × V)) (sm : List (Str × List PyData)) (ss : List (Key × V)), vs = [.ref q, .ref pl, .ref MM, .ref S] ∧ H q = some (.lst (as.map V.ref)) ∧ Paired (RowAt K H) rows as ∧ H pl = some (.lst (numsV (partsR rows n))) ∧ n < rows.length ∧
  H MM = some (.dK ms) ∧ Paired (EntS AnyR) fl ms ∧ H S = some (.dK ss) ∧ Paired (EntS (SmpV K H)) sm ss ∧
  ∀ r H', Same H H' → H r = none → H' r = some (.lst (dueV (firstDue (fnB fl) (lkS sm) rows n))) → Q (.ref r) H'
theorem ok_due (T : Txt K mg a d) : FnG P w K mg base CX0 1 a.due d.due ["_law_rows_here", "_law_parts_here", "_law_meaning_here", "_law_given"] (spDueL K) := by
  refine okG T.F_due scDue (fun vs H Q E h => ?_) (fun cdv A outer s H vs Q E hr hg h => ?_)
  · obtain ⟨q, pl, MM, S, rows, as, n, fl, ms, sm, ss, rfl, _⟩ := h
    rfl
  · obtain ⟨q, pl, MM, S, rows, as, n, fl, ms, sm, ss, rfl, gq, pr, gp, hn, gM, pm, gS, ps, fin⟩ := h
    refine ⟨_, (pss_cons (ps_for PassesOwn.never rfl (pi_list (pv 1)) (pg_name (i := 4) scDue.nd rfl (Or.inl rfl)) (pss_cons (ps_asg (pe_ix ix_list (pv 0) (pv 4) (fun _ _ => rfl)) (pg_tup (by rfl) (pgs_cons (pg_name (i := 5) scDue.nd rfl (Or.inl rfl)) (pgs_cons (pg_name (i := 6) scDue.nd rfl (Or.inl rfl)) pgs_nil))))
      (pss_cons (ps_if (PW.pt (pw_and (pt_val (pe_callB call_isi (by rfl) T.isinstance_ Tp.bt_isinstance (pa_cons (pv 6) (pa_cons (pe_bltn (v := .ty "tuple") (by rfl) T.tuple_ Tp.bt_tuple rfl) pa_nil)))) (pw_and1 (pt_cmpR (Tp.op_notInDk (Tp.hu1 hr)) (pv 5) (pv 2) (by rfl))))) (pss_one (ps_ret (pe_lst (pa_cons pe_str (pa_cons (pv 5) pa_nil))))) pss_nil)
      (pss_one (ps_if (PW.pt (pw_and (pt_val (pe_callB call_isi (by rfl) T.isinstance_ Tp.bt_isinstance (pa_cons (pv 6) (pa_cons (pe_bltn (v := .ty "int") (by rfl) T.int_ Tp.bt_int rfl) pa_nil)))) (pw_and1 (PW.pt (pw_or (pt_cmpR (Tp.op_notInDk (Tp.hu1 hr)) (pv 5) (pv 3) (by rfl)) (pw_or1 (pt_cmpR op_ge (pv 6) (pe_callB call_len_seq (by rfl) T.len_ Tp.bt_len (pa_cons (pe_dget (Tp.hu1 hr) (pv 3) (pv 5) (fun _ _ => rfl)) pa_nil)) (nomark _)))))))) (pss_one (ps_ret (pe_lst (pa_cons pe_str (pa_cons (pv 5) (pa_cons (pv 6) pa_nil)))))) pss_nil)))))
      (pss_one (ps_ret (pe_lst (pa_cons pe_str pa_nil))))), ?_⟩
    refine ⟨_, rfl, pl, rfl, ⟨_, SqL.of gp⟩, for_it (walk_list (xs := numsV (partsR rows n))) (fun i σ H' => H' = H ∧ (∀ y ∈ (partsR rows n).take i, dueP (fnB fl) (lkS sm) rows y = none) ∧ ∃ v4 v5 v6, σ = [some (.ref q), some (.ref pl), some (.ref MM), some (.ref S), v4, v5, v6]) ⟨rfl, (fun y h => by cases h), _, _, _, rfl⟩ ?_ ?_ ?_⟩
    · rintro i σ H' _ ⟨rfl, _⟩
      exact SqL.of gp
    · rintro i v σ _ H' hi ⟨rfl, nb, v4, v5, v6, rfl⟩ ⟨rfl, hv⟩
      unfold numsV at hv
      rw [List.getElem?_map] at hv
      obtain ⟨p, hp, rfl⟩ := Option.map_eq_some_iff.mp hv
      have hpn := (parts_mem.mp (List.mem_of_getElem? hp)).1
      have hpr : p < rows.length := by omega
      have er : rows[p]? = some rows[p] := List.getElem?_eq_getElem hpr
      obtain ⟨pa, hpa, rp⟩ := Tp.paired_get pr er
      have hat : atI (as.map V.ref) ((p : Nat) : Int) = some (.ref pa) := atI_nat (by rw [List.getElem?_map, hpa]; rfl)
      have ed : dueP (fnB fl) (lkS sm) rows p = dueR (fnB fl) (lkS sm) rows[p] := by unfold dueP; rw [er]; rfl
      generalize rows[p] = r at er rp ed
      have nx : dueR (fnB fl) (lkS sm) r = none → ∀ y ∈ (partsR rows n).take (i + 1), dueP (fnB fl) (lkS sm) rows y = none := fun e y hy => by
        rw [take_succ hp] at hy
        rcases List.mem_append.mp hy with hy | hy
        · exact nb y hy
        · rw [List.mem_singleton.mp hy, ed]
          exact e
      have dn : ∀ d, dueR (fnB fl) (lkS sm) r = some d → firstDue (fnB fl) (lkS sm) rows n = some d := fun d e => findSome_at hp nb (ed.trans e)
      refine ⟨_, rfl, _, rfl, q, _, _, _, rfl, rfl, SqL.of gq, hat, ?_⟩
      rcases rp.inv with ⟨ns, bb, hsec, h1, h2⟩ | ⟨tt, hsec, h1⟩
      · refine ⟨pa, _, rfl, h1, rfl, _, _, rfl, _, _, rfl, rfl, ?_⟩
        refine ⟨_, rfl, _, _, _, _, true, rfl, .ty _, ty_sqT h2, kit_ty (by decide +kernel), _, rfl, iteT ?_⟩
        refine ⟨_, rfl, _, rfl, MM, _, rfl, DGet.k (k := .inr r.nm) gM, _, rfl, ?_⟩
        rcases look_pair pm r.nm with ⟨e1, e2⟩ | ⟨x, v, e1, e2, _⟩
        · rw [e2]
          refine iteT ⟨_, rfl, (show 2 ≤ sizeLine from by decide), fun l hl => fin l _ (same_new hl) hl ?_⟩
          rw [dn (.sym r.nm) (by unfold dueR fnB; rw [hsec, e1]; rfl)]
          exact upd_same
        · rw [e2]
          refine iteF ?_
          exact ⟨_, rfl, _, _, _, _, false, rfl, .ty _, ty_sqT h2, kit_ty (by decide +kernel), _, rfl, iteF ⟨rfl, nx (by unfold dueR fnB; rw [hsec, e1]; rfl), _, _, _, rfl⟩⟩
      · refine ⟨pa, _, rfl, h1, rfl, _, _, rfl, _, _, rfl, rfl, ?_⟩
        refine ⟨_, rfl, _, _, _, _, false, rfl, .ty _, .base (.int _), kit_ty (by decide +kernel), _, rfl, iteF ?_⟩
        refine ⟨_, rfl, _, _, _, _, true, rfl, .ty _, .base (.int _), kit_ty (by decide +kernel), _, rfl, iteT ?_⟩
        refine ⟨_, rfl, _, rfl, S, _, rfl, DGet.k (k := .inr r.nm) gS, _, rfl, ?_⟩
        have eD : dueR (fnB fl) (lkS sm) r = match lkS sm r.nm with | some ds => if tt < ds.length then none else some (Due.smp r.nm tt) | none => some (Due.smp r.nm tt) := by
          unfold dueR
          rw [hsec]
          all_goals rfl
        rcases look_pair ps r.nm with ⟨e1, e2⟩ | ⟨ds, v, e1, e2, s, c, xs, rfl, sq, da⟩
        · rw [e2]
          rw [e1] at eD
          refine iteT ⟨_, rfl, _, rfl, (show 3 ≤ sizeLine from by decide), fun l hl => fin l _ (same_new hl) hl ?_⟩
          rw [dn (.smp r.nm tt) eD]
          exact upd_same
        · rw [e2]
          rw [e1] at eD
          have ll := dqAll_len da
          have eD : dueR (fnB fl) (lkS sm) r = if tt < ds.length then none else some (Due.smp r.nm tt) := eD
          refine iteF ⟨_, rfl, _, rfl, _, rfl, S, .ref s, rfl, .inl ⟨ss, .inr r.nm, .inl gS, rfl, e2.symm⟩, s, xs, rfl, sqB_len sq, _, _, rfl, rfl, _, rfl, ?_⟩
          by_cases c1 : tt < ds.length
          · rw [if_pos c1] at eD
            exact ifN (by omega) ⟨rfl, nx eD, _, _, _, rfl⟩
          · rw [if_neg c1] at eD
            refine ifY (by omega) ⟨_, rfl, _, rfl, (show 3 ≤ sizeLine from by decide), fun l hl => fin l _ (same_new hl) hl ?_⟩
            rw [dn (.smp r.nm tt) eD]
            exact upd_same
    · rintro σ H' ⟨rfl, nb, v4, v5, v6, rfl⟩
      rw [numsV_len, List.take_length] at nb
      refine ⟨(show 1 ≤ sizeLine from by decide), fun l hl => fin l _ (same_new hl) hl ?_⟩
      rw [show firstDue (fnB fl) (lkS sm) rows n = none from List.findSome?_eq_none_iff.mpr nb]
      exact upd_same
end
end L05
set_option Elab.async false
set_option linter.all false
set_option maxRecDepth 100000
set_option maxHeartbeats 4000000
set_option pp.deepTerms false
set_option pp.deepTerms.threshold 4
set_option pp.maxSteps 1000
namespace L05
open PySem L2 Tp
section
variable {P : Program} {w : World} {K : PySem.W.Frag} {mg : Str → Option Value} {base : Heap} {a : Ad} {d : Fd}
def spWalkedL (P : Program) (w : World) (K : PySem.W.Frag) (mg : Str → Option Value) (base : Heap) (a : Ad) : Sp := fun vs H Q _ => ∃ (M : List Addr) (L q pl MM S : Addr) (rows : List BRow) (as : List Addr) (cs : List V) (n : Nat) (fl : List (Str × Nat)) (sm : List (Str × List PyData)) (ss : List (Key × V)) (vf : Nat → PyData), vs = [.ref q, .ref pl, .ref MM, .ref S] ∧ offM M H q = some (.lst (as.map V.ref)) ∧ Paired (RowAt K (offM M H)) rows as ∧ offM M H pl = some (.lst (numsV (partsR rows n))) ∧ GoodB rows ∧ n < rows.length ∧ rows.length ≤ 40 ∧
  L ∈ M ∧ MutM M H ∧ H L = some (.lst cs) ∧ cs.length ≤ 900 ∧ MeanA P w K mg base (offM M H) L MM fl ∧ offM M H S = some (.dK ss) ∧ Paired (EntS (SmpV K (offM M H))) sm ss ∧ firstDue (fnB fl) (lkS sm) rows n = none ∧ FTabG rows (gV (saltF fl) (lkS sm)) vf ∧
  ∀ v t C H' new cs2, Kp L H H' → H' L = some (.lst (cs ++ new)) → new.length ≤ 40 → H' t = some (.tup [v, .ref C]) → t ∉ M → C ∉ M → H' C = some (.lst cs2) → DqAll K (offM M H') cs2 (callsD rows vf (partsR rows n)) → Dq K (offM M H') v (vf n) → Q (.ref t) H'
theorem ok_walked (T : Txt K mg a d) : FnG P w K mg base CX0 5 a.walked d.walked ["_law_rows_here", "_law_parts_here", "_law_plain", "_law_given"] (spWalkedL P w K mg base a) := by
  refine okG T.F_walked scWalked (fun vs H Q E h => ?_) (fun cdv A outer s H vs Q E hr hg h => ?_)
  · obtain ⟨M, L, q, pl, MM, S, rows, as, cs, n, fl, sm, ss, vf, rfl, _⟩ := h
    rfl
  · obtain ⟨M, L, q, pl, MM, S, rows, as, cs, n, fl, sm, ss, vf, rfl, gq, pr, gp, gd, hn, l40, mL, mu, gL, lc, mn, gS, pS, hdu, ft, fin⟩ := h
    refine ⟨_, (pss_cons (ps_asg (pe_tup (pa_cons pe_dnewK (pa_cons (pe_lst pa_nil) pa_nil))) (pg_tup (by rfl) (pgs_cons (pg_name (i := 4) scWalked.nd rfl (Or.inr rfl)) (pgs_cons (pg_name (i := 5) scWalked.nd rfl (Or.inl rfl)) pgs_nil))))
      (pss_cons (ps_for PassesOwn.never rfl (pi_list (pv 1)) (pg_name (i := 6) scWalked.nd rfl (Or.inl rfl)) (pss_cons (ps_asg (pe_ix ix_list (pv 0) (pv 6) (fun _ _ => rfl)) (pg_tup (by rfl) (pgs_cons (pg_name (i := 7) scWalked.nd rfl (Or.inl rfl)) (pgs_cons (pg_name (i := 8) scWalked.nd rfl (Or.inl rfl)) pgs_nil))))
      (pss_one (ps_if (pt_val (pe_callB call_isi (by rfl) T.isinstance_ Tp.bt_isinstance (pa_cons (pv 8) (pa_cons (pe_bltn (v := .ty "int") (by rfl) T.int_ Tp.bt_int rfl) pa_nil)))) (pss_one (ps_dput (Tp.hu1 hr) (pv 4) (pv 6) (pe_ix ix_seq (pe_dget (Tp.hu1 hr) (pv 3) (pv 7) (fun _ _ => rfl)) (pv 8) (fun _ _ => rfl)) rfl)) (pss_cons (ps_setLc (i := 9) (own := [("_law_one", 10)]) (by rfl) scWalked.nd rfl rfl (sw_true rfl rfl rfl (by decide +kernel)) (pi_tup (pv 8)) (blkOk_by (own := [("_law_one", 10)]) (N := scWalked_N) (sc := defScope scWalked_st) (by decide +kernel)) (fun _ _ _ _ _ => (pg_name (i := 10) scWalked.nd rfl (Or.inl rfl))) (fun _ _ _ _ _ => pts_nil) (fun _ _ _ _ _ => (pe_dget (Tp.hu1 hr) (pv 4) (pv 10) (fun _ _ => rfl))))
      (pss_cons (ps_expr (pe_bm PySem.F.plainAttrs_list PySem.F.slot_list_append PySem.F.type_list_append mt_append (pv 5) (pa_cons (pe_tup (pa_cons (pv 7) (pa_cons (pv 9) pa_nil))) pa_nil)))
      (pss_one (ps_dput (Tp.hu1 hr) (pv 4) (pv 6) (Tp.pe_callFN (j := 2) (hr.mono (by decide)) (pe_dget (Tp.hu1 hr) (pv 2) (pv 7) (fun _ _ => rfl)) (pa_cons (pv 9) pa_nil)) rfl))))))))
      (pss_one (ps_ret (pe_tup (pa_cons (pe_dget (Tp.hu1 hr) (pv 4) (pe_ix ix_list (pv 1) (pe_un un_neg pe_int) (fun _ _ => rfl)) (fun _ _ => rfl)) (pa_cons (pv 5) pa_nil))))))), ?_⟩
    obtain ⟨ms, hM, pm⟩ := mn.ms
    have nb : ∀ y ∈ partsR rows n, dueP (fnB fl) (lkS sm) rows y = none := List.findSome?_eq_none_iff.mp hdu
    intro KD hKD
    have S1 : Same H (upd H KD (.dK [])) := same_new hKD
    have gK1 : (upd H KD (.dK [])) KD = some (.dK (tabK (fun _ => .non) [])) := upd_same
    generalize upd H KD (.dK []) = H1 at S1 gK1 ⊢
    refine ⟨Nat.zero_le _, fun C hC => ?_⟩
    have S2 := same_new (o := .lst []) hC
    have g2 : (upd H1 C (.lst [])) C = some (.lst []) := upd_same
    generalize upd H1 C (.lst []) = H2 at S2 g2 ⊢
    refine ⟨(show 2 ≤ sizeLine from by decide), fun t ht => ?_⟩
    have S3 := same_new (o := .tup [V.ref KD, V.ref C]) ht
    have g3 : (upd H2 t (.tup [V.ref KD, V.ref C])) t = some (.tup [V.ref KD, V.ref C]) := upd_same
    generalize upd H2 t (.tup [V.ref KD, V.ref C]) = H3 at S3 g3 ⊢
    refine ⟨t, _, rfl, SqT.of g3, rfl, _, _, rfl, _, _, rfl, rfl, ?_⟩
    have S13 := S1.trans (S2.trans S3)
    have B0 : Same (offM M H) H := offM_to
    have gK3 := S3 _ _ (S2 _ _ gK1)
    have gC3 := S3 _ _ g2
    have nKM : KD ∉ M := mu.new hKD
    have nCM : C ∉ M := (mu.same S1).new hC
    have nKC : KD ≠ C := fun e => by rw [← e, gK1] at hC; cases hC
    have nKL : KD ≠ L := fun e => nKM (by rw [e]; exact mL)
    have nCL : C ≠ L := fun e => nCM (by rw [e]; exact mL)
    have gL3 := S13 _ _ gL
    have nn : ∀ {z : Addr} {o : HO}, H z = some o → z ≠ KD ∧ z ≠ C := fun {z o} h => ⟨fun e => (by rw [e, hKD] at h; cases h), fun e => (by rw [e] at h; rw [S1 _ _ h] at hC; cases hC)⟩
    have gp3 := S13 _ _ (B0 _ _ gp)
    refine ⟨_, rfl, pl, rfl, ⟨_, SqL.of gp3⟩, for_it (walk_list (xs := numsV (partsR rows n))) (fun i σ H4 => (∃ f new cs2, H4 KD = some (.dK (tabK f ((partsR rows n).take i))) ∧ H4 L = some (.lst (cs ++ new)) ∧ H4 C = some (.lst cs2) ∧ (∀ y ∈ (partsR rows n).take i, Dq K (offM (KD :: C :: M) H4) (f y) (vf y)) ∧ DqAll K (offM (KD :: C :: M) H4) cs2 (callsD rows vf ((partsR rows n).take i)) ∧ new.length ≤ i ∧ cs2.length ≤ i) ∧ (∀ z o, z ≠ KD → z ≠ C → z ≠ L → H z = some o → H4 z = some o) ∧ ∃ v6 v7 v8 v9, σ = [some (.ref q), some (.ref pl), some (.ref MM), some (.ref S), some (.ref KD), some (.ref C), v6, v7, v8, v9, none]) ⟨⟨_, [], [], gK3, by rw [List.append_nil]; exact gL3, gC3, (fun y h => by cases h), .nil, Nat.zero_le _, Nat.zero_le _⟩, (fun z o _ _ _ h => S13 _ _ h), _, _, _, _, rfl⟩ ?_ ?_ ?_⟩
    · rintro i σ H4 _ ⟨_, k, _⟩
      have h := B0 _ _ gp
      exact SqL.of (k _ _ (nn h).1 (nn h).2 (fun e => offM_nin gp (by rw [e]; exact mL)) h)
    · rintro i v σ _ H4 hi ⟨⟨f, new, cs2, gK4, gL4, gC4, df, dc2, ln, l2⟩, k4, v6, v7, v8, v9, rfl⟩ ⟨rfl, hv⟩
      unfold numsV at hv
      rw [List.getElem?_map] at hv
      obtain ⟨p, hp, rfl⟩ := Option.map_eq_some_iff.mp hv
      have hpn := (parts_mem.mp (List.mem_of_getElem? hp)).1
      have hpr : p < rows.length := by omega
      have er : rows[p]? = some rows[p] := List.getElem?_eq_getElem hpr
      have lpn := parts_len rows n
      have i40 : i ≤ 40 := by
        have := (List.getElem?_eq_some_iff.mp hp).1
        omega
      have fr4 : Same (offM M H) H4 := fun z o h => by
        have h' := B0 _ _ h
        exact k4 z o (nn h').1 (nn h').2 (fun e => offM_nin h (by rw [e]; exact mL)) h'
      have mu4 : MutM (KD :: C :: M) H4 := fun z m => by
        by_cases e1 : z = KD
        · rw [e1]
          exact .inr ⟨_, gK4⟩
        · by_cases e2 : z = C
          · rw [e2]
            exact .inl ⟨_, gC4⟩
          · by_cases e3 : z = L
            · rw [e3]
              exact .inl ⟨_, gL4⟩
            · have m := (List.mem_cons.mp ((List.mem_cons.mp m).resolve_left e1)).resolve_left e2
              exact (mu z m).imp (fun ⟨xs, h⟩ => ⟨xs, k4 _ _ e1 e2 e3 h⟩) fun ⟨kvs, h⟩ => ⟨kvs, k4 _ _ e1 e2 e3 h⟩
      have off4 : Same (offM M H) (offM (KD :: C :: M) H4) := fun z o h => offM_get (fun m => by
        have h' := B0 _ _ h
        exact (List.mem_cons.mp m).elim (nn h').1 fun m => (List.mem_cons.mp m).elim (nn h').2 (offM_nin h)) (fr4 _ _ h)
      have mLK : L ∈ KD :: C :: M := List.mem_cons_of_mem _ (List.mem_cons_of_mem _ mL)
      obtain ⟨pa, hpa, rp⟩ := Tp.paired_get (paired_imp (fun _ _ h => h.same fr4) pr) er
      have a3 : (rows[p]).args.length ≤ 3 := gd.few _ (List.getElem_mem hpr)
      have nd := nb p (List.mem_of_getElem? hp)
      have ed : dueP (fnB fl) (lkS sm) rows p = dueR (fnB fl) (lkS sm) rows[p] := by unfold dueP; rw [er]; rfl
      rw [ed] at nd
      have fp := ft p _ er
      have hat : atI (as.map V.ref) ((p : Nat) : Int) = some (.ref pa) := atI_nat (by rw [List.getElem?_map, hpa]; rfl)
      have put : ∀ (v : V) (H5 : Hp) (new' cs2' : List V), Dq K (offM (KD :: C :: M) H5) v (vf p) → H5 KD = some (.dK (tabK f ((partsR rows n).take i))) → H5 L = some (.lst (cs ++ new')) → H5 C = some (.lst cs2') → Same (offM (KD :: C :: M) H4) (offM (KD :: C :: M) H5) → (∀ z o, z ≠ KD → z ≠ C → z ≠ L → H4 z = some o → H5 z = some o) → DqAll K (offM (KD :: C :: M) H5) cs2' (callsD rows vf ((partsR rows n).take (i + 1))) → new'.length ≤ i + 1 → cs2'.length ≤ i + 1 →
          ∃ H6, DPut H5 KD (.int ((p : Nat) : Int)) v H6 ∧ (∃ f new cs2, H6 KD = some (.dK (tabK f ((partsR rows n).take (i + 1)))) ∧ H6 L = some (.lst (cs ++ new)) ∧ H6 C = some (.lst cs2) ∧ (∀ y ∈ (partsR rows n).take (i + 1), Dq K (offM (KD :: C :: M) H6) (f y) (vf y)) ∧ DqAll K (offM (KD :: C :: M) H6) cs2 (callsD rows vf ((partsR rows n).take (i + 1))) ∧ new.length ≤ i + 1 ∧ cs2.length ≤ i + 1) ∧ (∀ z o, z ≠ KD → z ≠ C → z ≠ L → H z = some o → H6 z = some o) := by
        intro v H5 new' cs2' dv gV5 gL5 gC5 S45 k5 dn5 ln5 lc5
        have nin := take_new (parts_nodup rows n) hp
        have eq1 : tabK f ((partsR rows n).take i) = tabK (fun y => if y = p then v else f y) ((partsR rows n).take i) := by
          unfold tabK
          refine List.map_congr_left fun y hy => ?_
          show (Sum.inl ((y : Nat) : Int), f y) = (Sum.inl ((y : Nat) : Int), if y = p then v else f y)
          rw [if_neg (fun e => nin (by rw [← e]; exact hy))]
        have so : Same (offM (KD :: C :: M) H5) (offM (KD :: C :: M) (upd H5 KD (.dK (putK (tabK f ((partsR rows n).take i)) (Sum.inl ((p : Nat) : Int)) v)))) := offM_upd List.mem_cons_self
        refine ⟨_, .inl ⟨_, Sum.inl ((p : Nat) : Int), gV5, rfl, ?_, rfl⟩, ⟨fun y => if y = p then v else f y, new', cs2', ?_, by rw [upd_ne (Ne.symm nKL)]; exact gL5, by rw [upd_ne (Ne.symm nKC)]; exact gC5, fun y hy => ?_, (dq_same so).2 dn5, ln5, lc5⟩, fun z o n1 n2 n3 h => by rw [upd_ne n1]; exact k5 _ _ n1 n2 n3 (k4 _ _ n1 n2 n3 h)⟩
        · unfold tabK
          rw [List.length_map, List.length_take]
          exact Nat.lt_of_le_of_lt (show _ ≤ 100 by omega) (by decide)
        · rw [upd_same, eq1]
          have := tab_put (f := fun y => if y = p then v else f y) nin
          rw [if_pos rfl] at this
          rw [this, ← take_succ hp]
        · show Dq K _ (if y = p then v else f y) (vf y)
          by_cases e : y = p
          · rw [if_pos e, e]
            exact (dq_same so).1 dv
          · rw [if_neg e]
            rw [take_succ hp] at hy
            exact (dq_same (S45.trans so)).1 (df y ((List.mem_append.mp hy).resolve_right fun h => e (List.mem_singleton.mp h)))
      refine ⟨_, rfl, _, rfl, q, _, _, _, rfl, rfl, SqL.of (fr4 _ _ gq), hat, ?_⟩
      have ecall : callsD rows vf ((partsR rows n).take (i + 1)) = callsD rows vf ((partsR rows n).take i) ++ callD rows vf p := by rw [take_succ hp, calls_snoc]
      have ecd : callD rows vf p = match (rows[p]).sec with | .inl l => [.tuple [.str (rows[p]).nm, .list (l.map vf)]] | .inr _ => [] := by
        unfold callD
        rw [er]
        all_goals rfl
      have lt := gd.wf p _ er
      have mcA : ∀ c ∈ (rows[p]).args, c ∈ (partsR rows n).take i := fun c hc => parts_before gd.wf hp (by rw [args_at er]; exact hc)
      generalize rows[p] = r at er rp a3 nd fp ecd lt mcA
      rcases rp.inv with ⟨ns, b, hsec, h1, h2⟩ | ⟨tt, hsec, h1⟩
      · refine ⟨pa, _, rfl, h1, rfl, _, _, rfl, _, _, rfl, rfl, ?_⟩
        have ea : r.args = ns := by unfold BRow.args; rw [hsec]
        rw [ea] at a3 lt mcA
        refine ⟨_, rfl, _, _, _, _, false, rfl, .ty _, ty_sqT h2, kit_ty (by decide +kernel), _, rfl, iteF ?_⟩
        obtain ⟨salt, fv, e1, e2, fnv⟩ : ∃ salt fv, lkS fl r.nm = some salt ∧ valV ms (.inr r.nm) = some fv ∧ FnV P w K mg base (offM M H) L r.nm salt fv := by
          rcases look_pair pm r.nm with ⟨e1, e2⟩ | h
          · unfold dueR fnB at nd
            rw [hsec, e1] at nd
            cases nd
          · exact h
        obtain ⟨ff, F, bb, rfl, hff, call⟩ := fnv.call
        refine ⟨_, rfl, b, rfl, ⟨_, h2⟩, fun D hD => lc_it (walk_tup (xs := numsV ns)) (fun j H' => Same H4 H' ∧ H' D = some (.lst ((ns.take j).map f))) ⟨same_new hD, upd_same⟩ ?_ ?_ ?_⟩
        · rintro j H' _ ⟨S, _⟩
          exact sqT_same S h2
        · rintro j u _ H' hj ⟨S', hD'⟩ ⟨rfl, hu⟩
          unfold numsV at hu
          rw [List.getElem?_map] at hu
          obtain ⟨c, hc, rfl⟩ := Option.map_eq_some_iff.mp hu
          have mc := mcA c (List.mem_of_getElem? hc)
          have hj3 : j < 3 := by rw [numsV_len] at hj; omega
          refine ⟨rfl, _, rfl, _, rfl, KD, f c, rfl, .inl ⟨_, Sum.inl ((c : Nat) : Int), .inl (S' _ _ gK4), rfl, by rw [tab_val, if_pos mc]⟩, _, hD', ?_, Tp.Same.mut S' hD, ?_⟩
          · rw [List.length_map, List.length_take]
            exact Nat.lt_of_le_of_lt (show _ ≤ 3 by omega) (by decide)
          · rw [upd_same, take_succ hc, List.map_append]
            rfl
        · rintro H6 ⟨S6, hD'⟩
          rw [numsV_len, List.take_length] at hD'
          have nDM : D ∉ KD :: C :: M := mu4.new hD
          have mu6 := mu4.same S6
          refine ⟨_, rfl, .inl ⟨rfl, _, SqL.of (S6 _ _ gC4)⟩, _, rfl, _, rfl, (show 2 ≤ sizeLine from by decide), fun t2 ht2 => ?_⟩
          have S7 := same_new (o := .tup [V.str r.nm, V.ref D]) ht2
          have g7 : (upd H6 t2 (.tup [V.str r.nm, V.ref D])) t2 = some (.tup [V.str r.nm, V.ref D]) := upd_same
          generalize upd H6 t2 (.tup [V.str r.nm, V.ref D]) = H7 at S7 g7 ⊢
          have n2M : t2 ∉ KD :: C :: M := mu6.new ht2
          have S47 := S6.trans S7
          refine ⟨C, cs2, _, rfl, rfl, S47 _ _ gC4, Nat.lt_of_le_of_lt (show cs2.length ≤ 40 by omega) (by decide), ?_⟩
          have mC : C ∈ KD :: C :: M := List.mem_cons_of_mem _ List.mem_cons_self
          have k8 : ∀ z o, z ≠ C → H4 z = some o → (upd H7 C (.lst (cs2 ++ [.ref t2]))) z = some o := fun z o n h => by rw [upd_ne n]; exact S47 _ _ h
          have o8 : Same (offM (KD :: C :: M) H4) (offM (KD :: C :: M) (upd H7 C (.lst (cs2 ++ [.ref t2])))) := (offM_of S47).trans (offM_upd mC)
          have gC8 : (upd H7 C (.lst (cs2 ++ [.ref t2]))) C = some (.lst (cs2 ++ [.ref t2])) := upd_same
          have nDC : D ≠ C := fun e => nDM (by rw [e]; exact mC)
          have n2C : t2 ≠ C := fun e => n2M (by rw [e]; exact mC)
          have gD8 : (upd H7 C (.lst (cs2 ++ [.ref t2]))) D = some (.lst (ns.map f)) := by rw [upd_ne nDC]; exact S7 _ _ hD'
          have g28 : (upd H7 C (.lst (cs2 ++ [.ref t2]))) t2 = some (.tup [.str r.nm, .ref D]) := by rw [upd_ne n2C]; exact g7
          have mu8 : MutM (KD :: C :: M) (upd H7 C (.lst (cs2 ++ [.ref t2]))) := fun z m => by
            by_cases e : z = C
            · rw [e]
              exact .inl ⟨_, upd_same⟩
            · rw [upd_ne e]
              exact mu4.same S47 z m
          have fr8 : Same (offM M H) (upd H7 C (.lst (cs2 ++ [.ref t2]))) := fun z o h => k8 _ _ (fun e => offM_nin (off4 _ _ h) (by rw [e]; exact mC)) (fr4 _ _ h)
          generalize upd H7 C (.lst (cs2 ++ [.ref t2])) = H8 at k8 o8 gC8 gD8 g28 mu8 fr8 ⊢
          have da8 : DqAll K (offM (KD :: C :: M) H8) (ns.map f) (ns.map vf) := dqAll_map2 fun c hc => (dq_same o8).1 (df c (mcA c hc))
          refine ⟨_, rfl, _, rfl, MM, _, rfl, .inl ⟨ms, .inr r.nm, .inl (fr8 _ _ hM), rfl, e2.symm⟩, ff, F, bb, rfl, fr8 _ _ hff, ?_⟩
          refine ⟨_, rfl, ?_⟩
          refine call H8 (KD :: C :: M) D (cs ++ new) (ns.map f) (ns.map vf) _ (KeepF.of fr8) (k8 _ _ (Ne.symm nCL) gL4) gD8 nDM mLK mu8 ?_ ?_ ?_ da8 fun u tv H2' ci nn => ?_
          · rw [List.length_append]
            omega
          · rw [List.length_map]
            exact a3
          · exact mn.lt _ (lkS_mem e1)
          · have ci := ci nn
            generalize bakC (csF F.cl) H8 H2' = H9 at ci ⊢
            have ev : vf p = valD r.nm salt (ns.map vf) := by
              rw [fp, ea]
              unfold gV saltF
              rw [hsec, e1]
              rfl
            have ec : callsD rows vf ((partsR rows n).take (i + 1)) = callsD rows vf ((partsR rows n).take i) ++ [.tuple [.str r.nm, .list (ns.map vf)]] := by
              rw [ecall, ecd, hsec]
            have o89 : Same (offM (KD :: C :: M) H8) (offM (KD :: C :: M) H9) := offM_kp mLK ci.kp
            have dt : Dq K (offM (KD :: C :: M) H9) (.ref t2) (.tuple [.str r.nm, .list (ns.map vf)]) := (dq_same o89).1 (.tup (SqT.of (offM_get n2M g28)) (.cons (.str _) (.cons (.lst (SqL.of (offM_get nDM gD8)) da8) .nil)))
            obtain ⟨H10, dp, inv, k10⟩ := put u H9 (new ++ [tv]) (cs2 ++ [.ref t2]) (by rw [ev]; exact ci.val) (ci.kp _ _ nKL (k8 _ _ nKC gK4)) (by rw [← List.append_assoc]; exact ci.calls) (ci.kp _ _ nCL gC8) (o8.trans o89) (fun z o _ n2 n3 h => ci.kp z o n3 (k8 _ _ n2 h)) (by rw [ec]; exact dqAll_app ((dq_same (o8.trans o89)).2 dc2) (.cons dt .nil)) (by rw [List.length_append]; exact Nat.succ_le_succ ln) (by rw [List.length_append]; exact Nat.succ_le_succ l2)
            exact ⟨_, rfl, _, rfl, KD, H10, rfl, dp, inv, k10, _, _, _, _, rfl⟩
      · refine ⟨pa, _, rfl, h1, rfl, _, _, rfl, _, _, rfl, rfl, ?_⟩
        refine ⟨_, rfl, _, _, _, _, true, rfl, .ty _, .base (.int _), kit_ty (by decide +kernel), _, rfl, iteT ?_⟩
        have ec : callsD rows vf ((partsR rows n).take (i + 1)) = callsD rows vf ((partsR rows n).take i) := by
          rw [ecall, ecd, hsec, List.append_nil]
        have eD : dueR (fnB fl) (lkS sm) r = match lkS sm r.nm with | some ds => if tt < ds.length then none else some (Due.smp r.nm tt) | none => some (Due.smp r.nm tt) := by
          unfold dueR
          rw [hsec]
          all_goals rfl
        rw [eD] at nd
        rcases look_pair pS r.nm with ⟨e1, e2⟩ | ⟨ds, v, e1, e2, s, c, xs, rfl, sq, da⟩
        · rw [e1] at nd
          cases nd
        · rw [e1] at nd
          have nd : (if tt < ds.length then (none : Option Due) else some (Due.smp r.nm tt)) = none := nd
          have lt2 : tt < ds.length := by
            by_cases c : tt < ds.length
            · exact c
            · rw [show (if tt < ds.length then (none : Option Due) else some (Due.smp r.nm tt)) = some (Due.smp r.nm tt) from if_neg c] at nd
              cases nd
          have ll := dqAll_len da
          have hx : xs[tt]? = some xs[tt] := List.getElem?_eq_getElem (by omega)
          obtain ⟨e, he, de⟩ := dqAll_get da hx
          have ev : vf p = e := by
            rw [fp]
            unfold gV
            rw [hsec]
            show ((lkS sm r.nm).getD []).getD tt .none = e
            rw [e1, Option.getD_some, List.getD_eq_getElem?_getD, he]
            rfl
          obtain ⟨H8, dp, inv, k8⟩ := put xs[tt] H4 new cs2 (by rw [ev]; exact (dq_same off4).1 de) gK4 gL4 gC4 (Same.refl _) (fun _ _ _ _ _ h => h) (by rw [ec]; exact dc2) (Nat.le_succ_of_le ln) (Nat.le_succ_of_le l2)
          refine ⟨_, rfl, _, rfl, S, .ref s, rfl, .inl ⟨ss, .inr r.nm, .inl (fr4 _ _ gS), rfl, e2.symm⟩, _, rfl, ?_⟩
          have sq5 := SqB.same fr4 sq
          have hatx : atI xs ((tt : Nat) : Int) = some xs[tt] := atI_nat hx
          cases c with
          | true => exact .inr (.inl ⟨s, xs, _, _, rfl, rfl, sq5, hatx, _, rfl, _, rfl, KD, H8, rfl, dp, inv, k8, _, _, _, _, rfl⟩)
          | false => exact .inl ⟨s, xs, _, _, rfl, rfl, sq5, hatx, _, rfl, _, rfl, KD, H8, rfl, dp, inv, k8, _, _, _, _, rfl⟩
    · rintro σ H4 ⟨⟨f, new, cs2, gK4, gL4, gC4, df, dc2, ln, l2⟩, k4, v6, v7, v8, v9, rfl⟩
      rw [numsV_len, List.take_length] at gK4 df dc2
      have kp4 : Kp L H H4 := fun z o n h => k4 z o (nn h).1 (nn h).2 n h
      have gp4 : H4 pl = some (.lst (numsV (partsR rows n))) := kp4 _ _ (fun e => offM_nin gp (by rw [e]; exact mL)) (B0 _ _ gp)
      refine ⟨_, rfl, _, rfl, _, rfl, pl, _, -1, _, rfl, rfl, SqL.of gp4, at_last, KD, f n, rfl, .inl ⟨_, Sum.inl ((n : Nat) : Int), .inl gK4, rfl, by rw [tab_val, if_pos parts_self]⟩, ?_⟩
      refine ⟨_, rfl, (show 2 ≤ sizeLine from by decide), fun t2 ht2 => ?_⟩
      have mu4 : MutM M H4 := mu.kp kp4 gL4
      have S5 : Same H4 (upd H4 t2 (.tup [f n, .ref C])) := same_new ht2
      have less : Same (offM (KD :: C :: M) H4) (offM M (upd H4 t2 (.tup [f n, .ref C]))) := (offM_less fun z m => .inl (List.mem_cons_of_mem _ (List.mem_cons_of_mem _ m))).trans (offM_of S5)
      exact fin _ t2 C _ new cs2 (fun z o n h => S5 _ _ (kp4 z o n h)) (S5 _ _ gL4) (by have := parts_len rows n; rw [numsV_len] at ln; omega) upd_same (mu4.new ht2) nCM (S5 _ _ gC4) ((dq_same less).2 dc2) ((dq_same less).1 (df n parts_self))
end
end L05
set_option Elab.async false
set_option linter.all false
set_option maxRecDepth 100000
set_option maxHeartbeats 4000000
set_option pp.deepTerms false
set_option pp.deepTerms.threshold 4
set_option pp.maxSteps 1000
namespace L05
open PySem L2 Tp
section
variable {P : Program} {w : World} {K : PySem.W.Frag} {mg : Str → Option Value} {base : Heap} {a : Ad} {d : Fd}
theorem xne (T : Txt K mg a d) {i j : Nat} {x y : Addr} (hi : [a.CInvalidMeaning, a.CInvalidValues, a.CUnknownSymbol, a.CUnknownSample, a.CUnknownTerm, a.CNetError, a.CMissingError][i]? = some x) (hj : [a.CInvalidMeaning, a.CInvalidValues, a.CUnknownSymbol, a.CUnknownSample, a.CUnknownTerm, a.CNetError, a.CMissingError][j]? = some y) (n : i ≠ j) : x ≠ y := fun e => by
  subst e
  have hl := (List.getElem?_eq_some_iff.mp hi).1
  exact n ((List.getElem?_inj hl T.xnd).mp (hi.trans hj.symm))
theorem exF {b b2 : XB} {C B D : Addr} {up : List Addr} (c : ClsX b K C [B]) (c2 : ClsX b2 K D up) (n1 : C ≠ D) (n2 : B ≠ D) : PySem.W.exmOne K (.ref C) (.ref D) = some false := by
  rw [exm_X c c2]
  refine congrArg some (Bool.eq_false_iff.mpr fun z => ?_)
  have m := List.contains_iff_mem.mp z
  rcases List.mem_cons.mp m with m | m
  · exact n1 m.symm
  · exact n2 (List.mem_singleton.mp m).symm
theorem ex32 (T : Txt K mg a d) : PySem.W.exmOne K (.ref a.CUnknownSample) (.ref a.CUnknownSymbol) = some false := exF T.cx_UnknownSample T.cx_UnknownSymbol (xne T (i := 3) (j := 2) rfl rfl (by decide)) (xne T (i := 6) (j := 2) rfl rfl (by decide))
theorem ex42 (T : Txt K mg a d) : PySem.W.exmOne K (.ref a.CUnknownTerm) (.ref a.CUnknownSymbol) = some false := exF T.cx_UnknownTerm T.cx_UnknownSymbol (xne T (i := 4) (j := 2) rfl rfl (by decide)) (xne T (i := 6) (j := 2) rfl rfl (by decide))
theorem ex43 (T : Txt K mg a d) : PySem.W.exmOne K (.ref a.CUnknownTerm) (.ref a.CUnknownSample) = some false := exF T.cx_UnknownTerm T.cx_UnknownSample (xne T (i := 4) (j := 3) rfl rfl (by decide)) (xne T (i := 6) (j := 3) rfl rfl (by decide))
theorem ex02 (T : Txt K mg a d) : PySem.W.exmOne K (.ref a.CInvalidMeaning) (.ref a.CUnknownSymbol) = some false := exF T.cx_InvalidMeaning T.cx_UnknownSymbol (xne T (i := 0) (j := 2) rfl rfl (by decide)) (xne T (i := 5) (j := 2) rfl rfl (by decide))
theorem ex03 (T : Txt K mg a d) : PySem.W.exmOne K (.ref a.CInvalidMeaning) (.ref a.CUnknownSample) = some false := exF T.cx_InvalidMeaning T.cx_UnknownSample (xne T (i := 0) (j := 3) rfl rfl (by decide)) (xne T (i := 5) (j := 3) rfl rfl (by decide))
theorem ex04 (T : Txt K mg a d) : PySem.W.exmOne K (.ref a.CInvalidMeaning) (.ref a.CUnknownTerm) = some false := exF T.cx_InvalidMeaning T.cx_UnknownTerm (xne T (i := 0) (j := 4) rfl rfl (by decide)) (xne T (i := 5) (j := 4) rfl rfl (by decide))
theorem ex12 (T : Txt K mg a d) : PySem.W.exmOne K (.ref a.CInvalidValues) (.ref a.CUnknownSymbol) = some false := exF T.cx_InvalidValues T.cx_UnknownSymbol (xne T (i := 1) (j := 2) rfl rfl (by decide)) (xne T (i := 5) (j := 2) rfl rfl (by decide))
theorem ex13 (T : Txt K mg a d) : PySem.W.exmOne K (.ref a.CInvalidValues) (.ref a.CUnknownSample) = some false := exF T.cx_InvalidValues T.cx_UnknownSample (xne T (i := 1) (j := 3) rfl rfl (by decide)) (xne T (i := 5) (j := 3) rfl rfl (by decide))
theorem ex14 (T : Txt K mg a d) : PySem.W.exmOne K (.ref a.CInvalidValues) (.ref a.CUnknownTerm) = some false := exF T.cx_InvalidValues T.cx_UnknownTerm (xne T (i := 1) (j := 4) rfl rfl (by decide)) (xne T (i := 5) (j := 4) rfl rfl (by decide))
theorem ex10 (T : Txt K mg a d) : PySem.W.exmOne K (.ref a.CInvalidValues) (.ref a.CInvalidMeaning) = some false := exF T.cx_InvalidValues T.cx_InvalidMeaning (xne T (i := 1) (j := 0) rfl rfl (by decide)) (xne T (i := 5) (j := 0) rfl rfl (by decide))
def toldV (nv mv sv : V) : Out → List V
  | .term => [.str "term", nv]
  | .meaning => [.str "meaning", mv]
  | .values => [.str "values", sv]
  | .due d => dueV (some d)
  | .val _ _ => []
def DoesT (K : PySem.W.Frag) (H : Hp) (M : List Addr) (L : Addr) (cs : List V) (rows : List BRow) (nv mv sv : V) (Q : VK) (o : Out) : Prop :=
  ((∀ n vf, o ≠ .val n vf) → ∀ p H', Same H H' → H p = none → H' p = some (.lst (toldV nv mv sv o)) → Q (.ref p) H') ∧
  (∀ n vf, o = .val n vf → ∀ p v H' new, Kp L H H' → H' L = some (.lst (cs ++ new)) → DqAll K (offM M H') new (callsD rows vf (partsR rows n)) → Dq K (offM M H') v (vf n) → p ∉ M → H' p = some (.lst [.str "value", v]) → Q (.ref p) H')
def spTold (P : Program) (w : World) (K : PySem.W.Frag) (mg : Str → Option Value) (base : Heap) (a : Ad) : Sp := fun vs H Q E => ∃ (M : List Addr) (L x l m : Addr) (rows : List BRow) (as : List Addr) (cs : List V) (nv mv sv : V) (o : Out), vs = [.ref x, nv, mv, sv] ∧ BookAt P w K a.CBook (offM M H) x l m rows as ∧ GoodB rows ∧ rows.length ≤ 40 ∧ L ∈ M ∧ MutM M H ∧ H L = some (.lst cs) ∧ cs.length ≤ 900 ∧
  Ask P w K mg base (offM M H) L rows nv mv sv o ∧ DoesT K H M L cs rows nv mv sv Q o
theorem ok_told (T : Txt K mg a d) : FnG P w K mg base CX0 8 a.told d.told ["_law_book", "_law_number", "_law_meaning_here", "_law_given"] (spTold P w K mg base a) := by
  have G_evaluate := ok_evaluate (P := P) (w := w) (base := base) T
  obtain ⟨_, kb_evaluate⟩ := kbE T
  refine okG T.F_told scTold (fun vs H Q E h => ?_) (fun cdv A outer s H vs Q E hr hg h => ?_)
  · obtain ⟨M, L, x, l, m, rows, as, cs, nv, mv, sv, o, rfl, _⟩ := h
    rfl
  · obtain ⟨M, L, x, l, m, rows, as, cs, nv, mv, sv, o, rfl, bk, gd, l40, mL, mu, gL, lc, ask, q1, q2⟩ := h
    refine ⟨_, (pss_one (Tp.ps_tryA rfl rfl Tp.takes0 (fun W pn xe tk po => (pss_one (ps_ret (pe_lst (pa_cons pe_str (pa_cons (Tp.pe_methKE (pv 0) T.cl_Book T.me_evaluate G_evaluate (hr.mono (by decide)) kb_evaluate (fun σ => passAt tk σ) (pa_cons (pv 1) (pa_cons (pv 2) pa_nil)) (pk_cons (pv 3) pk_nil)) pa_nil)))))) (.as_ (i := 4) scTold.nd rfl rfl ⟨rfl, by decide, Or.inl T.mg_UnknownSymbol⟩ (fun ea oe cls ed pn hz hf => (pss_one (ps_ret (pe_ifExp (pt_val (pe_callB (Tp.call_isX hz hf) (by rfl) T.isinstance_ Tp.bt_isinstance (pa_cons (pv 4) (pa_cons (pe_glob (v := .ref a.CMissingError) (by rfl) T.mg_MissingError rfl) pa_nil)))) (pe_lst (pa_cons pe_str (pa_cons (pe_xf T.cx_UnknownSymbol.xf (T.xi_UnknownSymbol.no "name" (by decide)) hz hf (pv 4)) pa_nil))) (pe_lst pa_nil))))) (.as_ (i := 4) scTold.nd rfl rfl ⟨rfl, by decide, Or.inl T.mg_UnknownSample⟩ (fun ea oe cls ed pn hz hf => (pss_one (ps_ret (pe_lst (pa_cons pe_str (pa_cons (pe_xf T.cx_UnknownSample.xf (T.xi_UnknownSample.no "name" (by decide)) hz hf (pv 4)) (pa_cons (pe_xf T.cx_UnknownSample.xf (T.xi_UnknownSample.no "index" (by decide)) hz hf (pv 4)) pa_nil))))))) (.as_ (i := 4) scTold.nd rfl rfl ⟨rfl, by decide, Or.inl T.mg_UnknownTerm⟩ (fun ea oe cls ed pn hz hf => (pss_one (ps_ret (pe_lst (pa_cons pe_str (pa_cons (pe_xf T.cx_UnknownTerm.xf (T.xi_UnknownTerm.no "number" (by decide)) hz hf (pv 4)) pa_nil)))))) (.as_ (i := 4) scTold.nd rfl rfl ⟨rfl, by decide, Or.inl T.mg_InvalidMeaning⟩ (fun ea oe cls ed pn hz hf => (pss_one (ps_ret (pe_ifExp (pt_val (pe_callB (Tp.call_isX hz hf) (by rfl) T.isinstance_ Tp.bt_isinstance (pa_cons (pv 4) (pa_cons (pe_glob (v := .ref a.CNetError) (by rfl) T.mg_NetError rfl) pa_nil)))) (pe_lst (pa_cons pe_str (pa_cons (pe_xf T.cx_InvalidMeaning.xf (T.xi_InvalidMeaning.no "value" (by decide)) hz hf (pv 4)) pa_nil))) (pe_lst pa_nil))))) (.as_ (i := 4) scTold.nd rfl rfl ⟨rfl, by decide, Or.inl T.mg_InvalidValues⟩ (fun ea oe cls ed pn hz hf => (pss_one (ps_ret (pe_lst (pa_cons pe_str (pa_cons (pe_xf T.cx_InvalidValues.xf (T.xi_InvalidValues.no "value" (by decide)) hz hf (pv 4)) pa_nil)))))) .nil))))))), ?_⟩
    obtain ⟨dx, ho⟩ := (bk.same offM_to).obj
    refine ⟨_, rfl, x, _, _, rfl, ho, no_look (by decide) (by decide), _, rfl, _, rfl, _, rfl, rfl, rfl, M, L, x, l, m, rows, as, cs, nv, mv, sv, o, rfl, bk, gd, l40, mL, mu, gL, lc, ask, ?_⟩
    clear ask
    have n0 : ∀ {H1 : Hp} {z : Addr}, Same H H1 → H1 z = none → H z = none := fun S h => none_of S h
    cases o with
    | term =>
      have q := q1 (fun n vf z => by cases z)
      exact fun dz H1 S1 g => ⟨_, ex42 T, (fun z => by cases z), fun _ => ⟨_, ex43 T, (fun z => by cases z), fun _ => ⟨_, exT T.cx_UnknownTerm, (fun _ ea hea => ⟨_, rfl, rfl, rfl, dz, _, _, rfl, g, rfl, (show 2 ≤ sizeLine from by decide), fun p hp => q p _ (S1.trans (same_new hp)) (n0 S1 hp) upd_same⟩), (fun z => by cases z)⟩⟩⟩
    | meaning =>
      have q := q1 (fun n vf z => by cases z)
      have k1 := kit_X T.cx_InvalidMeaning T.cx_NetError
      rw [show (a.CInvalidMeaning :: [a.CNetError]).contains a.CNetError = true by simp] at k1
      exact fun dz H1 S1 g => ⟨_, ex02 T, (fun z => by cases z), fun _ => ⟨_, ex03 T, (fun z => by cases z), fun _ => ⟨_, ex04 T, (fun z => by cases z), fun _ => ⟨_, exT T.cx_InvalidMeaning, (fun _ ea hea => ⟨_, rfl, a.CInvalidMeaning, dz, _, _, _, _, rfl, rfl, T.cx_InvalidMeaning.ec, rfl, g, (fun u hu => hu), k1, _, rfl, iteT ⟨_, rfl, rfl, rfl, dz, _, _, rfl, g, rfl, (show 2 ≤ sizeLine from by decide), fun p hp => q p _ (S1.trans (same_new hp)) (n0 S1 hp) upd_same⟩⟩), (fun z => by cases z)⟩⟩⟩⟩
    | values =>
      have q := q1 (fun n vf z => by cases z)
      exact fun dz H1 S1 g => ⟨_, ex12 T, (fun z => by cases z), fun _ => ⟨_, ex13 T, (fun z => by cases z), fun _ => ⟨_, ex14 T, (fun z => by cases z), fun _ => ⟨_, ex10 T, (fun z => by cases z), fun _ => ⟨_, exT T.cx_InvalidValues, (fun _ ea hea => ⟨_, rfl, rfl, rfl, dz, _, _, rfl, g, rfl, (show 2 ≤ sizeLine from by decide), fun p hp => q p _ (S1.trans (same_new hp)) (n0 S1 hp) upd_same⟩), (fun z => by cases z)⟩⟩⟩⟩⟩
    | due dd =>
      have q := q1 (fun n vf z => by cases z)
      cases dd with
      | sym nm =>
        have k1 := kit_X T.cx_UnknownSymbol T.cx_MissingError
        rw [show (a.CUnknownSymbol :: [a.CMissingError]).contains a.CMissingError = true by simp] at k1
        exact fun dz H1 S1 g => ⟨_, exT T.cx_UnknownSymbol, (fun _ ea hea => ⟨_, rfl, a.CUnknownSymbol, dz, _, _, _, _, rfl, rfl, T.cx_UnknownSymbol.ec, rfl, g, (fun u hu => hu), k1, _, rfl, iteT ⟨_, rfl, rfl, rfl, dz, _, _, rfl, g, rfl, (show 2 ≤ sizeLine from by decide), fun p hp => q p _ (S1.trans (same_new hp)) (n0 S1 hp) upd_same⟩⟩), (fun z => by cases z)⟩
      | smp nm t =>
        exact fun dz H1 S1 g => ⟨_, ex32 T, (fun z => by cases z), fun _ => ⟨_, exT T.cx_UnknownSample, (fun _ ea hea => ⟨_, rfl, rfl, rfl, dz, _, _, rfl, g, rfl, _, rfl, rfl, rfl, dz, _, _, rfl, g, rfl, (show 3 ≤ sizeLine from by decide), fun p hp => q p _ (S1.trans (same_new hp)) (n0 S1 hp) upd_same⟩), (fun z => by cases z)⟩⟩
    | val n vf =>
      refine fun v H' new kp gL' dn dv => ⟨(show 2 ≤ sizeLine from by decide), fun p hp => ?_⟩
      have S := same_new (o := .lst [.str "value", v]) hp
      exact q2 n vf rfl p v _ new (fun z o n h => S _ _ (kp z o n h)) (S _ _ gL') ((dq_same (offM_of S)).2 dn) ((dq_same (offM_of S)).1 dv) ((mu.kp kp gL').new hp) upd_same
end
end L05
set_option Elab.async false
set_option linter.all false
set_option maxRecDepth 100000
set_option maxHeartbeats 4000000
set_option pp.deepTerms false
set_option pp.deepTerms.threshold 4
set_option pp.maxSteps 1000
namespace L05
open PySem L2 Tp
section
variable {P : Program} {w : World} {K : PySem.W.Frag} {mg : Str → Option Value} {base : Heap} {a : Ad} {d : Fd}
theorem fitq_kv {n w v : Nat} : ∀ kvs : List (PyData × PyData), (∀ p ∈ kvs, FitQ n w p.1 ∧ FitQ n v p.2) → PyData.showableKv kvs = true ∧ PyData.depthKv kvs ≤ n ∧ (∀ t ∈ PyData.shownKv kvs, t.length ≤ w + 2 + v) ∧ (PyData.shownKv kvs).length = kvs.length
  | [], _ => ⟨by simp only [PyData.showableKv], by simp only [PyData.depthKv]; omega, (fun t ht => by simp only [PyData.shownKv] at ht; cases ht), by simp only [PyData.shownKv]; rfl⟩
  | (x, y) :: r, h => by
    obtain ⟨⟨a1, a2, a3⟩, ⟨b1, b2, b3⟩⟩ := h (x, y) List.mem_cons_self
    obtain ⟨c1, c2, c3, c4⟩ := fitq_kv r fun p hp => h p (List.mem_cons_of_mem _ hp)
    have a2 : x.depth ≤ n := a2
    have b2 : y.depth ≤ n := b2
    refine ⟨by simp only [PyData.showableKv, a1, b1, c1, Bool.and_self], by simp only [PyData.depthKv]; omega, fun t ht => ?_, by simp only [PyData.shownKv, List.length_cons, c4]⟩
    simp only [PyData.shownKv] at ht
    rcases List.mem_cons.mp ht with rfl | ht
    · show (x.shown.cps ++ (": " : Str).cps ++ y.shown.cps).size ≤ _
      rw [Array.size_append, Array.size_append]
      have e : (": " : Str).cps.size = 2 := by decide
      have a3' : x.shown.cps.size ≤ w := a3
      have b3' : y.shown.cps.size ≤ v := b3
      omega
    · exact c3 t ht
theorem fitq_dict {n w v : Nat} {kvs : List (PyData × PyData)} (h : ∀ p ∈ kvs, FitQ n w p.1 ∧ FitQ n v p.2) : FitQ (n + 1) (kvs.length * (w + 2 + v + 2) + 2) (.dict kvs) := by
  obtain ⟨c1, c2, c3, c4⟩ := fitq_kv kvs h
  refine ⟨by simp only [PyData.showable, c1], by simp only [PyData.depth]; omega, ?_⟩
  simp only [PyData.shown]
  unfold dictText
  have j := join_len (a := ", ") c3
  rw [show Txt.join ", " (PyData.shownKv kvs) = Str.join ", " (PyData.shownKv kvs) from StrLaws.glued_eq_join _ _, c4] at j
  show (("{" : Str).cps ++ (Str.join ", " (PyData.shownKv kvs)).cps ++ ("}" : Str).cps).size ≤ _
  rw [Array.size_append, Array.size_append]
  have e1 : ("{" : Str).cps.size = 1 := by decide
  have e2 : ("}" : Str).cps.size = 1 := by decide
  have e3 : (", " : Str).length = 2 := by decide
  rw [e3] at j
  have j' : (Str.join ", " (PyData.shownKv kvs)).cps.size ≤ kvs.length * (w + 2 + v + 2) := j
  omega
theorem nums_shaped (l : List Nat) : SeqAt.shaped (.list (numsD l)) = true := by
  have key : ∀ l : List Nat, PyData.canLayAll0 (numsD l) = true ∧ PyData.depthAll (numsD l) = 0 := by
    intro l
    induction l with
    | nil => exact ⟨by simp [numsD, PyData.canLayAll0], by simp [numsD, PyData.depthAll]⟩
    | cons y ys ih =>
      obtain ⟨i1, i2⟩ := ih
      unfold numsD at i1 i2 ⊢
      exact ⟨by simp [PyData.canLayAll0, PyData.canLay0, i1], by simp [PyData.depthAll, PyData.depth, i2]⟩
  obtain ⟨k1, k2⟩ := key l
  unfold SeqAt.shaped
  simp [PyData.canLay0, PyData.depth, k1, k2]
theorem nums_eqv (l : List Nat) : (!PyData.eqv (.list (numsD l)) (.list (numsD l))) = false := by
  have : PyData.eqv (.list (numsD l)) (.list (numsD l)) = true := by
    simp [PyData.eqv, nums_eqvD]
  rw [this]
  rfl
def dueD : Option Due → List PyData
  | none => [.str "value"]
  | some (.sym nm) => [.str "symbol", .str nm]
  | some (.smp nm t) => [.str "sample", .str nm, .int (t : Nat)]
theorem due_dq {H : Hp} (o : Option Due) : DqAll K H (dueV o) (dueD o) := by
  cases o with
  | none => exact .cons (.str _) .nil
  | some d =>
    cases d with
    | sym nm => exact .cons (.str _) (.cons (.str _) .nil)
    | smp nm t => exact .cons (.str _) (.cons (.str _) (.cons (.int _) .nil))
theorem fit_tag : ∀ z ∈ [("symbol" : Str), "sample", "value", "term", "meaning", "values"], FitQ 1 90 (.str z) := by
  unfold FitQ
  decide +kernel
theorem due_from {fn : Str → Bool} {sm : Str → Option (List PyData)} {rows : List BRow} {n : Nat} {d : Due} (h : firstDue fn sm rows n = some d) : ∃ r ∈ rows, dueR fn sm r = some d := by
  obtain ⟨p, hp, e⟩ := List.exists_of_findSome?_eq_some h
  unfold dueP at e
  cases hr : rows[p]? with
  | none => rw [hr] at e; cases e
  | some r =>
    rw [hr] at e
    exact ⟨r, List.mem_of_getElem? hr, e⟩
theorem due_fit {fn : Str → Bool} {sm : Str → Option (List PyData)} {rows : List BRow} {n : Nat} {d : Due} (gd : GoodB rows) (h : firstDue fn sm rows n = some d) : ∀ x ∈ dueD (some d), FitQ 1 90 x := by
  obtain ⟨r, hr, e⟩ := due_from h
  obtain ⟨i, hi⟩ := List.mem_iff_getElem?.mp hr
  obtain ⟨g1, _, g3⟩ := gd.2 i r hi
  have fs : FitQ 1 90 (.str r.nm) := (fitq_str (nm_sm g1)).up (Nat.le_refl _) (by decide)
  unfold dueR at e
  rcases g3 with ⟨l, es, _⟩ | ⟨t, es, t5⟩
  · rw [es] at e
    have e : (if fn r.nm = true then none else some (Due.sym r.nm)) = some d := e
    split at e
    · cases e
    · cases e
      intro x hx
      simp only [dueD, List.mem_cons, List.not_mem_nil, or_false] at hx
      rcases hx with rfl | rfl
      · exact fit_tag _ (by simp)
      · exact fs
  · rw [es] at e
    have e : (match sm r.nm with | some ds => if t < ds.length then none else some (Due.smp r.nm t) | none => some (Due.smp r.nm t)) = some d := e
    have e : d = .smp r.nm t := by
      cases hs : sm r.nm with
      | none => rw [hs] at e; cases e; rfl
      | some ds =>
        rw [hs] at e
        have e : (if t < ds.length then none else some (Due.smp r.nm t)) = some d := e
        split at e
        · cases e
        · cases e
          rfl
    subst e
    intro x hx
    simp only [dueD, List.mem_cons, List.not_mem_nil, or_false] at hx
    rcases hx with rfl | rfl | rfl
    · exact fit_tag _ (by simp)
    · exact fs
    · exact (fitq_int (n := 1) (Nat.lt_of_le_of_lt (show ((t : Nat) : Int).natAbs ≤ 5 by omega) (by decide))).up (Nat.le_refl _) (by decide)
theorem vals_up {rows : List BRow} {vf : Nat → PyData} (h : ∀ p, p < rows.length → FitV p (vf p)) (l40 : rows.length ≤ 40) {p : Nat} (hp : p < rows.length) : FitQ 42 700 (vf p) := ((h p hp).up (show p ≤ 40 by omega)).fit.up (by decide) (by decide)
theorem calls_fit {rows : List BRow} {vf : Nat → PyData} (gd : GoodB rows) (h : ∀ p, p < rows.length → FitQ 42 700 (vf p)) : ∀ {ps : List Nat}, ∀ d ∈ callsD rows vf ps, FitQ 44 5000 d := by
  intro ps d hd
  unfold callsD at hd
  obtain ⟨p, hp, hd⟩ := List.mem_flatMap.mp hd
  unfold callD at hd
  cases hr : rows[p]? with
  | none => rw [hr] at hd; cases hd
  | some r =>
    rw [hr] at hd
    obtain ⟨g1, _, g3⟩ := gd.2 p r hr
    have hpl := (List.getElem?_eq_some_iff.mp hr).1
    rcases g3 with ⟨l, es, l3, lt⟩ | ⟨t, es, _⟩
    · have hd : d ∈ [PyData.tuple [.str r.nm, .list (l.map vf)]] := by
        have hd : d ∈ (match r.sec with | .inl l => [PyData.tuple [.str r.nm, .list (l.map vf)]] | .inr _ => []) := hd
        rw [es] at hd
        exact hd
      rw [List.mem_singleton.mp hd]
      have f1 : FitQ 43 2200 (.list (l.map vf)) := (fitq_list (n := 42) (w := 700) fun x hx => by
        obtain ⟨j, hj, rfl⟩ := List.mem_map.mp hx
        have := lt j hj
        exact h j (by omega)).up (Nat.le_refl _) (by rw [List.length_map]; omega)
      exact (fitq_tuple (n := 43) (w := 2200) fun x hx => by
        simp only [List.mem_cons, List.not_mem_nil, or_false] at hx
        rcases hx with rfl | rfl
        · exact (fitq_str (nm_sm g1)).up (Nat.le_refl _) (by decide)
        · exact f1).up (Nat.le_refl _) (by simp)
    · have hd : d ∈ (match r.sec with | .inl l => [PyData.tuple [.str r.nm, .list (l.map vf)]] | .inr _ => []) := hd
      rw [es] at hd
      cases hd
theorem calls_len {rows : List BRow} {vf : Nat → PyData} : ∀ ps : List Nat, (callsD rows vf ps).length ≤ ps.length
  | [] => Nat.le_refl _
  | p :: ps => by
    have ih := calls_len (rows := rows) (vf := vf) ps
    have h1 : (callD rows vf p).length ≤ 1 := by
      unfold callD
      split
      · split
        · exact Nat.le_refl _
        · exact Nat.zero_le _
      · exact Nat.zero_le _
    show ((callD rows vf p) ++ callsD rows vf ps).length ≤ _
    rw [List.length_append, List.length_cons]
    omega
theorem smp_kv {H : Hp} {sm : List (Str × List PyData)} {ss : List (Key × V)} (p : Paired (EntS (SmpV K H)) sm ss) (so : SmOk sm) : ∃ ds : List (PyData × PyData), DqAll K H (ss.map fun p => kV p.1) (ds.map (·.1)) ∧ DqAll K H (ss.map (·.2)) (ds.map (·.2)) ∧ ds.length = ss.length ∧ ∀ p ∈ ds, FitQ 3 90 p.1 ∧ FitQ 3 2000 p.2 := by
  induction p with
  | nil => exact ⟨[], .nil, .nil, rfl, (by simp)⟩
  | cons a t ih =>
    rename_i e kv sm ss
    obtain ⟨ds, h1, h2, h3, h4⟩ := ih fun e he => so e (List.mem_cons_of_mem _ he)
    obtain ⟨o1, o2, o3⟩ := so e List.mem_cons_self
    obtain ⟨c, hc⟩ := a.2.dq
    refine ⟨(.str e.1, if c = true then .tuple e.2 else .list e.2) :: ds, .cons (show Dq K H (kV _) _ by rw [a.1]; exact .str e.1) h1, .cons hc h2, by rw [List.length_cons, List.length_cons, h3], fun p hp => ?_⟩
    rcases List.mem_cons.mp hp with rfl | hp
    · refine ⟨(fitq_str (nm_sm o1)).up (Nat.le_refl _) (by decide), ?_⟩
      have f : ∀ d ∈ e.2, FitQ 2 300 d := fun d hd => (o3 d hd).fit
      cases c with
      | true => exact (fitq_tuple f).up (Nat.le_refl _) (by omega)
      | false => exact (fitq_list f).up (Nat.le_refl _) (by omega)
    · exact h4 p hp
theorem smp_dict {H : Hp} {S : Addr} {sm : List (Str × List PyData)} {ss : List (Key × V)} (h : H S = some (.dK ss)) (p : Paired (EntS (SmpV K H)) sm ss) (so : SmOk sm) (l : ss.length ≤ 40) : ∃ d, Dq K H (.ref S) d ∧ FitQ 4 100000 d := by
  obtain ⟨ds, h1, h2, h3, h4⟩ := smp_kv p so
  refine ⟨.dict ds, .dic (.inl h) h1 h2, (fitq_dict h4).up (Nat.le_refl _) ?_⟩
  rw [h3]
  have : ss.length * (90 + 2 + 2000 + 2) ≤ 40 * (90 + 2 + 2000 + 2) := Nat.mul_le_mul_right _ l
  omega
theorem SmOk.ok {sm : List (Str × List PyData)} (so : SmOk sm) : SmpOk (lkS sm) := ⟨fun nm ds h d hd => (so _ (lkS_mem h)).2.2 d hd⟩
end
end L05
set_option Elab.async false
set_option linter.all false
set_option maxRecDepth 100000
set_option maxHeartbeats 4000000
set_option pp.deepTerms false
set_option pp.deepTerms.threshold 4
set_option pp.maxSteps 1000
namespace L05
open PySem L2 Tp
section
variable {P : Program} {w : World} {K : PySem.W.Frag} {mg : Str → Option Value} {base : Heap} {a : Ad} {d : Fd}
theorem sys_kp {L : Addr} {xs : List V} {H H' : Hp} (h : Sys K H) (B : H L = some (.lst xs)) (k : Kp L H H') : Sys K H' := h.imp id fun ⟨e, o, φ, g⟩ => ⟨e, o, φ, k _ _ (fun e => by
  rw [e, B] at g
  cases g) g⟩
theorem two_shaped {i j : Int} : SeqAt.shaped (.list [.int i, .int j]) = true := by
  unfold SeqAt.shaped
  simp [PyData.canLay0, PyData.canLayAll0, PyData.depth, PyData.depthAll]
theorem two_eqv {i j : Int} : (!PyData.eqv (.list [.int i, .int j]) (.list [.int i, .int j])) = false := by
  have : PyData.eqv (.list [.int i, .int j]) (.list [.int i, .int j]) = true := by simp [PyData.eqv, PyData.eqvAll]
  rw [this]
  rfl
def spRightL (P : Program) (w : World) (K : PySem.W.Frag) (mg : Str → Option Value) (base : Heap) (a : Ad) : Sp := fun vs H Q _ => ∃ (M : List Addr) (L x l m q MM S : Addr) (rows : List BRow) (as bs : List Addr) (cs : List V) (n : Nat) (fl : List (Str × Nat)) (sm : List (Str × List PyData)) (ss : List (Key × V)), vs = [.ref x, .ref q, .int (n : Nat), .ref MM, .ref S, .ref L] ∧ BookAt P w K a.CBook (offM M H) x l m rows bs ∧ offM M H q = some (.lst (as.map V.ref)) ∧ Paired (RowAt K (offM M H)) rows as ∧ GoodB rows ∧ n < rows.length ∧ rows.length ≤ 40 ∧
  L ∈ M ∧ MutM M H ∧ H L = some (.lst cs) ∧ MeanA P w K mg base (offM M H) L MM fl ∧ offM M H S = some (.dK ss) ∧ Paired (EntS (SmpV K (offM M H))) sm ss ∧ SmOk sm ∧ ss.length ≤ 40 ∧ Sys K H ∧
  ∀ H' cs', Kp L H H' → H' L = some (.lst cs') → cs'.length ≤ 40 → Q (.bl true) H'
theorem ok_right (T : Txt K mg a d) : FnG P w K mg base CX0 9 a.right d.right ["_law_book", "_law_rows_here", "_law_number", "_law_meaning_here", "_law_given", "_law_calls"] (spRightL P w K mg base a) := by
  have G_partsL := ok_partsL (P := P) (w := w) (base := base) T
  have G_size := ok_size (P := P) (w := w) (base := base) T
  have G_depth := ok_depth (P := P) (w := w) (base := base) T
  have G_parts := ok_parts (P := P) (w := w) (base := base) T
  have G_measured := ok_measured (P := P) (w := w) (base := base) T
  have G_due := ok_due (P := P) (w := w) (base := base) T
  have G_told := ok_told (P := P) (w := w) (base := base) T
  have G_walked := ok_walked (P := P) (w := w) (base := base) T
  refine okG T.F_right scRight (fun vs H Q E h => ?_) (fun cdv A outer s H vs Q E hr hg h => ?_)
  · obtain ⟨M, L, x, l, m, q, MM, S, rows, as, bs, cs, n, fl, sm, ss, rfl, _⟩ := h
    rfl
  · obtain ⟨M, L, x, l, m, q, MM, S, rows, as, bs, cs, n, fl, sm, ss, rfl, bk, gq, pr, gd, hn, l40, mL, mu, gL, mn, gS, pS, so, ls, sy, fin⟩ := h
    refine ⟨_, (pss_cons (ps_set (i := 6) scRight.nd rfl (Or.inl rfl) (Tp.pe_callG G_partsL (hr.mono (by decide)) hg (by rfl) T.mg_partsL T.F_partsL.kp T.b_partsL .nil pass0 (pa_cons (pv 1) (pa_cons (pv 2) pa_nil))))
      (pss_cons (ps_set (i := 7) scRight.nd rfl (Or.inl rfl) (pe_lst (pa_cons (Tp.pe_methE (pv 0) T.cl_Book T.me_size G_size (hr.mono (by decide)) T.b_size .nil (fun σ => Tp.passA0 σ) (pa_cons (pv 2) pa_nil)) (pa_cons (Tp.pe_methE (pv 0) T.cl_Book T.me_depth G_depth (hr.mono (by decide)) T.b_depth .nil (fun σ => Tp.passA0 σ) (pa_cons (pv 2) pa_nil)) pa_nil))))
      (pss_cons (ps_if (PW.pt (pw_or (pt_cmpR (op_neD hr.units) (Tp.pe_methE (pv 0) T.cl_Book T.me_parts G_parts (hr.mono (by decide)) T.b_parts .nil (fun σ => Tp.passA0 σ) (pa_cons (pv 2) pa_nil)) (pv 6) (nomark _)) (pw_or1 (pt_cmpR (op_neD hr.units) (pv 7) (Tp.pe_callG G_measured (hr.mono (by decide)) hg (by rfl) T.mg_measured T.F_measured.kp T.b_measured .nil pass0 (pa_cons (pv 1) (pa_cons (pv 6) pa_nil))) (nomark _))))) (pss_one (ps_ret pe_bl)) pss_nil)
      (pss_cons (ps_set (i := 8) scRight.nd rfl (Or.inl rfl) (Tp.pe_callG G_due (hr.mono (by decide)) hg (by rfl) T.mg_due T.F_due.kp T.b_due .nil pass0 (pa_cons (pv 1) (pa_cons (pv 6) (pa_cons (pv 3) (pa_cons (pv 4) pa_nil))))))
      (pss_cons (ps_set (i := 9) scRight.nd rfl (Or.inl rfl) (pe_callB (Tp.call_reprQ hr hg) (by rfl) T.repr_ Tp.bt_repr (pa_cons (pv 4) pa_nil)))
      (pss_cons (ps_expr (pe_bm0 PySem.F.plainAttrs_list PySem.F.slot_list_clear PySem.F.type_list_clear mt_clear (pv 5)))
      (pss_cons (ps_set (i := 10) scRight.nd rfl (Or.inl rfl) (Tp.pe_callG G_told (hr.mono (by decide)) hg (by rfl) T.mg_told T.F_told.kp T.b_told .nil pass0 (pa_cons (pv 0) (pa_cons (pv 2) (pa_cons (pv 3) (pa_cons (pv 4) pa_nil))))))
      (pss_cons (ps_set (i := 11) scRight.nd rfl (Or.inl rfl) (pe_callTy call_list_of (by rfl) T.list_ Tp.bt_list (pa_cons (pv 5) pa_nil)))
      (pss_cons (ps_if (pt_cmpR op_ne (pe_ix ix_list (pv 8) pe_int (fun _ _ => rfl)) pe_str (nomark _)) (pss_one (ps_ret (pe_and (pe_cmpR op_eq (pe_callB (Tp.call_reprQ hr hg) (by rfl) T.repr_ Tp.bt_repr (pa_cons (pv 10) pa_nil)) (pe_callB (Tp.call_reprQ hr hg) (by rfl) T.repr_ Tp.bt_repr (pa_cons (pv 8) pa_nil)) (nomark _)) (pe_one (pe_cmpR (op_eqD hr.units) (pv 11) (pe_lst pa_nil) (nomark _)))))) pss_nil)
      (pss_cons (ps_expr (pe_bm0 PySem.F.plainAttrs_list PySem.F.slot_list_clear PySem.F.type_list_clear mt_clear (pv 5)))
      (pss_cons (ps_set (i := 12) scRight.nd rfl (Or.inl rfl) (Tp.pe_callG G_walked (hr.mono (by decide)) hg (by rfl) T.mg_walked T.F_walked.kp T.b_walked .nil pass0 (pa_cons (pv 1) (pa_cons (pv 6) (pa_cons (pv 3) (pa_cons (pv 4) pa_nil))))))
      (pss_cons (ps_if (PW.pt (pw_or (pt_cmpR op_ne (pe_callB (Tp.call_reprQ hr hg) (by rfl) T.repr_ Tp.bt_repr (pa_cons (pv 10) pa_nil)) (pe_callB (Tp.call_reprQ hr hg) (by rfl) T.repr_ Tp.bt_repr (pa_cons (pe_lst (pa_cons pe_str (pa_cons (pe_ix ix_tup (pv 12) pe_int (fun _ _ => rfl)) pa_nil))) pa_nil)) (nomark _)) (pw_or1 (pt_cmpR op_ne (pe_callB (Tp.call_reprQ hr hg) (by rfl) T.repr_ Tp.bt_repr (pa_cons (pv 11) pa_nil)) (pe_callB (Tp.call_reprQ hr hg) (by rfl) T.repr_ Tp.bt_repr (pa_cons (pe_ix ix_tup (pv 12) pe_int (fun _ _ => rfl)) pa_nil)) (nomark _))))) (pss_one (ps_ret pe_bl)) pss_nil)
      (pss_one (ps_ret (pe_cmpR op_eq (pe_callB (Tp.call_reprQ hr hg) (by rfl) T.repr_ Tp.bt_repr (pa_cons (pv 4) pa_nil)) (pv 9) (nomark _)))))))))))))))), ?_⟩
    have B0 : Same (offM M H) H := offM_to
    have pr0 := paired_imp (fun _ _ h => h.same B0) pr
    refine ⟨_, rfl, _, rfl, q, rows, as, n, rfl, B0 _ _ gq, pr0, gd, hn, by omega, fun pl H1 S1 npl gpl => ?_⟩
    have bk1 := (bk.same B0).same S1
    obtain ⟨dx1, ho1⟩ := bk1.obj
    have fS := tabF_ok (g := sizeG) (z := 0) gd.wf
    have fD := tabF_ok (g := depthG) (z := 0) gd.wf
    generalize tabF sizeG 0 rows = sz at fS
    generalize tabF depthG 0 rows = dp at fD
    refine ⟨_, rfl, x, _, _, rfl, ho1, no_look (by decide) (by decide), _, rfl, .inl ⟨x, l, m, rows, bs, n, sz, rfl, bk1, gd.wf, gd.few, hn, fS, fun H2 S2 => ?_⟩⟩
    have bk2 := bk1.same S2
    obtain ⟨dx2, ho2⟩ := bk2.obj
    refine ⟨_, rfl, x, _, _, rfl, ho2, no_look (by decide) (by decide), _, rfl, .inl ⟨x, l, m, rows, bs, n, dp, rfl, bk2, gd.wf, gd.few, hn, fD, fun H3 S3 => ?_⟩⟩
    refine ⟨(show 2 ≤ sizeLine from by decide), fun ml hml => ?_⟩
    have S4 := same_new (o := .lst [V.int (sz n), V.int (dp n)]) hml
    have g4 : (upd H3 ml (.lst [V.int (sz n), V.int (dp n)])) ml = some (.lst [V.int (sz n), V.int (dp n)]) := upd_same
    generalize upd H3 ml (.lst [V.int (sz n), V.int (dp n)]) = H4 at S4 g4 ⊢
    have S24 := S2.trans (S3.trans S4)
    have S14 := S1.trans S24
    have bk4 := bk1.same S24
    obtain ⟨dx4, ho4⟩ := bk4.obj
    have gpl4 := S24 _ _ gpl
    refine ⟨_, rfl, x, _, _, rfl, ho4, no_look (by decide) (by decide), _, rfl, .inl ⟨x, l, m, rows, bs, n, rfl, bk4, gd.wf, gd.few, hn, fun qa H5 S5 nqa g5 => ⟨_, rfl, .list (numsD (partsR rows n)), .list (numsD (partsR rows n)), .lst (SqL.of g5) (dpN _), .lst (SqL.of (S5 _ _ gpl4)) (dpN _), nums_shaped _, nums_shaped _, _, rfl, ?_⟩⟩⟩
    rw [nums_eqv]
    refine iteF ?_
    have S15 := S14.trans S5
    have gpl5 := S5 _ _ gpl4
    have g45 := S5 _ _ g4
    refine ⟨_, rfl, _, rfl, _, rfl, q, pl, rows, as, n, sz, dp, rfl, S15 _ _ (B0 _ _ gq), paired_imp (fun _ _ h => h.same S15) pr0, gpl5, gd, hn, by omega, fS, fD, fun mm H6 S6 g6 => ⟨.list [.int (sz n), .int (dp n)], .list [.int (sz n), .int (dp n)], .lst (SqL.of (S6 _ _ g45)) (.cons (.int _) (.cons (.int _) .nil)), .lst (SqL.of g6) (.cons (.int _) (.cons (.int _) .nil)), two_shaped, two_shaped, _, rfl, ?_⟩⟩
    rw [two_eqv]
    refine iteF ?_
    have S16 := S15.trans S6
    obtain ⟨ms, hM, pm⟩ := mn.ms
    have pS0 := paired_imp (fun _ _ h => (⟨h.1, h.2.same (B0.trans S16)⟩ : EntS (SmpV K H6) _ _)) pS
    have gS6 := S16 _ _ (B0 _ _ gS)
    have gpl6 := S6 _ _ gpl5
    refine ⟨_, rfl, _, rfl, _, rfl, _, rfl, q, pl, MM, S, rows, as, n, fl, ms, sm, ss, rfl, S16 _ _ (B0 _ _ gq), paired_imp (fun _ _ h => h.same S16) pr0, gpl6, hn, S16 _ _ (B0 _ _ hM), paired_imp (fun _ _ h => ⟨h.1, trivial⟩) pm, gS6, pS0, fun dl H7 S7 ndl g7 => ?_⟩
    have S17 := S16.trans S7
    obtain ⟨dS, dqS, fitS⟩ := smp_dict gS pS so ls
    obtain ⟨h1, h2, h3⟩ := fitS.ok (by decide) (by decide)
    have gL7 := S17 _ _ gL
    have sy7 := sy.same S17
    refine ⟨_, rfl, .ref S, dS, rfl, sy7, (dq_same (B0.trans S17)).1 dqS, h1, h2, h3, ?_⟩
    have gpl7 := S7 _ _ gpl6
    have nplL : pl ≠ L := fun e => by rw [e, gL] at npl; cases npl
    have ndlL : dl ≠ L := fun e => by rw [e, S16 _ _ gL] at ndl; cases ndl
    have nplM : pl ∉ M := mu.new npl
    refine ⟨_, rfl, .inl ⟨rfl, _, SqL.of gL7⟩, L, cs, rfl, rfl, gL7, ?_⟩
    have kp8 : Kp L H (upd H7 L (.lst [])) := fun z o n h => by rw [upd_ne n]; exact S17 _ _ h
    have gL8 : (upd H7 L (.lst [])) L = some (.lst []) := upd_same
    have gpl8 : (upd H7 L (.lst [])) pl = some (.lst (numsV (partsR rows n))) := by rw [upd_ne nplL]; exact gpl7
    have gdl8 : (upd H7 L (.lst [])) dl = some (.lst (dueV (firstDue (fnB fl) (lkS sm) rows n))) := by rw [upd_ne ndlL]; exact g7
    have ndlM : dl ∉ M := (mu.same S16).new ndl
    generalize upd H7 L (.lst []) = H8 at kp8 gL8 gpl8 gdl8 ⊢
    have off8 : Same (offM M H) (offM M H8) := offM_kp mL kp8
    have mu8 := mu.kp kp8 gL8
    have sy8 := sys_kp sy gL kp8
    have bk8 := bk.same off8
    have pS8 : Paired (EntS (SmpV K (offM M H8))) sm ss := paired_imp (fun _ _ h => ⟨h.1, h.2.same off8⟩) pS
    have ask8 : SmpAt K (offM M H8) (.ref S) (lkS sm) := .dict S ss sm (off8 _ _ gS) pS8 (by omega)
    cases hdu : firstDue (fnB fl) (lkS sm) rows n with
    | some dd =>
      refine ⟨_, rfl, _, rfl, _, rfl, _, rfl, M, L, x, l, m, rows, bs, [], .int (n : Nat), .ref MM, .ref S, .due dd, rfl, bk8, gd, l40, mL, mu8, gL8, Nat.zero_le _, .due n rfl hn MM fl rfl (mn.keep off8) (lkS sm) ask8 dd hdu, fun _ p H9 S9 np g9 => ?_, fun n' vf' e => by cases e⟩
      have gL9 := S9 _ _ gL8
      refine ⟨_, rfl, L, [], rfl, .inl (SqL.of gL9), fun nl hnl => ?_⟩
      have S10 := same_new (o := .lst []) hnl
      have g10 : (upd H9 nl (.lst [])) nl = some (.lst []) := upd_same
      generalize upd H9 nl (.lst []) = H10 at S10 g10 ⊢
      rw [hdu] at gdl8
      have gdl10 := S10 _ _ (S9 _ _ gdl8)
      have g910 := S10 _ _ g9
      have f := due_fit gd hdu
      have ld : (dueD (some dd)).length ≤ 3 := by cases dd <;> simp [dueD]
      obtain ⟨f1, f2, f3⟩ := ((fitq_list f).up (m := 2) (v := 300) (Nat.le_refl _) (by omega)).ok (by decide) (by decide)
      have sy10 := (sy8.same S9).same S10
      have dq1 : ∀ {H' : Hp} {z : Addr}, H' z = some (.lst (dueV (some dd))) → Dq K H' (.ref z) (.list (dueD (some dd))) := fun g => .lst (SqL.of g) (due_dq (some dd))
      have hd : ∃ u : Str, (dueV (some dd))[0]? = some (.str u) ∧ u ≠ "value" := by
        cases dd with
        | sym nm => exact ⟨_, rfl, by decide⟩
        | smp nm t => exact ⟨_, rfl, by decide⟩
      obtain ⟨u, hu, nu⟩ := hd
      refine ⟨_, rfl, dl, _, 0, _, rfl, rfl, SqL.of gdl10, atI_nat (j := 0) hu, rfl, _, rfl, ifnN (fun e => nu (V.str.inj e)) ?_⟩
      refine ⟨_, rfl, .ref p, .list (dueD (some dd)), rfl, sy10, dq1 g910, f1, f2, f3, _, rfl, .ref dl, .list (dueD (some dd)), rfl, sy10, dq1 gdl10, f1, f2, f3, rfl, _, rfl, ifY rfl ?_⟩
      refine ⟨_, rfl, Nat.zero_le _, fun e0 he0 => ⟨.list [], .list [], .lst (SqL.of (same_new he0 _ _ g10)) .nil, .lst (SqL.of upd_same) .nil, by decide +kernel, by decide +kernel, ?_⟩⟩
      rw [show PyData.eqv (.list []) (.list []) = true from rfl]
      have S8e := (S9.trans S10).trans (same_new (o := .lst []) he0)
      exact fin _ [] (fun z o n h => S8e _ _ (kp8 z o n h)) (S8e _ _ gL8) (Nat.zero_le _)
    | none =>
      have ft := tabF_ok (g := gV (saltF fl) (lkS sm)) (z := PyData.none) gd.wf
      generalize tabF (gV (saltF fl) (lkS sm)) PyData.none rows = vf at ft
      refine ⟨_, rfl, _, rfl, _, rfl, _, rfl, M, L, x, l, m, rows, bs, [], .int (n : Nat), .ref MM, .ref S, .val n vf, rfl, bk8, gd, l40, mL, mu8, gL8, Nat.zero_le _, .val n rfl hn MM fl rfl (mn.keep off8) (lkS sm) ask8 hdu vf ft, fun z => absurd rfl (z n vf), fun n' vf' e p v H9 new kp9 gL9 dn9 dv9 npM g9 => ?_⟩
      cases e
      have fvA : ∀ p, p < rows.length → FitV p (vf p) := fun p hp => vals_fit gd ft (fun nm => salt_lt mn.lt nm) so.ok l40 (p + 1) p (by omega) hp
      have fq : ∀ p, p < rows.length → FitQ 42 700 (vf p) := fun p hp => vals_up fvA l40 hp
      have gL9 : H9 L = some (.lst new) := gL9
      refine ⟨_, rfl, L, new, rfl, .inl (SqL.of gL9), fun nl hnl => ?_⟩
      have S10 := same_new (o := .lst new) hnl
      have g10 : (upd H9 nl (.lst new)) nl = some (.lst new) := upd_same
      generalize upd H9 nl (.lst new) = H10 at S10 g10 ⊢
      rw [hdu] at gdl8
      have gdl10 := S10 _ _ (kp9 _ _ ndlL gdl8)
      have gL10 := S10 _ _ gL9
      have npL : p ≠ L := fun e => npM (by rw [e]; exact mL)
      have nnL : nl ≠ L := fun e => by rw [e, gL9] at hnl; cases hnl
      have mu9 := mu8.kp kp9 gL9
      have nnM : nl ∉ M := mu9.new hnl
      refine ⟨_, rfl, dl, _, 0, _, rfl, rfl, SqL.of gdl10, atI_nat (j := 0) rfl, rfl, _, rfl, ifnY rfl ?_⟩
      refine ⟨_, rfl, .inl ⟨rfl, _, SqL.of gL10⟩, L, new, rfl, rfl, gL10, ?_⟩
      have kpX : Kp L H9 (upd H10 L (.lst [])) := fun z o n h => by rw [upd_ne n]; exact S10 _ _ h
      have gL11 : (upd H10 L (.lst [])) L = some (.lst []) := upd_same
      have gnl11 : (upd H10 L (.lst [])) nl = some (.lst new) := by rw [upd_ne nnL]; exact g10
      generalize upd H10 L (.lst []) = H11 at kpX gL11 gnl11 ⊢
      have kp11 : Kp L H H11 := fun z o n h => kpX _ _ n (kp9 _ _ n (kp8 _ _ n h))
      have off11 : Same (offM M H) (offM M H11) := offM_kp mL kp11
      have mu11 := mu.kp kp11 gL11
      have gpl11 : H11 pl = some (.lst (numsV (partsR rows n))) := kpX _ _ nplL (kp9 _ _ nplL gpl8)
      refine ⟨_, rfl, _, rfl, _, rfl, _, rfl, M, L, q, pl, MM, S, rows, as, [], n, fl, sm, ss, vf, rfl, off11 _ _ gq, paired_imp (fun _ _ h => h.same off11) pr, offM_get nplM gpl11, gd, hn, l40, mL, mu11, gL11, Nat.zero_le _, mn.keep off11, off11 _ _ gS, paired_imp (fun _ _ h => ⟨h.1, h.2.same off11⟩) pS, hdu, ft, fun v2 t C H12 new2 cs2 kp12 gL12 ln2 gt ntM nCM gC dc2 dv2 => ?_⟩
      have gL12 : H12 L = some (.lst new2) := gL12
      have kpA : Kp L H H12 := fun z o n h => kp12 _ _ n (kp11 _ _ n h)
      have kpB : Kp L H9 H12 := fun z o n h => kp12 _ _ n (kpX _ _ n h)
      have sy12 := sys_kp sy gL kpA
      have gp12 := kpB _ _ npL g9
      have gnl12 := kp12 _ _ nnL gnl11
      have offB : Same (offM M H9) H12 := (offM_kp mL kpB).trans offM_to
      have dv12 := (dq_same offB).1 dv9
      have dn12 := (dq_same offB).2 dn9
      have dvw := (dq_same (offM_to (M := M) (H := H12))).1 dv2
      have dcw := (dq_same (offM_to (M := M) (H := H12))).2 dc2
      have lcalls : (callsD rows vf (partsR rows n)).length ≤ 40 := Nat.le_trans (calls_len _) (by have := parts_len rows n; omega)
      have fpair : ∀ x ∈ [PyData.str "value", vf n], FitQ 42 700 x := fun x hx => by
        rcases List.mem_cons.mp hx with rfl | hx
        · exact (fit_tag _ (by simp)).up (by decide) (by decide)
        · rw [List.mem_singleton.mp hx]
          exact fq n hn
      obtain ⟨f1, f2, f3⟩ := ((fitq_list fpair).up (m := 43) (v := 2000) (Nat.le_refl _) (by simp)).ok (by decide) (by decide)
      obtain ⟨c1, c2, c3⟩ := ((fitq_list (n := 44) (w := 5000) (calls_fit (ps := partsR rows n) gd fq)).up (m := 45) (v := 300000) (Nat.le_refl _) (by omega)).ok (by decide) (by decide)
      refine ⟨_, rfl, .ref p, .list [.str "value", vf n], rfl, sy12, .lst (SqL.of gp12) (.cons (.str _) (.cons dv12 .nil)), f1, f2, f3, ?_⟩
      refine ⟨_, rfl, t, _, 0, _, rfl, rfl, SqT.of gt, atI_nat (j := 0) rfl, (show 2 ≤ sizeLine from by decide), fun l2 hl2 => ?_⟩
      have S13 := same_new (o := .lst [V.str "value", v2]) hl2
      have g13 : (upd H12 l2 (.lst [V.str "value", v2])) l2 = some (.lst [V.str "value", v2]) := upd_same
      generalize upd H12 l2 (.lst [V.str "value", v2]) = H13 at S13 g13 ⊢
      have sy13 := sy12.same S13
      refine ⟨.ref l2, .list [.str "value", vf n], rfl, sy13, .lst (SqL.of g13) (.cons (.str _) (.cons ((dq_same S13).1 dvw) .nil)), f1, f2, f3, rfl, _, rfl, ifnY rfl ?_⟩
      refine ⟨_, rfl, .ref nl, .list (callsD rows vf (partsR rows n)), rfl, sy13, .lst (SqL.of (S13 _ _ gnl12)) ((dq_same S13).2 dn12), c1, c2, c3, ?_⟩
      refine ⟨_, rfl, t, _, 1, _, rfl, rfl, SqT.of (S13 _ _ gt), atI_nat (j := 1) rfl, .ref C, .list (callsD rows vf (partsR rows n)), rfl, sy13, .lst (SqL.of (S13 _ _ gC)) ((dq_same S13).2 dcw), c1, c2, c3, rfl, _, rfl, ifnY rfl ?_⟩
      have dS13 : Dq K H13 (.ref S) dS := (dq_same ((offM_kp mL kpA).trans (offM_to.trans S13))).1 dqS
      refine ⟨_, rfl, .ref S, dS, rfl, sy13, dS13, h1, h2, h3, _, rfl, rfl, ?_⟩
      rw [decide_eq_true rfl]
      exact fin _ new2 (fun z o n h => S13 _ _ (kpA z o n h)) (S13 _ _ gL12) ln2
end
end L05
set_option Elab.async false
set_option linter.all false
set_option maxRecDepth 100000
set_option maxHeartbeats 4000000
set_option pp.deepTerms false
set_option pp.deepTerms.threshold 4
set_option pp.maxSteps 1000
namespace L05
open PySem L2 Tp
section
variable {P : Program} {w : World} {K : PySem.W.Frag} {mg : Str → Option Value} {base : Heap} {a : Ad} {d : Fd}
theorem op_neDK {X : Cx} {K : PySem.W.Frag} (hK : X.K = K) (hu : X.A.units + 64 < cLine) : OpR X (compareOp .NotEq) (rNeD K) := by
  subst hK
  exact op_neD hu
def spRefusedL (P : Program) (w : World) (K : PySem.W.Frag) (mg : Str → Option Value) (base : Heap) (a : Ad) : Sp := fun vs H Q _ => ∃ (M : List Addr) (L x l m q MM : Addr) (rows : List BRow) (as bs : List Addr) (cs : List V) (fl : List (Str × Nat)), vs = [.ref x, .ref q, .ref MM, .int 0] ∧ BookAt P w K a.CBook (offM M H) x l m rows bs ∧ offM M H q = some (.lst (as.map V.ref)) ∧ as.length = rows.length ∧ GoodB rows ∧ 0 < rows.length ∧ rows.length ≤ 40 ∧
  L ∈ M ∧ MutM M H ∧ H L = some (.lst cs) ∧ cs.length ≤ 40 ∧ MeanA P w K mg base (offM M H) L MM fl ∧ Sys K H ∧
  ∀ H' cs', Kp L H H' → H' L = some (.lst cs') → cs'.length ≤ 400 → Q (.bl true) H'
structure EnvR (P : Program) (w : World) (K : PySem.W.Frag) (mg : Str → Option Value) (base : Heap) (a : Ad) (M : List Addr) (L x l m q MM : Addr) (rows : List BRow) (as bs : List Addr) (fl : List (Str × Nat)) (H : Hp) (cs : List V) : Prop where
  bk : BookAt P w K a.CBook (offM M H) x l m rows bs
  gq : offM M H q = some (.lst (as.map V.ref))
  mu : MutM M H
  mn : MeanA P w K mg base (offM M H) L MM fl
  sy : Sys K H
  gL : H L = some (.lst cs)
section
variable {M : List Addr} {L x l m q MM : Addr} {rows : List BRow} {as bs : List Addr} {fl : List (Str × Nat)} {H H' : Hp} {cs cs' : List V}
theorem EnvR.kp (e : EnvR P w K mg base a M L x l m q MM rows as bs fl H cs) (mL : L ∈ M) (k : Kp L H H') (g : H' L = some (.lst cs')) : EnvR P w K mg base a M L x l m q MM rows as bs fl H' cs' :=
  ⟨e.bk.same (offM_kp mL k), offM_kp mL k _ _ e.gq, e.mu.kp k g, e.mn.keep (offM_kp mL k), sys_kp e.sy e.gL k, g⟩
theorem EnvR.same (e : EnvR P w K mg base a M L x l m q MM rows as bs fl H cs) (S : Same H H') : EnvR P w K mg base a M L x l m q MM rows as bs fl H' cs :=
  ⟨e.bk.same (offM_of S), offM_of S _ _ e.gq, e.mu.same S, e.mn.keep (offM_of S), e.sy.same S, S _ _ e.gL⟩
end
def ThingN (K : PySem.W.Frag) (H : Hp) (n : Int) (v : V) : Prop := ∃ d, Dp K H v d ∧ intD d 0 n = false ∧ SeqAt.shaped (.list [.str "term", d]) = true ∧ (!PyData.eqv (.list [.str "term", d]) (.list [.str "term", d])) = false
theorem thing_ok {K : PySem.W.Frag} {H : Hp} {n : Int} {v : V} {d : PyData} (h : Dp K H v d) (e : intD d 0 n = false) (c : PyData.canLay0 d = true ∧ PyData.depth d ≤ 1 ∧ PyData.eqv d d = true) : ThingN K H n v := by
  obtain ⟨c1, c2, c3⟩ := c
  refine ⟨d, h, e, ?_, ?_⟩
  · unfold SeqAt.shaped
    have : PyData.strOk "term" = true := by decide +kernel
    simp [PyData.canLay0, PyData.canLayAll0, PyData.depth, PyData.depthAll, c1, this]
    omega
  · have : PyData.eqv (.list [.str "term", d]) (.list [.str "term", d]) = true := by simp [PyData.eqv, PyData.eqvAll, c3]
    rw [this]
    rfl
def Thing2 (K : PySem.W.Frag) (H : Hp) (v : V) : Prop := ∃ d, Dq K H v d ∧ isDc d = false ∧ FitQ 2 90 d
theorem nil_eqv : (!PyData.eqv (.list []) (.list [])) = false := rfl
abbrev kvXY (l : Addr) : List (Key × V) := [(Sum.inr "x", .int 3), (Sum.inr "y", .ref l)]
theorem merge_xy (l : Addr) : mergeK [] (kvXY l) = kvXY l := by
  have h0 : ("x" : Str) ≠ "y" := by decide
  have h : ¬ ((Sum.inr ("x" : Str) : Key) = (Sum.inr ("y" : Str) : Key)) := fun e => h0 (Sum.inr.inj e)
  have e1 : putK ([] : List (Key × V)) (Sum.inr "x" : Key) (V.int 3) = [((Sum.inr "x" : Key), V.int 3)] := putK_new _ rfl
  have e2 : putK [((Sum.inr "x" : Key), V.int 3)] (Sum.inr "y" : Key) (V.ref l) = [((Sum.inr "x" : Key), V.int 3)] ++ [((Sum.inr "y" : Key), V.ref l)] := putK_new _ (by rw [valV_neg (p := ((Sum.inr "x" : Key), V.int 3)) h]; rfl)
  show putK (putK [] (Sum.inr "x" : Key) (V.int 3)) (Sum.inr "y" : Key) (V.ref l) = _
  rw [e1]
  exact e2
def dictXY : PyData := .dict [(.str "x", .int 3), (.str "y", .list [.int 1])]
theorem dq_xy {H : Hp} {D l : Addr} (h : H D = some (.dK (kvXY l))) (g : H l = some (.lst [.int 1])) : Dq K H (.ref D) dictXY := .dic (.inl h) (.cons (.str "x") (.cons (.str "y") .nil)) (.cons (.int 3) (.cons (.lst (SqL.of g) (.cons (.int 1) .nil)) .nil))
def foundD (n : Nat) (d : PyData) : PyData := .list [.list [.str "term", .int (n : Nat)], .list [.str "meaning", d], .list [.str "values", dictXY], .list [.str "term", .bool true]]
theorem found_dq {H : Hp} {f p1 p2 p3 p4 D l : Addr} {n : Nat} {v : V} {d : PyData} (h : H f = some (.lst [.ref p1, .ref p2, .ref p3, .ref p4])) (h1 : H p1 = some (.lst [.str "term", .int (n : Nat)])) (h2 : H p2 = some (.lst [.str "meaning", v])) (h3 : H p3 = some (.lst [.str "values", .ref D])) (h4 : H p4 = some (.lst [.str "term", .bl true])) (hv : Dq K H v d) (hD : H D = some (.dK (kvXY l))) (hl : H l = some (.lst [.int 1])) : Dq K H (.ref f) (foundD n d) :=
  .lst (SqL.of h) (.cons (.lst (SqL.of h1) (.cons (.str _) (.cons (.int _) .nil))) (.cons (.lst (SqL.of h2) (.cons (.str _) (.cons hv .nil))) (.cons (.lst (SqL.of h3) (.cons (.str _) (.cons (dq_xy hD hl) .nil))) (.cons (.lst (SqL.of h4) (.cons (.str _) (.cons (.bl true) .nil))) .nil))))
theorem found_fit {n : Nat} {d : PyData} (hn : n ≤ 40) (fd : FitQ 2 90 d) : FitQ 4 2000 (foundD n d) := by
  have f1 : FitQ 3 300 (.list [.str "term", .int (n : Nat)]) := (fitq_list (n := 2) (w := 90) fun x hx => by
    simp only [List.mem_cons, List.not_mem_nil, or_false] at hx
    rcases hx with rfl | rfl
    · exact (fit_tag _ (by simp)).up (by decide) (by decide)
    · exact (fitq_int (n := 2) (Nat.lt_of_le_of_lt (show ((n : Nat) : Int).natAbs ≤ 40 by omega) (by decide))).up (Nat.le_refl _) (by decide)).up (Nat.le_refl _) (by simp)
  have f2 : FitQ 3 300 (.list [.str "meaning", d]) := (fitq_list (n := 2) (w := 90) fun x hx => by
    simp only [List.mem_cons, List.not_mem_nil, or_false] at hx
    rcases hx with rfl | rfl
    · exact (fit_tag _ (by simp)).up (by decide) (by decide)
    · exact fd).up (Nat.le_refl _) (by simp)
  have f3 : FitQ 3 300 (.list [.str "values", dictXY]) := by
    unfold FitQ
    decide +kernel
  have f4 : FitQ 3 300 (.list [.str "term", .bool true]) := by
    unfold FitQ
    decide +kernel
  exact (fitq_list (n := 3) (w := 300) fun x hx => by
    simp only [List.mem_cons, List.not_mem_nil, or_false] at hx
    rcases hx with rfl | rfl | rfl | rfl
    · exact f1
    · exact f2
    · exact f3
    · exact f4).up (Nat.le_refl _) (by simp)
theorem ok_refused (T : Txt K mg a d) : FnG P w K mg base CX0 9 a.refused d.refused ["_law_book", "_law_rows_here", "_law_meaning_here", "_law_number"] (spRefusedL P w K mg base a) := by
  have G_measure := ok_measure (P := P) (w := w) (base := base) T
  have G_told := ok_told (P := P) (w := w) (base := base) T
  refine okG T.F_refused scRefused (fun vs H Q E h => ?_) (fun cdv A outer s H vs Q E hr hg h => ?_)
  · obtain ⟨M, L, x, l, m, q, MM, rows, as, bs, cs, fl, rfl, _⟩ := h
    rfl
  · obtain ⟨M, L, x, l, m, q, MM, rows, as, bs, cs, fl, rfl, bk, gq, lq, gd, hn, l40, mL, mu, gL, lc, mn, sy, fin⟩ := h
    refine ⟨_, (pss_cons (ps_for PassesOwn.never rfl (pi_list (pe_lst (pa_cons (pe_callB call_len_seq (by rfl) T.len_ Tp.bt_len (pa_cons (pv 1) pa_nil)) (pa_cons (pe_op op_sub pe_int pe_int) (pa_cons pe_bl (pa_cons pe_non (pa_cons pe_str (pa_cons (pe_lst (pa_cons pe_int pa_nil)) pa_nil)))))))) (pg_name (i := 4) scRefused.nd rfl (Or.inr rfl)) (pss_one (ps_if (pt_cmpR (op_neD hr.units) (pe_lc (own := [("_law_door", 7)]) (by rfl) scRefused.nd (pi_range1 (by rfl) T.range_ (pa_cons pe_int pa_nil)) (blkOk_by (own := [("_law_door", 7)]) (N := scRefused_N) (sc := defScope scRefused_st) (by decide +kernel)) (fun _ _ _ _ _ => (pg_name (i := 7) scRefused.nd rfl (Or.inl rfl))) (fun _ _ _ _ _ => (pts_one (pt_cmpR (op_neDK (K := K) rfl hr.units) (Tp.pe_callG G_measure (hr.mono (by decide)) hg (by rfl) T.mg_measure T.F_measure.kp T.b_measure .nil pass0 (pa_cons (pv 0) (pa_cons (pv 7) (pa_cons (pv 4) pa_nil)))) (pe_lst (pa_cons pe_str (pa_cons (pv 4) pa_nil))) (nomark _)))) (fun _ _ _ _ _ => (pv 7))) (pe_lst pa_nil) (nomark _)) (pss_one (ps_ret pe_bl)) pss_nil)))
      (pss_cons (ps_for PassesOwn.never rfl (pi_list (pe_lst (pa_cons pe_non (pa_cons pe_int (pa_cons (pe_lst pa_nil) (pa_cons pe_str (pa_cons (pe_tup pa_nil) (pa_cons pe_bl pa_nil)))))))) (pg_name (i := 4) scRefused.nd rfl (Or.inr rfl)) (pss_cons (ps_set (i := 5) scRefused.nd rfl (Or.inl rfl) (pe_lst (pa_cons (Tp.pe_callG G_told (hr.mono (by decide)) hg (by rfl) T.mg_told T.F_told.kp T.b_told .nil pass0 (pa_cons (pv 0) (pa_cons (pe_callB call_len_seq (by rfl) T.len_ Tp.bt_len (pa_cons (pv 1) pa_nil)) (pa_cons (pv 4) (pa_cons (pv 4) pa_nil))))) (pa_cons (Tp.pe_callG G_told (hr.mono (by decide)) hg (by rfl) T.mg_told T.F_told.kp T.b_told .nil pass0 (pa_cons (pv 0) (pa_cons (pv 3) (pa_cons (pv 4) (pa_cons pe_int pa_nil))))) pa_nil))))
      (pss_cons (ps_expr (pe_bm PySem.F.plainAttrs_list PySem.F.slot_list_append PySem.F.type_list_append mt_append (pv 5) (pa_cons (Tp.pe_callG G_told (hr.mono (by decide)) hg (by rfl) T.mg_told T.F_told.kp T.b_told .nil pass0 (pa_cons (pv 0) (pa_cons (pv 3) (pa_cons (pv 2) (pa_cons (pe_disp (pps_cons pe_str pe_int (pps_cons pe_str (pe_lst (pa_cons pe_int pa_nil)) pps_nil)) (by rfl) (by rfl) (fun z => by cases z) (by decide)) pa_nil))))) pa_nil)))
      (pss_cons (ps_expr (pe_bm PySem.F.plainAttrs_list PySem.F.slot_list_append PySem.F.type_list_append mt_append (pv 5) (pa_cons (Tp.pe_callG G_told (hr.mono (by decide)) hg (by rfl) T.mg_told T.F_told.kp T.b_told .nil pass0 (pa_cons (pv 0) (pa_cons pe_bl (pa_cons pe_non (pa_cons pe_non pa_nil))))) pa_nil)))
      (pss_cons (ps_set (i := 6) scRefused.nd rfl (Or.inl rfl) (pe_lst (pa_cons (pe_lst (pa_cons pe_str (pa_cons (pe_callB call_len_seq (by rfl) T.len_ Tp.bt_len (pa_cons (pv 1) pa_nil)) pa_nil))) (pa_cons (pe_lst (pa_cons pe_str (pa_cons (pv 4) pa_nil))) pa_nil))))
      (pss_cons (ps_set (i := 6) scRefused.nd rfl (Or.inl rfl) (pe_op op_cat (pv 6) (pe_lst (pa_cons (pe_lst (pa_cons pe_str (pa_cons (pe_disp (pps_cons pe_str pe_int (pps_cons pe_str (pe_lst (pa_cons pe_int pa_nil)) pps_nil)) (by rfl) (by rfl) (fun z => by cases z) (by decide)) pa_nil))) (pa_cons (pe_lst (pa_cons pe_str (pa_cons pe_bl pa_nil))) pa_nil)))))
      (pss_cons (ps_if (pt_cmpR op_ne (pe_callB (Tp.call_reprQ hr hg) (by rfl) T.repr_ Tp.bt_repr (pa_cons (pv 5) pa_nil)) (pe_callB (Tp.call_reprQ hr hg) (by rfl) T.repr_ Tp.bt_repr (pa_cons (pv 6) pa_nil)) (nomark _)) (pss_one (ps_ret pe_bl)) pss_nil)
      (pss_cons (ps_set (i := 5) scRefused.nd rfl (Or.inl rfl) (Tp.pe_callG G_told (hr.mono (by decide)) hg (by rfl) T.mg_told T.F_told.kp T.b_told .nil pass0 (pa_cons (pv 0) (pa_cons (pv 3) (pa_cons (pv 2) (pa_cons (pv 4) pa_nil))))))
      (pss_one (ps_if (PW.pt (pw_and (pt_cmpR op_notN (pv 4) pe_non (nomark _)) (pw_and1 (pt_cmpR op_ne (pe_callB (Tp.call_reprQ hr hg) (by rfl) T.repr_ Tp.bt_repr (pa_cons (pv 5) pa_nil)) (pe_callB (Tp.call_reprQ hr hg) (by rfl) T.repr_ Tp.bt_repr (pa_cons (pe_lst (pa_cons pe_str (pa_cons (pv 4) pa_nil))) pa_nil)) (nomark _))))) (pss_one (ps_ret pe_bl)) pss_nil))))))))))
      (pss_one (ps_ret pe_bl)))), ?_⟩
    have en : EnvR P w K mg base a M L x l m q MM rows as bs fl H cs := ⟨bk, gq, mu, mn, sy, gL⟩
    have B0 : ∀ {H' : Hp}, Same (offM M H') H' := offM_to
    have ll : (as.map V.ref).length = rows.length := by rw [List.length_map]; exact lq
    refine ⟨_, rfl, q, _, rfl, .inl (SqL.of (B0 _ _ gq)), _, _, rfl, rfl, (show 1 ≤ sizeLine from by decide), fun l1 hl1 => ?_⟩
    have S1 : Same H (upd H l1 (.lst [V.int 0])) := same_new hl1
    have g1 : (upd H l1 (.lst [V.int 0])) l1 = some (.lst [V.int 0]) := upd_same
    generalize upd H l1 (.lst [V.int 0]) = H1 at S1 g1 ⊢
    refine ⟨(show 6 ≤ sizeLine from by decide), fun l0 hl0 => ?_⟩
    have S2 : Same H1 (upd H1 l0 (.lst [V.int ((as.map V.ref).length : Nat), V.int (0 - 1), V.bl true, V.non, V.str "0", V.ref l1])) := same_new hl0
    have g20 : (upd H1 l0 (.lst [V.int ((as.map V.ref).length : Nat), V.int (0 - 1), V.bl true, V.non, V.str "0", V.ref l1])) l0 = some (.lst [V.int ((as.map V.ref).length : Nat), V.int (0 - 1), V.bl true, V.non, V.str "0", V.ref l1]) := upd_same
    generalize upd H1 l0 (.lst [V.int ((as.map V.ref).length : Nat), V.int (0 - 1), V.bl true, V.non, V.str "0", V.ref l1]) = H2 at S2 g20 ⊢
    have S02 := S1.trans S2
    have en2 := en.same S02
    have key : ∀ v ∈ [V.int ((as.map V.ref).length : Nat), V.int (0 - 1), V.bl true, V.non, V.str "0", V.ref l1], ThingN K H2 ((rows.length : Nat) - 1) v := fun v hv => by
      simp only [List.mem_cons, List.not_mem_nil, or_false] at hv
      rcases hv with rfl | rfl | rfl | rfl | rfl | rfl
      · refine thing_ok (.int _) ?_ ⟨rfl, Nat.zero_le _, by simp [PyData.eqv]⟩
        show (decide ((0 : Int) ≤ (((as.map V.ref).length : Nat) : Int)) && decide ((((as.map V.ref).length : Nat) : Int) ≤ ((rows.length : Nat) : Int) - 1)) = false
        rw [decide_eq_false (show ¬ (((as.map V.ref).length : Int) ≤ (rows.length : Int) - 1) by omega), Bool.and_false]
      · exact thing_ok (.int _) (by
          show (decide ((0 : Int) ≤ 0 - 1) && decide ((0 - 1 : Int) ≤ ((rows.length : Nat) : Int) - 1)) = false
          rw [decide_eq_false (show ¬ ((0 : Int) ≤ 0 - 1) by decide), Bool.false_and]) ⟨rfl, Nat.zero_le _, by simp [PyData.eqv]⟩
      · exact thing_ok (.bl _) rfl ⟨rfl, Nat.zero_le _, by simp [PyData.eqv]⟩
      · exact thing_ok .non rfl ⟨rfl, Nat.zero_le _, by simp [PyData.eqv]⟩
      · exact thing_ok (.str _) rfl ⟨by decide +kernel, Nat.zero_le _, by simp [PyData.eqv]⟩
      · exact thing_ok (.lst (SqL.of (S2 _ _ g1)) (.cons (.int 0) .nil)) rfl ⟨rfl, by decide +kernel, by simp [PyData.eqv, PyData.eqvAll]⟩
    refine ⟨l0, rfl, ⟨_, SqL.of g20⟩, for_it (walk_list (xs := [V.int ((as.map V.ref).length : Nat), V.int (0 - 1), V.bl true, V.non, V.str "0", V.ref l1])) (fun i σ H' => Same H2 H' ∧ ∃ v4, σ = [some (.ref x), some (.ref q), some (.ref MM), some (.int 0), v4, none, none, none]) ⟨Same.refl _, _, rfl⟩ ?_ ?_ ?_⟩
    · rintro i σ H' _ ⟨S, _⟩
      exact SqL.of (S _ _ g20)
    · rintro i v σ _ H3 hi ⟨S3, v4, rfl⟩ ⟨rfl, hv⟩
      obtain ⟨d, dp, nd, sh, ee⟩ := key v (List.mem_of_getElem? hv)
      have dpS : ∀ {H' : Hp}, Same H3 H' → Dp K H' v d := fun S => (dp_same (S3.trans S)).1 dp
      refine ⟨3, rfl, by decide, by decide, fun D hD => lc_range (lo := 0) (n := 3) (fun j H' => Same H3 H' ∧ H' D = some (.lst [])) ⟨same_new hD, upd_same⟩ ?_ ?_⟩
      · rintro j H4 hj ⟨S4, gD⟩
        have en4 := en2.same (S3.trans S4)
        refine ⟨rfl, _, rfl, _, rfl, _, rfl, x, l, m, rows, bs, v, _, rfl, en4.bk.same B0, .inl ⟨d, dp_dq.1 (dpS S4), nd.symm⟩, fun p H5 S5 g5 => ⟨_, rfl, (show 2 ≤ sizeLine from by decide), fun p2 hp2 => ?_⟩⟩
        have S6 := same_new (o := .lst [V.str "term", v]) hp2
        refine ⟨_, _, .lst (SqL.of (S6 _ _ g5)) (.cons (.str _) (.cons (dpS (S4.trans (S5.trans S6))) .nil)), .lst (SqL.of upd_same) (.cons (.str _) (.cons (dpS (S4.trans (S5.trans S6))) .nil)), sh, sh, _, rfl, ?_⟩
        rw [ee]
        exact iteF ⟨S4.trans (S5.trans S6), S6 _ _ (S5 _ _ gD)⟩
      · rintro H4 ⟨S4, gD⟩
        refine ⟨Nat.zero_le _, fun e0 he0 => ⟨.list [], .list [], .lst (SqL.of (same_new he0 _ _ gD)) .nil, .lst (SqL.of upd_same) .nil, by decide +kernel, by decide +kernel, _, rfl, ?_⟩⟩
        rw [nil_eqv]
        exact iteF ⟨S3.trans (S4.trans (same_new he0)), _, rfl⟩
    · rintro σ H3 ⟨S3, v4, rfl⟩
      have en3 := en2.same S3
      refine ⟨Nat.zero_le _, fun l2 hl2 => ?_⟩
      have S4 := same_new (o := .lst []) hl2
      have g4 : (upd H3 l2 (.lst [])) l2 = some (.lst []) := upd_same
      generalize upd H3 l2 (.lst []) = H4 at S4 g4 ⊢
      refine ⟨Nat.zero_le _, fun t1 ht1 => ?_⟩
      have S5 := same_new (o := .tup []) ht1
      have g5 : (upd H4 t1 (.tup [])) t1 = some (.tup []) := upd_same
      generalize upd H4 t1 (.tup []) = H5 at S5 g5 ⊢
      refine ⟨(show 6 ≤ sizeLine from by decide), fun l3 hl3 => ?_⟩
      have S6 := same_new (o := .lst [V.non, V.int 3, V.ref l2, V.str "f", V.ref t1, V.bl true]) hl3
      have g6 : (upd H5 l3 (.lst [V.non, V.int 3, V.ref l2, V.str "f", V.ref t1, V.bl true])) l3 = some (.lst [V.non, V.int 3, V.ref l2, V.str "f", V.ref t1, V.bl true]) := upd_same
      generalize upd H5 l3 (.lst [V.non, V.int 3, V.ref l2, V.str "f", V.ref t1, V.bl true]) = H6 at S6 g6 ⊢
      have S36 := (S4.trans S5).trans S6
      have en6 := en3.same S36
      have key2 : ∀ v ∈ [V.non, V.int 3, V.ref l2, V.str "f", V.ref t1, V.bl true], Thing2 K (offM M H6) v := fun v hv => by
        simp only [List.mem_cons, List.not_mem_nil, or_false] at hv
        rcases hv with rfl | rfl | rfl | rfl | rfl | rfl
        · exact ⟨_, .non, rfl, by unfold FitQ; decide +kernel⟩
        · exact ⟨_, .int 3, rfl, by unfold FitQ; decide +kernel⟩
        · exact ⟨_, .lst (SqL.of (offM_get (en3.mu.new hl2) (S6 _ _ (S5 _ _ g4)))) .nil, rfl, by unfold FitQ; decide +kernel⟩
        · exact ⟨_, .str "f", rfl, by unfold FitQ; decide +kernel⟩
        · exact ⟨_, .tup (SqT.of (offM_get ((en3.mu.same S4).new ht1) (S6 _ _ g5))) .nil, rfl, by unfold FitQ; decide +kernel⟩
        · exact ⟨_, .bl true, rfl, by unfold FitQ; decide +kernel⟩
      have n3L : l3 ≠ L := fun e => (en3.mu.same (S4.trans S5)).new hl3 (by rw [e]; exact mL)
      have kp6 : Kp L H H6 := fun z o _ h => S36 _ _ (S3 _ _ (S02 _ _ h))
      refine ⟨l3, rfl, ⟨_, SqL.of g6⟩, for_it (walk_list (xs := [V.non, V.int 3, V.ref l2, V.str "f", V.ref t1, V.bl true])) (fun i σ H' => (∃ cs', Kp L H6 H' ∧ EnvR P w K mg base a M L x l m q MM rows as bs fl H' cs' ∧ cs'.length ≤ 40 + 40 * i) ∧ ∃ v4 v5 v6, σ = [some (.ref x), some (.ref q), some (.ref MM), some (.int 0), v4, v5, v6, none]) ⟨⟨cs, Kp.refl _ _, en6, by omega⟩, _, _, _, rfl⟩ ?_ ?_ ?_⟩
      · rintro i σ H' _ ⟨⟨_, k, _⟩, _⟩
        exact SqL.of (k _ _ n3L g6)
      · rintro i v σ _ H7 hi ⟨⟨cs', k7, en7, lc7⟩, v4', v5', v6', rfl⟩ ⟨rfl, hv⟩
        have i6 : i < 6 := hi
        obtain ⟨d, dq, ndc, fd⟩ := key2 v (List.mem_of_getElem? hv)
        have dq7 : Dq K (offM M H7) v d := (dq_same (offM_kp mL k7)).1 dq
        have nn : ∀ {H' : Hp}, NumIs K (offM M H') rows (.int ((as.map V.ref).length : Nat)) false := .inl ⟨.int _, .int _, by
          show false = (decide ((0 : Int) ≤ (((as.map V.ref).length : Nat) : Int)) && decide ((((as.map V.ref).length : Nat) : Int) ≤ ((rows.length : Nat) : Int) - 1))
          rw [decide_eq_false (show ¬ (((as.map V.ref).length : Int) ≤ (rows.length : Int) - 1) by omega), Bool.and_false]⟩
        refine ⟨_, rfl, _, rfl, q, _, rfl, .inl (SqL.of (B0 _ _ en7.gq)), _, rfl, _, rfl, M, L, x, l, m, rows, bs, cs', _, v, v, .term, rfl, en7.bk, gd, l40, mL, en7.mu, en7.gL, by omega, .term nn, fun _ p1 H8 S8 np1 g8 => ?_, fun n' vf' e => by cases e⟩
        have en8 := en7.same S8
        have dq8 := (dq_same (offM_of (M := M) S8)).1 dq7
        refine ⟨_, rfl, _, rfl, _, rfl, M, L, x, l, m, rows, bs, cs', .int 0, v, .int 7, .meaning, rfl, en8.bk, gd, l40, mL, en8.mu, en8.gL, by omega, .meaning 0 rfl hn d dq8 ndc, fun _ p2 H9 S9 np2 g9 => ?_, fun n' vf' e => by cases e⟩
        have en9 := en8.same S9
        refine ⟨(show 2 ≤ sizeLine from by decide), fun f1 hf1 => ?_⟩
        have S10 := same_new (o := .lst [V.ref p1, V.ref p2]) hf1
        have g10 : (upd H9 f1 (.lst [V.ref p1, V.ref p2])) f1 = some (.lst [V.ref p1, V.ref p2]) := upd_same
        generalize upd H9 f1 (.lst [V.ref p1, V.ref p2]) = H10 at S10 g10 ⊢
        have en10 := en9.same S10
        refine ⟨_, rfl, .inl ⟨rfl, _, SqL.of g10⟩, ?_⟩
        refine ⟨_, rfl, _, rfl, _, rfl, fun dd hdd => ⟨(show 1 ≤ sizeLine from by decide), fun la hla => ?_⟩⟩
        have Sa : Same H10 (upd H10 dd (.dK [])) := same_new hdd
        have Sb : Same (upd H10 dd (.dK [])) (upd (upd H10 dd (.dK [])) la (.lst [V.int 1])) := same_new hla
        have nla : la ≠ dd := fun e => by rw [e, upd_same] at hla; cases hla
        refine ⟨by rw [upd_ne (Ne.symm nla)]; exact upd_same, kvXY la, rfl, (show 2 ≤ 15 from by decide), ?_⟩
        rw [merge_xy]
        have S12 : Same H10 (upd (upd (upd H10 dd (.dK [])) la (.lst [V.int 1])) dd (.dK (kvXY la))) := Tp.Same.mut (Sa.trans Sb) hdd
        have gdd : (upd (upd (upd H10 dd (.dK [])) la (.lst [V.int 1])) dd (.dK (kvXY la))) dd = some (.dK (kvXY la)) := upd_same
        have gla : (upd (upd (upd H10 dd (.dK [])) la (.lst [V.int 1])) dd (.dK (kvXY la))) la = some (.lst [V.int 1]) := by rw [upd_ne nla]; exact upd_same
        generalize upd (upd (upd H10 dd (.dK [])) la (.lst [V.int 1])) dd (.dK (kvXY la)) = H12 at S12 gdd gla ⊢
        have en12 := en10.same S12
        have nlaM : la ∉ M := fun m => by
          have h := hla
          have := ((en10.mu).same Sa).new h
          exact this m
        have nddM : dd ∉ M := en10.mu.new hdd
        obtain ⟨ms, hM, pm⟩ := en12.mn.ms
        refine ⟨M, L, x, l, m, rows, bs, cs', .int 0, .ref MM, .ref dd, .values, rfl, en12.bk, gd, l40, mL, en12.mu, en12.gL, by omega, .values 0 rfl hn MM ms rfl hM (.inr ⟨dd, kvXY la, [.int 3, .list [.int 1]], rfl, offM_get nddM gdd, .cons (.int 3) (.cons (.lst (SqL.of (offM_get nlaM gla)) (.cons (.int 1) .nil)) .nil), (show 2 ≤ 1000 from by decide), rfl⟩), fun _ p3 H13 S13 np3 g13 => ?_, fun n' vf' e => by cases e⟩
        have S10' := S12.trans S13
        refine ⟨f1, _, _, rfl, rfl, S10' _ _ g10, (show 2 < sizeLine from by decide), ?_⟩
        have nf : ∀ {z : Addr} {o : HO}, H9 z = some o → z ≠ f1 := fun h e => by rw [e, hf1] at h; cases h
        have S14 : Same H9 (upd H13 f1 (.lst ([V.ref p1, V.ref p2] ++ [V.ref p3]))) := Tp.Same.mut (S10.trans S10') hf1
        have k14 : ∀ z o, z ≠ f1 → H13 z = some o → (upd H13 f1 (.lst ([V.ref p1, V.ref p2] ++ [V.ref p3]))) z = some o := fun z o n h => by rw [upd_ne n]; exact h
        have gf14 : (upd H13 f1 (.lst ([V.ref p1, V.ref p2] ++ [V.ref p3]))) f1 = some (.lst [V.ref p1, V.ref p2, V.ref p3]) := upd_same
        generalize upd H13 f1 (.lst ([V.ref p1, V.ref p2] ++ [V.ref p3])) = H14 at S14 k14 gf14 ⊢
        have en14 := en9.same S14
        refine ⟨_, rfl, .inl ⟨rfl, _, SqL.of gf14⟩, _, rfl, M, L, x, l, m, rows, bs, cs', .bl true, .non, .non, .term, rfl, en14.bk, gd, l40, mL, en14.mu, en14.gL, by omega, .term (.inl ⟨.bool true, .bl true, rfl⟩), fun _ p4 H15 S15 np4 g15 => ?_, fun n' vf' e => by cases e⟩
        refine ⟨f1, _, _, rfl, rfl, S15 _ _ gf14, (show 3 < sizeLine from by decide), ?_⟩
        have S16 : Same H9 (upd H15 f1 (.lst ([V.ref p1, V.ref p2, V.ref p3] ++ [V.ref p4]))) := Tp.Same.mut (S14.trans S15) hf1
        have k16 : ∀ z o, z ≠ f1 → H15 z = some o → (upd H15 f1 (.lst ([V.ref p1, V.ref p2, V.ref p3] ++ [V.ref p4]))) z = some o := fun z o n h => by rw [upd_ne n]; exact h
        have gf16 : (upd H15 f1 (.lst ([V.ref p1, V.ref p2, V.ref p3] ++ [V.ref p4]))) f1 = some (.lst [V.ref p1, V.ref p2, V.ref p3, V.ref p4]) := upd_same
        generalize upd H15 f1 (.lst ([V.ref p1, V.ref p2, V.ref p3] ++ [V.ref p4])) = H16 at S16 k16 gf16 ⊢
        have n4f : p4 ≠ f1 := fun e => by rw [e, gf14] at np4; cases np4
        have n3f : p3 ≠ f1 := fun e => by rw [e, S12 _ _ g10] at np3; cases np3
        have ndf : dd ≠ f1 := fun e => by rw [e, g10] at hdd; cases hdd
        have nlf : la ≠ f1 := fun e => by rw [e, Sa _ _ g10] at hla; cases hla
        have h16p1 : H16 p1 = some (.lst [.str "term", .int ((as.map V.ref).length : Nat)]) := S16 _ _ (S9 _ _ g8)
        have h16p2 : H16 p2 = some (.lst [.str "meaning", v]) := S16 _ _ g9
        have h16p3 : H16 p3 = some (.lst [.str "values", .ref dd]) := k16 _ _ n3f (S15 _ _ (k14 _ _ n3f g13))
        have h16p4 : H16 p4 = some (.lst [.str "term", .bl true]) := k16 _ _ n4f g15
        have h16d : H16 dd = some (.dK (kvXY la)) := k16 _ _ ndf (S15 _ _ (k14 _ _ ndf (S13 _ _ gdd)))
        have h16l : H16 la = some (.lst [V.int 1]) := k16 _ _ nlf (S15 _ _ (k14 _ _ nlf (S13 _ _ gla)))
        have en16 := en9.same S16
        have dq16 : Dq K H16 v d := (dq_same (S8.trans (S9.trans S16))).1 ((dq_same (offM_to (M := M))).1 dq7)
        have dqF := found_dq gf16 h16p1 h16p2 h16p3 h16p4 dq16 h16d h16l
        clear S14 k14 S15 gf14 gf16 h16p1 h16p2 h16p3 h16p4 h16d h16l en14 en12 en10
        refine ⟨_, rfl, q, _, rfl, .inl (SqL.of (B0 _ _ en16.gq)), (show 2 ≤ sizeLine from by decide), fun a1 ha1 => ?_⟩
        have S17 := same_new (o := .lst [V.str "term", V.int ((as.map V.ref).length : Nat)]) ha1
        have g17 : (upd H16 a1 (.lst [V.str "term", V.int ((as.map V.ref).length : Nat)])) a1 = some (.lst [V.str "term", V.int ((as.map V.ref).length : Nat)]) := upd_same
        generalize upd H16 a1 (.lst [V.str "term", V.int ((as.map V.ref).length : Nat)]) = H17 at S17 g17 ⊢
        refine ⟨_, rfl, (show 2 ≤ sizeLine from by decide), fun a2 ha2 => ?_⟩
        have S18 := same_new (o := .lst [V.str "meaning", v]) ha2
        have g18 : (upd H17 a2 (.lst [V.str "meaning", v])) a2 = some (.lst [V.str "meaning", v]) := upd_same
        generalize upd H17 a2 (.lst [V.str "meaning", v]) = H18 at S18 g18 ⊢
        refine ⟨(show 2 ≤ sizeLine from by decide), fun a3 ha3 => ?_⟩
        have S19 := same_new (o := .lst [V.ref a1, V.ref a2]) ha3
        have g19 : (upd H18 a3 (.lst [V.ref a1, V.ref a2])) a3 = some (.lst [V.ref a1, V.ref a2]) := upd_same
        generalize upd H18 a3 (.lst [V.ref a1, V.ref a2]) = H19 at S19 g19 ⊢
        refine ⟨_, rfl, fun d2 hd2 => ⟨(show 1 ≤ sizeLine from by decide), fun lb hlb => ?_⟩⟩
        have nlb : lb ≠ d2 := fun e => by rw [e, upd_same] at hlb; cases hlb
        refine ⟨by rw [upd_ne (Ne.symm nlb)]; exact upd_same, kvXY lb, rfl, (show 2 ≤ 15 from by decide), ?_⟩
        rw [merge_xy]
        have S20 : Same H19 (upd (upd (upd H19 d2 (.dK [])) lb (.lst [V.int 1])) d2 (.dK (kvXY lb))) := Tp.Same.mut ((same_new hd2).trans (same_new hlb)) hd2
        have gd2 : (upd (upd (upd H19 d2 (.dK [])) lb (.lst [V.int 1])) d2 (.dK (kvXY lb))) d2 = some (.dK (kvXY lb)) := upd_same
        have glb : (upd (upd (upd H19 d2 (.dK [])) lb (.lst [V.int 1])) d2 (.dK (kvXY lb))) lb = some (.lst [V.int 1]) := by rw [upd_ne nlb]; exact upd_same
        generalize upd (upd (upd H19 d2 (.dK [])) lb (.lst [V.int 1])) d2 (.dK (kvXY lb)) = H20 at S20 gd2 glb ⊢
        refine ⟨(show 2 ≤ sizeLine from by decide), fun b1 hb1 => ?_⟩
        have S21 := same_new (o := .lst [V.str "values", V.ref d2]) hb1
        have g21 : (upd H20 b1 (.lst [V.str "values", V.ref d2])) b1 = some (.lst [V.str "values", V.ref d2]) := upd_same
        generalize upd H20 b1 (.lst [V.str "values", V.ref d2]) = H21 at S21 g21 ⊢
        refine ⟨(show 2 ≤ sizeLine from by decide), fun b2 hb2 => ?_⟩
        have S22 := same_new (o := .lst [V.str "term", V.bl true]) hb2
        have g22 : (upd H21 b2 (.lst [V.str "term", V.bl true])) b2 = some (.lst [V.str "term", V.bl true]) := upd_same
        generalize upd H21 b2 (.lst [V.str "term", V.bl true]) = H22 at S22 g22 ⊢
        refine ⟨(show 2 ≤ sizeLine from by decide), fun b3 hb3 => ?_⟩
        have S23 := same_new (o := .lst [V.ref b1, V.ref b2]) hb3
        have g23 : (upd H22 b3 (.lst [V.ref b1, V.ref b2])) b3 = some (.lst [V.ref b1, V.ref b2]) := upd_same
        generalize upd H22 b3 (.lst [V.ref b1, V.ref b2]) = H23 at S23 g23 ⊢
        have S2023 := (S21.trans S22).trans S23
        have S1723 := (S18.trans S19).trans (S20.trans S2023)
        refine ⟨a3, b3, _, _, rfl, rfl, S20.trans S2023 _ _ g19, g23, (show 4 ≤ sizeLine from by decide), fun c hc => ?_⟩
        have S24 : Same H23 (upd H23 c (.lst ([V.ref a1, V.ref a2] ++ [V.ref b1, V.ref b2]))) := same_new hc
        have g24 : (upd H23 c (.lst ([V.ref a1, V.ref a2] ++ [V.ref b1, V.ref b2]))) c = some (.lst [V.ref a1, V.ref a2, V.ref b1, V.ref b2]) := upd_same
        generalize upd H23 c (.lst ([V.ref a1, V.ref a2] ++ [V.ref b1, V.ref b2])) = H24 at S24 g24 ⊢
        have S1624 := S17.trans (S1723.trans S24)
        have dqD := found_dq (K := K) g24 (S24 _ _ (S1723 _ _ g17)) (S24 _ _ (S2023 _ _ (S20 _ _ (S19 _ _ g18)))) (S24 _ _ (S23 _ _ (S22 _ _ g21))) (S24 _ _ (S23 _ _ g22)) ((dq_same S1624).1 dq16) (S24 _ _ (S2023 _ _ gd2)) (S24 _ _ (S2023 _ _ glb))
        have en24 := en16.same S1624
        have lrows : (as.map V.ref).length ≤ 40 := by omega
        obtain ⟨f1', f2', f3'⟩ := (found_fit (n := (as.map V.ref).length) lrows fd).ok (by decide) (by decide)
        refine ⟨_, rfl, .ref f1, foundD (as.map V.ref).length d, rfl, en24.sy, (dq_same S1624).1 dqF, f1', f2', f3', _, rfl, .ref c, foundD (as.map V.ref).length d, rfl, en24.sy, dqD, f1', f2', f3', rfl, _, rfl, ifnY rfl ?_⟩
        have S724 := (S8.trans S9).trans (S16.trans S1624)
        have kpL : ∀ {H' : Hp}, Kp L H24 H' → Kp L H6 H' := fun k z o n h => k _ _ n (S724 _ _ (k7 _ _ n h))
        have dq24 : Dq K (offM M H24) v d := (dq_same (offM_of S724)).1 dq7
        obtain ⟨ms2, hM2, pm2⟩ := en24.mn.ms
        by_cases hv0 : v = .non
        · subst hv0
          cases hdu : firstDue (fnB fl) (fun _ => none) rows 0 with
          | some e =>
            refine ⟨_, rfl, _, rfl, _, rfl, _, rfl, M, L, x, l, m, rows, bs, cs', .int 0, .ref MM, .non, .due e, rfl, en24.bk, gd, l40, mL, en24.mu, en24.gL, by omega, .due 0 rfl hn MM fl rfl en24.mn (fun _ => none) .none e hdu, fun _ p5 H25 S25 np5 g25 => ?_, fun n' vf' e => by cases e⟩
            exact ⟨_, rfl, rfl, _, rfl, ifnY rfl ⟨⟨cs', kpL (fun z o n h => S25 _ _ h), en24.same S25, by omega⟩, _, _, _, rfl⟩⟩
          | none =>
            have ft := tabF_ok (g := gV (saltF fl) (fun _ => none)) (z := PyData.none) gd.wf
            generalize tabF (gV (saltF fl) (fun _ => none)) PyData.none rows = vf at ft
            refine ⟨_, rfl, _, rfl, _, rfl, _, rfl, M, L, x, l, m, rows, bs, cs', .int 0, .ref MM, .non, .val 0 vf, rfl, en24.bk, gd, l40, mL, en24.mu, en24.gL, by omega, .val 0 rfl hn MM fl rfl en24.mn (fun _ => none) .none hdu vf ft, fun z => absurd rfl (z 0 vf), fun n' vf' e p5 u5 H25 new k25 gL25 dn25 dv25 np5 g25 => ?_⟩
            cases e
            have lnew : new.length ≤ 40 := by
              rw [dqAll_len dn25]
              exact Nat.le_trans (calls_len _) (by have := parts_len rows 0; omega)
            exact ⟨_, rfl, rfl, _, rfl, ifnY rfl ⟨⟨cs' ++ new, kpL k25, en24.kp mL k25 gL25, by rw [List.length_append]; omega⟩, _, _, _, rfl⟩⟩
        · refine ⟨_, rfl, _, rfl, _, rfl, _, rfl, M, L, x, l, m, rows, bs, cs', .int 0, .ref MM, v, .values, rfl, en24.bk, gd, l40, mL, en24.mu, en24.gL, by omega, .values 0 rfl hn MM ms2 rfl hM2 (.inl ⟨d, dq24, ndc, hv0⟩), fun _ p5 H25 S25 np5 g25 => ?_, fun n' vf' e => by cases e⟩
          have en25 := en24.same S25
          have dq25 : Dq K H25 v d := (dq_same (offM_to.trans S25)).1 dq24
          have fp : ∀ y ∈ [PyData.str "values", d], FitQ 2 90 y := fun y hy => by
            simp only [List.mem_cons, List.not_mem_nil, or_false] at hy
            rcases hy with rfl | rfl
            · exact (fit_tag _ (by simp)).up (by decide) (by decide)
            · exact fd
          obtain ⟨u1, u2, u3⟩ := ((fitq_list fp).up (m := 3) (v := 300) (Nat.le_refl _) (by simp)).ok (by decide) (by decide)
          refine ⟨_, rfl, rfl, _, rfl, ifnN hv0 ⟨_, rfl, .ref p5, .list [.str "values", d], rfl, en25.sy, .lst (SqL.of g25) (.cons (.str _) (.cons dq25 .nil)), u1, u2, u3, _, rfl, (show 2 ≤ sizeLine from by decide), fun l6 hl6 => ?_⟩⟩
          have S26 := same_new (o := .lst [V.str "values", v]) hl6
          have g26 : (upd H25 l6 (.lst [V.str "values", v])) l6 = some (.lst [V.str "values", v]) := upd_same
          generalize upd H25 l6 (.lst [V.str "values", v]) = H26 at S26 g26 ⊢
          refine ⟨.ref l6, .list [.str "values", d], rfl, en25.sy.same S26, .lst (SqL.of g26) (.cons (.str _) (.cons ((dq_same S26).1 dq25) .nil)), u1, u2, u3, rfl, _, rfl, ifnY rfl ?_⟩
          exact ⟨⟨cs', kpL (fun z o n h => S26 _ _ (S25 _ _ h)), en25.same S26, by omega⟩, _, _, _, rfl⟩
      · rintro σ H7 ⟨⟨cs', k7, en7, lc7⟩, v4', v5', v6', rfl⟩
        exact fin H7 cs' (fun z o n h => k7 _ _ n (kp6 _ _ n h)) en7.gL (by have e : ([V.non, V.int 3, V.ref l2, V.str "f", V.ref t1, V.bl true] : List V).length = 6 := rfl; rw [e] at lc7; omega)
end
end L05
set_option Elab.async false
set_option linter.all false
set_option maxRecDepth 100000
set_option maxHeartbeats 4000000
set_option pp.deepTerms false
set_option pp.deepTerms.threshold 4
set_option pp.maxSteps 1000
namespace L05
open PySem L2 Tp
section
variable {P : Program} {w : World} {K : PySem.W.Frag} {mg : Str → Option Value} {base : Heap} {a : Ad} {d : Fd}
def unT (H : Hp) : Hp := fun z => match H z with
  | some (.tbl _) => none
  | o => o
theorem unT_inv {H : Hp} {z : Addr} {o : HO} (h : unT H z = some o) : H z = some o ∧ ∀ ps, o ≠ .tbl ps := by
  unfold unT at h
  split at h
  · cases h
  · rename_i n
    exact ⟨h, fun ps e => n ps (by rw [h, e])⟩
theorem unT_get {H : Hp} {z : Addr} {o : HO} (h : H z = some o) (n : ∀ ps, o ≠ .tbl ps) : unT H z = some o := by
  unfold unT
  rw [h]
  cases o with
  | tbl ps => exact absurd rfl (n ps)
  | _ => rfl
theorem unT_to {H : Hp} : Same (unT H) H := fun z o h => (unT_inv h).1
theorem sqL_un {H : Hp} {x : Addr} {xs : List V} (h : SqL K H x xs) : SqL K (unT H) x xs := by
  rcases h with (h | ⟨o, h⟩) | h
  · exact .inl (.inl (unT_get h (fun _ e => by cases e)))
  · exact .inl (.inr ⟨o, unT_get h (fun _ e => by cases e)⟩)
  · exact .inr h
theorem book_to {H H' : Hp} {C x l m : Addr} {rows : List BRow} {as : List Addr} (bk : BookAt P w K C H x l m rows as) (hx : ∀ o, H x = some o → H' x = some o) (hl : ∀ o, H l = some o → H' l = some o) (hm : ∀ o, H m = some o → H' m = some o) (S : SameT H H') : BookAt P w K C H' x l m rows as :=
  ⟨let ⟨dx, h⟩ := bk.obj; ⟨dx, hx _ h⟩, hl _ bk.lst, hm _ bk.num, paired_imp (fun _ _ h => h.sameT S) bk.row, bk.nd, bk.few⟩
theorem KT.sameT {b : Addr} {n : Nat} {H H' : Hp} (k : KT b H H') (B : BoxAt b n H) : SameT H H' := by
  obtain ⟨x, y, z, h, _⟩ := B
  exact ⟨fun a xs e => k _ _ (fun q => by rw [q, h] at e; cases e) (fun _ q => by cases q) e, fun a o xs e => k _ _ (fun q => by rw [q, h] at e; cases e) (fun _ q => by cases q) e⟩
theorem Gr.kt {H H' : Hp} {b q : Addr} {n m : Nat} {rows : List BRow} {as : List Addr} (g : Gr K H b q n rows as) (k : KT b H H') (B : BoxAt b m H') : Gr K H' b q m rows as :=
  ⟨B, k _ _ g.nbq (fun _ z => by cases z) g.lst, paired_imp (fun _ _ h => h.sameT (k.sameT g.box)) g.row, g.good⟩
theorem offM_sameT {M : List Addr} {H : Hp} (mu : MutM M H) : SameT H (offM M H) := by
  have ne : ∀ {a : Addr} {o : HO}, H a = some o → (∀ xs, o ≠ .lst xs) → (∀ k, o ≠ .dK k) → a ∉ M := fun {a o} e n1 n2 m => by
    rcases mu a m with ⟨xs, h⟩ | ⟨k, h⟩
    · rw [e] at h
      exact n1 xs (Option.some.inj h)
    · rw [e] at h
      exact n2 k (Option.some.inj h)
  exact ⟨fun a xs e => offM_get (ne e (fun _ z => by cases z) fun _ z => by cases z) e, fun a o xs e => offM_get (ne e (fun _ z => by cases z) fun _ z => by cases z) e⟩
theorem mut2 {b L : Addr} {n : Nat} {xs : List V} {H : Hp} (B : BoxAt b n H) (h : H L = some (.lst xs)) : MutM [b, L] H := fun z m => by
  obtain ⟨x, y, t, hb, _⟩ := B
  simp only [List.mem_cons, List.not_mem_nil, or_false] at m
  rcases m with rfl | rfl
  · exact .inl ⟨_, hb⟩
  · exact .inl ⟨_, h⟩
theorem due0 {fn : Str → Bool} {rows : List BRow} {r : BRow} {t : Nat} (wf : WfR rows) (h0 : rows[0]? = some r) (e : r.sec = .inr t) : firstDue fn (fun _ => none) rows 0 = some (.smp r.nm t) := by
  have ed : dueP fn (fun _ => none) rows 0 = some (.smp r.nm t) := by
    unfold dueP dueR
    rw [h0]
    show (match r.sec with | .inl _ => _ | .inr t => _) = _
    rw [e]
  have all : ∀ p ∈ partsR rows 0, p = 0 := fun p hp => Nat.le_zero.mp (parts_mem.mp hp).1
  obtain ⟨l, el⟩ := parts_last rows 0
  cases l with
  | nil =>
    unfold firstDue
    rw [el]
    show List.findSome? _ [0] = _
    rw [List.findSome?_cons, ed]
  | cons x l =>
    have x0 : x = 0 := all x (by rw [el]; exact List.mem_append_left _ List.mem_cons_self)
    unfold firstDue
    rw [el, x0]
    show List.findSome? _ (0 :: (l ++ [0])) = _
    rw [List.findSome?_cons, ed]
def spLaw (K : PySem.W.Frag) (a : Ad) : Sp := fun vs H Q _ => ∃ (s : Addr) (ns : List Int), vs = [.ref s] ∧ Sys K H ∧ SqL K H s (ns.map V.int) ∧ ns.length ≤ 63 ∧ NdefX.TabsN (TT a) H ∧ ∀ H', Q (.bl true) H'
theorem ok_law (T : Txt K mg a d) (TB : LamX.TabB base mg a.cFn a.pFn) : FnG P w K mg base CX0 30 a.law d.law ["_law_script"] (spLaw K a) := by
  have G_cell := ok_cell (P := P) (w := w) (base := base) T
  have G_box := ok_box (P := P) (w := w) (base := base) T
  have G_take := ok_take (P := P) (w := w) (base := base) T
  have G_rowsL := ok_rowsL (P := P) (w := w) (base := base) T
  have G_bookInit := ok_bookInit (P := P) (w := w) (base := base) T
  have G_rows := ok_rows (P := P) (w := w) (base := base) T
  have bBook1 := bk1 T
  have G_meaning := ok_meaning (P := P) (w := w) (base := base) T TB
  have G_samples := ok_samples (P := P) (w := w) (base := base) T
  have G_right := ok_right (P := P) (w := w) (base := base) T
  have G_refused := ok_refused (P := P) (w := w) (base := base) T
  have G_told := ok_told (P := P) (w := w) (base := base) T
  refine okG T.F_law scLaw (fun vs H Q E h => ?_) (fun cdv A outer s H vs Q E hr hg h => ?_)
  · obtain ⟨s, ns, rfl, _⟩ := h
    rfl
  · obtain ⟨s, ns, rfl, sy, hS, h63, tb, q⟩ := h
    refine ⟨_, (pss_cons (ps_for PassesOwn.never rfl (pi_range1 (by rfl) T.range_ (pa_cons (pe_callB (call_max2 rfl) (by rfl) T.max_ Tp.bt_max (pa_cons pe_int (pa_cons (pe_callB (call_min2 rfl) (by rfl) T.min_ Tp.bt_min (pa_cons pe_int (pa_cons (pe_callB call_len_seq (by rfl) T.len_ Tp.bt_len (pa_cons (pv 0) pa_nil)) pa_nil))) pa_nil))) pa_nil)) (pg_name (i := 1) scLaw.nd rfl (Or.inl rfl)) (pss_cons (ps_par (i := 2) (j := 3) (by rfl) scLaw.nd rfl rfl (by decide) rfl rfl (pa_cons (Tp.pe_callG G_box (hr.mono (by decide)) hg (by rfl) T.mg_box T.F_box.kp T.b_box .nil pass0 (pa_cons (Tp.pe_callG G_cell (hr.mono (by decide)) hg (by rfl) T.mg_cell T.F_cell.kp T.b_cell .nil pass0 (pa_cons (pv 0) (pa_cons (pv 1) pa_nil))) pa_nil)) (pa_cons (pe_lst pa_nil) pa_nil)) (by rfl))
      (pss_cons (ps_set (i := 4) scLaw.nd rfl (Or.inl rfl) (Tp.pe_callG G_rowsL (hr.mono (by decide)) hg (by rfl) T.mg_rowsL T.F_rowsL.kp T.b_rowsL .nil pass0 (pa_cons (pv 2) (pa_cons pe_int (pa_cons pe_bl pa_nil)))))
      (pss_cons (ps_set (i := 5) scLaw.nd rfl (Or.inl rfl) (pe_make T.mk_Book G_bookInit (hr.mono (by decide)) (by rfl) T.mg_Book bBook1 .nil pass0 (pa_cons (pv 4) pa_nil)))
      (pss_cons (ps_set (i := 6) scLaw.nd rfl (Or.inl rfl) (Tp.pe_callG G_meaning (hr.mono (by decide)) hg (by rfl) T.mg_meaning T.F_meaning.kp T.b_meaning .nil pass0 (pa_cons (pv 2) (pa_cons (pv 4) (pa_cons (pv 3) pa_nil)))))
      (pss_cons (ps_set (i := 7) scLaw.nd rfl (Or.inl rfl) (Tp.pe_callG G_samples (hr.mono (by decide)) hg (by rfl) T.mg_samples T.F_samples.kp T.b_samples .nil pass0 (pa_cons (pv 2) (pa_cons (pv 4) pa_nil))))
      (pss_cons (ps_for PassesOwn.never rfl (pi_range1 (by rfl) T.range_ (pa_cons pe_int pa_nil)) (pg_name (i := 8) scLaw.nd rfl (Or.inl rfl)) (pss_cons (ps_set (i := 9) scLaw.nd rfl (Or.inl rfl) (pe_ix ix_list (pe_lst (pa_cons (pe_op op_sub (pe_callB call_len_seq (by rfl) T.len_ Tp.bt_len (pa_cons (pv 4) pa_nil)) pe_int) (pa_cons (Tp.pe_callG G_take (hr.mono (by decide)) hg (by rfl) T.mg_take T.F_take.kp T.b_take .nil pass0 (pa_cons (pv 2) (pa_cons (pe_callB call_len_seq (by rfl) T.len_ Tp.bt_len (pa_cons (pv 4) pa_nil)) pa_nil))) pa_nil))) (Tp.pe_callG G_take (hr.mono (by decide)) hg (by rfl) T.mg_take T.F_take.kp T.b_take .nil pass0 (pa_cons (pv 2) (pa_cons pe_int pa_nil))) (fun _ _ => rfl)))
      (pss_one (ps_if (pt_not (pt_val (Tp.pe_callG G_right (hr.mono (by decide)) hg (by rfl) T.mg_right T.F_right.kp T.b_right .nil pass0 (pa_cons (pv 5) (pa_cons (pv 4) (pa_cons (pv 9) (pa_cons (pv 6) (pa_cons (pv 7) (pa_cons (pv 3) pa_nil))))))))) (pss_one (ps_ret pe_bl)) pss_nil))))
      (pss_cons (ps_if (PW.pt (pw_or (pt_not (pt_val (Tp.pe_callG G_refused (hr.mono (by decide)) hg (by rfl) T.mg_refused T.F_refused.kp T.b_refused .nil pass0 (pa_cons (pv 5) (pa_cons (pv 4) (pa_cons (pv 6) (pa_cons pe_int pa_nil))))))) (pw_or1 (pt_cmpR (op_neD hr.units) (pe_meth0 (pv 5) T.cl_Book T.me_rows G_rows (hr.mono (by decide)) T.b_rows .nil pass0) (pv 4) (nomark _))))) (pss_one (ps_ret pe_bl)) pss_nil)
      (pss_cons (ps_asg (pe_ix ix_list (pv 4) pe_int (fun _ _ => rfl)) (pg_tup (by rfl) (pgs_cons (pg_name (i := 10) scLaw.nd rfl (Or.inl rfl)) (pgs_cons (pg_name (i := 11) scLaw.nd rfl (Or.inl rfl)) pgs_nil))))
      (pss_cons (ps_set (i := 12) scLaw.nd rfl (Or.inl rfl) (Tp.pe_callG G_told (hr.mono (by decide)) hg (by rfl) T.mg_told T.F_told.kp T.b_told .nil pass0 (pa_cons (pv 5) (pa_cons pe_int (pa_cons (pv 6) (pa_cons pe_non pa_nil))))))
      (pss_one (ps_if (PW.pt (pw_and (pt_val (pe_callB call_isi (by rfl) T.isinstance_ Tp.bt_isinstance (pa_cons (pv 11) (pa_cons (pe_bltn (v := .ty "int") (by rfl) T.int_ Tp.bt_int rfl) pa_nil)))) (pw_and1 (pt_cmpR op_ne (pe_callB (Tp.call_reprQ hr hg) (by rfl) T.repr_ Tp.bt_repr (pa_cons (pv 12) pa_nil)) (pe_callB (Tp.call_reprQ hr hg) (by rfl) T.repr_ Tp.bt_repr (pa_cons (pe_lst (pa_cons pe_str (pa_cons (pv 10) (pa_cons (pv 11) pa_nil)))) pa_nil)) (nomark _))))) (pss_one (ps_ret pe_bl)) pss_nil))))))))))))
      (pss_one (ps_ret pe_bl))), ?_⟩
    refine ⟨_, rfl, s, _, rfl, .inl hS, _, _, rfl, _, _, rfl, ?_⟩
    generalize hm : (if _ > (2 : Int) then _ else (2 : Int)) = mx
    have m1 : 0 ≤ mx ∧ mx ≤ 8 := by
      rw [← hm]
      rw [List.length_map]
      repeat' split
      all_goals omega
    have hSu := sqL_un hS
    have syU : Sys K (unT H) := sy.imp id fun h => ⟨h.1, let ⟨o, φ, e⟩ := h.2; ⟨o, φ, unT_get e fun _ z => by cases z⟩⟩
    refine ⟨_, rfl, by omega, by omega, for_range (lo := 0) (n := mx.toNat) (fun i σ H' => Same (unT H) H' ∧ NdefX.TabsN (TT a) H' ∧ ∃ v1 v2 v3 v4 v5 v6 v7 v8 v9 va vb vc, σ = [some (.ref s), v1, v2, v3, v4, v5, v6, v7, v8, v9, va, vb, vc]) ⟨unT_to, tb, _, _, _, _, _, _, _, _, _, _, _, _, rfl⟩ ?_ ?_⟩
    · rintro i σ H0 hi ⟨S0, tb0, v1, v2, v3, v4, v5, v6, v7, v8, v9, va, vb, vc, rfl⟩
      refine ⟨_, rfl, _, rfl, s, ns, _, rfl, S0.seq hSu, by omega, by omega, fun c => ⟨_, rfl, fun b x0 y0 hb p1 p2 p3 => ?_⟩⟩
      have S1 : Same H0 (upd H0 b (.lst [.int x0, .int y0, .int 0])) := same_new hb
      have bx : BoxAt b 0 (upd H0 b (.lst [.int x0, .int y0, .int 0])) := ⟨x0, y0, 0, upd_same, p1, p2, p3, by decide, by decide⟩
      generalize upd H0 b (.lst [.int x0, .int y0, .int 0]) = H1 at S1 bx ⊢
      refine ⟨Nat.zero_le _, fun L hL => ?_⟩
      have S2 := same_new (o := .lst []) hL
      have g2 : (upd H1 L (.lst [])) L = some (.lst []) := upd_same
      generalize upd H1 L (.lst []) = H2 at S2 g2 ⊢
      have bx2 := bx.same S2
      have nLb : L ≠ b := bx.ne hL
      refine ⟨_, _, rfl, _, rfl, b, 0, 30, rfl, bx2, by decide, by decide, by decide, fun qr rows as H3 nq k3 gr3 p1' l30 => ?_⟩
      have nqL : qr ≠ L := fun e => by rw [e, g2] at nq; cases nq
      have gL3 := k3 _ _ nLb g2
      have bx3 := gr3.box
      obtain ⟨hx, hy, hz, hb2, _⟩ := bx2
      obtain ⟨hx3, hy3, hz3, hb3, _⟩ := bx3
      have S02 := S0.trans (S1.trans S2)
      have nbU : ∀ {z : Addr} {o : HO}, unT H z = some o → z ≠ b ∧ z ≠ L := fun {z o} h => ⟨fun e => (by rw [e] at h; rw [S0 _ _ h] at hb; cases hb), fun e => (by rw [e] at h; rw [S1 _ _ (S0 _ _ h)] at hL; cases hL)⟩
      have S03 : Same (unT H) H3 := fun z o h => k3 _ _ (nbU h).1 (S02 _ _ h)
      have tb3 : NdefX.TabsN (TT a) H3 := tabsN_kp ((tb0.ext S1).ext S2) hb2 k3
      refine ⟨_, rfl, fun x dx hx1 hx2 hx3' => ?_⟩
      have S4 : Same H3 (upd (upd H3 dx (.own x)) x (.ins a.CBook dx [])) := same_two hx1 hx2
      refine ⟨x, dx, false, qr, rows, as, rfl, upd_same, SqL.of (S4 _ _ gr3.lst), paired_imp (fun _ _ h => h.same S4) gr3.row, gr3.good.1, by omega, gr3.good.2, fun H5 l m bs nl nm k5 bk5 => ?_⟩
      have S5 : Same H3 H5 := fun z o h => k5 _ _ (ne_of_none h hx1) (S4 _ _ h)
      have nxb : x ≠ b := fun e => by rw [e, hb3] at hx1; cases hx1
      have nxL : x ≠ L := fun e => by rw [e, gL3] at hx1; cases hx1
      have nlb : l ≠ b := fun e => by rw [e, S4 _ _ hb3] at nl; cases nl
      have nlL : l ≠ L := fun e => by rw [e, S4 _ _ gL3] at nl; cases nl
      have nmb : m ≠ b := fun e => by rw [e, S4 _ _ hb3] at nm; cases nm
      have nmL : m ≠ L := fun e => by rw [e, S4 _ _ gL3] at nm; cases nm
      have gr5 := gr3.same S5
      have gL5 := S5 _ _ gL3
      have tb5 := tb3.ext S5
      refine ⟨rfl, ?_⟩
      refine ⟨_, rfl, _, rfl, _, rfl, b, qr, L, _, rows, as, rfl, gr5, by omega, by omega, tb5, fun MM fl H6 kt6 B6 tb6 nM6 mean6 => ?_⟩
      have gr6 := gr5.kt kt6 B6
      have gL6 := kt6 _ _ (Ne.symm nLb |> fun h => h.symm) (fun _ z => by cases z) gL5
      have bk6 : BookAt P w K a.CBook H6 x l m rows bs := book_to bk5 (fun o h => kt6 _ _ nxb (fun ps z => by obtain ⟨dx', h'⟩ := bk5.obj; rw [h] at h'; cases h'; cases z) h) (fun o h => kt6 _ _ nlb (fun ps z => by have h' := bk5.lst; rw [h] at h'; cases h'; cases z) h) (fun o h => kt6 _ _ nmb (fun ps z => by have h' := bk5.num; rw [h] at h'; cases h'; cases z) h) (kt6.sameT gr5.box)
      have mu6 := mut2 gr6.box gL6
      refine ⟨_, rfl, _, rfl, [b, L], b, qr, _, rows, as, rfl, gr6, List.mem_cons_self, mu6, by omega, by omega, fun S ss sm H7 k7 B7 nS7 gS7 pS7 so7 ls7 => ?_⟩
      have gL7 := k7 _ _ nLb gL6
      have mu7 := mut2 B7 gL7
      have gr7 := gr6.kp k7 B7
      have mem : ∀ {z : Addr}, z ≠ b → z ≠ L → z ∉ [b, L] := fun n1 n2 m => by
        simp only [List.mem_cons, List.not_mem_nil, or_false] at m
        exact m.elim n1 n2
      have sT7 := offM_sameT mu7
      have bk7 : BookAt P w K a.CBook H7 x l m rows bs := book_to bk6 (fun o h => k7 _ _ nxb h) (fun o h => k7 _ _ nlb h) (fun o h => k7 _ _ nmb h) (kp_sameT gr6.box k7)
      have bkM : BookAt P w K a.CBook (offM [b, L] H7) x l m rows bs := book_to bk7 (fun o h => offM_get (mem nxb nxL) h) (fun o h => offM_get (mem nlb nlL) h) (fun o h => offM_get (mem nmb nmL) h) sT7
      have gqM : offM [b, L] H7 qr = some (.lst (as.map V.ref)) := offM_get (mem gr7.nbq nqL) gr7.lst
      have prM : Paired (RowAt K (offM [b, L] H7)) rows as := paired_imp (fun _ _ h => h.sameT sT7) gr7.row
      obtain ⟨hx6, hy6, hz6, hb6, _⟩ := gr6.box
      obtain ⟨hx5, hy5, hz5, hb5, _⟩ := gr5.box
      have nMb : MM ≠ b := fun e => by rw [e, hb5] at nM6; cases nM6
      have nML : MM ≠ L := fun e => by rw [e, gL5] at nM6; cases nM6
      have nSb : S ≠ b := fun e => by rw [e, hb6] at nS7; cases nS7
      have nSL : S ≠ L := fun e => by rw [e, gL6] at nS7; cases nS7
      have meanM : MeanA P w K mg base (offM [b, L] H7) L MM fl := by
        obtain ⟨ms, h1, h2⟩ := mean6.ms
        exact ⟨⟨ms, offM_get (mem nMb nML) (k7 _ _ nMb h1), paired_imp (fun _ _ h => ⟨h.1, h.2.keep ((KeepF.kp k7 hb6).trans (KeepF.off mu7))⟩) h2⟩, mean6.lt⟩
      have gSM : offM [b, L] H7 S = some (.dK ss) := offM_get (mem nSb nSL) gS7
      have lss : ss.length ≤ 40 := by have := Paired.length pS7; omega
      have S05 := S03.trans S5
      have S07 : Same (unT H) H7 := fun z o h => k7 _ _ (nbU h).1 (kt6 _ _ (nbU h).1 (unT_inv h).2 (S05 _ _ h))
      have B7' : BoxAt b 3000 H7 := B7.up (by decide)
      have go : ∀ {H' : Hp}, (∀ z o, z ≠ b → z ≠ L → H7 z = some o → H' z = some o) → Same (unT H) H' := fun k z o h => k z o (nbU h).1 (nbU h).2 (S07 z o h)
      have offK : ∀ {H' : Hp}, (∀ z o, z ≠ b → z ≠ L → H7 z = some o → H' z = some o) → Same (offM [b, L] H7) (offM [b, L] H') := fun k z o h => by
        have nz := offM_nin h
        simp only [List.mem_cons, List.not_mem_nil, or_false, not_or] at nz
        exact offM_get (offM_nin h) (k z o nz.1 nz.2 (offM_to _ _ h))
      have ll : (as.map V.ref).length = rows.length := by rw [List.length_map]; exact (Paired.length gr7.row).symm
      have gd := gr7.good
      refine ⟨3, rfl, by decide, by decide, for_range (lo := 0) (n := 3) (fun j σ H' => (∀ z o, z ≠ b → z ≠ L → H7 z = some o → H' z = some o) ∧ BoxAt b (3000 + 10 * j) H' ∧ (∃ cs, H' L = some (.lst cs) ∧ cs.length ≤ 40) ∧ ∃ v1 v8 v9 va vb vc, σ = [some (.ref s), v1, some (.ref b), some (.ref L), some (.ref qr), some (.ref x), some (.ref MM), some (.ref S), v8, v9, va, vb, vc]) ⟨(fun _ _ _ _ h => h), B7', ⟨[], gL7, Nat.zero_le _⟩, _, _, _, _, _, _, rfl⟩ ?_ ?_⟩
      · rintro j σ H8 hj ⟨k8, B8, ⟨cs, gL8, lc8⟩, w1, w8, w9, wa, wb, wc, rfl⟩
        have j3 : j < 3 := hj
        have gq8 : H8 qr = some (.lst (as.map V.ref)) := k8 _ _ gr7.nbq nqL gr7.lst
        refine ⟨_, rfl, qr, _, rfl, .inl (SqL.of gq8), _, _, rfl, rfl, ?_⟩
        refine ⟨_, rfl, _, rfl, qr, _, rfl, .inl (SqL.of gq8), b, _, _, rfl, B8, by omega, by omega, by omega, fun r H9 r0 r1 k9 B9 => ?_⟩
        refine ⟨(show 2 ≤ sizeLine from by decide), fun l9 hl9 => ?_⟩
        have S10 : Same H9 (upd H9 l9 (.lst [V.int (((as.map V.ref).length : Nat) - 1), V.int r])) := same_new hl9
        have g10 : (upd H9 l9 (.lst [V.int (((as.map V.ref).length : Nat) - 1), V.int r])) l9 = some (.lst [V.int (((as.map V.ref).length : Nat) - 1), V.int r]) := upd_same
        generalize upd H9 l9 (.lst [V.int (((as.map V.ref).length : Nat) - 1), V.int r]) = H10 at S10 g10 ⊢
        have nl9 : l9 ≠ b := B9.ne hl9
        refine ⟨_, rfl, b, 2, _, rfl, B9.same S10, by omega, by decide, by decide, fun r2 H11 r20 r21 k11 B11 => ?_⟩
        have k811 : Kp b H8 H11 := fun z o n h => k11 _ _ n (S10 _ _ (k9 _ _ n h))
        have gL11 := k811 _ _ nLb gL8
        obtain ⟨n, hat, hn⟩ : ∃ n : Nat, atI [V.int (((as.map V.ref).length : Nat) - 1), V.int r] r2 = some (.int (n : Nat)) ∧ n < rows.length := by
          rcases (show r2 = 0 ∨ r2 = 1 by omega) with rfl | rfl
          · refine ⟨rows.length - 1, ?_, by omega⟩
            show some (V.int (((as.map V.ref).length : Nat) - 1)) = some (V.int ((rows.length - 1 : Nat) : Int))
            rw [ll, show ((rows.length : Nat) : Int) - 1 = ((rows.length - 1 : Nat) : Int) by omega]
          · obtain ⟨n, rfl⟩ := Int.eq_ofNat_of_zero_le r0
            exact ⟨n, rfl, by rw [ll] at r1; omega⟩
        refine ⟨l9, _, _, _, rfl, rfl, SqL.of (k11 _ _ nl9 g10), hat, ?_⟩
        have k711 : ∀ z o, z ≠ b → z ≠ L → H7 z = some o → H11 z = some o := fun z o n1 n2 h => k811 _ _ n1 (k8 _ _ n1 n2 h)
        have off := offK k711
        have mu11 := mut2 B11 gL11
        refine ⟨_, rfl, _, rfl, _, rfl, _, rfl, _, rfl, _, rfl, [b, L], L, x, l, m, qr, MM, S, rows, as, bs, cs, n, fl, sm, ss, rfl, bkM.same off, off _ _ gqM, paired_imp (fun _ _ h => h.same off) prM, gd, hn, by omega, List.mem_cons_of_mem _ List.mem_cons_self, mu11, gL11, meanM.keep off, off _ _ gSM, paired_imp (fun _ _ h => ⟨h.1, h.2.same off⟩) pS7, so7, lss, syU.same (go k711), fun H12 cs' k12 gL12 lc12 => ⟨_, rfl, iteF ?_⟩⟩
        exact ⟨fun z o n1 n2 h => k12 _ _ n2 (k711 _ _ n1 n2 h), (by
          obtain ⟨x11, y11, z11, h11, r11⟩ := B11
          have B12 : BoxAt b _ H12 := ⟨x11, y11, z11, k12 _ _ (Ne.symm nLb) h11, r11⟩
          exact B12.up (by omega)), ⟨cs', gL12, lc12⟩, _, _, _, _, _, _, rfl⟩
      · rintro σ H8 ⟨k8, B8, ⟨cs, gL8, lc8⟩, w1, w8, w9, wa, wb, wc, rfl⟩
        have off := offK k8
        have mu8 := mut2 B8 gL8
        have mL : L ∈ [b, L] := List.mem_cons_of_mem _ List.mem_cons_self
        refine ⟨_, rfl, _, rfl, _, rfl, [b, L], L, x, l, m, qr, MM, rows, as, bs, cs, fl, rfl, bkM.same off, off _ _ gqM, (Paired.length gr7.row).symm, gd, by omega, by omega, mL, mu8, gL8, lc8, meanM.keep off, syU.same (go k8), fun H9 cs9 k9 gL9 lc9 => ⟨_, rfl, iteF ?_⟩⟩
        have k79 : ∀ z o, z ≠ b → z ≠ L → H7 z = some o → H9 z = some o := fun z o n1 n2 h => k9 _ _ n2 (k8 _ _ n1 n2 h)
        have off9 := offK k79
        have bk9 := bkM.same (off9.trans offM_to)
        have pr9 : Paired (RowAt K H9) rows as := paired_imp (fun _ _ h => h.same (off9.trans offM_to)) prM
        have gq9 : H9 qr = some (.lst (as.map V.ref)) := k79 _ _ gr7.nbq nqL gr7.lst
        obtain ⟨dx9, ho9⟩ := bk9.obj
        refine ⟨_, rfl, x, _, _, rfl, ho9, no_look (by decide) (by decide), x, l, m, rows, bs, rfl, bk9, fun p hp => ?_⟩
        have S10 : Same H9 (upd H9 p (.lst (bs.map V.ref))) := same_new hp
        have g10 : (upd H9 p (.lst (bs.map V.ref))) p = some (.lst (bs.map V.ref)) := upd_same
        generalize upd H9 p (.lst (bs.map V.ref)) = H10 at S10 g10 ⊢
        have pr10 := paired_imp (fun _ _ h => h.same S10) pr9
        have gq10 := S10 _ _ gq9
        refine ⟨_, rfl, rowsD rows, rowsD rows, .lst (SqL.of g10) (rows_dp (paired_imp (fun _ _ h => h.same S10) bk9.row)), .lst (SqL.of gq10) (rows_dp pr10), rows_shaped gd.nm, rows_shaped gd.nm, _, rfl, ?_⟩
        rw [rows_eqv gd.nm]
        refine iteF ?_
        have h0 : rows[0]? = some rows[0] := List.getElem?_eq_getElem (by omega)
        obtain ⟨pa, hpa, rp⟩ := Tp.paired_get pr10 h0
        have hat : atI (as.map V.ref) ((0 : Nat) : Int) = some (.ref pa) := atI_nat (by rw [List.getElem?_map, hpa]; rfl)
        refine ⟨_, rfl, qr, _, 0, _, rfl, rfl, SqL.of gq10, hat, ?_⟩
        have gd0 := gd.2 0 _ h0
        generalize rows[0] = r at h0 rp gd0
        have en : EnvR P w K mg base a [b, L] L x l m qr MM rows as bs fl H10 cs9 := ⟨bkM.same (off9.trans (offM_of S10)), (off9.trans (offM_of S10)) _ _ gqM, (mut2 (xs := cs9) (n := 3000 + 10 * 3) (by
          obtain ⟨x8, y8, z8, h8, r8⟩ := B8
          exact ⟨x8, y8, z8, S10 _ _ (k9 _ _ (Ne.symm nLb) h8), r8⟩) (S10 _ _ gL9)), meanM.keep (off9.trans (offM_of S10)), (syU.same (go k79)).same S10, S10 _ _ gL9⟩
        have tbF : ∀ {H' : Hp}, Kp L H10 H' → NdefX.TabsN (TT a) H' := fun k => tabsN_data (tabsN_kp tb6 hb6 k7) fun z o n1 _ h => by
          obtain ⟨x7, y7, z7, h7, _⟩ := B7
          have nb : z ≠ b := fun e => by rw [e, h7] at h; exact n1 _ (Option.some.inj h).symm
          have nL : z ≠ L := fun e => by rw [e, gL7] at h; exact n1 _ (Option.some.inj h).symm
          exact k _ _ nL (S10 _ _ (k79 _ _ nb nL h))
        have sF : ∀ {H' : Hp}, Kp L H10 H' → Same (unT H) H' := fun k z o h => k _ _ (nbU h).2 (S10 _ _ (go k79 z o h))
        rcases rp.inv with ⟨nsr, bb, hsec, h1, h2⟩ | ⟨tt, hsec, h1⟩
        · refine ⟨pa, _, rfl, h1, rfl, _, _, rfl, _, _, rfl, rfl, ?_⟩
          cases hdu : firstDue (fnB fl) (fun _ => none) rows 0 with
          | some e =>
            refine ⟨_, rfl, _, rfl, [b, L], L, x, l, m, rows, bs, cs9, .int 0, .ref MM, .non, .due e, rfl, en.bk, gd, by omega, mL, en.mu, en.gL, by omega, .due 0 rfl (by omega) MM fl rfl en.mn (fun _ => none) .none e hdu, fun _ p5 H11 S11 np5 g11 => ?_, fun n' vf' e => by cases e⟩
            have kk : Kp L H10 H11 := fun z o _ h => S11 _ _ h
            exact ⟨_, rfl, _, _, _, _, false, rfl, .ty _, ty_sqT (sqT_same S11 h2), kit_ty (by decide +kernel), _, rfl, iteF ⟨sF kk, tbF kk, _, _, _, _, _, _, _, _, _, _, _, _, rfl⟩⟩
          | none =>
            have ft := tabF_ok (g := gV (saltF fl) (fun _ => none)) (z := PyData.none) gd.wf
            generalize tabF (gV (saltF fl) (fun _ => none)) PyData.none rows = vf at ft
            refine ⟨_, rfl, _, rfl, [b, L], L, x, l, m, rows, bs, cs9, .int 0, .ref MM, .non, .val 0 vf, rfl, en.bk, gd, by omega, mL, en.mu, en.gL, by omega, .val 0 rfl (by omega) MM fl rfl en.mn (fun _ => none) .none hdu vf ft, fun z => absurd rfl (z 0 vf), fun n' vf' e p5 u5 H11 new k11 gL11 dn11 dv11 np5 g11 => ?_⟩
            have h2' : SqT K H11 bb (numsV nsr) := by
              rcases h2 with (h | ⟨o, h⟩) | h
              · exact .inl (.inl (k11 _ _ (fun e => by rw [e, en.gL] at h; cases h) h))
              · exact .inl (.inr ⟨o, k11 _ _ (fun e => by rw [e, en.gL] at h; cases h) h⟩)
              · exact .inr h
            exact ⟨_, rfl, _, _, _, _, false, rfl, .ty _, ty_sqT h2', kit_ty (by decide +kernel), _, rfl, iteF ⟨sF k11, tbF k11, _, _, _, _, _, _, _, _, _, _, _, _, rfl⟩⟩
        · refine ⟨pa, _, rfl, h1, rfl, _, _, rfl, _, _, rfl, rfl, ?_⟩
          have hdu := due0 (fn := fnB fl) gd.wf h0 hsec
          refine ⟨_, rfl, _, rfl, [b, L], L, x, l, m, rows, bs, cs9, .int 0, .ref MM, .non, .due (.smp r.nm tt), rfl, en.bk, gd, by omega, mL, en.mu, en.gL, by omega, .due 0 rfl (by omega) MM fl rfl en.mn (fun _ => none) .none _ hdu, fun _ p5 H11 S11 np5 g11 => ?_, fun n' vf' e => by cases e⟩
          have sy11 := en.sy.same S11
          obtain ⟨f1, f2, f3⟩ := ((fitq_list (due_fit gd hdu)).up (m := 2) (v := 300) (Nat.le_refl _) (by simp [dueD])).ok (by decide) (by decide)
          refine ⟨_, rfl, _, _, _, _, true, rfl, .ty _, .base (.int _), kit_ty (by decide +kernel), _, rfl, iteT ?_⟩
          refine ⟨_, rfl, .ref p5, .list (dueD (some (.smp r.nm tt))), rfl, sy11, .lst (SqL.of g11) (due_dq (some (.smp r.nm tt))), f1, f2, f3, _, rfl, _, rfl, (show 3 ≤ sizeLine from by decide), fun l6 hl6 => ?_⟩
          have S12 : Same H11 (upd H11 l6 (.lst [V.str "sample", V.str r.nm, V.int ((tt : Nat) : Int)])) := same_new hl6
          have g12 : (upd H11 l6 (.lst [V.str "sample", V.str r.nm, V.int ((tt : Nat) : Int)])) l6 = some (.lst (dueV (some (.smp r.nm tt)))) := upd_same
          generalize upd H11 l6 (.lst [V.str "sample", V.str r.nm, V.int ((tt : Nat) : Int)]) = H12 at S12 g12 ⊢
          refine ⟨.ref l6, .list (dueD (some (.smp r.nm tt))), rfl, sy11.same S12, .lst (SqL.of g12) (due_dq (some (.smp r.nm tt))), f1, f2, f3, rfl, _, rfl, ifnY rfl ?_⟩
          have kk : Kp L H10 H12 := fun z o _ h => S12 _ _ (S11 _ _ h)
          exact ⟨sF kk, tbF kk, _, _, _, _, _, _, _, _, _, _, _, _, rfl⟩
    · rintro σ H0 ⟨S0, tb0, v1, v2, v3, v4, v5, v6, v7, v8, v9, va, vb, vc, rfl⟩
      exact q _
end
end L05
set_option Elab.async false
set_option linter.all false
set_option maxRecDepth 100000
set_option maxHeartbeats 4000000
set_option pp.deepTerms false
set_option pp.deepTerms.threshold 4
set_option pp.maxSteps 300
namespace L05
open PySem L2 Tp
def hd0 : He.DefD := ⟨("InvalidMeaning", some "__init__"), "__init__", "InvalidMeaning.__init__", defArgs scInvalidMeaning_st, defBody scInvalidMeaning_st, defScope scInvalidMeaning_st, [], []⟩
def hd1 : He.DefD := ⟨("InvalidValues", some "__init__"), "__init__", "InvalidValues.__init__", defArgs scInvalidValues_st, defBody scInvalidValues_st, defScope scInvalidValues_st, [], []⟩
def hd2 : He.DefD := ⟨("UnknownSymbol", some "__init__"), "__init__", "UnknownSymbol.__init__", defArgs scUnknownSymbol_st, defBody scUnknownSymbol_st, defScope scUnknownSymbol_st, [], []⟩
def hd3 : He.DefD := ⟨("UnknownSample", some "__init__"), "__init__", "UnknownSample.__init__", defArgs scUnknownSample_st, defBody scUnknownSample_st, defScope scUnknownSample_st, [], []⟩
def hd4 : He.DefD := ⟨("UnknownTerm", some "__init__"), "__init__", "UnknownTerm.__init__", defArgs scUnknownTerm_st, defBody scUnknownTerm_st, defScope scUnknownTerm_st, [], []⟩
def hd5 : He.DefD := ⟨("is_integer", none), "is_integer", "is_integer", defArgs scIsInt_st, defBody scIsInt_st, defScope scIsInt_st, [], []⟩
def hd6 : He.DefD := ⟨("is_name", none), "is_name", "is_name", defArgs scIsName_st, defBody scIsName_st, defScope scIsName_st, [], []⟩
def hd7 : He.DefD := ⟨("is_list", none), "is_list", "is_list", defArgs scIsList_st, defBody scIsList_st, defScope scIsList_st, [], []⟩
def hd8 : He.DefD := ⟨("is_pair", none), "is_pair", "is_pair", defArgs scIsPair_st, defBody scIsPair_st, defScope scIsPair_st, [], []⟩
def hd9 : He.DefD := ⟨("is_turn", none), "is_turn", "is_turn", defArgs scIsTurn_st, defBody scIsTurn_st, defScope scIsTurn_st, [], []⟩
def hd10 : He.DefD := ⟨("is_sample_row", none), "is_sample_row", "is_sample_row", defArgs scIsSample_st, defBody scIsSample_st, defScope scIsSample_st, [], []⟩
def hd11 : He.DefD := ⟨("arguments_of", none), "arguments_of", "arguments_of", defArgs scArgsOf_st, defBody scArgsOf_st, defScope scArgsOf_st, [], []⟩
def hd12 : He.DefD := ⟨("Book", some "__init__"), "__init__", "Book.__init__", defArgs scBookInit_st, defBody scBookInit_st, defScope scBookInit_st, [.adr (He.dflAt ("Book", some "__init__") 0)], []⟩
def hd13 : He.DefD := ⟨("Book", some "add_item"), "add_item", "Book.add_item", defArgs scAddItem_st, defBody scAddItem_st, defScope scAddItem_st, [], []⟩
def hd14 : He.DefD := ⟨("Book", some "has_number"), "has_number", "Book.has_number", defArgs scHasNumber_st, defBody scHasNumber_st, defScope scHasNumber_st, [], []⟩
def hd15 : He.DefD := ⟨("Book", some "number_of"), "number_of", "Book.number_of", defArgs scNumberOf_st, defBody scNumberOf_st, defScope scNumberOf_st, [], []⟩
def hd16 : He.DefD := ⟨("Book", some "rows"), "rows", "Book.rows", defArgs scRows_st, defBody scRows_st, defScope scRows_st, [], []⟩
def hd17 : He.DefD := ⟨("Book", some "need_number"), "need_number", "Book.need_number", defArgs scNeedNumber_st, defBody scNeedNumber_st, defScope scNeedNumber_st, [], []⟩
def hd18 : He.DefD := ⟨("Book", some "parts"), "parts", "Book.parts", defArgs scParts_st, defBody scParts_st, defScope scParts_st, [], []⟩
def hd19 : He.DefD := ⟨("Book", some "size"), "size", "Book.size", defArgs scSize_st, defBody scSize_st, defScope scSize_st, [], []⟩
def hd20 : He.DefD := ⟨("Book", some "depth"), "depth", "Book.depth", defArgs scDepth_st, defBody scDepth_st, defScope scDepth_st, [], []⟩
def hd21 : He.DefD := ⟨("Book", some "evaluate"), "evaluate", "Book.evaluate", defArgs scEvaluate_st, defBody scEvaluate_st, defScope scEvaluate_st, [], [("samples", .non)]⟩
def hd22 : He.DefD := ⟨("are_samples", none), "are_samples", "are_samples", defArgs scAreSmp_st, defBody scAreSmp_st, defScope scAreSmp_st, [], []⟩
def hd23 : He.DefD := ⟨("need_known", none), "need_known", "need_known", defArgs scNeedKnown_st, defBody scNeedKnown_st, defScope scNeedKnown_st, [], []⟩
def hd24 : He.DefD := ⟨("_law_cell", none), "_law_cell", "_law_cell", defArgs scCell_st, defBody scCell_st, defScope scCell_st, [], []⟩
def hd25 : He.DefD := ⟨("_law_box", none), "_law_box", "_law_box", defArgs scBox_st, defBody scBox_st, defScope scBox_st, [], []⟩
def hd26 : He.DefD := ⟨("_law_take", none), "_law_take", "_law_take", defArgs scTake_st, defBody scTake_st, defScope scTake_st, [], []⟩
def hd27 : He.DefD := ⟨("_law_label", none), "_law_label", "_law_label", defArgs scLabel_st, defBody scLabel_st, defScope scLabel_st, [], []⟩
def hd28 : He.DefD := ⟨("_law_rows", none), "_law_rows", "_law_rows", defArgs scRowsL_st, defBody scRowsL_st, defScope scRowsL_st, [], []⟩
def hd29 : He.DefD := ⟨("_law_parts", none), "_law_parts", "_law_parts", defArgs scPartsL_st, defBody scPartsL_st, defScope scPartsL_st, [], []⟩
def hd30 : He.DefD := ⟨("_law_function", none), "_law_function", "_law_function", defArgs scFunc_st, defBody scFunc_st, defScope scFunc_st, [], []⟩
def hd31 : He.DefD := ⟨("_law_meaning", none), "_law_meaning", "_law_meaning", defArgs scMeaning_st, defBody scMeaning_st, defScope scMeaning_st, [], []⟩
def hd32 : He.DefD := ⟨("_law_samples", none), "_law_samples", "_law_samples", defArgs scSamples_st, defBody scSamples_st, defScope scSamples_st, [], []⟩
def hd33 : He.DefD := ⟨("_law_due", none), "_law_due", "_law_due", defArgs scDue_st, defBody scDue_st, defScope scDue_st, [], []⟩
def hd34 : He.DefD := ⟨("_law_walked", none), "_law_walked", "_law_walked", defArgs scWalked_st, defBody scWalked_st, defScope scWalked_st, [], []⟩
def hd35 : He.DefD := ⟨("_law_told", none), "_law_told", "_law_told", defArgs scTold_st, defBody scTold_st, defScope scTold_st, [], []⟩
def hd36 : He.DefD := ⟨("_law_measured", none), "_law_measured", "_law_measured", defArgs scMeasured_st, defBody scMeasured_st, defScope scMeasured_st, [], []⟩
def hd37 : He.DefD := ⟨("_law_right", none), "_law_right", "_law_right", defArgs scRight_st, defBody scRight_st, defScope scRight_st, [], []⟩
def hd38 : He.DefD := ⟨("_law_measure", none), "_law_measure", "_law_measure", defArgs scMeasure_st, defBody scMeasure_st, defScope scMeasure_st, [], []⟩
def hd39 : He.DefD := ⟨("_law_refused", none), "_law_refused", "_law_refused", defArgs scRefused_st, defBody scRefused_st, defScope scRefused_st, [], []⟩
def hd40 : He.DefD := ⟨("law", none), "law", "law", defArgs scLaw_st, defBody scLaw_st, defScope scLaw_st, [], []⟩
def hfn : List He.DefD := [hd0, hd1, hd2, hd3, hd4, hd5, hd6, hd7, hd8, hd9, hd10, hd11, hd12, hd13, hd14, hd15, hd16, hd17, hd18, hd19, hd20, hd21, hd22, hd23, hd24, hd25, hd26, hd27, hd28, hd29, hd30, hd31, hd32, hd33, hd34, hd35, hd36, hd37, hd38, hd39, hd40]
def hex0 : List (PySem.W.Frag → Bool) := [fun K => decide (PySem.W.findIn K (.ref (He.ga K "InvalidMeaning")) "__init__" = some (some (.ref (He.ma K (He.ga K "InvalidMeaning") "__init__")))),
  fun K => PySem.W.isFn K (.ref (He.fAd K ("InvalidMeaning", some "__init__"))),
  fun K => decide (PySem.W.findIn K (.ref (He.ga K "InvalidValues")) "__init__" = some (some (.ref (He.ma K (He.ga K "InvalidValues") "__init__")))),
  fun K => PySem.W.isFn K (.ref (He.fAd K ("InvalidValues", some "__init__"))),
  fun K => decide (PySem.W.findIn K (.ref (He.ga K "UnknownSymbol")) "__init__" = some (some (.ref (He.ma K (He.ga K "UnknownSymbol") "__init__")))),
  fun K => PySem.W.isFn K (.ref (He.fAd K ("UnknownSymbol", some "__init__"))),
  fun K => decide (PySem.W.findIn K (.ref (He.ga K "UnknownSample")) "__init__" = some (some (.ref (He.ma K (He.ga K "UnknownSample") "__init__")))),
  fun K => PySem.W.isFn K (.ref (He.fAd K ("UnknownSample", some "__init__"))),
  fun K => decide (PySem.W.findIn K (.ref (He.ga K "UnknownTerm")) "__init__" = some (some (.ref (He.ma K (He.ga K "UnknownTerm") "__init__")))),
  fun K => PySem.W.isFn K (.ref (He.fAd K ("UnknownTerm", some "__init__"))),
  fun K => (He.Fa.glo "is_integer").ok K,
  fun K => (He.Fa.glo "is_name").ok K,
  fun K => (He.Fa.glo "is_list").ok K,
  fun K => (He.Fa.glo "is_pair").ok K,
  fun K => (He.Fa.glo "is_turn").ok K,
  fun K => (He.Fa.glo "is_sample_row").ok K,
  fun K => (He.Fa.glo "arguments_of").ok K,
  fun K => decide (PySem.W.findIn K (.ref (He.ga K "Book")) "__init__" = some (some (.ref (He.ma K (He.ga K "Book") "__init__")))),
  fun K => PySem.W.isFn K (.ref (He.fAd K ("Book", some "__init__"))),
  fun K => decide (PySem.W.findIn K (.ref (He.ga K "Book")) "add_item" = some (some (.ref (He.ma K (He.ga K "Book") "add_item")))),
  fun K => PySem.W.isFn K (.ref (He.fAd K ("Book", some "add_item"))),
  fun K => decide (PySem.W.findIn K (.ref (He.ga K "Book")) "has_number" = some (some (.ref (He.ma K (He.ga K "Book") "has_number")))),
  fun K => PySem.W.isFn K (.ref (He.fAd K ("Book", some "has_number"))),
  fun K => decide (PySem.W.findIn K (.ref (He.ga K "Book")) "number_of" = some (some (.ref (He.ma K (He.ga K "Book") "number_of")))),
  fun K => PySem.W.isFn K (.ref (He.fAd K ("Book", some "number_of"))),
  fun K => decide (PySem.W.findIn K (.ref (He.ga K "Book")) "rows" = some (some (.ref (He.ma K (He.ga K "Book") "rows")))),
  fun K => PySem.W.isFn K (.ref (He.fAd K ("Book", some "rows"))),
  fun K => decide (PySem.W.findIn K (.ref (He.ga K "Book")) "need_number" = some (some (.ref (He.ma K (He.ga K "Book") "need_number")))),
  fun K => PySem.W.isFn K (.ref (He.fAd K ("Book", some "need_number"))),
  fun K => decide (PySem.W.findIn K (.ref (He.ga K "Book")) "parts" = some (some (.ref (He.ma K (He.ga K "Book") "parts")))),
  fun K => PySem.W.isFn K (.ref (He.fAd K ("Book", some "parts"))),
  fun K => decide (PySem.W.findIn K (.ref (He.ga K "Book")) "size" = some (some (.ref (He.ma K (He.ga K "Book") "size")))),
  fun K => PySem.W.isFn K (.ref (He.fAd K ("Book", some "size"))),
  fun K => decide (PySem.W.findIn K (.ref (He.ga K "Book")) "depth" = some (some (.ref (He.ma K (He.ga K "Book") "depth")))),
  fun K => PySem.W.isFn K (.ref (He.fAd K ("Book", some "depth"))),
  fun K => decide (PySem.W.findIn K (.ref (He.ga K "Book")) "evaluate" = some (some (.ref (He.ma K (He.ga K "Book") "evaluate")))),
  fun K => PySem.W.isFn K (.ref (He.fAd K ("Book", some "evaluate"))),
  fun K => (He.Fa.glo "are_samples").ok K,
  fun K => (He.Fa.glo "need_known").ok K,
  fun K => (He.Fa.glo "_law_cell").ok K,
  fun K => (He.Fa.glo "_law_box").ok K,
  fun K => (He.Fa.glo "_law_take").ok K,
  fun K => (He.Fa.glo "_law_label").ok K,
  fun K => (He.Fa.glo "_law_rows").ok K,
  fun K => (He.Fa.glo "_law_parts").ok K,
  fun K => (He.Fa.glo "_law_function").ok K,
  fun K => (He.Fa.glo "_law_meaning").ok K,
  fun K => (He.Fa.glo "_law_samples").ok K,
  fun K => (He.Fa.glo "_law_due").ok K,
  fun K => (He.Fa.glo "_law_walked").ok K,
  fun K => (He.Fa.glo "_law_told").ok K,
  fun K => (He.Fa.glo "_law_measured").ok K,
  fun K => (He.Fa.glo "_law_right").ok K,
  fun K => (He.Fa.glo "_law_measure").ok K,
  fun K => (He.Fa.glo "_law_refused").ok K,
  fun K => (He.Fa.glo "law").ok K,
  fun K => (He.Fa.str "LETTERS" "abcdefghijklmnopqrstuvwxyz").ok K,
  fun K => (He.Fa.str "DIGITS" "0123456789").ok K,
  fun K => (He.Fa.int "LONGEST_NAME" (8)).ok K,
  fun K => (He.Fa.int "MOST_ARGUMENTS" (3)).ok K,
  fun K => (He.Fa.free "len").ok K,
  fun K => (He.Fa.free "max").ok K,
  fun K => (He.Fa.free "min").ok K,
  fun K => (He.Fa.free "isinstance").ok K,
  fun K => (He.Fa.free "str").ok K,
  fun K => (He.Fa.free "int").ok K,
  fun K => (He.Fa.free "all").ok K,
  fun K => (He.Fa.free "range").ok K,
  fun K => (He.Fa.free "repr").ok K,
  fun K => (He.Fa.free "list").ok K,
  fun K => (He.Fa.free "tuple").ok K,
  fun K => (He.Fa.free "bool").ok K,
  fun K => (He.Fa.free "sum").ok K,
  fun K => (He.Fa.free "sorted").ok K,
  fun K => (He.Fa.free "dict").ok K,
  fun K => (He.Fa.free "set").ok K,
  fun K => (He.Fa.free "enumerate").ok K,
  fun K => (He.Fa.glo "NetError").ok K,
  fun K => Tp.clsXB .ve K (He.ga K "NetError") [],
  fun K => decide (PySem.W.specialIn K (.ref (He.ga K "NetError")) "__getattribute__" = some (some (.builtin "type.__getattribute__")))]
def hex1 : List (PySem.W.Frag → Bool) := [fun K => PySem.W.readsIn K (He.ga K "NetError") (.type "type"),
  fun K => Tp.clsB K (He.ga K "NetError") "__init__" (Tp.XB.initId .ve),
  fun K => (He.Fa.glo "MissingError").ok K,
  fun K => Tp.clsXB .ke K (He.ga K "MissingError") [],
  fun K => decide (PySem.W.specialIn K (.ref (He.ga K "MissingError")) "__getattribute__" = some (some (.builtin "type.__getattribute__"))),
  fun K => PySem.W.readsIn K (He.ga K "MissingError") (.type "type"),
  fun K => Tp.clsB K (He.ga K "MissingError") "__init__" (Tp.XB.initId .ke),
  fun K => (He.Fa.glo "InvalidMeaning").ok K,
  fun K => Tp.clsXB .ve K (He.ga K "InvalidMeaning") [(He.ga K "NetError")],
  fun K => Tp.initXB K (He.ga K "InvalidMeaning") (He.fAd K ("InvalidMeaning", some "__init__")) ["value"],
  fun K => (He.Fa.glo "InvalidValues").ok K,
  fun K => Tp.clsXB .ve K (He.ga K "InvalidValues") [(He.ga K "NetError")],
  fun K => Tp.initXB K (He.ga K "InvalidValues") (He.fAd K ("InvalidValues", some "__init__")) ["value"],
  fun K => (He.Fa.glo "UnknownSymbol").ok K,
  fun K => Tp.clsXB .ke K (He.ga K "UnknownSymbol") [(He.ga K "MissingError")],
  fun K => Tp.initXB K (He.ga K "UnknownSymbol") (He.fAd K ("UnknownSymbol", some "__init__")) ["name"],
  fun K => (He.Fa.glo "UnknownSample").ok K,
  fun K => Tp.clsXB .ke K (He.ga K "UnknownSample") [(He.ga K "MissingError")],
  fun K => Tp.initXB K (He.ga K "UnknownSample") (He.fAd K ("UnknownSample", some "__init__")) ["name", "index"],
  fun K => (He.Fa.glo "UnknownTerm").ok K,
  fun K => Tp.clsXB .ke K (He.ga K "UnknownTerm") [(He.ga K "MissingError")],
  fun K => Tp.initXB K (He.ga K "UnknownTerm") (He.fAd K ("UnknownTerm", some "__init__")) ["number"],
  fun K => (He.Fa.glo "Book").ok K,
  fun K => PySem.W.plainGet K (He.ga K "Book") Str.empty,
  fun K => PySem.W.hasDictIn K (He.ga K "Book"),
  fun K => PySem.W.plainOver K (He.ga K "Book"),
  fun K => decide (PySem.W.findIn K (.ref (He.ga K "Book")) "__setattr__" = some (some (.builtin "object.__setattr__"))),
  fun K => PySem.W.makesIn K (He.ga K "Book"),
  fun K => PySem.W.keepIn K (.ref (He.ga K "Book")),
  fun K => decide (PySem.W.findIn K (.ref (He.ga K "Book")) "__class__" = some (some (.builtin "object.__class__"))),
  fun K => decide (PySem.W.mroIn K (He.ga K "Book") (.type "object") = some true),
  fun K => decide (PySem.W.typeIn K (.ref (He.ga K "Book")) = some (.type "type")),
  fun K => decide (PySem.W.findIn K (.ref (He.ga K "Book")) "held" = some none),
  fun K => decide (PySem.W.findIn K (.ref (He.ga K "Book")) "numbers" = some none),
  fun K => decide (PySem.W.subIn K (.ref (He.ga K "Book")) (.type "str") = some false),
  fun K => decide (PySem.W.subIn K (.ref (He.ga K "Book")) (.type "int") = some false),
  fun K => decide (PySem.W.subIn K (.ref (He.ga K "Book")) (.type "list") = some false),
  fun K => decide (PySem.W.subIn K (.ref (He.ga K "Book")) (.type "tuple") = some false),
  fun K => decide (PySem.W.subIn K (.ref (He.ga K "Book")) (.type "dict") = some false),
  fun K => decide (PySem.W.subIn K (.ref (He.ga K "Book")) (.type "bool") = some false),
  fun K => decide (PySem.W.specialIn K (.builtin "object.__class__") "__get__" = some (some (.builtin "getset_descriptor.__get__"))),
  fun K => decide (PySem.W.takesIn K (.builtin "object.__class__") = some true),
  fun K => Tp.tup0B K (He.dflAt ("Book", some "__init__") 0 K),
  fun K => decide ([(He.ga K "InvalidMeaning"), (He.ga K "InvalidValues"), (He.ga K "UnknownSymbol"), (He.ga K "UnknownSample"), (He.ga K "UnknownTerm"), (He.ga K "NetError"), (He.ga K "MissingError")].Nodup)]
def hexs : List (List (PySem.W.Frag → Bool)) := [hex0, hex1]
def htf : List He.Defn := [("_law_function", none)]
def adK (K : PySem.W.Frag) : Ad := ⟨He.fAd K ("InvalidMeaning", some "__init__"), He.fAd K ("InvalidValues", some "__init__"), He.fAd K ("UnknownSymbol", some "__init__"), He.fAd K ("UnknownSample", some "__init__"), He.fAd K ("UnknownTerm", some "__init__"), He.fAd K ("is_integer", none), He.fAd K ("is_name", none), He.fAd K ("is_list", none), He.fAd K ("is_pair", none), He.fAd K ("is_turn", none), He.fAd K ("is_sample_row", none), He.fAd K ("arguments_of", none), He.fAd K ("Book", some "__init__"), He.fAd K ("Book", some "add_item"), He.fAd K ("Book", some "has_number"), He.fAd K ("Book", some "number_of"), He.fAd K ("Book", some "rows"), He.fAd K ("Book", some "need_number"), He.fAd K ("Book", some "parts"), He.fAd K ("Book", some "size"), He.fAd K ("Book", some "depth"), He.fAd K ("Book", some "evaluate"), He.fAd K ("are_samples", none), He.fAd K ("need_known", none), He.fAd K ("_law_cell", none), He.fAd K ("_law_box", none), He.fAd K ("_law_take", none), He.fAd K ("_law_label", none), He.fAd K ("_law_rows", none), He.fAd K ("_law_parts", none), He.fAd K ("_law_function", none), He.fAd K ("_law_meaning", none), He.fAd K ("_law_samples", none), He.fAd K ("_law_due", none), He.fAd K ("_law_walked", none), He.fAd K ("_law_told", none), He.fAd K ("_law_measured", none), He.fAd K ("_law_right", none), He.fAd K ("_law_measure", none), He.fAd K ("_law_refused", none), He.fAd K ("law", none), He.ga K "NetError", He.ga K "MissingError", He.ga K "InvalidMeaning", He.ga K "InvalidValues", He.ga K "UnknownSymbol", He.ga K "UnknownSample", He.ga K "UnknownTerm", He.ga K "Book", He.dflAt ("Book", some "__init__") 0 K, (He.cT K ("_law_function", none)).1, (He.cT K ("_law_function", none)).2⟩
def hln0 : List Str := ["_wall", "__name__", "NetError", "MissingError", "StateError", "InvalidPart", "InvalidName", "InvalidRow", "InvalidTurn", "InvalidMeaning", "InvalidValues", "InvalidString", "UnknownSymbol", "UnknownSample", "UnknownTerm", "TooLong", "LETTERS", "DIGITS", "LONGEST_NAME", "MOST_DIGITS", "MOST_ARGUMENTS", "is_integer", "is_name", "is_list", "is_pair", "parse_integer", "LONGEST_TEXT", "is_turn", "is_sample_row", "arguments_of"]
def hln1 : List Str := ["written", "Book", "are_samples", "need_known", "Reader", "_law_cell", "_law_box", "_law_take", "_law_label", "_law_rows", "_law_parts", "_law_function", "_law_meaning", "_law_samples", "_law_due", "_law_walked", "_law_told", "_law_measured", "_law_right", "_law_measure", "_law_refused"]
def hln : List Str := hln0 ++ (hln1)
abbrev HR : PySem.W.OpenRow := PySem.W.OpenLaw.row PySem.Challenge.rw_toldpast_k05_values_of_terms
abbrev hq : Program := PySem.W.view HR.prog [54]
def hcs : List Str := [("NetError" : Str), ("MissingError" : Str), ("InvalidMeaning" : Str), ("InvalidValues" : Str), ("UnknownSymbol" : Str), ("UnknownSample" : Str), ("UnknownTerm" : Str), ("Book" : Str)]
abbrev hk : PySem.W.Hook := Tp.hookBT hcs hfn hexs.flatten htf
def hob (s : PySem.W.SharedT) : Tp.AlBT := Tp.obsBT hcs hfn hexs.flatten htf (HandSHeadRun.getT s)
theorem hob_eq (s : PySem.W.SharedT) : hob s = hk.obs s.abs := Tp.obsBT_eq (HandSHeadRun.getT_eq s)
noncomputable abbrev hx (w : World) (os : OsState) : Option PySem.W.SharedT := HandSHeadRun.endF (HandSHeadRun.stepQ (HandSHeadRun.denQ HandSHeadRun.tabQ) HR.prog w) 20000 HR.prog w os
end L05
set_option Elab.async false
set_option linter.all false
set_option maxRecDepth 100000
set_option maxHeartbeats 4000000
set_option pp.deepTerms false
set_option pp.deepTerms.threshold 4
set_option pp.maxSteps 300
namespace L05
open PySem PySem.W PySem.Calls PyProof.Rows L2 Tp
theorem hr_looks (w : World) (os : OsState) : (hx w os).map (fun s => HandSHeadRun.looksF HR.prog (boot_heap w.params) s.abs) = some true := by kernel_rfl
theorem hr_seen (w : World) (os : OsState) : (hx w os).map (fun s => HandSHeadRun.seenQ hq hln (importedModules HR.prog.main.body) (fun s => PySem.W.xlAt hq [] s && PySem.W.recOk HR.toRowW.records s) s.abs) = some (PySem.W.openGood hq hln) := by kernel_rfl
theorem hr_e0 (w : World) (os : OsState) : (hx w os).map (fun s => Tp.withKT (HandSHeadRun.getT s) hcs (hfn.map He.DefD.at_) fun K => hex0.all fun f => f K) = some true := by kernel_rfl
theorem hr_e1 (w : World) (os : OsState) : (hx w os).map (fun s => Tp.withKT (HandSHeadRun.getT s) hcs (hfn.map He.DefD.at_) fun K => hex1.all fun f => f K) = some true := by kernel_rfl
theorem hr_ok (w : World) (os : OsState) : (hx w os).map (fun s => Tp.withKT (HandSHeadRun.getT s) hcs (hfn.map He.DefD.at_) fun K => hfn.all fun d => d.ok K) = some true := by kernel_rfl
theorem hr_v (w : World) (os : OsState) : (hx w os).map (fun s => Tp.withKT (HandSHeadRun.getT s) hcs (hfn.map He.DefD.at_) fun K => hfn.map fun d => He.fnW K d.at_) = some (hfn.map He.DefD.val) := by kernel_rfl
theorem hr_t (w : World) (os : OsState) : (hx w os).map (fun s => Tp.withKT (HandSHeadRun.getT s) hcs (hfn.map He.DefD.at_) fun K => He.tabsB (HandSHeadRun.getT s) htf K) = some true := by kernel_rfl
end L05
set_option Elab.async false
set_option linter.all false
set_option maxRecDepth 100000
set_option maxHeartbeats 4000000
set_option pp.deepTerms false
set_option pp.deepTerms.threshold 4
set_option pp.maxSteps 300
namespace L05
open PySem L2 Tp
theorem tabs_mk {K : PySem.W.Frag} {H : Hp} (hT : ∀ p ∈ htf.map (He.cT K), H p.2 = some (.tbl #[])) : NdefX.TabsN (TT (adK K)) H := fun p hp => by
  simp only [TT, List.mem_cons, List.not_mem_nil, or_false] at hp
  subst hp
  exact NdefX.TabN.nil (hT _ (List.mem_map.mpr ⟨_, List.mem_singleton.mpr rfl, rfl⟩))
theorem all_mk {l : PySem.W.OpenLaw} {w : World} {K : PySem.W.Frag} {h : Heap} {mg : Str → Option Value} {fa : Addr} (X : K.In h) (G : h.Ns mainGlobals mg) (hfa : mg "law" = some (.ref fa)) (c : Tp.SaysB hfn hexs.flatten K)
    : ∃ fd : FuncData, (∀ (s : Shared) (v : Value), BindsTo s fd ⟨[v], []⟩ [("_law_script", v)]) ∧ ∀ base : Heap, K.In base → base.Ns mainGlobals mg → (∀ p ∈ htf.map (He.cT K), LamX.TabB base mg p.1 p.2) → Tp.FnG l.prog w K mg base CX0 30 fa fd ["_law_script"] (spLaw K (adK K)) := by
  have a0 : PySem.W.findIn K (.ref (He.ga K "InvalidMeaning")) "__init__" = some (some (.ref (He.ma K (He.ga K "InvalidMeaning") "__init__"))) := of_decide_eq_true (c.factP 0 0 rfl rfl)
  have fn0 : PySem.W.isFn K (.ref (He.fAd K ("InvalidMeaning", some "__init__"))) = true := (c.factP 0 1 rfl rfl)
  have a1 : PySem.W.findIn K (.ref (He.ga K "InvalidValues")) "__init__" = some (some (.ref (He.ma K (He.ga K "InvalidValues") "__init__"))) := of_decide_eq_true (c.factP 0 2 rfl rfl)
  have fn1 : PySem.W.isFn K (.ref (He.fAd K ("InvalidValues", some "__init__"))) = true := (c.factP 0 3 rfl rfl)
  have a2 : PySem.W.findIn K (.ref (He.ga K "UnknownSymbol")) "__init__" = some (some (.ref (He.ma K (He.ga K "UnknownSymbol") "__init__"))) := of_decide_eq_true (c.factP 0 4 rfl rfl)
  have fn2 : PySem.W.isFn K (.ref (He.fAd K ("UnknownSymbol", some "__init__"))) = true := (c.factP 0 5 rfl rfl)
  have a3 : PySem.W.findIn K (.ref (He.ga K "UnknownSample")) "__init__" = some (some (.ref (He.ma K (He.ga K "UnknownSample") "__init__"))) := of_decide_eq_true (c.factP 0 6 rfl rfl)
  have fn3 : PySem.W.isFn K (.ref (He.fAd K ("UnknownSample", some "__init__"))) = true := (c.factP 0 7 rfl rfl)
  have a4 : PySem.W.findIn K (.ref (He.ga K "UnknownTerm")) "__init__" = some (some (.ref (He.ma K (He.ga K "UnknownTerm") "__init__"))) := of_decide_eq_true (c.factP 0 8 rfl rfl)
  have fn4 : PySem.W.isFn K (.ref (He.fAd K ("UnknownTerm", some "__init__"))) = true := (c.factP 0 9 rfl rfl)
  have g5 := He.glo_ok X G (c.factP 0 10 rfl rfl)
  have g6 := He.glo_ok X G (c.factP 0 11 rfl rfl)
  have g7 := He.glo_ok X G (c.factP 0 12 rfl rfl)
  have g8 := He.glo_ok X G (c.factP 0 13 rfl rfl)
  have g9 := He.glo_ok X G (c.factP 0 14 rfl rfl)
  have g10 := He.glo_ok X G (c.factP 0 15 rfl rfl)
  have g11 := He.glo_ok X G (c.factP 0 16 rfl rfl)
  have a12 : PySem.W.findIn K (.ref (He.ga K "Book")) "__init__" = some (some (.ref (He.ma K (He.ga K "Book") "__init__"))) := of_decide_eq_true (c.factP 0 17 rfl rfl)
  have fn12 : PySem.W.isFn K (.ref (He.fAd K ("Book", some "__init__"))) = true := (c.factP 0 18 rfl rfl)
  have a13 : PySem.W.findIn K (.ref (He.ga K "Book")) "add_item" = some (some (.ref (He.ma K (He.ga K "Book") "add_item"))) := of_decide_eq_true (c.factP 0 19 rfl rfl)
  have fn13 : PySem.W.isFn K (.ref (He.fAd K ("Book", some "add_item"))) = true := (c.factP 0 20 rfl rfl)
  have a14 : PySem.W.findIn K (.ref (He.ga K "Book")) "has_number" = some (some (.ref (He.ma K (He.ga K "Book") "has_number"))) := of_decide_eq_true (c.factP 0 21 rfl rfl)
  have fn14 : PySem.W.isFn K (.ref (He.fAd K ("Book", some "has_number"))) = true := (c.factP 0 22 rfl rfl)
  have a15 : PySem.W.findIn K (.ref (He.ga K "Book")) "number_of" = some (some (.ref (He.ma K (He.ga K "Book") "number_of"))) := of_decide_eq_true (c.factP 0 23 rfl rfl)
  have fn15 : PySem.W.isFn K (.ref (He.fAd K ("Book", some "number_of"))) = true := (c.factP 0 24 rfl rfl)
  have a16 : PySem.W.findIn K (.ref (He.ga K "Book")) "rows" = some (some (.ref (He.ma K (He.ga K "Book") "rows"))) := of_decide_eq_true (c.factP 0 25 rfl rfl)
  have fn16 : PySem.W.isFn K (.ref (He.fAd K ("Book", some "rows"))) = true := (c.factP 0 26 rfl rfl)
  have a17 : PySem.W.findIn K (.ref (He.ga K "Book")) "need_number" = some (some (.ref (He.ma K (He.ga K "Book") "need_number"))) := of_decide_eq_true (c.factP 0 27 rfl rfl)
  have fn17 : PySem.W.isFn K (.ref (He.fAd K ("Book", some "need_number"))) = true := (c.factP 0 28 rfl rfl)
  have a18 : PySem.W.findIn K (.ref (He.ga K "Book")) "parts" = some (some (.ref (He.ma K (He.ga K "Book") "parts"))) := of_decide_eq_true (c.factP 0 29 rfl rfl)
  have fn18 : PySem.W.isFn K (.ref (He.fAd K ("Book", some "parts"))) = true := (c.factP 0 30 rfl rfl)
  have a19 : PySem.W.findIn K (.ref (He.ga K "Book")) "size" = some (some (.ref (He.ma K (He.ga K "Book") "size"))) := of_decide_eq_true (c.factP 0 31 rfl rfl)
  have fn19 : PySem.W.isFn K (.ref (He.fAd K ("Book", some "size"))) = true := (c.factP 0 32 rfl rfl)
  have a20 : PySem.W.findIn K (.ref (He.ga K "Book")) "depth" = some (some (.ref (He.ma K (He.ga K "Book") "depth"))) := of_decide_eq_true (c.factP 0 33 rfl rfl)
  have fn20 : PySem.W.isFn K (.ref (He.fAd K ("Book", some "depth"))) = true := (c.factP 0 34 rfl rfl)
  have a21 : PySem.W.findIn K (.ref (He.ga K "Book")) "evaluate" = some (some (.ref (He.ma K (He.ga K "Book") "evaluate"))) := of_decide_eq_true (c.factP 0 35 rfl rfl)
  have fn21 : PySem.W.isFn K (.ref (He.fAd K ("Book", some "evaluate"))) = true := (c.factP 0 36 rfl rfl)
  have g22 := He.glo_ok X G (c.factP 0 37 rfl rfl)
  have g23 := He.glo_ok X G (c.factP 0 38 rfl rfl)
  have g24 := He.glo_ok X G (c.factP 0 39 rfl rfl)
  have g25 := He.glo_ok X G (c.factP 0 40 rfl rfl)
  have g26 := He.glo_ok X G (c.factP 0 41 rfl rfl)
  have g27 := He.glo_ok X G (c.factP 0 42 rfl rfl)
  have g28 := He.glo_ok X G (c.factP 0 43 rfl rfl)
  have g29 := He.glo_ok X G (c.factP 0 44 rfl rfl)
  have g30 := He.glo_ok X G (c.factP 0 45 rfl rfl)
  have g31 := He.glo_ok X G (c.factP 0 46 rfl rfl)
  have g32 := He.glo_ok X G (c.factP 0 47 rfl rfl)
  have g33 := He.glo_ok X G (c.factP 0 48 rfl rfl)
  have g34 := He.glo_ok X G (c.factP 0 49 rfl rfl)
  have g35 := He.glo_ok X G (c.factP 0 50 rfl rfl)
  have g36 := He.glo_ok X G (c.factP 0 51 rfl rfl)
  have g37 := He.glo_ok X G (c.factP 0 52 rfl rfl)
  have g38 := He.glo_ok X G (c.factP 0 53 rfl rfl)
  have g39 := He.glo_ok X G (c.factP 0 54 rfl rfl)
  have g40 := He.glo_ok X G (c.factP 0 55 rfl rfl)
  have m_LETTERS := He.str_ok X G (c.factP 0 56 rfl rfl)
  have m_DIGITS := He.str_ok X G (c.factP 0 57 rfl rfl)
  have m_LONGEST_NAME := He.int_ok X G (c.factP 0 58 rfl rfl)
  have m_MOST_ARGUMENTS := He.int_ok X G (c.factP 0 59 rfl rfl)
  have z_len := He.free_ok X G (c.factP 0 60 rfl rfl)
  have z_max := He.free_ok X G (c.factP 0 61 rfl rfl)
  have z_min := He.free_ok X G (c.factP 0 62 rfl rfl)
  have z_isinstance := He.free_ok X G (c.factP 0 63 rfl rfl)
  have z_str := He.free_ok X G (c.factP 0 64 rfl rfl)
  have z_int := He.free_ok X G (c.factP 0 65 rfl rfl)
  have z_all := He.free_ok X G (c.factP 0 66 rfl rfl)
  have z_range := He.free_ok X G (c.factP 0 67 rfl rfl)
  have z_repr := He.free_ok X G (c.factP 0 68 rfl rfl)
  have z_list := He.free_ok X G (c.factP 0 69 rfl rfl)
  have z_tuple := He.free_ok X G (c.factP 0 70 rfl rfl)
  have z_bool := He.free_ok X G (c.factP 0 71 rfl rfl)
  have z_sum := He.free_ok X G (c.factP 0 72 rfl rfl)
  have z_sorted := He.free_ok X G (c.factP 0 73 rfl rfl)
  have z_dict := He.free_ok X G (c.factP 0 74 rfl rfl)
  have z_set := He.free_ok X G (c.factP 0 75 rfl rfl)
  have z_enumerate := He.free_ok X G (c.factP 0 76 rfl rfl)
  have aCNetError := He.glo_ok X G (c.factP 0 77 rfl rfl)
  have cxNetError := Tp.clsXB_ok (c.factP 0 78 rfl rfl)
  have bgNetError : PySem.W.specialIn K (.ref (He.ga K "NetError")) "__getattribute__" = some (some (.builtin "type.__getattribute__")) := of_decide_eq_true (c.factP 0 79 rfl rfl)
  have brNetError : PySem.W.readsIn K (He.ga K "NetError") (.type "type") = true := (c.factP 1 0 rfl rfl)
  have bfNetError := Tp.clsB_ok (c.factP 1 1 rfl rfl)
  have aCMissingError := He.glo_ok X G (c.factP 1 2 rfl rfl)
  have cxMissingError := Tp.clsXB_ok (c.factP 1 3 rfl rfl)
  have bgMissingError : PySem.W.specialIn K (.ref (He.ga K "MissingError")) "__getattribute__" = some (some (.builtin "type.__getattribute__")) := of_decide_eq_true (c.factP 1 4 rfl rfl)
  have brMissingError : PySem.W.readsIn K (He.ga K "MissingError") (.type "type") = true := (c.factP 1 5 rfl rfl)
  have bfMissingError := Tp.clsB_ok (c.factP 1 6 rfl rfl)
  have aCInvalidMeaning := He.glo_ok X G (c.factP 1 7 rfl rfl)
  have cxInvalidMeaning := Tp.clsXB_ok (c.factP 1 8 rfl rfl)
  have xiInvalidMeaning := Tp.initXB_ok (c.factP 1 9 rfl rfl)
  have aCInvalidValues := He.glo_ok X G (c.factP 1 10 rfl rfl)
  have cxInvalidValues := Tp.clsXB_ok (c.factP 1 11 rfl rfl)
  have xiInvalidValues := Tp.initXB_ok (c.factP 1 12 rfl rfl)
  have aCUnknownSymbol := He.glo_ok X G (c.factP 1 13 rfl rfl)
  have cxUnknownSymbol := Tp.clsXB_ok (c.factP 1 14 rfl rfl)
  have xiUnknownSymbol := Tp.initXB_ok (c.factP 1 15 rfl rfl)
  have aCUnknownSample := He.glo_ok X G (c.factP 1 16 rfl rfl)
  have cxUnknownSample := Tp.clsXB_ok (c.factP 1 17 rfl rfl)
  have xiUnknownSample := Tp.initXB_ok (c.factP 1 18 rfl rfl)
  have aCUnknownTerm := He.glo_ok X G (c.factP 1 19 rfl rfl)
  have cxUnknownTerm := Tp.clsXB_ok (c.factP 1 20 rfl rfl)
  have xiUnknownTerm := Tp.initXB_ok (c.factP 1 21 rfl rfl)
  have aCBook := He.glo_ok X G (c.factP 1 22 rfl rfl)
  have pgBook : PySem.W.plainGet K (He.ga K "Book") Str.empty = true := (c.factP 1 23 rfl rfl)
  have hdBook : PySem.W.hasDictIn K (He.ga K "Book") = true := (c.factP 1 24 rfl rfl)
  have poBook : PySem.W.plainOver K (He.ga K "Book") = true := (c.factP 1 25 rfl rfl)
  have saBook : PySem.W.findIn K (.ref (He.ga K "Book")) "__setattr__" = some (some (.builtin "object.__setattr__")) := of_decide_eq_true (c.factP 1 26 rfl rfl)
  have mkBook : PySem.W.makesIn K (He.ga K "Book") = true := (c.factP 1 27 rfl rfl)
  have kcBook : PySem.W.keepIn K (.ref (He.ga K "Book")) = true := (c.factP 1 28 rfl rfl)
  have caBook : PySem.W.findIn K (.ref (He.ga K "Book")) "__class__" = some (some (.builtin "object.__class__")) := of_decide_eq_true (c.factP 1 29 rfl rfl)
  have cmBook : PySem.W.mroIn K (He.ga K "Book") (.type "object") = some true := of_decide_eq_true (c.factP 1 30 rfl rfl)
  have tyBook : PySem.W.typeIn K (.ref (He.ga K "Book")) = some (.type "type") := of_decide_eq_true (c.factP 1 31 rfl rfl)
  have nBookheld : PySem.W.findIn K (.ref (He.ga K "Book")) "held" = some none := of_decide_eq_true (c.factP 1 32 rfl rfl)
  have nBooknumbers : PySem.W.findIn K (.ref (He.ga K "Book")) "numbers" = some none := of_decide_eq_true (c.factP 1 33 rfl rfl)
  have kiBookstr : PySem.W.subIn K (.ref (He.ga K "Book")) (.type "str") = some false := of_decide_eq_true (c.factP 1 34 rfl rfl)
  have kiBookint : PySem.W.subIn K (.ref (He.ga K "Book")) (.type "int") = some false := of_decide_eq_true (c.factP 1 35 rfl rfl)
  have kiBooklist : PySem.W.subIn K (.ref (He.ga K "Book")) (.type "list") = some false := of_decide_eq_true (c.factP 1 36 rfl rfl)
  have kiBooktuple : PySem.W.subIn K (.ref (He.ga K "Book")) (.type "tuple") = some false := of_decide_eq_true (c.factP 1 37 rfl rfl)
  have kiBookdict : PySem.W.subIn K (.ref (He.ga K "Book")) (.type "dict") = some false := of_decide_eq_true (c.factP 1 38 rfl rfl)
  have kiBookbool : PySem.W.subIn K (.ref (He.ga K "Book")) (.type "bool") = some false := of_decide_eq_true (c.factP 1 39 rfl rfl)
  have ccn : PySem.W.specialIn K (.builtin "object.__class__") "__get__" = some (some (.builtin "getset_descriptor.__get__")) := of_decide_eq_true (c.factP 1 40 rfl rfl)
  have cct : PySem.W.takesIn K (.builtin "object.__class__") = some true := of_decide_eq_true (c.factP 1 41 rfl rfl)
  obtain ⟨_, _, _, lE⟩ := Tp.tup0B_ok (c.factP 1 42 rfl rfl)
  have xnd : [(He.ga K "InvalidMeaning"), (He.ga K "InvalidValues"), (He.ga K "UnknownSymbol"), (He.ga K "UnknownSample"), (He.ga K "UnknownTerm"), (He.ga K "NetError"), (He.ga K "MissingError")].Nodup := of_decide_eq_true (c.factP 1 43 rfl rfl)
  have e := hfa.symm.trans g40
  cases e
  obtain ⟨fd0, G0⟩ := c.def_ 0 (d := hd0) rfl
  have F0 : Fun K "__init__" "InvalidMeaning.__init__" scInvalidMeaning_st (He.fAd K ("InvalidMeaning", some "__init__")) fd0 := Tp.fun_of G0
  have b0 := F0.binds (ps := ["self", "value"]) fun _ _ _ _ _ _ us hl => match us, hl with | [_, _], _ => rfl
  have k0 := F0.kp
  obtain ⟨fd1, G1⟩ := c.def_ 1 (d := hd1) rfl
  have F1 : Fun K "__init__" "InvalidValues.__init__" scInvalidValues_st (He.fAd K ("InvalidValues", some "__init__")) fd1 := Tp.fun_of G1
  have b1 := F1.binds (ps := ["self", "value"]) fun _ _ _ _ _ _ us hl => match us, hl with | [_, _], _ => rfl
  have k1 := F1.kp
  obtain ⟨fd2, G2⟩ := c.def_ 2 (d := hd2) rfl
  have F2 : Fun K "__init__" "UnknownSymbol.__init__" scUnknownSymbol_st (He.fAd K ("UnknownSymbol", some "__init__")) fd2 := Tp.fun_of G2
  have b2 := F2.binds (ps := ["self", "name"]) fun _ _ _ _ _ _ us hl => match us, hl with | [_, _], _ => rfl
  have k2 := F2.kp
  obtain ⟨fd3, G3⟩ := c.def_ 3 (d := hd3) rfl
  have F3 : Fun K "__init__" "UnknownSample.__init__" scUnknownSample_st (He.fAd K ("UnknownSample", some "__init__")) fd3 := Tp.fun_of G3
  have b3 := F3.binds (ps := ["self", "name", "index"]) fun _ _ _ _ _ _ us hl => match us, hl with | [_, _, _], _ => rfl
  have k3 := F3.kp
  obtain ⟨fd4, G4⟩ := c.def_ 4 (d := hd4) rfl
  have F4 : Fun K "__init__" "UnknownTerm.__init__" scUnknownTerm_st (He.fAd K ("UnknownTerm", some "__init__")) fd4 := Tp.fun_of G4
  have b4 := F4.binds (ps := ["self", "number"]) fun _ _ _ _ _ _ us hl => match us, hl with | [_, _], _ => rfl
  have k4 := F4.kp
  obtain ⟨fd5, G5⟩ := c.def_ 5 (d := hd5) rfl
  have F5 : Fun K "is_integer" "is_integer" scIsInt_st (He.fAd K ("is_integer", none)) fd5 := Tp.fun_of G5
  have b5 := F5.binds (ps := ["value", "low", "high"]) fun _ _ _ _ _ _ us hl => match us, hl with | [_, _, _], _ => rfl
  have k5 := F5.kp
  obtain ⟨fd6, G6⟩ := c.def_ 6 (d := hd6) rfl
  have F6 : Fun K "is_name" "is_name" scIsName_st (He.fAd K ("is_name", none)) fd6 := Tp.fun_of G6
  have b6 := F6.binds (ps := ["value"]) fun _ _ _ _ _ _ us hl => match us, hl with | [_], _ => rfl
  have k6 := F6.kp
  obtain ⟨fd7, G7⟩ := c.def_ 7 (d := hd7) rfl
  have F7 : Fun K "is_list" "is_list" scIsList_st (He.fAd K ("is_list", none)) fd7 := Tp.fun_of G7
  have b7 := F7.binds (ps := ["value"]) fun _ _ _ _ _ _ us hl => match us, hl with | [_], _ => rfl
  have k7 := F7.kp
  obtain ⟨fd8, G8⟩ := c.def_ 8 (d := hd8) rfl
  have F8 : Fun K "is_pair" "is_pair" scIsPair_st (He.fAd K ("is_pair", none)) fd8 := Tp.fun_of G8
  have b8 := F8.binds (ps := ["value"]) fun _ _ _ _ _ _ us hl => match us, hl with | [_], _ => rfl
  have k8 := F8.kp
  obtain ⟨fd9, G9⟩ := c.def_ 9 (d := hd9) rfl
  have F9 : Fun K "is_turn" "is_turn" scIsTurn_st (He.fAd K ("is_turn", none)) fd9 := Tp.fun_of G9
  have b9 := F9.binds (ps := ["value"]) fun _ _ _ _ _ _ us hl => match us, hl with | [_], _ => rfl
  have k9 := F9.kp
  obtain ⟨fd10, G10⟩ := c.def_ 10 (d := hd10) rfl
  have F10 : Fun K "is_sample_row" "is_sample_row" scIsSample_st (He.fAd K ("is_sample_row", none)) fd10 := Tp.fun_of G10
  have b10 := F10.binds (ps := ["row"]) fun _ _ _ _ _ _ us hl => match us, hl with | [_], _ => rfl
  have k10 := F10.kp
  obtain ⟨fd11, G11⟩ := c.def_ 11 (d := hd11) rfl
  have F11 : Fun K "arguments_of" "arguments_of" scArgsOf_st (He.fAd K ("arguments_of", none)) fd11 := Tp.fun_of G11
  have b11 := F11.binds (ps := ["row"]) fun _ _ _ _ _ _ us hl => match us, hl with | [_], _ => rfl
  have k11 := F11.kp
  obtain ⟨fd12, F12⟩ := c.def_ 12 (d := hd12) rfl
  have k12 := F12.kp
  obtain ⟨fd13, G13⟩ := c.def_ 13 (d := hd13) rfl
  have F13 : Fun K "add_item" "Book.add_item" scAddItem_st (He.fAd K ("Book", some "add_item")) fd13 := Tp.fun_of G13
  have b13 := F13.binds (ps := ["self", "item"]) fun _ _ _ _ _ _ us hl => match us, hl with | [_, _], _ => rfl
  have k13 := F13.kp
  obtain ⟨fd14, G14⟩ := c.def_ 14 (d := hd14) rfl
  have F14 : Fun K "has_number" "Book.has_number" scHasNumber_st (He.fAd K ("Book", some "has_number")) fd14 := Tp.fun_of G14
  have b14 := F14.binds (ps := ["self", "number"]) fun _ _ _ _ _ _ us hl => match us, hl with | [_, _], _ => rfl
  have k14 := F14.kp
  obtain ⟨fd15, G15⟩ := c.def_ 15 (d := hd15) rfl
  have F15 : Fun K "number_of" "Book.number_of" scNumberOf_st (He.fAd K ("Book", some "number_of")) fd15 := Tp.fun_of G15
  have b15 := F15.binds (ps := ["self", "row"]) fun _ _ _ _ _ _ us hl => match us, hl with | [_, _], _ => rfl
  have k15 := F15.kp
  obtain ⟨fd16, G16⟩ := c.def_ 16 (d := hd16) rfl
  have F16 : Fun K "rows" "Book.rows" scRows_st (He.fAd K ("Book", some "rows")) fd16 := Tp.fun_of G16
  have b16 := F16.binds (ps := ["self"]) fun _ _ _ _ _ _ us hl => match us, hl with | [_], _ => rfl
  have k16 := F16.kp
  obtain ⟨fd17, G17⟩ := c.def_ 17 (d := hd17) rfl
  have F17 : Fun K "need_number" "Book.need_number" scNeedNumber_st (He.fAd K ("Book", some "need_number")) fd17 := Tp.fun_of G17
  have b17 := F17.binds (ps := ["self", "number"]) fun _ _ _ _ _ _ us hl => match us, hl with | [_, _], _ => rfl
  have k17 := F17.kp
  obtain ⟨fd18, G18⟩ := c.def_ 18 (d := hd18) rfl
  have F18 : Fun K "parts" "Book.parts" scParts_st (He.fAd K ("Book", some "parts")) fd18 := Tp.fun_of G18
  have b18 := F18.binds (ps := ["self", "number"]) fun _ _ _ _ _ _ us hl => match us, hl with | [_, _], _ => rfl
  have k18 := F18.kp
  obtain ⟨fd19, G19⟩ := c.def_ 19 (d := hd19) rfl
  have F19 : Fun K "size" "Book.size" scSize_st (He.fAd K ("Book", some "size")) fd19 := Tp.fun_of G19
  have b19 := F19.binds (ps := ["self", "number"]) fun _ _ _ _ _ _ us hl => match us, hl with | [_, _], _ => rfl
  have k19 := F19.kp
  obtain ⟨fd20, G20⟩ := c.def_ 20 (d := hd20) rfl
  have F20 : Fun K "depth" "Book.depth" scDepth_st (He.fAd K ("Book", some "depth")) fd20 := Tp.fun_of G20
  have b20 := F20.binds (ps := ["self", "number"]) fun _ _ _ _ _ _ us hl => match us, hl with | [_, _], _ => rfl
  have k20 := F20.kp
  obtain ⟨fd21, F21⟩ := c.def_ 21 (d := hd21) rfl
  have k21 := F21.kp
  obtain ⟨fd22, G22⟩ := c.def_ 22 (d := hd22) rfl
  have F22 : Fun K "are_samples" "are_samples" scAreSmp_st (He.fAd K ("are_samples", none)) fd22 := Tp.fun_of G22
  have b22 := F22.binds (ps := ["value"]) fun _ _ _ _ _ _ us hl => match us, hl with | [_], _ => rfl
  have k22 := F22.kp
  obtain ⟨fd23, G23⟩ := c.def_ 23 (d := hd23) rfl
  have F23 : Fun K "need_known" "need_known" scNeedKnown_st (He.fAd K ("need_known", none)) fd23 := Tp.fun_of G23
  have b23 := F23.binds (ps := ["row", "meaning", "samples"]) fun _ _ _ _ _ _ us hl => match us, hl with | [_, _, _], _ => rfl
  have k23 := F23.kp
  obtain ⟨fd24, G24⟩ := c.def_ 24 (d := hd24) rfl
  have F24 : Fun K "_law_cell" "_law_cell" scCell_st (He.fAd K ("_law_cell", none)) fd24 := Tp.fun_of G24
  have b24 := F24.binds (ps := ["_law_script", "_law_k"]) fun _ _ _ _ _ _ us hl => match us, hl with | [_, _], _ => rfl
  have k24 := F24.kp
  obtain ⟨fd25, G25⟩ := c.def_ 25 (d := hd25) rfl
  have F25 : Fun K "_law_box" "_law_box" scBox_st (He.fAd K ("_law_box", none)) fd25 := Tp.fun_of G25
  have b25 := F25.binds (ps := ["_law_cell_here"]) fun _ _ _ _ _ _ us hl => match us, hl with | [_], _ => rfl
  have k25 := F25.kp
  obtain ⟨fd26, G26⟩ := c.def_ 26 (d := hd26) rfl
  have F26 : Fun K "_law_take" "_law_take" scTake_st (He.fAd K ("_law_take", none)) fd26 := Tp.fun_of G26
  have b26 := F26.binds (ps := ["_law_box_here", "_law_many"]) fun _ _ _ _ _ _ us hl => match us, hl with | [_, _], _ => rfl
  have k26 := F26.kp
  obtain ⟨fd27, G27⟩ := c.def_ 27 (d := hd27) rfl
  have F27 : Fun K "_law_label" "_law_label" scLabel_st (He.fAd K ("_law_label", none)) fd27 := Tp.fun_of G27
  have b27 := F27.binds (ps := ["_law_box_here"]) fun _ _ _ _ _ _ us hl => match us, hl with | [_], _ => rfl
  have k27 := F27.kp
  obtain ⟨fd28, G28⟩ := c.def_ 28 (d := hd28) rfl
  have F28 : Fun K "_law_rows" "_law_rows" scRowsL_st (He.fAd K ("_law_rows", none)) fd28 := Tp.fun_of G28
  have b28 := F28.binds (ps := ["_law_box_here", "_law_most", "_law_given"]) fun _ _ _ _ _ _ us hl => match us, hl with | [_, _, _], _ => rfl
  have k28 := F28.kp
  obtain ⟨fd29, G29⟩ := c.def_ 29 (d := hd29) rfl
  have F29 : Fun K "_law_parts" "_law_parts" scPartsL_st (He.fAd K ("_law_parts", none)) fd29 := Tp.fun_of G29
  have b29 := F29.binds (ps := ["_law_rows_here", "_law_number"]) fun _ _ _ _ _ _ us hl => match us, hl with | [_, _], _ => rfl
  have k29 := F29.kp
  obtain ⟨fd30, G30⟩ := c.def_ 30 (d := hd30) rfl
  have F30 : Fun K "_law_function" "_law_function" scFunc_st (He.fAd K ("_law_function", none)) fd30 := Tp.fun_of G30
  have b30 := F30.binds (ps := ["_law_name", "_law_calls", "_law_salt"]) fun _ _ _ _ _ _ us hl => match us, hl with | [_, _, _], _ => rfl
  have k30 := F30.kp
  obtain ⟨fd31, G31⟩ := c.def_ 31 (d := hd31) rfl
  have F31 : Fun K "_law_meaning" "_law_meaning" scMeaning_st (He.fAd K ("_law_meaning", none)) fd31 := Tp.fun_of G31
  have b31 := F31.binds (ps := ["_law_box_here", "_law_rows_here", "_law_calls"]) fun _ _ _ _ _ _ us hl => match us, hl with | [_, _, _], _ => rfl
  have k31 := F31.kp
  obtain ⟨fd32, G32⟩ := c.def_ 32 (d := hd32) rfl
  have F32 : Fun K "_law_samples" "_law_samples" scSamples_st (He.fAd K ("_law_samples", none)) fd32 := Tp.fun_of G32
  have b32 := F32.binds (ps := ["_law_box_here", "_law_rows_here"]) fun _ _ _ _ _ _ us hl => match us, hl with | [_, _], _ => rfl
  have k32 := F32.kp
  obtain ⟨fd33, G33⟩ := c.def_ 33 (d := hd33) rfl
  have F33 : Fun K "_law_due" "_law_due" scDue_st (He.fAd K ("_law_due", none)) fd33 := Tp.fun_of G33
  have b33 := F33.binds (ps := ["_law_rows_here", "_law_parts_here", "_law_meaning_here", "_law_given"]) fun _ _ _ _ _ _ us hl => match us, hl with | [_, _, _, _], _ => rfl
  have k33 := F33.kp
  obtain ⟨fd34, G34⟩ := c.def_ 34 (d := hd34) rfl
  have F34 : Fun K "_law_walked" "_law_walked" scWalked_st (He.fAd K ("_law_walked", none)) fd34 := Tp.fun_of G34
  have b34 := F34.binds (ps := ["_law_rows_here", "_law_parts_here", "_law_plain", "_law_given"]) fun _ _ _ _ _ _ us hl => match us, hl with | [_, _, _, _], _ => rfl
  have k34 := F34.kp
  obtain ⟨fd35, G35⟩ := c.def_ 35 (d := hd35) rfl
  have F35 : Fun K "_law_told" "_law_told" scTold_st (He.fAd K ("_law_told", none)) fd35 := Tp.fun_of G35
  have b35 := F35.binds (ps := ["_law_book", "_law_number", "_law_meaning_here", "_law_given"]) fun _ _ _ _ _ _ us hl => match us, hl with | [_, _, _, _], _ => rfl
  have k35 := F35.kp
  obtain ⟨fd36, G36⟩ := c.def_ 36 (d := hd36) rfl
  have F36 : Fun K "_law_measured" "_law_measured" scMeasured_st (He.fAd K ("_law_measured", none)) fd36 := Tp.fun_of G36
  have b36 := F36.binds (ps := ["_law_rows_here", "_law_parts_here"]) fun _ _ _ _ _ _ us hl => match us, hl with | [_, _], _ => rfl
  have k36 := F36.kp
  obtain ⟨fd37, G37⟩ := c.def_ 37 (d := hd37) rfl
  have F37 : Fun K "_law_right" "_law_right" scRight_st (He.fAd K ("_law_right", none)) fd37 := Tp.fun_of G37
  have b37 := F37.binds (ps := ["_law_book", "_law_rows_here", "_law_number", "_law_meaning_here", "_law_given", "_law_calls"]) fun _ _ _ _ _ _ us hl => match us, hl with | [_, _, _, _, _, _], _ => rfl
  have k37 := F37.kp
  obtain ⟨fd38, G38⟩ := c.def_ 38 (d := hd38) rfl
  have F38 : Fun K "_law_measure" "_law_measure" scMeasure_st (He.fAd K ("_law_measure", none)) fd38 := Tp.fun_of G38
  have b38 := F38.binds (ps := ["_law_book", "_law_door", "_law_number"]) fun _ _ _ _ _ _ us hl => match us, hl with | [_, _, _], _ => rfl
  have k38 := F38.kp
  obtain ⟨fd39, G39⟩ := c.def_ 39 (d := hd39) rfl
  have F39 : Fun K "_law_refused" "_law_refused" scRefused_st (He.fAd K ("_law_refused", none)) fd39 := Tp.fun_of G39
  have b39 := F39.binds (ps := ["_law_book", "_law_rows_here", "_law_meaning_here", "_law_number"]) fun _ _ _ _ _ _ us hl => match us, hl with | [_, _, _, _], _ => rfl
  have k39 := F39.kp
  obtain ⟨fd40, G40⟩ := c.def_ 40 (d := hd40) rfl
  have F40 : Fun K "law" "law" scLaw_st (He.fAd K ("law", none)) fd40 := Tp.fun_of G40
  have b40 := F40.binds (ps := ["_law_script"]) fun _ _ _ _ _ _ us hl => match us, hl with | [_], _ => rfl
  have k40 := F40.kp
  have T : Txt K mg (adK K) ⟨fd0, fd1, fd2, fd3, fd4, fd5, fd6, fd7, fd8, fd9, fd10, fd11, fd12, fd13, fd14, fd15, fd16, fd17, fd18, fd19, fd20, fd21, fd22, fd23, fd24, fd25, fd26, fd27, fd28, fd29, fd30, fd31, fd32, fd33, fd34, fd35, fd36, fd37, fd38, fd39, fd40⟩ := ⟨F0, b0, F1, b1, F2, b2, F3, b3, F4, b4, F5, b5, g5, F6, b6, g6, F7, b7, g7, F8, b8, g8, F9, b9, g9, F10, b10, g10, F11, b11, g11, F12, F13, b13, F14, b14, F15, b15, F16, b16, F17, b17, F18, b18, F19, b19, F20, b20, F21, F22, b22, g22, F23, b23, g23, F24, b24, g24, F25, b25, g25, F26, b26, g26, F27, b27, g27, F28, b28, g28, F29, b29, g29, F30, b30, g30, F31, b31, g31, F32, b32, g32, F33, b33, g33, F34, b34, g34, F35, b35, g35, F36, b36, g36, F37, b37, g37, F38, b38, g38, F39, b39, g39, F40, b40, g40, m_LETTERS, m_DIGITS, m_LONGEST_NAME, m_MOST_ARGUMENTS, z_len, z_max, z_min, z_isinstance, z_str, z_int, z_all, z_range, z_repr, z_list, z_tuple, z_bool, z_sum, z_sorted, z_dict, z_set, z_enumerate, aCNetError, cxNetError, ⟨bgNetError, brNetError, bfNetError⟩, aCMissingError, cxMissingError, ⟨bgMissingError, brMissingError, bfMissingError⟩, aCInvalidMeaning, cxInvalidMeaning, xiInvalidMeaning, aCInvalidValues, cxInvalidValues, xiInvalidValues, aCUnknownSymbol, cxUnknownSymbol, xiUnknownSymbol, aCUnknownSample, cxUnknownSample, xiUnknownSample, aCUnknownTerm, cxUnknownTerm, xiUnknownTerm, aCBook, ⟨pgBook, hdBook, poBook, saBook⟩, ⟨mkBook, a12, fn12, kcBook⟩, caBook, cmBook, hdBook, tyBook, nBookheld, nBooknumbers, (Tp.kit_own kiBookstr (by decide +kernel)), (Tp.kit_own kiBookint (by decide +kernel)), (Tp.kit_own kiBooklist (by decide +kernel)), (Tp.kit_own kiBooktuple (by decide +kernel)), (Tp.kit_own kiBookdict (by decide +kernel)), (Tp.kit_own kiBookbool (by decide +kernel)), ⟨a13, fn13, k13⟩, ⟨a14, fn14, k14⟩, ⟨a17, fn17, k17⟩, ⟨a15, fn15, k15⟩, ⟨a16, fn16, k16⟩, ⟨a18, fn18, k18⟩, ⟨a19, fn19, k19⟩, ⟨a20, fn20, k20⟩, ⟨a21, fn21, k21⟩, ccn, cct, ⟨_, _, lE, rfl, rfl⟩, xnd, (Tp.code_of (p := ("_law_function", none)) G30)⟩
  have bl := FunD.bindsA (ps := ["_law_script"]) G40 fun _ _ _ _ _ _ us hl => match us, hl with | [_], _ => rfl
  exact ⟨fd40, fun s v => bl s [v] rfl, fun base _ _ hT => ok_law T (hT _ (List.mem_map.mpr ⟨("_law_function", none), by simp [htf], rfl⟩))⟩
theorem hrun (w : World) : HandSHeadRun.RunEq HR hq hk hob 20000 hln w := fun os => Tp.run_joinT (hr_looks w os) (hr_seen w os) ⟨hr_e0 w os, hr_e1 w os, trivial⟩ (hr_ok w os) (hr_v w os) (hr_t w os)
end L05
open PySem PySem.W PySem.Calls PyProof.Rows in
set_option maxRecDepth 100000 in
set_option maxHeartbeats 0 in
theorem PySem.Challenge.cw_toldpast_k05_values_of_terms_holds : PySem.Challenge.rw_toldpast_k05_values_of_terms.Holds := by
  w_on; o_law
  refine HandSHeadRun.head_any (r := OpenLaw.row PySem.Challenge.rw_toldpast_k05_values_of_terms) (q := L05.hq) (H := L05.hk) (ob := L05.hob) (M := 20000) (loose := L05.hln) (d := HandSHeadRun.topDef (OpenLaw.row PySem.Challenge.rw_toldpast_k05_values_of_terms).prog 54) (kwd := []) L05.hob_eq
    (by kernel_rfl) (fun s => by kernel_rfl) L05.hrun (by kernel_rfl) (by kernel_rfl) (by kernel_rfl) (by rfl) (by first | assumption | decide +kernel) (by decide +kernel) ⟨rfl, rfl, rfl, rfl, rfl, by decide +kernel⟩ ?hw ?hc
  case hw => w_witness2
  case hc =>
    refine Tp.walkST (l := PySem.Challenge.rw_toldpast_k05_values_of_terms) (n := 63) (k := 30) (x := "_law_script") (sp := fun K => L05.spLaw K (L05.adK K)) (tf := fun K => L05.htf.map (He.cT K)) rfl (by decide) (by kernel_rfl) (by decide +kernel) ⟨rfl, by decide, by decide⟩ ?F (fun K H a ns hl hs hT hS => ⟨a, ns, rfl, hs, hS, hl, L05.tabs_mk hT, fun _ => rfl⟩)
    intro w mg fa h Y G hmg0
    obtain ⟨K, KX, c⟩ := Y
    have hmg : mg ("law" : PySem.Str) = some (.ref fa) := by
      have e : (HandSHeadRun.topDef (OpenLaw.row PySem.Challenge.rw_toldpast_k05_values_of_terms).prog 54).name = ("law" : PySem.Str) := by kernel_rfl
      rw [← e]
      exact hmg0
    obtain ⟨fd, hb, hF⟩ := L05.all_mk (l := PySem.Challenge.rw_toldpast_k05_values_of_terms) (w := w) KX G hmg c.b
    have key : ∀ p ∈ L05.htf.map (He.cT K), ∃ q ∈ L05.htf, He.cT K q = p := fun p hp => List.mem_map.mp hp
    exact ⟨K, fd, KX, fun p hp => (key p hp).elim fun q e => e.2 ▸ c.empty q e.1, fun p hp => (key p hp).elim fun q e => e.2 ▸ c.out q e.1, fun p hp => (key p hp).elim fun q e => e.2 ▸ c.hd q e.1, hb, hF⟩
