import PyProof.Rows.All
import Wide.All
import OpenK.AllK
import Wide.FinOn
import HandS.ForMost
import HandS.Evl
import HandS.Defaults
import HandS.IsInst
import HandS.StrMore
import KE.IntTextText
import HandS.Walk
import PyProof.ReprLen
import HandS.ForExc
import HandS.ExcInit
import HandS.ExcField
import HandS.TryMany
import HandS.ExcIs
import HandS.SlotsOwn
import HandS.ExcOwn
import PyProof.InstEq
import HandS.Spec
import HandS.DictComp
import HandS.DeepEq
import HandS.Iter
import HandS.More
import HandS.ListItems
import HandS.Zip
import KE.GoesEnum
import KE.GoesMore
import HandS.Star
import HandS.NoneIn
import HandS.Style
import HandS.Comp
import HandS.Head0
import HandS.Head1
import HandS.Head2
import HandS.HeadHook1
import HandS.HeadHook2
import HandS.EndTab
import HandS.HeadHook4
import HandS.Nested
import PyProof.DictMoreH
import PyProof.MeetsDict
import KE.KDictKeyed
import HandS.SortInts
import HandS.TupMul
import HandS.CallLocal
import KE.KExcInit
import KE.KExcMake
import PyProof.ExcBaseAll.LookupError
import HandS.Wide
import HandS.Deep
import PyProof.EqKinds
import HandS.SortKw
import PyProof.MinMaxWalk
import KE.DataAny
import HandS.Flow
import HandS.Text
import PyProof.ReprText
import PyProof.P3Eq
import HandS.AnyAll
import PySem.Challenge.RW_toldpast_k58_meanings_of_tables
set_option Elab.async false
set_option linter.all false
set_option maxRecDepth 100000
set_option maxHeartbeats 4000000
namespace Tp
open PySem PySem.Spec PyProof.Rows L2
structure FnG (P : Program) (w : World) (K : PySem.W.Frag) (mg : Str → Option Value) (base : Heap)
    (CX : CXT) (k : Nat) (f : Addr) (fd : FuncData) (ps : List Str) (sp : Sp) : Prop where
  ar : ∀ vs H Q E, sp vs H Q E → vs.length = ps.length
  go : ∀ (A : Around) (outer : List Env) (s : Shared) (H : Hp) (args : Args) (us : List Value) (vs : List V) (Q : VK) (E : XK),
    Room k A → A.guards = some [] → Env0 P w K mg base A outer s H → BindsTo s fd args (ps.zip us) → Vals vs us → sp vs H Q E →
      codeAny (model P w) A (.call (.ref f) args) (CR CX outer P w H s Q E) s
section
variable {P : Program} {w : World} {K : PySem.W.Frag} {mg : Str → Option Value} {base : Heap} {CX : CXT} {k : Nat} {f : Addr} {fd : FuncData} {ps : List Str} {sp : Sp}
theorem FnG.up {j : Nat} (F : FnG P w K mg base CX j f fd ps sp) (h : j ≤ k) : FnG P w K mg base CX k f fd ps sp :=
  ⟨F.ar, fun A o s H args us vs Q E hr => F.go A o s H args us vs Q E (hr.mono h)⟩
theorem FnG.of (F : FnOk P w K mg base CX k f fd ps sp) : FnG P w K mg base CX k f fd ps sp :=
  ⟨F.len, fun A o s H args us vs Q E hr _ => F.run A o s H args us vs Q E hr⟩
theorem fnG_of {name qual : Str} {params : Arguments} {body : List Stmt} {scope : Scope} {dV kV doc pm cdv ct oc : Value} {an od : Option Addr}
    {osl : Array (Option Value)} {N : List Str}
    (there : K.lookup f = some ⟨oc, od, .func (PySem.W.fnOf name qual params body scope dV kV doc pm an cdv ct), osl⟩)
    (code : PySem.W.codeIn K cdv qual = true) (S : FnScope N ps scope) (ar : ∀ vs H Q E, sp vs H Q E → vs.length = ps.length)
    (bd : ∀ (A : Around) (outer : List Env) (s : Shared) (H : Hp) (vs : List V) (Q : VK) (E : XK),
      Room k (A.deeper (envOfC qual scope s.heap.objs.size f cdv)) → A.guards = some [] → sp vs H Q E →
      ∃ t, PSs (cxOf CX P w K mg base N qual scope f cdv A outer s H E) body t ∧ t { nx := fun _ H' => Q .non H', rt := Q } (start N vs) H) :
    FnG P w K mg base CX (k + 1) f (PySem.W.fnOf name qual params body scope dV kV doc pm an cdv ct) ps sp := by
  refine ⟨ar, fun A outer s H args us vs Q E hr hg e0 hb r hsp => ?_⟩
  have keep : ∀ b o, base.get? b = some o → s.heap.get? b = some o := fun b o e => (e0.bs b o e).1
  have inK : K.In s.heap := e0.mod.kin.keeps keep
  have room : s.heap.NoLimit := e0.mod.nolimit.keeps keep
  have kinds : ∀ y ∈ ps.zip us, scope.names.lookup y.1 = some .local ∨
      (scope.names.lookup y.1 = some .cell ∧ ((cellsFrom (s.heap.objs.size + 1) scope.names []).lookup y.1).isSome = true) := by
    rintro ⟨n, v⟩ hy
    exact (S.par n (List.of_mem_zip hy).1).imp id fun q => ⟨q, PySem.W.cellsFrom_some _ _ _ (.inl q)⟩
  refine codeAny_call_function hr.depth (inK _ _ there) rfl S.co S.gen rfl (PySem.W.codeRec_of inK code) (hb _ _ _ _ ?_)
  refine wpAny_newFunctionEnv_cells S.kind kinds fun env eqE s1 x => ?_
  subst eqE
  refine ⟨room.keeps x.toInCall.keep, codeAny_func ?_⟩
  obtain ⟨t, ht, hq⟩ := bd A outer s H vs Q E (hr.deeper _) hg hsp
  have J0 : Inv (cxOf CX P w K mg base N qual scope f cdv A outer s H E) [] (start N vs) H s1 := inv_start S hr.hd e0 (ar _ _ _ _ hsp) r x
  refine wpAny_mono (ht.run [] s1 (start N vs) H _ J0 hq) (fun fl s' hs => ?_) fun _ _ hs => hs
  cases fl with
  | ret u => obtain ⟨v, σ', H', J, rv, q⟩ := hs; exact ⟨v, H', J.os, J.bare, J.base, J.hok, rv, q⟩
  | next => obtain ⟨σ', H', J, q⟩ := hs; exact ⟨V.non, H', J.os, J.bare, J.base, J.hok, rfl, q⟩
  | brk => obtain ⟨_, _, _, q⟩ := hs; exact q.elim
  | cont => obtain ⟨_, _, _, q⟩ := hs; exact q.elim
theorem okG {x qual : Str} {st : Stmt} {N : List Str} (F : Fun K x qual st f fd) (S : FnScope N ps (defScope st)) (ar : ∀ vs H Q E, sp vs H Q E → vs.length = ps.length)
    (bd : ∀ (cdv : Value) (A : Around) (outer : List Env) (s : Shared) (H : Hp) (vs : List V) (Q : VK) (E : XK),
      Room k (A.deeper (envOfC qual (defScope st) s.heap.objs.size f cdv)) → A.guards = some [] → sp vs H Q E →
      ∃ t, PSs (cxOf CX0 P w K mg base N qual (defScope st) f cdv A outer s H E).nox (defBody st) t ∧ t { nx := fun _ H' => Q .non H', rt := Q } (start N vs) H) :
    FnG P w K mg base CX0 (k + 1) f fd ps sp := by
  obtain ⟨oc, od, kV, doc, pm, an, cdv, ct, osl, rfl, lk, hcd⟩ := F.ex
  refine fnG_of lk hcd S ar fun A outer s H vs Q E hr hg hsp => ?_
  obtain ⟨t, h, q⟩ := bd cdv A outer s H vs Q E hr hg hsp
  exact ⟨t, h.nox, q⟩
end
section
variable {X : Cx} {CX : CXT} {k n : Nat} {f C : Addr} {fd : FuncData} {ps ks : List Str} {sp : Sp} {dvs : List V} {ds : List Value} {E : XK} {x m : Str} {p pos apos : Pos} {e o : Expr} {es : List Expr} {ta : TE} {t tk : TA} {kws : List Keyword}
  {g : List Value → List Value → List Value} {gV : List V → List V → List V}
theorem runG {pins : List (Addr × Obj)} {σ : L2.St} {H : Hp} {s : Shared} {Q : VK} {args : Args} {us : List Value} {vs : List V}
    (F : FnG X.prog X.w X.K X.mg X.base CX k f fd ps sp) (hr : Room k X.A) (hg : X.A.guards = some []) (hx : Passes CX X E) (I : Inv X pins σ H s)
    (hb : BindsTo s fd args (ps.zip us)) (r : Vals vs us) (h : sp vs H Q E) :
    wpAny (model X.prog X.w) X.A (call (.ref f) args.pos args.kw) (EP X pins σ Q) X.xe s := by
  obtain ⟨ap, ak⟩ := args
  refine wpAny_call (codeAny_mono (F.go X.A X.stack s H ⟨ap, ak⟩ us vs Q E hr hg I.env0 hb r h) fun r s' hq => ?_)
  cases r with
  | error e => exact hx pins σ H s e s' I hq
  | ok fl =>
    cases fl with
    | ret u => exact I.after hq
    | _ => exact hq.elim
theorem runG1 {pins : List (Addr × Obj)} {σ : L2.St} {H : Hp} {s : Shared} {Q : VK} {us : List Value} {vs : List V}
    (F : FnG X.prog X.w X.K X.mg X.base CX k f fd ps sp) (hr : Room k X.A) (hg : X.A.guards = some []) (hb : Binds X.K fd ps ds) (hd : Vals dvs ds) (hx : Passes CX X E)
    (I : Inv X pins σ H s) (r : Vals vs us) (h : sp (vs ++ dvs) H Q E) : wpAny (model X.prog X.w) X.A (call (.ref f) us) (EP X pins σ Q) X.xe s := by
  have r2 := r.append hd
  exact runG (args := ⟨us, []⟩) F hr hg hx I (hb s us I.kIn (r2.length.symm.trans (F.ar _ _ _ _ h))) r2 h
theorem pe_callG (F : FnG X.prog X.w X.K X.mg X.base CX k f fd ps sp) (hr : Room k X.A) (hgu : X.A.guards = some []) (hg : Gl X x) (hm : X.mg x = some (.ref f)) (hk : PySem.W.keepIn X.K (.ref f) = true)
    (hb : Binds X.K fd ps ds) (hd : Vals dvs ds) (hx : Passes CX X E) (ha : PA X (e :: es) t) (hdb : (x == ("__debug__" : Str)) = false := by decide)
    (he : starEach (e :: es) X.env = (false, eval e X.env) :: starEach es X.env := by rfl) (hpl : (backTo pos (starEach es X.env)).any (·.1) = false := by rfl) :
    PE X (.Call (.Name x p) (e :: es) [] pos) (tCall sp dvs E t) :=
  ⟨fun pins s σ H Q I h => wpAny_Call_Name_kw (ld_glob I hg hm (PySem.W.callWith_K (h₀ := X.base) I.ok.mod.kin hk
    (thn (ha.run pos pins s σ H _ I h) fun us s1 ⟨vs, H1, I1, r, q⟩ => ⟨I1.kIn, runG1 F hr hgu hb hd hx I1 r q⟩) he hpl) hdb)⟩
end
section
variable {X : Cx}
end
section
variable {P : Program} {w : World} {K : PySem.W.Frag} {mg mb : Str → Option Value} {CX : CXT} {k : Nat} {fa a : Addr} {fd : FuncData} {x : Str} {sp : Sp} {s1 : Shared} {vs : List Value} {ns : List Int}
def LawEnd (s1 : Shared) (r : Result) (s' : Shared) : Prop := r = .ok (.ret (.bool true)) ∧ OldK s1.heap s'.heap ∧ s'.os = s1.os ∧ AllBare s'.gens
end
end Tp
set_option Elab.async false
set_option linter.all false
set_option maxRecDepth 100000
set_option maxHeartbeats 4000000
namespace Tp
open PySem PySem.Spec PyProof.Rows L2
section
variable {X : Cx} {CX : CXT} {k : Nat} {f : Addr} {fd : FuncData} {ps ks : List Str} {sp : Sp} {E : XK} {x : Str} {p pos : Pos} {tk : TA} {kw : Keyword} {kws : List Keyword}
  {g : List Value → List Value → List Value} {gV : List V → List V → List V}
end
section
variable {K : PySem.W.Frag} {x qual : Str} {st : Stmt} {kws : List (Str × V)} {f : Addr} {fd : FuncData} {ps : List Str}
end
section
variable {X : Cx}
end
theorem bt_len : bootBuiltins "len" = some (.builtin "len") := by decide +kernel
theorem bt_max : bootBuiltins "max" = some (.builtin "max") := by decide +kernel
theorem bt_min : bootBuiltins "min" = some (.builtin "min") := by decide +kernel
theorem bt_isinstance : bootBuiltins "isinstance" = some (.builtin "isinstance") := by decide +kernel
theorem bt_all : bootBuiltins "all" = some (.builtin "all") := by decide +kernel
theorem bt_repr : bootBuiltins "repr" = some (.builtin "repr") := by decide +kernel
theorem bt_sorted : bootBuiltins "sorted" = some (.builtin "sorted") := by decide +kernel
theorem bt_str : bootBuiltins "str" = some (.type "str") := by decide +kernel
theorem bt_int : bootBuiltins "int" = some (.type "int") := by decide +kernel
theorem bt_list : bootBuiltins "list" = some (.type "list") := by decide +kernel
theorem bt_tuple : bootBuiltins "tuple" = some (.type "tuple") := by decide +kernel
theorem bt_dict : bootBuiltins "dict" = some (.type "dict") := by decide +kernel
theorem bt_bool : bootBuiltins "bool" = some (.type "bool") := by decide +kernel
theorem pe_glS {X : Cx} {x z : Str} {pos : Pos} (hg : Gl X x) (hm : ∃ t, X.mg x = some (.str z t)) (hd : (x == ("__debug__" : Str)) = false := by decide) : PE X (.Name x pos) (tC (.str z)) :=
  let ⟨_, h⟩ := hm
  pe_glob hg h ⟨_, rfl⟩ hd
theorem pe_glI {X : Cx} {x : Str} {i : Int} {pos : Pos} (hg : Gl X x) (hm : ∃ t, X.mg x = some (.int i t)) (hd : (x == ("__debug__" : Str)) = false := by decide) : PE X (.Name x pos) (tC (.int i)) :=
  let ⟨_, h⟩ := hm
  pe_glob hg h ⟨_, rfl⟩ hd
def Kp (b : Addr) (H H' : Hp) : Prop := ∀ a o, a ≠ b → H a = some o → H' a = some o
theorem Kp.refl (b : Addr) (H : Hp) : Kp b H H := fun _ _ _ h => h
theorem Kp.trans {b : Addr} {H H1 H2 : Hp} (p : Kp b H H1) (q : Kp b H1 H2) : Kp b H H2 := fun a o n h => q a o n (p a o n h)
theorem Kp.same {b : Addr} {H H1 H2 : Hp} (p : Kp b H H1) (q : Same H1 H2) : Kp b H H2 := fun a o n h => q a o (p a o n h)
theorem Kp.box {b : Addr} {H : Hp} {o : HO} : Kp b H (upd H b o) := fun a u n h => by rw [upd_ne n]; exact h
theorem same_new {H : Hp} {p : Addr} {o : HO} (h : H p = none) : Same H (upd H p o) := fun a u e => by rw [upd_ne (ne_of_none e h)]; exact e
theorem Kp.new {b p : Addr} {H : Hp} {o : HO} (h : H p = none) : Kp b H (upd H p o) := fun a u _ e => same_new h a u e
def BoxAt (b : Addr) (n : Nat) (H : Hp) : Prop := ∃ x y z : Int, H b = some (.lst [.int x, .int y, .int z]) ∧ 0 ≤ x ∧ 0 ≤ y ∧ y < 2147483629 ∧ 0 ≤ z ∧ z ≤ n
theorem BoxAt.same {b : Addr} {n : Nat} {H H' : Hp} (h : BoxAt b n H) (q : Same H H') : BoxAt b n H' := let ⟨x, y, z, h1, r⟩ := h; ⟨x, y, z, q _ _ h1, r⟩
theorem BoxAt.up {b : Addr} {n m : Nat} {H : Hp} (h : BoxAt b n H) (q : n ≤ m) : BoxAt b m H := by
  obtain ⟨x, y, z, h1, h2, h3, h4, h5, h6⟩ := h
  exact ⟨x, y, z, h1, h2, h3, h4, h5, by omega⟩
theorem BoxAt.ne {b p : Addr} {n : Nat} {H : Hp} (h : BoxAt b n H) (q : H p = none) : p ≠ b := by
  obtain ⟨x, y, z, h1, _⟩ := h
  exact (ne_of_none h1 q).symm
def spCell (K : PySem.W.Frag) : Sp := fun vs H Q _ => ∃ (s : Addr) (ns : List Int) (k : Int), vs = [.ref s, .int k] ∧ SqL K H s (ns.map V.int) ∧ 0 ≤ k ∧ k < 1000 ∧ ∀ n : Int, Q (.int n) H
def spBox : Sp := fun vs H Q _ => ∃ c : Int, vs = [.int c] ∧ ∀ p x y, H p = none → 0 ≤ x → 0 ≤ y → y < 2147483629 → Q (.ref p) (upd H p (.lst [.int x, .int y, .int 0]))
theorem mixA {y c z e : Int} (y0 : 0 ≤ y) (y1 : y < 2147483629) (z0 : 0 ≤ z) (z1 : z ≤ 1000000) (c0 : 0 ≤ c ∧ c ≤ 1000000000) (e0 : 0 ≤ e ∧ e ≤ 1000000) : (y + c * (z + 1) + e).natAbs < 2 ^ 64 := by
  have h1 : 0 ≤ c * (z + 1) := Int.mul_nonneg c0.1 (by omega)
  have h2 : c * (z + 1) ≤ 1000000000 * 1000001 := Int.mul_le_mul c0.2 (by omega) (by omega) (by omega)
  omega
theorem mixB {i c z : Int} (z0 : 0 ≤ z) (z1 : z ≤ 1000000) (c0 : 0 ≤ c ∧ c ≤ 1000000000) : (i.fmod 2147483647 + c * (z + 1)).natAbs < 2 ^ 64 := by
  have h1 : 0 ≤ c * (z + 1) := Int.mul_nonneg c0.1 (by omega)
  have h2 : c * (z + 1) ≤ 1000000000 * 1000001 := Int.mul_le_mul c0.2 (by omega) (by omega) (by omega)
  rw [Int.fmod_eq_emod_of_nonneg _ (by decide)]
  have h3 := Int.emod_nonneg i (show (2147483647 : Int) ≠ 0 by decide)
  have h4 := Int.emod_lt_of_pos i (show (0 : Int) < 2147483647 by decide)
  omega
section
variable {p : Prop} [Decidable p] {A B : Prop}
theorem ifY (h : p) (x : A) : if decide p = true then A else B := by rw [decide_eq_true h]; exact iteT x
theorem ifN (h : ¬ p) (x : B) : if decide p = true then A else B := by rw [decide_eq_false h]; exact iteF x
theorem ifnY (h : p) (x : B) : if (!decide p) = true then A else B := by rw [decide_eq_true h]; exact iteF x
theorem ifnN (h : ¬ p) (x : A) : if (!decide p) = true then A else B := by rw [decide_eq_false h]; exact iteT x
theorem if2 (h1 : p → A) (h2 : ¬ p → B) : if decide p = true then A else B := by
  by_cases h : p
  · exact ifY h (h1 h)
  · exact ifN h (h2 h)
theorem ifn2 (h1 : p → B) (h2 : ¬ p → A) : if (!decide p) = true then A else B := by
  by_cases h : p
  · exact ifnY h (h1 h)
  · exact ifnN h (h2 h)
end
theorem Kp.mut {b p : Addr} {H H' : Hp} {o : HO} (k : Kp b H H') (h : H p = none) : Kp b H (upd H' p o) := fun a u n e => by
  rw [upd_ne (ne_of_none e h)]
  exact k a u n e
theorem Same.mut {p : Addr} {H H' : Hp} {o : HO} (k : Same H H') (h : H p = none) : Same H (upd H' p o) := fun a u e => by
  rw [upd_ne (ne_of_none e h)]
  exact k a u e
theorem BoxAt.off {b p : Addr} {n : Nat} {H : Hp} {o : HO} (h : BoxAt b n H) (ne : p ≠ b) : BoxAt b n (upd H p o) := by
  obtain ⟨x, y, z, h1, r⟩ := h
  exact ⟨x, y, z, by rw [upd_ne ne.symm]; exact h1, r⟩
end Tp
set_option Elab.async false
set_option linter.all false
set_option maxRecDepth 100000
set_option maxHeartbeats 4000000
namespace Tp
open PySem L2 PySem.NumText
theorem len_list (z : Str) : z.cps.toList.length = z.length := Array.length_toList
theorem str_ext {a b : Str} (h : a.cps.toList = b.cps.toList) : a = b := by
  obtain ⟨x⟩ := a
  obtain ⟨y⟩ := b
  have : x = y := Array.toList_inj.mp h
  rw [this]
theorem strip_empty (x y : Str) : Txt.stripChars x y = Str.empty ↔ ∀ c ∈ x.cps.toList, c ∈ y.cps.toList := by
  have cont : ∀ c, y.cps.contains c = true ↔ c ∈ y.cps.toList := by
    intro c
    rw [Array.contains_iff_mem, Array.mem_toList_iff]
  have tw : ∀ (p : Nat → Bool) (l : List Nat), (l.takeWhile p).length = l.length ↔ ∀ c ∈ l, p c = true := by
    intro p l
    induction l with
    | nil => simp
    | cons c l ih =>
      rw [List.takeWhile_cons]
      by_cases hc : p c = true
      · rw [if_pos hc, List.length_cons, List.length_cons]
        constructor
        · intro h d hd
          rcases List.mem_cons.mp hd with rfl | hd
          · exact hc
          · exact ih.mp (by omega) d hd
        · intro h
          have := ih.mpr fun d hd => h d (List.mem_cons_of_mem _ hd)
          omega
      · rw [if_neg hc]
        constructor
        · intro h
          simp at h
        · intro h
          exact absurd (h c (List.mem_cons_self ..)) hc
  unfold Txt.stripChars Txt.stripBy
  constructor
  · intro h
    by_cases hs : stripSame y.cps.contains true true x = true
    · rw [if_pos hs] at h
      subst h
      intro c hc
      cases hc
    · rw [if_neg hs] at h
      have hz := congrArg (fun s : Str => s.cps.size) h
      have hz : (x.cps.extract (stripLo y.cps.contains true x) (stripHi y.cps.contains true x (stripLo y.cps.contains true x))).size = 0 := hz
      rw [Array.size_extract] at hz
      have l1 : stripLo y.cps.contains true x = (x.cps.toList.takeWhile y.cps.contains).length := if_pos rfl
      have l2 : stripHi y.cps.contains true x (stripLo y.cps.contains true x) = x.length - ((x.cps.toList.drop (stripLo y.cps.contains true x)).reverse.takeWhile y.cps.contains).length := if_pos rfl
      have xl : x.length = x.cps.size := rfl
      rw [l2] at hz
      have le := (List.takeWhile_prefix y.cps.contains (l := (x.cps.toList.drop (stripLo y.cps.contains true x)).reverse)).length_le
      rw [List.length_reverse, List.length_drop, len_list] at le
      have lo_le : stripLo y.cps.contains true x ≤ x.length := by
        rw [l1, ← len_list]
        exact (List.takeWhile_prefix _).length_le
      have all : ∀ c ∈ (x.cps.toList.drop (stripLo y.cps.contains true x)).reverse, y.cps.contains c = true := by
        refine (tw _ _).mp ?_
        rw [List.length_reverse, List.length_drop, len_list]
        omega
      intro c hc
      rw [← cont]
      rw [← List.take_append_drop (stripLo y.cps.contains true x) x.cps.toList] at hc
      rcases List.mem_append.mp hc with hc | hc
      · rw [l1] at hc
        have e : x.cps.toList.take (x.cps.toList.takeWhile y.cps.contains).length = x.cps.toList.takeWhile y.cps.contains :=
          List.prefix_iff_eq_take.mp (List.takeWhile_prefix _) |>.symm
        rw [e] at hc
        exact List.all_eq_true.mp (List.all_takeWhile) c hc
      · exact all c (List.mem_reverse.mpr hc)
  · intro h
    have lo : stripLo y.cps.contains true x = x.length := by
      have e : stripLo y.cps.contains true x = (x.cps.toList.takeWhile y.cps.contains).length := if_pos rfl
      rw [e, ← len_list]
      exact (tw _ _).mpr fun c hc => (cont c).mpr (h c hc)
    by_cases hs : stripSame y.cps.contains true true x = true
    · rw [if_pos hs]
      have := (Bool.and_eq_true _ _ ▸ hs : (stripLo y.cps.contains true x == 0) = true ∧ _).1
      rw [lo] at this
      have z0 : x.cps.size = 0 := beq_iff_eq.mp this
      exact str_ext (by rw [Array.eq_empty_of_size_eq_zero z0]; rfl)
    · rw [if_neg hs]
      refine str_ext ?_
      have z0 : (stripped y.cps.contains true true x).cps.size = 0 := by
        show (x.cps.extract (stripLo y.cps.contains true x) _).size = 0
        rw [Array.size_extract, lo]
        have xl : x.length = x.cps.size := rfl
        omega
      rw [Array.eq_empty_of_size_eq_zero z0]
      rfl
theorem at_some {α : Type} {xs : List α} {P : α → Prop} {r : Int} (h : ∀ x ∈ xs, P x) (r0 : 0 ≤ r) (r1 : r < xs.length) : ∃ v, atI xs r = some v ∧ P v := by
  obtain ⟨j, rfl⟩ := Int.eq_ofNat_of_zero_le r0
  have hj : j < xs.length := by omega
  exact ⟨xs[j], atI_nat (List.getElem?_eq_getElem hj), h _ (List.getElem_mem hj)⟩
theorem join_len {ys : List Str} {a : Str} {m : Nat} (h : ∀ y ∈ ys, y.length ≤ m) : (Txt.join a ys).length ≤ ys.length * (m + a.length) := by
  have e : Txt.join a ys = Str.join a ys := StrLaws.glued_eq_join a ys
  rw [e]
  refine Nat.le_trans (StrLaws.join_length_le a ys) ?_
  have : (ys.map (·.length)).sum ≤ ys.length * m := by
    induction ys with
    | nil => simp
    | cons y ys ih =>
      have h1 := h y (List.mem_cons_self ..)
      have h2 := ih (fun z hz => h z (List.mem_cons_of_mem _ hz)) (StrLaws.glued_eq_join a ys)
      simp only [List.map_cons, List.sum_cons, List.length_cons, Nat.succ_mul]
      omega
  rw [Nat.mul_add]
  omega
theorem sum_len {ys : List Str} {m : Nat} (h : ∀ y ∈ ys, y.length ≤ m) : (ys.map (·.length)).sum ≤ ys.length * m := by
  induction ys with
  | nil => simp
  | cons y ys ih =>
    have h1 := h y (List.mem_cons_self ..)
    have h2 := ih (fun z hz => h z (List.mem_cons_of_mem _ hz))
    simp only [List.map_cons, List.sum_cons, List.length_cons, Nat.succ_mul]
    omega
end Tp
set_option Elab.async false
set_option linter.all false
set_option maxRecDepth 100000
set_option maxHeartbeats 4000000
namespace Tp
open PySem L2
mutual
def wt : PyData → Nat
  | .none => 4
  | .bool _ => 5
  | .int _ => 50
  | .str z => 10 * z.length + 2
  | .list xs => wtAll xs + 3
  | .tuple xs => wtAll xs + 3
  | .dict _ => 0
def wtAll : List PyData → Nat
  | [] => 0
  | x :: xs => wt x + 2 + wtAll xs
end
inductive Fit : Nat → PyData → Prop
  | non {n : Nat} : Fit n .none
  | bl {n : Nat} (b : Bool) : Fit n (.bool b)
  | int {n : Nat} {i : Int} (h : i.natAbs < 10 ^ 40) : Fit n (.int i)
  | str {n : Nat} {z : Str} (h : ∀ c ∈ z.cps.toList, c < 16 ^ 8) : Fit n (.str z)
  | lst {n : Nat} {xs : List PyData} (h : ∀ x ∈ xs, Fit n x) : Fit (n + 1) (.list xs)
  | tup {n : Nat} {xs : List PyData} (h : ∀ x ∈ xs, Fit n x) : Fit (n + 1) (.tuple xs)
theorem shown_int_len {i : Int} (h : i.natAbs < 10 ^ 40) : (Str.ofString (toString i)).length ≤ 50 := by
  have key : ∀ m : Nat, m < 10 ^ 40 → (Nat.repr m).length ≤ 40 := fun m hm => by
    show (Nat.repr m).toList.length ≤ 40
    rw [Nat.toList_repr]
    exact PyProof.Rows.digits10_le (by decide) hm
  rw [PyProof.Rows.ofString_len]
  cases i with
  | ofNat m => exact Nat.le_trans (key m h) (by decide)
  | negSucc m =>
    have := key (m + 1) h
    show ("-" ++ Nat.repr (m + 1)).length ≤ 50
    rw [String.length_append]
    have : ("-" : String).length = 1 := by decide
    omega
theorem fit_all {n : Nat} (ih : ∀ d, Fit n d → d.showable = true ∧ d.hasDict = false ∧ d.depth ≤ n ∧ d.shown.length ≤ wt d) :
    ∀ xs : List PyData, (∀ x ∈ xs, Fit n x) → PyData.showableAll xs = true ∧ PyData.hasDictAll xs = false ∧ PyData.depthAll xs ≤ n ∧ ((PyData.shownAll xs).map (·.length)).sum + 2 * (PyData.shownAll xs).length ≤ wtAll xs
  | [], _ => ⟨by simp only [PyData.showableAll], by simp only [PyData.hasDictAll], by simp only [PyData.depthAll]; omega, by simp [PyData.shownAll, wtAll]⟩
  | x :: xs, h => by
    obtain ⟨a1, a2, a3, a4⟩ := ih x (h x (List.mem_cons_self ..))
    obtain ⟨b1, b2, b3, b4⟩ := fit_all ih xs fun y hy => h y (List.mem_cons_of_mem _ hy)
    refine ⟨by simp only [PyData.showableAll, a1, b1, Bool.and_self], by simp only [PyData.hasDictAll, a2, b2, Bool.or_self], by simp only [PyData.depthAll]; omega, ?_⟩
    simp only [PyData.shownAll, List.map_cons, List.sum_cons, List.length_cons, wtAll]
    omega
theorem fit_ok : ∀ (n : Nat) (d : PyData), Fit n d → d.showable = true ∧ d.hasDict = false ∧ d.depth ≤ n ∧ d.shown.length ≤ wt d := by
  have flat : ∀ (n : Nat) (d : PyData), Fit n d → (∀ xs, d ≠ .list xs) → (∀ xs, d ≠ .tuple xs) → d.showable = true ∧ d.hasDict = false ∧ d.depth ≤ n ∧ d.shown.length ≤ wt d := by
    intro n d h n1 n2
    cases h with
    | non => exact ⟨by simp only [PyData.showable], by simp only [PyData.hasDict], by simp only [PyData.depth]; omega, by simp only [PyData.shown, wt]; decide⟩
    | bl b => exact ⟨by simp only [PyData.showable], by simp only [PyData.hasDict], by simp only [PyData.depth]; omega, by simp only [PyData.shown, wt]; cases b <;> decide⟩
    | int h =>
      rename_i i
      refine ⟨?_, by simp only [PyData.hasDict], by simp only [PyData.depth]; omega, by simp only [PyData.shown, wt]; exact shown_int_len h⟩
      simp only [PyData.showable, decide_eq_true_eq]
      by_cases z : i.natAbs = 0
      · rw [z]; decide
      · exact (Nat.log2_lt z).mpr (Nat.lt_of_lt_of_le h (by decide +kernel))
    | str h => exact ⟨by simp only [PyData.showable], by simp only [PyData.hasDict], by simp only [PyData.depth]; omega, by simp only [PyData.shown, wt]; exact StrLaws.reprText_len _ h⟩
    | lst _ => exact (n1 _ rfl).elim
    | tup _ => exact (n2 _ rfl).elim
  intro n
  induction n with
  | zero => intro d h; exact flat 0 d h (by rintro xs rfl; cases h) (by rintro xs rfl; cases h)
  | succ n ih =>
    intro d h
    cases d with
    | list xs =>
      cases h with
      | lst h =>
        obtain ⟨b1, b2, b3, b4⟩ := fit_all ih xs h
        refine ⟨by simp only [PyData.showable, b1], by simp only [PyData.hasDict, b2], by simp only [PyData.depth]; omega, ?_⟩
        simp only [PyData.shown, wt]
        exact Nat.le_trans (listText_len_le _) (by omega)
    | tuple xs =>
      cases h with
      | tup h =>
        obtain ⟨b1, b2, b3, b4⟩ := fit_all ih xs h
        refine ⟨by simp only [PyData.showable, b1], by simp only [PyData.hasDict, b2], by simp only [PyData.depth]; omega, ?_⟩
        simp only [PyData.shown, wt]
        exact Nat.le_trans (tupleText_len_le _) (by omega)
    | _ => exact flat _ _ h (by intro xs q; cases q) (by intro xs q; cases q)
end Tp
set_option Elab.async false
set_option linter.all false
set_option maxRecDepth 100000
set_option maxHeartbeats 4000000
namespace Tp
open PySem L2
def Sm (m : Nat) (z : Str) : Prop := z.length ≤ m ∧ ∀ c ∈ z.cps.toList, c < 1000
theorem Sm.up {m n : Nat} {z : Str} (h : Sm m z) (l : m ≤ n) : Sm n z := ⟨Nat.le_trans h.1 l, h.2⟩
theorem Sm.one {c : Nat} (h : c < 1000) : Sm 1 ⟨#[c]⟩ := ⟨Nat.le_refl 1, fun x hx => by
  have : x = c := by simpa using hx
  omega⟩
theorem Sm.at {m : Nat} {z : Str} (h : Sm m z) {r : Int} (r0 : 0 ≤ r) (r1 : r < z.length) : ∃ c, atI z.cps.toList r = some c ∧ c < 1000 :=
  at_some h.2 r0 (by rw [len_list]; exact r1)
theorem Sm.app {m n : Nat} {y z : Str} (h : Sm m y) (k : Sm n z) : Sm (m + n) (y ++ z) := by
  refine ⟨by rw [Str.length_append]; exact Nat.add_le_add h.1 k.1, fun c hc => ?_⟩
  rw [Str.cps_append, Array.toList_append] at hc
  rcases List.mem_append.mp hc with hc | hc
  · exact h.2 c hc
  · exact k.2 c hc
theorem Sm.sub {m : Nat} {z : Str} (h : Sm m z) (i j : Nat) : Sm m (Builtin.Str.strSub z i j) := by
  refine ⟨?_, fun c hc => ?_⟩
  · show (z.cps.extract i j).size ≤ m
    rw [Array.size_extract]
    have := h.1
    have e : z.length = z.cps.size := rfl
    omega
  · refine h.2 c ?_
    have hc : c ∈ (z.cps.extract i j).toList := hc
    rw [Array.toList_extract] at hc
    exact List.mem_of_mem_drop (List.mem_of_mem_take hc)
theorem Sm.join {m n : Nat} {a : Str} {ys : List Str} (ha : Sm n a) (h : ∀ y ∈ ys, Sm m y) : Sm (ys.length * (m + n)) (Txt.join a ys) := by
  refine ⟨Nat.le_trans (join_len fun y hy => (h y hy).1) (Nat.mul_le_mul_left _ (Nat.add_le_add_left ha.1 _)), ?_⟩
  have e : Txt.join a ys = Str.join a ys := StrLaws.glued_eq_join a ys
  rw [e]
  clear e
  induction ys with
  | nil => intro c hc; cases hc
  | cons y ys ih =>
    cases ys with
    | nil => exact (h y (List.mem_cons_self ..)).2
    | cons y2 ys =>
      intro c hc
      have hc : c ∈ (y ++ a ++ Str.join a (y2 :: ys)).cps.toList := hc
      rw [Str.cps_append, Str.cps_append, Array.toList_append, Array.toList_append] at hc
      rcases List.mem_append.mp hc with hc | hc
      · rcases List.mem_append.mp hc with hc | hc
        · exact (h y (List.mem_cons_self ..)).2 c hc
        · exact ha.2 c hc
      · exact ih (fun z hz => h z (List.mem_cons_of_mem _ hz)) c hc
theorem Sm.split {m : Nat} {z y : Str} (h : Sm m z) : ∀ x ∈ Txt.split z y, Sm m x := by
  have key : ∀ (cuts : List Nat) (k a : Nat), ∀ x ∈ StrLaws.partsFrom z k a cuts, Sm m x := by
    intro cuts
    induction cuts with
    | nil =>
      intro k a x hx
      rw [List.mem_singleton.mp (show x ∈ [Builtin.Str.strSub z a z.length] from hx)]
      exact h.sub _ _
    | cons c r ih =>
      intro k a x hx
      rcases List.mem_cons.mp (show x ∈ Builtin.Str.strSub z a c :: StrLaws.partsFrom z k (c + k) r from hx) with rfl | hx
      · exact h.sub _ _
      · exact ih k (c + k) x hx
  intro x hx
  unfold Txt.split at hx
  split at hx
  · rw [List.mem_singleton.mp hx]; exact h
  · split at hx
    · rw [List.mem_singleton.mp hx]; exact h
    · rw [StrLaws.partsBetween_eq] at hx
      exact key _ _ _ x hx
theorem Sm.fit {m n : Nat} {z : Str} (h : Sm m z) : Fit n (.str z) := .str fun c hc => Nat.lt_of_lt_of_le (h.2 c hc) (by decide)
theorem dp_strs {K : PySem.W.Frag} {H : Hp} : ∀ ws : List Str, DpAll K H (ws.map V.str) (ws.map PyData.str)
  | [] => .nil
  | w :: ws => .cons (.str w) (dp_strs ws)
theorem dp_same {K : PySem.W.Frag} {H H' : Hp} (S : Same H H') : (∀ {v : V} {d : PyData}, Dp K H v d → Dp K H' v d) ∧ (∀ {vs : List V} {ds : List PyData}, DpAll K H vs ds → DpAll K H' vs ds) := by
  have sq : ∀ {a : Addr} {xs : List V}, SqT K H a xs → SqT K H' a xs := by
    rintro a xs ((h | ⟨o, h⟩) | h)
    · exact .inl (.inl (S _ _ h))
    · exact .inl (.inr ⟨o, S _ _ h⟩)
    · exact .inr h
  constructor
  · intro v d h
    exact Dp.rec (motive_1 := fun v d _ => Dp K H' v d) (motive_2 := fun vs ds _ => DpAll K H' vs ds) .non .bl .int .str (fun s _ ih => .lst (S.seq s) ih) (fun s _ ih => .tup (sq s) ih) .nil (fun _ _ a b => .cons a b) h
  · intro vs ds h
    exact DpAll.rec (motive_1 := fun v d _ => Dp K H' v d) (motive_2 := fun vs ds _ => DpAll K H' vs ds) .non .bl .int .str (fun s _ ih => .lst (S.seq s) ih) (fun s _ ih => .tup (sq s) ih) .nil (fun _ _ a b => .cons a b) h
theorem ty_same {K : PySem.W.Frag} {H H' : Hp} (S : Same H H') {v : V} {t : Value} (h : TyX K H v t) : TyX K H' v t := by
  cases h with
  | base b =>
    cases b with
    | non => exact .base .non
    | bl x => exact .base (.bl x)
    | int i => exact .base (.int i)
    | str x => exact .base (.str x)
    | flt x => exact .base (.flt x)
    | lst e => exact .base (.lst (S _ _ e))
    | frz e => exact .base (.frz (S _ _ e))
    | tup e => exact .base (.tup (S _ _ e))
    | dK e => exact .base (.dK (S _ _ e))
    | dT e => exact .base (.dT (S _ _ e))
    | ins e x1 x2 x3 x4 x5 => exact .base (.ins (S _ _ e) x1 x2 x3 x4 x5)
  | byt b => exact .byt b
  | set e => exact .set (S _ _ e)
  | kList e c => exact .kList e c
  | kTuple e c => exact .kTuple e c
  | kDict e c => exact .kDict e c
  | fTuple e => exact .fTuple (S _ _ e)
  | fDict e => exact .fDict (S _ _ e)
end Tp
set_option Elab.async false
set_option linter.all false
set_option maxRecDepth 100000
set_option maxHeartbeats 4000000
namespace Tp
open PySem PySem.Spec PyProof.Rows L2
section
variable {X : Cx} {e : Expr} {es : List Expr} {ta : TA} {x : Str} {B : Addr} {p1 p2 pos : Pos}
end
def spXI (C : Addr) (f : Str) : Sp := fun vs H Q _ => ∃ (a : Addr) (v : V), vs = [.ref a, v] ∧ H a = some (exo a C none) ∧
  ∀ dx, H dx = none → dx ≠ a → Q .non (upd (upd H dx (exd dx [(f, v)])) a (exo a C (some dx)))
section
variable {X : Cx} {x f : Str} {C fI : Addr} {fd : FuncData} {e : Expr} {te : TE} {p pos pos2 : Pos}
end
end Tp
set_option Elab.async false
set_option linter.all false
set_option maxRecDepth 100000
set_option maxHeartbeats 4000000
namespace Tp
open PySem PySem.Spec PyProof.Rows L2
structure Cl where
  c : Value
  i : Option Nat
  ts : Addr → Value → Option Addr → TS
def setO (σ : L2.St) (i : Option Nat) (v : Option V) : L2.St := match i with
  | some j => σ.set j v
  | none => σ
def wCl (K : PySem.W.Frag) (Wout : WX) (D : Ends) : List Cl → WX
  | [] => Wout
  | k :: r => fun cls d σ H => ∃ b, PySem.W.exmOne K cls k.c = some b ∧
      (b = true → ∀ a, H a = none → k.ts a cls d { nx := fun σ' H' => D.nx (setO σ' k.i none) H', rt := D.rt, bk := fun σ' H' => D.bk (setO σ' k.i none) H', ct := fun σ' H' => D.ct (setO σ' k.i none) H' } (setO σ k.i (some (.ref a))) H) ∧
      (b = false → wCl K Wout D r cls d σ H)
inductive HdsA (X : Cx) : List ExceptHandler → List Cl → Prop
  | nil : HdsA X [] []
  | as_ {x n : Str} {i : Nat} {c : Value} {ts : Addr → Value → Option Addr → TS} {b₀ : Stmt} {suite : List Stmt} {np pos' : Pos} {hds : List ExceptHandler} {l : List Cl} (hN : X.N.Nodup) (hi : X.N[i]? = some n) (hln : X.env.kindOf n = some .local) (hc : Names X x c)
      (hsu : ∀ (a : Addr) (oe : Obj) (cls : Value) (d : Option Addr) (pn : List (Addr × Obj)), Zc cls d oe → (∃ vs, oe.data = .fields vs) → PSs (X.suite a ((a, oe) :: pn)) (b₀ :: suite) (ts a cls d)) (r : HdsA X hds l) :
      HdsA X (.ExceptHandler (some (.Name x np)) (some n) (b₀ :: suite) pos' :: hds) (⟨c, some i, ts⟩ :: l)
  | bare {x : Str} {c : Value} {ts : Addr → Value → Option Addr → TS} {b₀ : Stmt} {suite : List Stmt} {np pos' : Pos} {hds : List ExceptHandler} {l : List Cl} (hc : Names X x c)
      (hsu : ∀ (a : Addr) (oe : Obj) (cls : Value) (d : Option Addr) (pn : List (Addr × Obj)), Zc cls d oe → (∃ vs, oe.data = .fields vs) → PSs (X.suite a ((a, oe) :: pn)) (b₀ :: suite) (ts a cls d)) (r : HdsA X hds l) :
      HdsA X (.ExceptHandler (some (.Name x np)) none (b₀ :: suite) pos' :: hds) (⟨c, none, ts⟩ :: l)
section
variable {X : Cx} {body : List Stmt} {h₀ : ExceptHandler} {hds : List ExceptHandler} {l : List Cl} {pos : Pos} {tb : WX → TS} {Wout : WX}
theorem ps_tryA (hs : X.stack = X.env :: X.outer) (hf : X.env.frame = some X.env.locals) (tk : Takes X Wout)
    (hb : ∀ (W : WX) (pn : List (Addr × Obj)) (xe : Value → Shared → Prop), Takes (X.tr pn xe) W → PassesOwn (model X.prog X.w) X.A X.env xe → PSs (X.tr pn xe) body (tb W))
    (hh : HdsA X (h₀ :: hds) l) : PS X (.Try body (h₀ :: hds) [] [] pos) (fun D σ H => tb (wCl X.K Wout D l) D σ H) := by
  refine ⟨fun pins s σ H D I h => ?_⟩
  have ok := I.ok
  have hfr : X.A.frames = some (X.env :: X.outer) := by rw [ok.frames, hs]
  refine wpAny_Try_except ?_
  refine wpAny_mono ((hb (wCl X.K Wout D l) (X.pn ++ pins) (fun e s₁ => wpAny (model X.prog X.w) X.A (noteFrame e X.env) (fun _ s₂ => wpAny (model X.prog X.w) X.A (setFlight e none) (fun _ s₃ =>
    wpAny (model X.prog X.w) X.A (handleBy e X.env (h₀ :: hds)) (SP X pins D) X.xe s₃) X.xe s₂) X.xe s₁) (fun u s' xx => ?_) PassesOwn.looking).run [] s σ H D (I.toTry _) h) (fun f s1 hsp => ?_) (fun e s1 he => he)
  · obtain ⟨a, B, sI, pins', σ', H', cls, d, rfl, J', nb, up, sky, na, os, ag, w⟩ := xx
    have J : Inv X pins σ' H' sI := J'.ofTry ok
    have sky' : Sky B (X.env :: X.outer) a (Zc cls d) X.env.locals s'.heap := by rw [← hs]; exact sky
    show wpAny (model X.prog X.w) X.A (noteFrame (.ref a) X.env) _ _ _
    refine Sky.land Zc.steady hfr hf sky' fun h3 fl3 up3 => ?_
    have J3 : Inv X pins σ' H' { s' with heap := h3 } := J.landed nb fl3.1 (up.trans up3) os ag
    obtain ⟨oe3, vs3, he3, hz3, hd3⟩ := fl3.there
    have notFr : ∀ {h : Heap} {o : Obj} {vs : Array Value}, h.FunFrames B (X.env :: X.outer) → h.get? a = some o → o.data = .fields vs → a ∉ frs (X.env :: X.outer) := fun {h o vs} ff e dd hm => by
      obtain ⟨_, o', e', hnf⟩ := ff.mem hm
      rw [e] at e'; cases e'
      exact hnf _ dd
    have nfr := notFr fl3.2.2.1 he3 hd3
    have nL : a ≠ X.env.locals := fun z => nfr (List.mem_filterMap.mpr ⟨X.env, List.mem_cons_self, by rw [hf, z]⟩)
    have nF : a ∉ X.fs := fun hm => by
      obtain ⟨e, he, q⟩ := List.mem_filterMap.mp hm
      exact nfr (List.mem_filterMap.mpr ⟨e, List.mem_cons_of_mem _ he, q⟩)
    have S3 := J3.suite he3 hd3 na nL nF
    have LT : PySem.W.Looks (model X.prog X.w) h3 (typeOf (.ref a)) cls := fun A Q E s k q => wpAny_typeOf_ref (k _ _ he3) (by rw [hz3.1]; exact q)
    have test : ∀ {x : Str} {c : Value} {np : Pos} {Q : Value → Shared → Prop} {E : Value → Shared → Prop}, Names X x c → Q c { s' with heap := h3 } →
        wpAny (model X.prog X.w) (X.A.mark (some (.ref a))) (eval (.Name x np) X.env) Q E { s' with heap := h3 } := fun {x c np Q E} hc q => by
      obtain ⟨hg, hdbg, hm | ⟨hm, hv, hnn⟩⟩ := hc
      · exact ld_glob (X := X.suite a ((a, oe3) :: (X.pn ++ pins))) S3 hg hm q hdbg
      · exact ld_blt (X := X.suite a ((a, oe3) :: (X.pn ++ pins))) S3 hg hm hv q hnn hdbg
    have go : ∀ {hds' : List ExceptHandler} {l' : List Cl}, HdsA X hds' l' → wCl X.K Wout D l' cls d σ' H' →
        wpAny (model X.prog X.w) X.A (handleBy (.ref a) X.env hds') (SP X pins D) X.xe { s' with heap := h3 } := by
      intro hds' l' hk
      induction hk with
      | nil =>
        intro w
        refine wpAny_handleBy_nil ?_
        obtain ⟨k1, k2, k3, oe, vs, T, oT, ts', he, hz, hd, h1, hr⟩ := id fl3
        unfold PySem.passOn
        refine wpAny_bind (wpAny_field he hd h1 ?_)
        rw [if_neg (show ¬ ((Value.ref T == Value.none) = true) from by simp)]
        have fin : wpAny (model X.prog X.w) X.A (setFlight (.ref a) X.env.frame) (fun _ s4 => wpAny (model X.prog X.w) X.A (throw (.ref a) : Sem Flow) (SP X pins D) X.xe s4) X.xe { s' with heap := h3 } := by
          rw [hf]
          refine HandSPX.setFlight_upZ fl3 fun h4 hh4 up4 => wpAny_throw (tk _ _ ?_)
          exact ⟨a, B, sI, pins, σ', H', cls, d, rfl, J, nb, (up.trans up3).trans up4, .inr (.inr (by rw [hs]; exact hh4)), na, os, ag, w⟩
        first
          | exact wpAny_bind (wpAny_pure (wpAny_bind fin))
          | exact wpAny_bind fin
      | @as_ x n i c ts b₀ suite np pos' hds2 l2 hN hi hln hc hsu r ih =>
        intro w
        obtain ⟨b, hb1, hyes, hno⟩ := w
        refine wpAny_handleBy_cons (codeAny_handlers_test ?_) (by intro q; cases q)
        refine test hc ((PySem.W.exm_one (M := model X.prog X.w) (J3.kIn) LT hb1).here ?_)
        cases b with
        | true =>
          refine codeAny_handlers_suite_as ?_
          refine HandSPX.lands_againZ fl3 fun h4 fl4 up4 => ?_
          have J4 : Inv X pins σ' H' { s' with heap := h4 } := J.landed nb fl4.1 ((up.trans up3).trans up4) os ag
          obtain ⟨oe4, vs4, he4, hz4, hd4⟩ := fl4.there
          have S4 := J4.suite he4 hd4 na nL nF
          refine store_ok (X := X.suite a ((a, oe4) :: (X.pn ++ pins))) (v := .ref a) S4 hN hi (.inl hln) rfl (fun s5 S5 => ?_) (.inr hln)
          refine wpAny_mono ((hsu a oe4 cls d (X.pn ++ pins) hz4 ⟨_, hd4⟩).run [] s5 _ H' _ S5 (hyes rfl a na)) (fun f s6 hsp => ?_) (fun _ _ z => False.elim z)
          have end_ : ∀ {σ6 : L2.St} {H6 : Hp} {Q : Shared → Prop}, Inv (X.suite a ((a, oe4) :: (X.pn ++ pins))) [] σ6 H6 s6 → (∀ s7, Inv X pins (σ6.set i none) H6 s7 → Q s7) →
              wpAny (model X.prog X.w) X.A (do bindName X.env n .none; unbindBehindTheSuite X.env n pos') (fun _ s7 => Q s7) X.xe s6 := fun {σ6 H6 Q} S6 hq => gone_ok (S6.unsuite ok) hN hi hln hq
          cases f with
          | ret u =>
            obtain ⟨v6, σ6, H6, S6, r6, q6⟩ := hsp
            exact end_ S6 fun s7 J7 => ⟨_, _, _, J7, r6, q6⟩
          | _ =>
            obtain ⟨σ6, H6, S6, q6⟩ := hsp
            exact end_ S6 fun s7 J7 => ⟨_, _, J7, q6⟩
        | false =>
          show wpAny _ X.A (handleBy (.ref a) X.env hds2) _ _ _
          exact ih (hno rfl)
      | @bare x c ts b₀ suite np pos' hds2 l2 hc hsu r ih =>
        intro w
        obtain ⟨b, hb1, hyes, hno⟩ := w
        refine wpAny_handleBy_cons (codeAny_handlers_test ?_) (by intro q; cases q)
        refine test hc ((PySem.W.exm_one (M := model X.prog X.w) (J3.kIn) LT hb1).here ?_)
        cases b with
        | true =>
          refine codeAny_handlers_suite ?_
          refine HandSPX.lands_againZ fl3 fun h4 fl4 up4 => ?_
          have J4 : Inv X pins σ' H' { s' with heap := h4 } := J.landed nb fl4.1 ((up.trans up3).trans up4) os ag
          obtain ⟨oe4, vs4, he4, hz4, hd4⟩ := fl4.there
          have S4 := J4.suite he4 hd4 na nL nF
          refine wpAny_mono ((hsu a oe4 cls d (X.pn ++ pins) hz4 ⟨_, hd4⟩).run [] _ _ H' _ S4 (hyes rfl a na)) (fun f s6 hsp => ?_) (fun _ _ z => False.elim z)
          cases f with
          | ret u =>
            obtain ⟨v6, σ6, H6, S6, r6, q6⟩ := hsp
            exact ⟨_, _, _, S6.unsuite ok, r6, q6⟩
          | _ =>
            obtain ⟨σ6, H6, S6, q6⟩ := hsp
            exact ⟨_, _, S6.unsuite ok, q6⟩
        | false =>
          show wpAny _ X.A (handleBy (.ref a) X.env hds2) _ _ _
          exact ih (hno rfl)
    exact go hh w
  · cases f with
    | next =>
      obtain ⟨σ', H', J', q⟩ := hsp
      exact wpAny_execs_nil ⟨σ', H', J'.ofTry ok, q⟩
    | ret u =>
      obtain ⟨v, σ', H', J', r, q⟩ := hsp
      exact ⟨v, σ', H', J'.ofTry ok, r, q⟩
    | _ =>
      obtain ⟨σ', H', J', q⟩ := hsp
      exact ⟨σ', H', J'.ofTry ok, q⟩
end
section
open PySem.W
variable {prog : Program} {w : World} {A : Around} {E : Value → Shared → Prop} {s : Shared} {K : Frag} {x D : Addr} {ox : Obj} {od : Option Obj}
theorem find_classX (C : ExcC K D) : findObj K D od "__class__" = some (.bind (.builtin "getset_descriptor.__get__") (.builtin "object.__class__")) := by
  obtain ⟨cd, hc, _⟩ := any_some C.hd
  unfold findObj
  rw [hc, Option.bind_some, C.ha, Option.bind_some]
  simp [C.hn, C.ht]
theorem class_of_exc {Q : Option Value → Shared → Prop} (C : ExcC K D) (X : K.In s.heap) (I : InstAt s.heap x ox D od) (h : Q (some (.ref D)) { s with toks := s.toks + 1 }) :
    wpAny (model prog w) A (getAttr? (.ref x) "__class__") Q E s := by
  obtain ⟨hp, g, d, t, os⟩ := s
  have L0 := I.type (M := model prog w)
  have hx2 : (Value.builtin "BaseException.__getattribute__" == Value.builtin "object.__getattribute__") = false := by decide +kernel
  have hx1 : (onTheHeap (Value.ref D) && Value.builtin "BaseException.__getattribute__" == Value.builtin "object.__getattribute__") = false := by rw [hx2]; rfl
  unfold getAttr? getAttrBy? getAttrBy
  refine wpAny_bind (wpAny_mkText (wpAny_bind (wpAny_attempt (wpAny_holding (wpAny_bind (L0.at (wpAny_bind ((looks_findIn (M := model prog w) X C.hg).at ?_))))))))
  show wpAny _ _ (if (onTheHeap (Value.ref D) && Value.builtin "BaseException.__getattribute__" == Value.builtin "object.__getattribute__") = true then _ else _) _ _ _
  rw [hx1, if_neg Bool.false_ne_true]
  unfold getAttrByItsOwn hookBefore
  refine wpAny_bind ?_
  rw [if_pos (show onTheHeap (Value.ref D) = true from rfl)]
  refine (looks_findIn (M := model prog w) X C.hk).at (wpAny_bind (wpAny_attempt (wpAny_holding ?_)))
  unfold callGetattribute
  rw [show (false && onTheHeap (Value.builtin "BaseException.__getattribute__")) = false from rfl, if_neg Bool.false_ne_true]
  unfold boundAndCalled
  rw [PySem.F.excAttr_ValueError.ga.bind (.ref x)]
  refine wpAny_bind (wpAny_pure ?_)
  show wpAny _ _ (call (.builtin "BaseException.__getattribute__") [.ref x, .str "__class__" t]) _ _ _
  refine wpAny_call (codeAny_call_builtin PySem.F.excAttr_ValueError.ga.plain PySem.F.entry_bexc_ga ?_)
  refine @check_slot (model prog w) _ _ ⟨hp, g, d, t + 1, os⟩ "BaseException.__getattribute__" "BaseException" "__getattribute__" (.ref x) [.str "__class__" t] [] _ (by decide +kernel) (by decide +kernel) (L0.andThen (looks_subIn X C.hs)) (PySem.F.args_bexc_ga (.ref x) (.str "__class__" t)) ?_
  unfold Builtin.«object.__getattribute__»
  refine wpAny_bind (wpAny_of_eq (a := ((Value.ref x : Value), [Value.str "__class__" t])) (by first | rfl | (simp only [slotArgs]; rfl)) ?_)
  refine wpAny_bind (wpAny_pure (wpAny_bind (L0.at (wpAny_bind ((looks_find (M := model prog w) X I (find_classX C)).at ?_)))))
  show wpAny _ _ (holding [Value.builtin "object.__class__"] (call (.builtin "getset_descriptor.__get__") [.builtin "object.__class__", .ref x, .ref D]) >>= ret) _ _ _
  refine wpAny_bind (wpAny_holding (wpAny_call (class_get (s := ⟨hp, g, d, t + 1, os⟩) (ox := ox) (od := od) X I C.hm ?_)))
  refine wpAny_pure ?_
  show wpAny _ _ (handedOut (.ref D)) _ _ _
  rw [handedOut_of (v := .ref D) rfl]
  first
    | exact wpAny_pure (wpAny_pure h)
    | exact wpAny_pure h
    | exact wpAny_pure (wpAny_bind (wpAny_pure (wpAny_pure h)))
theorem kitx_excD (C : ExcC K D) : KitX K (.ref x) (.ref D) (fun h => InstAt h x ox D od) where
  ty := fun _ _ _ I => I.type
  it := fun _ _ X _ => by
    obtain ⟨cdD, hcD, _⟩ := any_some C.hd
    unfold clsIn at hcD
    split at hcD
    · rename_i c' d' cd' sl' ho
      intro A' Q' E' s' k q
      unfold isType loadHead
      exact wpAny_bind (wpAny_loadPart (k _ _ (X _ _ ho)) (wpAny_pure q))
    · cases hcD
  ne := fun h tp dd its n sl X htp => by
    obtain ⟨cdD, hcD, _⟩ := any_some C.hd
    refine Bool.eq_false_iff.mpr fun q => ?_
    have e : D = tp := Value.ref.inj (beq_iff_eq.mp q)
    subst e
    unfold clsIn at hcD
    split at hcD
    · rename_i c' d' cd' sl' ho
      have z := (X _ _ ho).symm.trans htp
      cases z
    · cases hcD
  ca := fun X I k => class_of_exc C X I k
end
end Tp
set_option Elab.async false
set_option linter.all false
set_option maxRecDepth 100000
set_option maxHeartbeats 4000000
namespace Tp
open PySem PySem.Spec PyProof.Rows L2
def Sys (K : PySem.W.Frag) (H : Hp) : Prop := (∃ o es ep, K.lookup sysModules = some o ∧ o.data = .dict es ep) ∨ (K.lookup sysModules = none ∧ ∃ o φ, H sysModules = some (.frz o (.ext φ)))
theorem Sys.same {K : PySem.W.Frag} {H H' : Hp} (h : Sys K H) (S : Same H H') : Sys K H' := h.imp id fun h => ⟨h.1, let ⟨o, φ, e⟩ := h.2; ⟨o, φ, S _ _ e⟩⟩
mutual
inductive Dq (K : PySem.W.Frag) (H : Hp) : V → PyData → Prop
  | non : Dq K H .non .none
  | bl (b : Bool) : Dq K H (.bl b) (.bool b)
  | int (i : Int) : Dq K H (.int i) (.int i)
  | str (x : Str) : Dq K H (.str x) (.str x)
  | lst {a : Addr} {xs : List V} {ds : List PyData} : SqL K H a xs → DqAll K H xs ds → Dq K H (.ref a) (.list ds)
  | tup {a : Addr} {xs : List V} {ds : List PyData} : SqT K H a xs → DqAll K H xs ds → Dq K H (.ref a) (.tuple ds)
  | dic {a : Addr} {kvs : List (Key × V)} {ds : List (PyData × PyData)} : Rd H a (.dK kvs) → DqAll K H (kvs.map fun p => kV p.1) (ds.map (·.1)) → DqAll K H (kvs.map (·.2)) (ds.map (·.2)) → Dq K H (.ref a) (.dict ds)
inductive DqAll (K : PySem.W.Frag) (H : Hp) : List V → List PyData → Prop
  | nil : DqAll K H [] []
  | cons {v : V} {vs : List V} {d : PyData} {ds : List PyData} : Dq K H v d → DqAll K H vs ds → DqAll K H (v :: vs) (d :: ds)
end
section
variable {X : Cx} {pins : List (Addr × Obj)} {σ : L2.St} {H : Hp} {s : Shared}
theorem sq_far {a : Addr} {xs : List V} (I : Inv X pins σ H s) (sy : Sys X.K H) (h : SqL X.K H a xs) : a ≠ sysModules := by
  rintro rfl
  rcases sy with ⟨o, es, ep, k, d⟩ | ⟨k, o, φ, e⟩
  · obtain ⟨its, _, ⟨o', n, ho, _, _, hd⟩, _⟩ := I.list h
    rw [I.kIn _ _ k] at ho
    cases ho
    rw [d] at hd
    cases hd
  · rcases h with (h | ⟨o', h⟩) | ⟨o', its, n, h, _⟩
    · rw [e] at h; cases h
    · rw [e] at h; cases h
    · rw [k] at h; cases h
theorem key_vals {es : List DictEntry} {vs : List (Key × Value)} (p : Pairs (mixKind X.prog X.w) es vs) : ∀ {kvs : List (Key × V)}, KV kvs vs →
    Vals (kvs.map fun p => kV p.1) (es.map (·.key)) ∧ Vals (kvs.map (·.2)) (es.map (·.val)) := by
  induction p with
  | nil =>
    intro kvs r
    cases r
    exact ⟨.nil, .nil⟩
  | cons h1 h2 _ ih =>
    intro kvs r
    cases r with
    | cons r1 r2 =>
      rename_i e kv es' kvs' _ q qs
      obtain ⟨a, b⟩ := ih r2
      obtain ⟨qk, qv⟩ := q
      obtain ⟨ek, ev⟩ := r1
      refine ⟨.cons ?_ a, .cons (by show RelV qv e.val; rw [h2]; exact ev) b⟩
      have ek : qk = kv.1 := ek
      rcases keyIs_shape (show keyIs kv.1 e.key = true from h1) with ⟨i, t, e1, e2⟩ | ⟨x, t, e1, e2⟩
      · show RelV (kV qk) e.key
        rw [ek, e1, e2]
        exact ⟨t, rfl⟩
      · show RelV (kV qk) e.key
        rw [ek, e1, e2]
        exact ⟨t, rfl⟩
def RdsV (H : Hp) (s : Shared) (v : V) (d : PyData) : Prop := ∀ u, RelV v u → ∃ as, Reads s.heap u d as ∧ sysModules ∉ as
def RdsA (H : Hp) (s : Shared) (vs : List V) (ds : List PyData) : Prop := ∀ us, Vals vs us → ∃ as, ReadsAll s.heap us ds as ∧ sysModules ∉ as
theorem Dq.both (I : Inv X pins σ H s) (sy : Sys X.K H) : (∀ {v : V} {d : PyData}, Dq X.K H v d → RdsV H s v d) ∧ (∀ {vs : List V} {ds : List PyData}, DqAll X.K H vs ds → RdsA H s vs ds) := by
  have h1 : RdsV H s .non .none := fun u r => by cases r; exact ⟨_, .none, by simp⟩
  have h2 : ∀ b, RdsV H s (.bl b) (.bool b) := fun b u r => by cases r; exact ⟨_, .bool b, by simp⟩
  have h3 : ∀ i, RdsV H s (.int i) (.int i) := fun i u r => by obtain ⟨t, rfl⟩ := r; exact ⟨_, .int i t, by simp⟩
  have h4 : ∀ x, RdsV H s (.str x) (.str x) := fun x u r => by obtain ⟨t, rfl⟩ := r; exact ⟨_, .str x t, by simp⟩
  have h5 : ∀ {a : Addr} {xs : List V} {ds : List PyData}, SqL X.K H a xs → DqAll X.K H xs ds → RdsA H s xs ds → RdsV H s (.ref a) (.list ds) := fun hs _ ih u r => by
    cases r
    obtain ⟨its, rv, ⟨o, n, ho, hc, _, hd⟩, _⟩ := I.list hs
    obtain ⟨as, hr, na⟩ := ih its rv
    exact ⟨_, .list ho hc hd hr, fun z => (List.mem_cons.mp z).elim (fun e => sq_far I sy hs e.symm) na⟩
  have h6 : ∀ {a : Addr} {xs : List V} {ds : List PyData}, SqT X.K H a xs → DqAll X.K H xs ds → RdsA H s xs ds → RdsV H s (.ref a) (.tuple ds) := fun hs _ ih u r => by
    cases r
    obtain ⟨its, rv, ⟨o, ho, hc, n, hd⟩, _⟩ := I.tuple hs
    obtain ⟨as, hr, na⟩ := ih its rv
    exact ⟨_, .tuple ho hc hd hr, na⟩
  have h7 : ∀ {a : Addr} {kvs : List (Key × V)} {ds : List (PyData × PyData)}, Rd H a (.dK kvs) → DqAll X.K H (kvs.map fun p => kV p.1) (ds.map (·.1)) → DqAll X.K H (kvs.map (·.2)) (ds.map (·.2)) → RdsA H s (kvs.map fun p => kV p.1) (ds.map (·.1)) → RdsA H s (kvs.map (·.2)) (ds.map (·.2)) → RdsV H s (.ref a) (.dict ds) := fun hd _ _ ik iv u r => by
    cases r
    obtain ⟨_, far, vs, kv, o, es, ep, ho, hx, hdat, _, hp, _⟩ := dk_rd I.hok hd
    obtain ⟨v1, v2⟩ := key_vals hp kv
    obtain ⟨as, r1, n1⟩ := ik _ v1
    obtain ⟨bs, r2, n2⟩ := iv _ v2
    refine ⟨_, .dict ho hx.1 hdat r1 r2, fun z => ?_⟩
    rcases List.mem_append.mp z with z | z
    · rcases List.mem_cons.mp z with z | z
      · rw [← z] at far
        exact absurd far (by decide)
      · exact n1 z
    · exact n2 z
  have h8 : RdsA H s [] [] := fun u r => by cases r; exact ⟨_, .nil, by simp⟩
  have h9 : ∀ {v : V} {vs : List V} {d : PyData} {ds : List PyData}, Dq X.K H v d → DqAll X.K H vs ds → RdsV H s v d → RdsA H s vs ds → RdsA H s (v :: vs) (d :: ds) := fun _ _ i1 i2 u r => by
    cases r with
    | cons r1 r2 =>
      obtain ⟨as, q1, n1⟩ := i1 _ r1
      obtain ⟨bs, q2, n2⟩ := i2 _ r2
      exact ⟨_, .cons q1 q2, fun z => (List.mem_append.mp z).elim n1 n2⟩
  constructor
  · intro v d h
    exact Dq.rec (motive_1 := fun v d _ => RdsV H s v d) (motive_2 := fun vs ds _ => RdsA H s vs ds) h1 h2 h3 h4 h5 h6 h7 h8 h9 h
  · intro v d h
    exact DqAll.rec (motive_1 := fun v d _ => RdsV H s v d) (motive_2 := fun vs ds _ => RdsA H s vs ds) h1 h2 h3 h4 h5 h6 h7 h8 h9 h
end
theorem dq_same {K : PySem.W.Frag} {H H' : Hp} (S : Same H H') : (∀ {v : V} {d : PyData}, Dq K H v d → Dq K H' v d) ∧ (∀ {vs : List V} {ds : List PyData}, DqAll K H vs ds → DqAll K H' vs ds) := by
  have sq : ∀ {a : Addr} {xs : List V}, SqT K H a xs → SqT K H' a xs := by
    rintro a xs ((h | ⟨o, h⟩) | h)
    · exact .inl (.inl (S _ _ h))
    · exact .inl (.inr ⟨o, S _ _ h⟩)
    · exact .inr h
  have rd : ∀ {a : Addr} {u : HO}, Rd H a u → Rd H' a u := fun h => h.imp (S _ _) fun ⟨o, e⟩ => ⟨o, S _ _ e⟩
  constructor
  · intro v d h
    exact Dq.rec (motive_1 := fun v d _ => Dq K H' v d) (motive_2 := fun vs ds _ => DqAll K H' vs ds) .non .bl .int .str (fun s _ ih => .lst (S.seq s) ih) (fun s _ ih => .tup (sq s) ih) (fun r _ _ a b => .dic (rd r) a b) .nil (fun _ _ a b => .cons a b) h
  · intro vs ds h
    exact DqAll.rec (motive_1 := fun v d _ => Dq K H' v d) (motive_2 := fun vs ds _ => DqAll K H' vs ds) .non .bl .int .str (fun s _ ih => .lst (S.seq s) ih) (fun s _ ih => .tup (sq s) ih) (fun r _ _ a b => .dic (rd r) a b) .nil (fun _ _ a b => .cons a b) h
def rReprQ (K : PySem.W.Frag) : List V → Hp → VK → Prop := fun xs H Q => ∃ v d, xs = [v] ∧ Sys K H ∧ Dq K H v d ∧ d.showable = true ∧ d.depth ≤ 60 ∧ d.shown.length ≤ sizeLine ∧ Q (.str d.shown) H
theorem call_reprQ {X : Cx} {k : Nat} (hr : Room k X.A) (hg : X.A.guards = some []) : CallR X (.builtin "repr") (rReprQ X.K) := by
  intro pins s σ H xs us Q I r h
  obtain ⟨v, d, rfl, sy, hd, hs, hp, hz, q⟩ := h
  obtain ⟨u, rfl, ru⟩ := vals1 r
  obtain ⟨as, rd, na⟩ := (Dq.both I sy).1 hd u ru
  have un := hr.un
  have fin : ∀ {z : Str} {s' : Shared} {t : Tok}, Inv X pins σ H s' → d.shown = z → EP X pins σ Q (.str z t) s' := fun J e => ⟨.str d.shown, H, J, ⟨_, by rw [e]⟩, q⟩
  cases hd with
  | non => cases ru; exact PySem.P.repr_of_none (fin (I.tok _) (by simp only [PyData.shown]))
  | bl b => cases ru; exact PySem.P.repr_of_bool (fin (I.tok _) (by simp only [PyData.shown]))
  | int i => obtain ⟨t, rfl⟩ := ru; exact PySem.P.repr_of_int (by simpa [PyData.showable] using hs) (fin (I.tok _) (by simp only [PyData.shown]))
  | str x => obtain ⟨t, rfl⟩ := ru; exact PySem.P.repr_of_str (fin (I.tok _) (by simp only [PyData.shown])) (by simpa only [PyData.shown] using hz)
  | lst _ _ => cases ru; exact repr_of_reads' rd hs (fun _ => na) hg (by omega) (fun _ _ e => e) (fun h' u tk kp => fin (I.kept kp) rfl) hz
  | tup _ _ => cases ru; exact repr_of_reads' rd hs (fun _ => na) hg (by omega) (fun _ _ e => e) (fun h' u tk kp => fin (I.kept kp) rfl) hz
  | dic _ _ _ => cases ru; exact repr_of_reads' rd hs (fun _ => na) hg (by omega) (fun _ _ e => e) (fun h' u tk kp => fin (I.kept kp) rfl) hz
end Tp
set_option Elab.async false
set_option linter.all false
set_option maxRecDepth 100000
set_option maxHeartbeats 4000000
namespace Tp
open PySem PySem.Spec PyProof.Rows L2
section
variable {X : Cx} {CX : CXT} {k : Nat} {f C : Addr} {fd : FuncData} {ps : List Str} {sp : Sp} {dvs : List V} {ds : List Value} {E : L2.St → XK} {x m : Str} {p pos apos : Pos} {e o : Expr} {es : List Expr} {ta ti : TE} {t : TA}
theorem passA0 {X : Cx} (σ : L2.St) : PassesAt (L2.CX X.prog X.w) X σ (fun _ _ _ => False) := fun _ _ _ _ _ _ ⟨_, _, _, _, _, _, _, _, _, _, _, _, w⟩ => w.elim
end
section
variable {X : Cx} {CX : CXT} {k : Nat} {f C : Addr} {fd : FuncData} {ps : List Str} {sp : Sp} {E : XK}
end
end Tp
set_option Elab.async false
set_option linter.all false
set_option maxRecDepth 100000
set_option maxHeartbeats 4000000
namespace Tp
open PySem PySem.Spec PyProof.Rows L2
section
variable {P : Program} {w : World} {K : PySem.W.Frag} {mg mb : Str → Option Value} {CX : CXT} {k : Nat} {fa a : Addr} {fd : FuncData} {x : Str} {sp : Sp} {s1 : Shared} {vs : List Value} {ns : List Int}
end
end Tp
set_option Elab.async false
set_option linter.all false
set_option maxRecDepth 100000
set_option maxHeartbeats 4000000
namespace Tp
open PySem PySem.Spec PyProof.Rows L2
theorem takes_unlock {X : Cx} {W : WX} (tk : Takes X W) : Takes X (fun cls e σ H' => ∃ d od u, H' d = some (.frz od u) ∧ (∀ o' u', X.H_0 d ≠ some (.frz o' u')) ∧ W cls e σ (upd H' d u)) := by
  rintro u s' ⟨a, B, sI, pins, σ, H, cls, e, rfl, I, nb, up, sky, na, os, ag, d, od, u, hd, nf, w⟩
  exact tk _ s' ⟨a, B, sI, pins, σ, _, cls, e, rfl, I.unlock hd nf, nb, up, sky, by rw [upd_ne (fun z => by rw [z, hd] at na; cases na)]; exact na, os, ag, w⟩
section
variable {P : Program} {w : World} {K : PySem.W.Frag} {mg : Str → Option Value} {base : Heap} {k : Nat} {f : Addr} {fd : FuncData} {ps : List Str} {sp : Sp}
theorem okX {x qual : Str} {st : Stmt} {N : List Str} (F : Fun K x qual st f fd) (S : FnScope N ps (defScope st)) (ar : ∀ vs H Q E, sp vs H Q E → vs.length = ps.length)
    (bd : ∀ (cdv : Value) (A : Around) (outer : List Env) (s : Shared) (H : Hp) (vs : List V) (Q : VK) (E : XK),
      Room k (A.deeper (envOfC qual (defScope st) s.heap.objs.size f cdv)) → sp vs H Q E →
      Takes (cxOf (L2.CX P w) P w K mg base N qual (defScope st) f cdv A outer s H E) (fun cls d _ H => E cls d H) →
      PassesOwn (model P w) (cxOf (L2.CX P w) P w K mg base N qual (defScope st) f cdv A outer s H E).A (cxOf (L2.CX P w) P w K mg base N qual (defScope st) f cdv A outer s H E).env (cxOf (L2.CX P w) P w K mg base N qual (defScope st) f cdv A outer s H E).xe →
      ∃ t, PSs (cxOf (L2.CX P w) P w K mg base N qual (defScope st) f cdv A outer s H E) (defBody st) t ∧ t { nx := fun _ H' => Q .non H', rt := Q } (start N vs) H) :
    FnOk P w K mg base (L2.CX P w) (k + 1) f fd ps sp := by
  obtain ⟨oc, od, kV, doc, pm, an, cdv, ct, osl, rfl, lk, hcd⟩ := F.ex
  refine fn_of lk hcd S ar fun A outer s H vs Q E hr hsp => ?_
  exact bd cdv A outer s H vs Q E hr hsp (takes_of rfl rfl rfl rfl) (passes_of rfl)
theorem okN {x qual : Str} {st : Stmt} {N : List Str} (F : Fun K x qual st f fd) (S : FnScope N ps (defScope st)) (ar : ∀ vs H Q E, sp vs H Q E → vs.length = ps.length)
    (bd : ∀ (cdv : Value) (A : Around) (outer : List Env) (s : Shared) (H : Hp) (vs : List V) (Q : VK) (E : XK),
      Room k (A.deeper (envOfC qual (defScope st) s.heap.objs.size f cdv)) → sp vs H Q E →
      ∃ t, PSs (cxOf CX0 P w K mg base N qual (defScope st) f cdv A outer s H E).nox (defBody st) t ∧ t { nx := fun _ H' => Q .non H', rt := Q } (start N vs) H) :
    FnOk P w K mg base CX0 (k + 1) f fd ps sp := by
  obtain ⟨oc, od, kV, doc, pm, an, cdv, ct, osl, rfl, lk, hcd⟩ := F.ex
  refine fn_of lk hcd S ar fun A outer s H vs Q E hr hsp => ?_
  obtain ⟨t, h, q⟩ := bd cdv A outer s H vs Q E hr hsp
  exact ⟨t, h.nox, q⟩
end
theorem hu1 {k : Nat} {A : Around} (hr : Room k A) : A.units + 1 < cLine := Nat.lt_of_le_of_lt (by omega) hr.units
theorem hu0 {k : Nat} {A : Around} (hr : Room k A) : A.units < cLine := hr.units0
theorem takes0 {X : Cx} : Takes X (fun _ _ _ _ => False) := fun _ _ ⟨_, _, _, _, _, _, _, _, _, _, _, _, _, _, _, _, w⟩ => w.elim
theorem dc_it {J : It} {n : Nat} {G : Hp → Prop} {Y : Nat → Hp → V → Hp → Prop} (w : Walk J n G Y) {g : TG} {tt : TT} {tk tv : TE} {vs : List Nat} {σ : L2.St} {H1 : Hp} {D : Addr} {Qd : Hp → Prop} (Pv : Nat → Hp → Prop) (h0 : Pv 0 (upd H1 D (.dK []))) (hG : ∀ i H, i ≤ n → Pv i H → G H)
    (hs : ∀ i x H H', i < n → Pv i H → Y i H x H' → g x (wipe σ vs) H' fun σ2 H2 => wipe σ2 vs = wipe σ vs ∧ tt σ2 H2 fun b H3 =>
      if b = true then tk σ2 H3 fun y H4 => tv σ2 H4 fun z H5 => ∃ kvs k, y = kV k ∧ H5 D = some (.dK kvs) ∧ kvs.length < sizeLine ∧ Pv (i + 1) (upd H5 D (.dK (putK kvs k z))) else Pv (i + 1) H3) (hd : ∀ H, Pv n H → Qd H) :
    ∃ W : Nat → Nat → Hp → Prop, (∃ m, W 0 m (upd H1 D (.dK []))) ∧ ∀ i m H, W i m H →
      (J.stop i H ∧ Qd H) ∨ (J.go i H ∧ ∃ Nx : Hp → Prop, (∀ H', Nx H' → ∃ m', m' < m ∧ W (i + 1) m' H') ∧ ∀ x H', J.yld i H x H' → g x (wipe σ vs) H' fun σ2 H2 => wipe σ2 vs = wipe σ vs ∧ tt σ2 H2 fun b H3 =>
        if b = true then tk σ2 H3 fun y H4 => tv σ2 H4 fun z H5 => ∃ kvs k, y = kV k ∧ H5 D = some (.dK kvs) ∧ kvs.length < sizeLine ∧ Nx (upd H5 D (.dK (putK kvs k z))) else Nx H3) := by
  refine ⟨fun i m H => m = n - i ∧ i ≤ n ∧ Pv i H, ⟨n, by simp, Nat.zero_le _, h0⟩, ?_⟩
  rintro i m H ⟨rfl, hi, p⟩
  have q := hG i H hi p
  by_cases hlt : i < n
  · exact .inr ⟨w.goes i H hlt q, Pv (i + 1), fun H' p' => ⟨n - (i + 1), by omega, rfl, hlt, p'⟩, fun x H' y => hs i x H H' hlt p (w.yields i H x H' hlt q y)⟩
  · have e : i = n := by omega
    subst e
    exact .inl ⟨w.stops H q, hd H p⟩
end Tp
set_option Elab.async false
set_option linter.all false
set_option maxRecDepth 100000
set_option maxHeartbeats 4000000
namespace Tp
open PySem PySem.Spec PyProof.Rows L2
abbrev Row := List (Str × Int)
def kvR (r : Row) : List (Key × V) := r.map fun p => (Sum.inr p.1, .int p.2)
def atR (r : Row) (x : Str) : Option Int := (r.find? fun p => decide (p.1 = x)).map (·.2)
def eqR (r s : Row) : Bool := r.length == s.length && r.all fun p => atR s p.1 == some p.2
theorem kvR_length (r : Row) : (kvR r).length = r.length := List.length_map _
theorem atR_cons {p : Str × Int} {r : Row} {x : Str} : atR (p :: r) x = if p.1 = x then some p.2 else atR r x := by
  by_cases e : p.1 = x
  · rw [if_pos e]; simp [atR, List.find?_cons, e]
  · rw [if_neg e]; simp [atR, List.find?_cons, e]
theorem val_kvR (x : Str) : ∀ r : Row, valV (kvR r) (Sum.inr x) = (atR r x).map V.int
  | [] => rfl
  | p :: r => by
    rw [atR_cons]
    by_cases e : p.1 = x
    · rw [if_pos e]
      exact valV_pos (p := (Sum.inr p.1, V.int p.2)) (by rw [e])
    · rw [if_neg e]
      exact (valV_neg (p := (Sum.inr p.1, V.int p.2)) (fun z => e (Sum.inr.inj z))).trans (val_kvR x r)
theorem hitsI {A : Around} {s : Shared} {b : Row} {vb : List (Key × Value)} (rb : KV (kvR b) vb) : ∀ {r : Row} {va : List (Key × Value)}, KV (kvR r) va → PySem.W.KeqHits A s vb va (r.all fun p => atR b p.1 == some p.2)
  | [], va, h => by cases h; exact .nil
  | p :: r, va, h => by
    cases h with
    | @cons _ q _ qs h1 t =>
      obtain ⟨e1, e2⟩ := h1
      obtain ⟨key, v⟩ := q
      have e1 : (Sum.inr p.1 : Key) = key := e1
      subst e1
      obtain ⟨tk, rfl⟩ := (show ∃ t, v = Value.int p.2 t from e2)
      have ih := hitsI (A := A) (s := s) rb (show KV (kvR r) qs from t)
      have rr : RelO (valV (kvR b) (Sum.inr p.1)) (valueAt vb (Sum.inr p.1)) := rb.val _
      rw [val_kvR] at rr
      rw [List.all_cons]
      cases e : atR b p.1 with
      | none =>
        rw [e] at rr
        exact .miss (RelO.none_of rr)
      | some j =>
        rw [e] at rr
        obtain ⟨y, hy, ry⟩ := RelO.some_of rr
        obtain ⟨t2, rfl⟩ := (show ∃ t, y = Value.int j t from ry)
        have : (some j == some p.2) = (p.2 == j) := by
          by_cases z : p.2 = j
          · subst z; simp
          · rw [beq_eq_false_iff_ne.mpr z, beq_eq_false_iff_ne.mpr fun q => z (Option.some.inj q).symm]
        rw [this]
        exact .hit hy (SeqAt.EqAt.int_int _ _ _ _) ih
def rEqDI : R2 := fun x y H Q => ∃ a b r s, x = .ref a ∧ y = .ref b ∧ H a = some (.dK (kvR r)) ∧ H b = some (.dK (kvR s)) ∧ Q (.bl (eqR r s)) H
section
variable {X : Cx}
theorem op_eqDI (hu : X.A.units < cLine) : OpR X (compareOp .Eq) rEqDI := by
  intro pins s σ H x y v u Q I rx ry h
  obtain ⟨a, b, r, t, rfl, rfl, ea, eb, q⟩ := h
  obtain rfl : v = Value.ref a := rx
  obtain rfl : u = Value.ref b := ry
  obtain ⟨_, ya, va, ra, da⟩ := (show ObjOk X.prog X.w H s.heap a (.dK (kvR r)) from I.hok a _ ea)
  obtain ⟨_, yb, vb, rb, db⟩ := (show ObjOk X.prog X.w H s.heap b (.dK (kvR t)) from I.hok b _ eb)
  refine PySem.W.keq_eq (knd := mixKind X.prog X.w) ya yb da db hu (fun _ => hitsI rb ra) (fin_bl I q ?_)
  unfold eqR
  rw [← ra.length, ← rb.length, kvR_length, kvR_length]
end
end Tp
set_option Elab.async false
set_option linter.all false
set_option maxRecDepth 100000
set_option maxHeartbeats 4000000
namespace Tp
open PySem PySem.Spec PyProof.Rows L2
def leS (a b : Str) : Prop := ¬ b.cps.toList < a.cps.toList
theorem leS_trans {a b c : Str} (h : leS a b) (k : leS b c) : leS a c := by
  have h : a.cps.toList ≤ b.cps.toList := h
  have k : b.cps.toList ≤ c.cps.toList := k
  exact List.le_trans h k
theorem leS_anti {a b : Str} (h : leS a b) (k : leS b a) : a = b := by
  have e : a.cps.toList = b.cps.toList := List.le_antisymm (show a.cps.toList ≤ b.cps.toList from h) k
  obtain ⟨⟨x⟩⟩ := a
  obtain ⟨⟨y⟩⟩ := b
  cases (show x = y from e)
  rfl
theorem rising_pair : ∀ (p : Str) (l : List Str), risingS p l = true → (p :: l).Pairwise leS
  | p, [], _ => by simp
  | p, x :: r, h => by
    obtain ⟨h1, h2⟩ := Bool.and_eq_true_iff.mp (show (!ltCps x.cps.toList p.cps.toList && risingS x r) = true from h)
    have h1 : leS p x := by
      rw [ltCps_eq] at h1
      have : decide (x.cps.toList < p.cps.toList) = false := by simpa using h1
      exact of_decide_eq_false this
    have ih := rising_pair x r h2
    refine List.pairwise_cons.mpr ⟨fun y hy => ?_, ih⟩
    rcases List.mem_cons.mp hy with rfl | hy
    · exact h1
    · exact leS_trans h1 ((List.pairwise_cons.mp ih).1 y hy)
theorem sorted_pair : ∀ (l : List Str), sortedS l = true → l.Pairwise leS
  | [], _ => .nil
  | x :: r, h => rising_pair x r h
theorem sorted_one {l m : List Str} (h : sortedS l = true) (k : sortedS m = true) (p : l.Perm m) : l = m :=
  p.eq_of_pairwise (fun a b _ _ h k => leS_anti h k) (sorted_pair l h) (sorted_pair m k)
end Tp
set_option Elab.async false
set_option linter.all false
set_option maxRecDepth 100000
set_option maxHeartbeats 4000000
namespace Tp
open PySem PySem.Spec PyProof.Rows L2
section
variable {X : Cx} {K : PySem.W.Frag}
end
end Tp
set_option Elab.async false
set_option linter.all false
set_option maxRecDepth 100000
set_option maxHeartbeats 4000000
namespace Tp
open PySem PySem.Spec PyProof.Rows L2
def SqB (b : Bool) (K : PySem.W.Frag) (H : Hp) (a : Addr) (xs : List V) : Prop := match b with
  | true => SqT K H a xs
  | false => SqL K H a xs
theorem SqT.same {K : PySem.W.Frag} {H H' : Hp} {a : Addr} {xs : List V} (S : Same H H') (h : SqT K H a xs) : SqT K H' a xs := by
  rcases h with (h | ⟨o, h⟩) | h
  · exact .inl (.inl (S _ _ h))
  · exact .inl (.inr ⟨o, S _ _ h⟩)
  · exact .inr h
theorem SqB.same {b : Bool} {K : PySem.W.Frag} {H H' : Hp} {a : Addr} {xs : List V} (S : Same H H') (h : SqB b K H a xs) : SqB b K H' a xs := by
  cases b with
  | true => exact SqT.same S h
  | false => exact Same.seq S h
def ItB (b : Bool) (K : PySem.W.Frag) (a : Addr) : It := match b with
  | true => Itt K a
  | false => Itl K a
theorem walk_B {b : Bool} {K : PySem.W.Frag} {a : Addr} {xs : List V} : Walk (ItB b K a) xs.length (fun H => SqB b K H a xs) (YAt xs) := by
  cases b with
  | true => exact walk_tup
  | false => exact walk_list
def iSeqB (K : PySem.W.Frag) (te : TE) : TI := fun σ H R => te σ H fun x H1 => ∃ (b : Bool) (a : Addr) (xs : List V), x = .ref a ∧ SqB b K H1 a xs ∧ R (ItB b K a) H1
section
variable {X : Cx} {K : PySem.W.Frag} {tg e : Expr} {te : TE}
theorem pi_B (hK : X.K = K) (he : PE X e te) : PI X tg e (iSeqB K te) := by
  subst hK
  refine ⟨fun pins s σ H R I h => ?_⟩
  refine thn (he.run pins s σ H _ I h) fun v s1 ⟨x, H1, I1, r1, b, a, xs, ex, hq, q⟩ => ?_
  subst ex
  cases r1
  cases b with
  | false =>
    obtain ⟨its, rv, p, hz⟩ := I1.list hq
    refine wpAny_pyIter_list p.isList ?_
    refine ⟨s1.heap.objs.size, [s1.heap.objs.size], _, _, H1, rfl, I1.kept (t' := s1.toks) fun b o e => Heap.get?_push_of_some _ e, turn_list a _, ⟨_, Heap.get?_push_size _ rfl, rfl, rfl⟩, fun b hb => ?_, q⟩
    have e : b = s1.heap.objs.size := by simpa using hb
    subst e
    exact I1.fpOk (Nat.le_refl _) (I1.hok.fresh (Nat.le_refl _))
  | true =>
    obtain ⟨its, rv, p, hz⟩ := I1.tuple hq
    refine wpAny_pyIter_tuple (show s1.heap.IsTuple a its.toArray from p) ?_
    refine ⟨s1.heap.objs.size, [s1.heap.objs.size], _, _, H1, rfl, I1.kept (t' := s1.toks) fun b o e => Heap.get?_push_of_some _ e, turn_tuple a _, ⟨_, Heap.get?_push_size _ rfl, rfl, rfl⟩, fun b hb => ?_, q⟩
    have e : b = s1.heap.objs.size := by simpa using hb
    subst e
    exact I1.fpOk (Nat.le_refl _) (I1.hok.fresh (Nat.le_refl _))
end
end Tp
set_option Elab.async false
set_option linter.all false
set_option maxRecDepth 100000
set_option maxHeartbeats 4000000
namespace Tp
open PySem PySem.Spec PyProof.Rows L2
section
variable {X : Cx} {x f : Str} {C fI : Addr} {fd : FuncData} {e : Expr} {te : TE} {p pos : Pos}
end
inductive TyA (K : PySem.W.Frag) (H : Hp) : V → Value → Prop
  | x {v : V} {t : Value} (h : TyX K H v t) : TyA K H v t
  | exc {a D dd : Addr} {fs : List (Str × V)} (e : H a = some (exo a D (some dd))) (ed : H dd = some (exd dd fs)) (C : ExcC K D) : TyA K H (.ref a) (.ref D)
theorem TyA.same {K : PySem.W.Frag} {H H' : Hp} (S : Same H H') {v : V} {t : Value} (h : TyA K H v t) : TyA K H' v t := by
  cases h with
  | x h => exact .x (ty_same S h)
  | exc e ed C => exact .exc (S _ _ e) (S _ _ ed) C
theorem kitA_of {X : Cx} {pins : List (Addr × Obj)} {σ : L2.St} {H : Hp} {s : Shared} {x : V} {u t : Value} (I : Inv X pins σ H s) (rx : RelV x u) (ty : TyA X.K H x t) : ∃ P : Heap → Prop, PySem.W.KitX X.K u t P ∧ P s.heap ∧ u ≠ .builtin "__main__.__loader__#opaque" := by
  cases ty with
  | x h => exact kit_of I rx h
  | @exc a D dd fs e ed C =>
    cases rx
    obtain ⟨t1, he⟩ := exo_at I.hok e
    obtain ⟨mA, hns, hr⟩ := exd_at I.hok ed
    obtain ⟨od, ho, hl⟩ := lookIn_ns hns
    refine ⟨_, kitx_excD (x := a) (ox := _) (od := some od) C, ⟨he, rfl, rfl, ho⟩, fun z => nomatch z⟩
def rIsA (K : PySem.W.Frag) : List V → Hp → VK → Prop := fun xs H Q => ∃ (x c : V) (t u : Value) (b : Bool), xs = [x, c] ∧ ClsV c u ∧ TyA K H x t ∧ PySem.W.kitOne K t u = some b ∧ Q (.bl b) H
theorem call_isA {X : Cx} {K : PySem.W.Frag} (hK : X.K = K) : CallR X (.builtin "isinstance") (rIsA K) := by
  subst hK
  intro pins s σ H xs us Q I r h
  obtain ⟨x, c, t, u, b, rfl, k, ty, e, q⟩ := h
  obtain ⟨u1, u2, rfl, r1, r2⟩ := vals2 r
  have e2 := k.eq r2
  subst e2
  obtain ⟨P, Z, p, hx⟩ := kitA_of I r1 ty
  exact PySem.W.kia_one Z I.kIn p e hx fun tk => ⟨.bl b, H, I.tok tk, rfl, q⟩
theorem ty_sqL {K : PySem.W.Frag} {H : Hp} {a : Addr} {xs : List V} (h : SqL K H a xs) : TyX K H (.ref a) (.type "list") := by
  rcases h with (h | ⟨o, h⟩) | ⟨o, its, n, e, c, _⟩
  · exact .base (.lst h)
  · exact .base (.frz h)
  · exact .kList e c
theorem ty_sqT {K : PySem.W.Frag} {H : Hp} {a : Addr} {xs : List V} (h : SqT K H a xs) : TyX K H (.ref a) (.type "tuple") := by
  rcases h with (h | ⟨o, h⟩) | ⟨o, its, n, e, c, _⟩
  · exact .base (.tup h)
  · exact .fTuple h
  · exact .kTuple e c
end Tp
set_option Elab.async false
set_option linter.all false
set_option maxRecDepth 100000
set_option maxHeartbeats 4000000
namespace Tp
open PySem PySem.Spec PyProof.Rows L2
def tyD : PyData → Value
  | .none => .type "NoneType"
  | .bool _ => .type "bool"
  | .int _ => .type "int"
  | .str _ => .type "str"
  | .list _ => .type "list"
  | .tuple _ => .type "tuple"
  | .dict _ => .type "dict"
theorem dq_ty {K : PySem.W.Frag} {H : Hp} {v : V} {d : PyData} (h : Dq K H v d) : TyX K H v (tyD d) := by
  cases h with
  | non => exact .base .non
  | bl b => exact .base (.bl b)
  | int i => exact .base (.int i)
  | str x => exact .base (.str x)
  | lst s _ => exact ty_sqL s
  | tup s _ => exact ty_sqT s
  | dic r _ _ =>
    rcases r with r | ⟨o, r⟩
    · exact .base (.dK r)
    · exact .fDict r
def isLT : PyData → Bool
  | .list _ => true
  | .tuple _ => true
  | _ => false
def isI : PyData → Bool
  | .int _ => true
  | .bool _ => true
  | _ => false
def isB : PyData → Bool
  | .bool _ => true
  | _ => false
def isDc : PyData → Bool
  | .dict _ => true
  | _ => false
section
variable {K : PySem.W.Frag} (d : PyData)
theorem kit_int : PySem.W.kitOne K (tyD d) (.type "int") = some (isI d) := by
  cases d <;> (refine kit_ty ?_; first | (show _ = some true; decide +kernel) | (show _ = some false; decide +kernel))
theorem kit_bool : PySem.W.kitOne K (tyD d) (.type "bool") = some (isB d) := by
  cases d <;> (refine kit_ty ?_; first | (show _ = some true; decide +kernel) | (show _ = some false; decide +kernel))
theorem kit_dict : PySem.W.kitOne K (tyD d) (.type "dict") = some (isDc d) := by
  cases d <;> (refine kit_ty ?_; first | (show _ = some true; decide +kernel) | (show _ = some false; decide +kernel))
theorem kit_list : PySem.W.kitOne K (tyD d) (.type "list") = some (match d with | .list _ => true | _ => false) := by
  cases d <;> (refine kit_ty ?_; first | (show _ = some true; decide +kernel) | (show _ = some false; decide +kernel))
theorem kit_tuple : PySem.W.kitOne K (tyD d) (.type "tuple") = some (match d with | .tuple _ => true | _ => false) := by
  cases d <;> (refine kit_ty ?_; first | (show _ = some true; decide +kernel) | (show _ = some false; decide +kernel))
theorem kit_lt : PySem.W.kitAny K (tyD d) [.type "list", .type "tuple"] = some (isLT d) := by
  have h1 := kit_list (K := K) d
  have h2 := kit_tuple (K := K) d
  unfold PySem.W.kitAny
  rw [h1]
  cases d with
  | list _ => rfl
  | tuple _ => show PySem.W.kitAny K _ [.type "tuple"] = _; unfold PySem.W.kitAny; rw [h2]; rfl
  | _ => show PySem.W.kitAny K _ [.type "tuple"] = _; unfold PySem.W.kitAny; rw [h2]; show PySem.W.kitAny K _ [] = _; unfold PySem.W.kitAny; rfl
end
theorem cls_lt : Paired ClsV [.ty "list", .ty "tuple"] [.type "list", .type "tuple"] := .cons (.ty _) (.cons (.ty _) .nil)
theorem dqAll_len {K : PySem.W.Frag} {H : Hp} : ∀ {vs : List V} {ds : List PyData}, DqAll K H vs ds → vs.length = ds.length
  | _, _, .nil => rfl
  | _, _, .cons _ t => congrArg Nat.succ (dqAll_len t)
theorem dqAll_get {K : PySem.W.Frag} {H : Hp} : ∀ {vs : List V} {ds : List PyData}, DqAll K H vs ds → ∀ {i : Nat} {v : V}, vs[i]? = some v → ∃ d, ds[i]? = some d ∧ Dq K H v d
  | _, _, .cons a t, 0, v, h => ⟨_, rfl, by cases h; exact a⟩
  | _, _, .cons a t, i + 1, v, h => dqAll_get t h
def itemsD : PyData → List PyData
  | .list xs => xs
  | .tuple xs => xs
  | _ => []
def isTup : PyData → Bool
  | .tuple _ => true
  | _ => false
theorem dq_seq {K : PySem.W.Frag} {H : Hp} {v : V} {d : PyData} (h : Dq K H v d) (l : isLT d = true) : ∃ a xs, v = .ref a ∧ SqB (isTup d) K H a xs ∧ DqAll K H xs (itemsD d) := by
  cases h with
  | lst s r => exact ⟨_, _, rfl, s, r⟩
  | tup s r => exact ⟨_, _, rfl, s, r⟩
  | _ => cases l
theorem dqAll_app {K : PySem.W.Frag} {H : Hp} : ∀ {vs ws : List V} {ds es : List PyData}, DqAll K H vs ds → DqAll K H ws es → DqAll K H (vs ++ ws) (ds ++ es)
  | _, _, _, _, .nil, h => h
  | _, _, _, _, .cons a t, h => .cons a (dqAll_app t h)
theorem sqB_len {b : Bool} {K : PySem.W.Frag} {H : Hp} {a : Addr} {xs : List V} (h : SqB b K H a xs) : SqL K H a xs ∨ SqT K H a xs := by
  cases b with
  | true => exact .inr h
  | false => exact .inl h
def FitQ (n w : Nat) (d : PyData) : Prop := d.showable = true ∧ d.depth ≤ n ∧ d.shown.length ≤ w
theorem FitQ.up {n w m v : Nat} {d : PyData} (h : FitQ n w d) (h1 : n ≤ m) (h2 : w ≤ v) : FitQ m v d := ⟨h.1, Nat.le_trans h.2.1 h1, Nat.le_trans h.2.2 h2⟩
theorem fitq_of {n : Nat} {d : PyData} (h : Fit n d) : FitQ n (wt d) d := let ⟨a, _, b, c⟩ := fit_ok n d h; ⟨a, b, c⟩
theorem fitq_int {n : Nat} {i : Int} (h : i.natAbs < 10 ^ 40) : FitQ n 50 (.int i) := by
  have := fitq_of (n := n) (d := .int i) (.int h)
  simpa [wt] using this
theorem fitq_str {n m : Nat} {z : Str} (h : Sm m z) : FitQ n (10 * m + 2) (.str z) := by
  have := fitq_of (n := n) (d := .str z) (h.fit)
  refine this.up (Nat.le_refl _) ?_
  simp only [wt]
  have := h.1
  omega
theorem fitq_bool {n : Nat} (b : Bool) : FitQ n 5 (.bool b) := by
  have := fitq_of (n := n) (d := .bool b) (.bl b)
  simpa [wt] using this
theorem fitq_none {n : Nat} : FitQ n 4 .none := by
  have := fitq_of (n := n) (d := .none) .non
  simpa [wt] using this
theorem fitq_all {n w : Nat} : ∀ xs : List PyData, (∀ x ∈ xs, FitQ n w x) → PyData.showableAll xs = true ∧ PyData.depthAll xs ≤ n ∧ ((PyData.shownAll xs).map (·.length)).sum + 2 * (PyData.shownAll xs).length ≤ xs.length * (w + 2)
  | [], _ => ⟨by simp only [PyData.showableAll], by simp only [PyData.depthAll]; omega, by simp [PyData.shownAll]⟩
  | x :: xs, h => by
    obtain ⟨a1, a3, a4⟩ := h x (List.mem_cons_self ..)
    obtain ⟨b1, b3, b4⟩ := fitq_all xs fun y hy => h y (List.mem_cons_of_mem _ hy)
    refine ⟨by simp only [PyData.showableAll, a1, b1, Bool.and_self], by simp only [PyData.depthAll]; omega, ?_⟩
    simp only [PyData.shownAll, List.map_cons, List.sum_cons, List.length_cons]
    rw [Nat.add_mul xs.length 1 (w + 2), Nat.one_mul]
    omega
theorem fitq_list {n w : Nat} {xs : List PyData} (h : ∀ x ∈ xs, FitQ n w x) : FitQ (n + 1) (xs.length * (w + 2) + 3) (.list xs) := by
  obtain ⟨b1, b3, b4⟩ := fitq_all xs h
  refine ⟨by simp only [PyData.showable, b1], by simp only [PyData.depth]; omega, ?_⟩
  simp only [PyData.shown]
  exact Nat.le_trans (listText_len_le _) (by omega)
theorem fitq_tuple {n w : Nat} {xs : List PyData} (h : ∀ x ∈ xs, FitQ n w x) : FitQ (n + 1) (xs.length * (w + 2) + 3) (.tuple xs) := by
  obtain ⟨b1, b3, b4⟩ := fitq_all xs h
  refine ⟨by simp only [PyData.showable, b1], by simp only [PyData.depth]; omega, ?_⟩
  simp only [PyData.shown]
  exact Nat.le_trans (tupleText_len_le _) (by omega)
theorem FitQ.ok {n w : Nat} {d : PyData} (h : FitQ n w d) (hn : n ≤ 60) (hw : w ≤ 16000000) : d.showable = true ∧ d.depth ≤ 60 ∧ d.shown.length ≤ sizeLine := ⟨h.1, Nat.le_trans h.2.1 hn, Nat.le_trans h.2.2 (Nat.le_trans hw (by decide))⟩
end Tp
set_option Elab.async false
set_option linter.all false
set_option maxRecDepth 100000
set_option maxHeartbeats 4000000
namespace Tp
open PySem PySem.Spec PyProof.Rows L2
def gSeqB (K : PySem.W.Frag) (n : Nat) (t : TGs) : TG := fun v σ H Q => ∃ (b : Bool) (a : Addr) (xs : List V), v = .ref a ∧ SqB b K H a xs ∧ xs.length = n ∧ t xs σ H Q
section
variable {X : Cx} {K : PySem.W.Frag} {es : List Expr} {k : Nat} {t : TGs} {n : Nat} {pos : Pos}
theorem pg_B (hK : X.K = K) (hc : X.calm = true) (h : PGs X es t) (hn : (assignEach es X.env).length = n := by rfl) (hst : (assignEach es X.env).findIdx? (·.1) = none := by rfl) : PG X (.Tuple es k pos) (gSeqB K n t) := by
  subst hK
  refine ⟨fun pins s σ H v u Q I r hw => ?_⟩
  obtain ⟨b, a, xs, e1, hq, hl, hw⟩ := hw
  cases b with
  | true => exact (pg_tup hc h hn hst).run pins s σ H v u Q I r ⟨a, xs, e1, hq, hl, hw⟩
  | false => exact (pg_unl hc h hn hst).run pins s σ H v u Q I r ⟨a, xs, e1, hq, hl, hw⟩
end
section
variable {X : Cx} {CX : CXT} {k : Nat} {f : Addr} {fd : FuncData} {ps ks : List Str} {sp : Sp} {E : XK} {x : Str} {p pos : Pos} {tk : TA} {kws : List Keyword} {g : List Value → List Value → List Value} {gV : List V → List V → List V}
end
section
variable {M : Model} {A : Around} {E : Value → Shared → Prop} {s : Shared} {env : Env}
end
section
variable {X : Cx}
end
end Tp
set_option Elab.async false
set_option linter.all false
set_option maxRecDepth 100000
set_option maxHeartbeats 2000000
namespace Tp
open PySem PySem.Spec PyProof.Rows L2 He
def obsK (fn : List DefD) (ex : List (PySem.W.Frag → Bool)) (K : PySem.W.Frag) : AlD := ((ex.all fun f => f K) && fn.all fun d => d.ok K, fn.map fun d => fnW K d.at_)
def SaysB (fn : List DefD) (ex : List (PySem.W.Frag → Bool)) (K : PySem.W.Frag) : Prop := obsK fn ex K = valD fn
def frL {α : Type} : List Addr → (List Addr → α) → α
  | [], k => k []
  | a :: r, k => HandSHeadRun.frNat a fun a => frL r fun r => k (a :: r)
theorem frL_eq {α : Type} : ∀ (l : List Addr) (k : List Addr → α), frL l k = k l
  | [], _ => rfl
  | a :: r, k => by
    show HandSHeadRun.frNat a (fun a => frL r fun r => k (a :: r)) = _
    rw [HandSHeadRun.frNat_eq, frL_eq r]
def frF {α : Type} (g : Addr → Option Obj) : List Addr → (PySem.W.Frag → α) → α
  | [], k => k []
  | a :: r, k => match g a with
    | some ⟨c, d, dt, sl⟩ => HandSHeadRun.frNat a fun a => frF g r fun K => k ((a, ⟨c, d, dt, sl⟩) :: K)
    | none => frF g r k
theorem frF_eq {α : Type} (g : Addr → Option Obj) : ∀ (l : List Addr) (k : PySem.W.Frag → α), frF g l k = k (frG g l)
  | [], _ => rfl
  | a :: r, k => by
    unfold frF frG
    cases e : g a with
    | none =>
      rw [List.filterMap_cons, e]
      exact frF_eq g r k
    | some o =>
      rw [List.filterMap_cons, e]
      show HandSHeadRun.frNat a (fun a => frF g r fun K => k ((a, o) :: K)) = _
      rw [HandSHeadRun.frNat_eq, frF_eq g r] <;> rfl
def upG (g : Addr → Option Obj) (a : Addr) : List Addr := match g a with
  | some ⟨_, _, .cls cd, _⟩ => cd.ns :: cd.mro.flatMap refV
  | _ => []
def outG (g : Addr → Option Obj) (a : Addr) : List Addr := match g a with
  | some o => refsD o
  | none => []
def withAs {α : Type} (g : Addr → Option Obj) (cs : List Str) (ds : List (Str × Option Str)) (k : List Addr → α) : α :=
  frF g [mainGlobals] fun K0 => frL (cs.map (ga K0)) fun as1 => frL (as1.flatMap (upG g)) fun as2 => frL (as2.flatMap (upG g)) fun as3 => frL (mainGlobals :: cStatics :: (as1 ++ (as2 ++ as3))).eraseDups fun as4 =>
  frF g as4 fun K1 => frL (ds.map (fAd K1)) fun fs => frL (fs.flatMap (outG g)) fun c1 => frL (c1.flatMap (outG g)) fun c2 => frL (as4 ++ (fs ++ (c1 ++ c2))).eraseDups k
theorem withAs_eq {α : Type} {g : Addr → Option Obj} {cs : List Str} {ds : List (Str × Option Str)} (k : List Addr → α) : withAs g cs ds k = k (withAs g cs ds id) := by
  unfold withAs
  simp only [frF_eq, frL_eq, id]
def AllP {α : Type} (p : α → Prop) : List α → Prop
  | [] => True
  | e :: r => p e ∧ AllP p r
section
variable {fn : List DefD} {ex : List (PySem.W.Frag → Bool)} {K : PySem.W.Frag}
theorem SaysB.factP {exs : List (List (PySem.W.Frag → Bool))} (c : SaysB fn exs.flatten K) (i j : Nat) {e : List (PySem.W.Frag → Bool)} {f : PySem.W.Frag → Bool} (h1 : exs[i]? = some e) (h2 : e[j]? = some f) : f K = true := by
  have c1 := (ba (show ((exs.flatten.all fun f => f K) && fn.all fun d => d.ok K) = true from congrArg (fun z : AlD => z.1) c)).1
  exact List.all_eq_true.mp c1 f (List.mem_flatten.mpr ⟨e, List.mem_of_getElem? h1, List.mem_of_getElem? h2⟩)
theorem SaysB.def_ (c : SaysB fn ex K) (i : Nat) {d : DefD} (h : fn[i]? = some d) : ∃ fd, FunD K d.name d.qual d.params d.body d.scope (d.dvs K) (d.kws K) (fAd K d.at_) fd := by
  have c2 := (ba (show ((ex.all fun f => f K) && fn.all fun d => d.ok K) = true from congrArg (fun z : AlD => z.1) c)).2
  have e : fn.map (fun d => fnW K d.at_) = fn.map DefD.val := congrArg (fun z : AlD => z.2) c
  have e2 : (fn.map fun d => fnW K d.at_)[i]? = (fn.map DefD.val)[i]? := by rw [e]
  rw [List.getElem?_map, List.getElem?_map, h] at e2
  exact DefD.funD (Option.some.inj e2) (List.all_eq_true.mp c2 d (List.mem_of_getElem? h))
theorem fun_of {x qual : Str} {st : Stmt} {f : Addr} {fd : FuncData} {kws : List (Str × V)} (F : FunD K x qual (defArgs st) (defBody st) (defScope st) [] kws f fd) : Fun K x qual st f fd := by
  obtain ⟨⟨oc, od, dV, kV, doc, pm, an, cdv, ct, osl, rfl, lk, hc, hd, _⟩, kp⟩ := F
  rcases hd with ⟨_, rfl⟩ | ⟨ne, _⟩
  · exact fun_mk lk hc kp
  · exact (ne rfl).elim
def clsB (K : PySem.W.Frag) (C : Addr) (f : Str) (id : String) : Bool := match PySem.W.findCls K (.ref C) (.type "type") f with
  | some (.val (.builtin n)) => decide (n = id)
  | _ => false
theorem clsB_ok {C : Addr} {f : Str} {id : String} (h : clsB K C f id = true) : PySem.W.findCls K (.ref C) (.type "type") f = some (.val (.builtin id)) := by
  unfold clsB at h
  split at h
  · rename_i n e
    rw [e, of_decide_eq_true h]
  · cases h
end
end Tp
set_option Elab.async false
set_option linter.all false
set_option maxRecDepth 100000
set_option maxHeartbeats 4000000
namespace Tp
open PySem PySem.Spec PyProof.Rows L2 LamX
section
variable {P : Program} {w : World} {K : PySem.W.Frag} {mg mb : Str → Option Value} {CX : CXT} {k : Nat} {fa a : Addr} {fd : FuncData} {x : Str} {sp : Sp} {s1 : Shared} {vs : List Value} {ns : List Int} {cs : List (Addr × Addr)}
theorem code_hid {h : Heap} {H : Hp} {c Q : Addr} (C : PySem.W.CodeHd h c Q) (far : ∀ o us, h.get? c = some o → o.data = .fields us → us ≠ #[] → H c = none) : PySem.W.CodeHd (hidT h H) c Q := by
  obtain ⟨ob, fs, n1, n2, n3, n4, n5, n6, n7, at_, kind, dat, row, rest⟩ := C
  have ne : fs ≠ #[] := fun z => by rw [z] at row; simp at row
  exact ⟨ob, fs, n1, n2, n3, n4, n5, n6, n7, hidT_get at_ (far ob fs at_ dat ne), kind, dat, row, rest⟩
theorem mod_hid {h : Heap} {H : Hp} {mg : Str → Option Value} {Q : Addr} (hns : h.Ns mainGlobals mg) (tb : h.get? Q = some { cls := .none, data := .fields #[] })
    (m : ∃ (bm : Addr) (ob : Obj), mg "__builtins__" = some (.ref bm) ∧ bm ≠ builtinsNs ∧ h.get? bm = some ob ∧ ob.cls = .type "module" ∧ ob.dict = some builtinsNs ∧ ob.data = .plain) (far : ∀ b o, h.get? b = some o → o.data = .plain → H b = none) : (hidT h H).BuiltinsAt mg Q := by
  obtain ⟨mo, om, name, apart, there, cl, di, pl⟩ := m
  refine ⟨mo, om, name, apart, ?_, ?_, hidT_get there (far mo om there pl), cl, di, pl⟩
  · rintro rfl
    obtain ⟨_, _, _, e, dct, _⟩ := hns
    have := (Option.some.inj (e.symm.trans there)) ▸ dct
    rw [pl] at this
    cases this
  · rintro rfl
    have := (Option.some.inj (tb.symm.trans there)).symm ▸ pl
    cases this
theorem law_coreST (KX : K.In s1.heap) (hns : s1.heap.Ns mainGlobals mg) (hb : s1.heap.Ns builtinsNs mb) (hbb : ∀ x : Str, x ≠ "__name__" → mb x = bootBuiltins x)
    (hlim : s1.heap.NoLimit) (hg : s1.gens = #[]) (hr : Room k callerA)
    (hT : ∀ p ∈ cs, s1.heap.get? p.2 = some { cls := .none, data := .fields #[] }) (C : ∀ p ∈ cs, PySem.W.CodeHd s1.heap p.1 p.2)
    (hbm : ∃ (bm : Addr) (ob : Obj), mg "__builtins__" = some (.ref bm) ∧ bm ≠ builtinsNs ∧ s1.heap.get? bm = some ob ∧ ob.cls = .type "module" ∧ ob.dict = some builtinsNs ∧ ob.data = .plain)
    (F : ∀ base : Heap, K.In base → base.Ns mainGlobals mg → (∀ p ∈ cs, TabB base mg p.1 p.2) → FnG P w K mg base CX k fa fd [x] sp) (hbind : ∀ (s : Shared) (u : Value), BindsTo s fd ⟨[u], []⟩ [(x, u)])
    (hCX : ∀ H e s', ¬ CX [] H s1 (fun _ _ _ => False) e s') {H : Hp} (only : ∀ b, H b = none ∨ b ∈ cs.map (·.2) ∨ ∃ o u, H b = some (.frz o u)) (hH : ∀ p ∈ cs, H p.2 = some (.tbl #[])) (hsp : sp [.ref a] H (fun v _ => v = .bl true) fun _ _ _ => False)
    (hok : HOk P w H s1.heap) (hA : ∀ b, H b ≠ none → K.lookup b = none ∧ b ≠ mainGlobals ∧ b ≠ builtinsNs ∧ b ≠ cStatics)
    (hD : ∀ b o, H b ≠ none → s1.heap.get? b = some o → o.data ≠ .plain ∧ ∀ us, o.data = .fields us → us = #[]) :
    codeAny (model P w) callerA (.call (.ref fa) ⟨[.ref a], []⟩) (LawEnd s1) s1 := by
  have ns : ∀ {b : Addr} {m : Str → Option Value}, H b = none → s1.heap.Ns b m → (hidT s1.heap H).Ns b m := by
    rintro b m n ⟨o, es, ep, e, d, r⟩
    exact ⟨o, es, ep, hidT_get e n, d, r⟩
  have n1 : H mainGlobals = none := Classical.byContradiction fun q => (hA _ q).2.1 rfl
  have n2 : H builtinsNs = none := Classical.byContradiction fun q => (hA _ q).2.2.1 rfl
  have n3 : H cStatics = none := Classical.byContradiction fun q => (hA _ q).2.2.2 rfl
  have inK : K.In (hidT s1.heap H) := by
    intro b o e
    refine hidT_get (KX b o e) (Classical.byContradiction fun q => ?_)
    rw [(hA b q).1] at e
    cases e
  obtain ⟨mc, l1, l2⟩ := hlim
  have M : Mod K mg (hidT s1.heap H) := ⟨inK, ns n1 hns, ⟨mb, ns n2 hb, hbb⟩, ⟨mc, ns n3 l1, l2⟩⟩
  have free_of : ∀ b o, s1.heap.get? b = some o → (o.data = .plain ∨ ∃ us, o.data = .fields us ∧ us ≠ #[]) → H b = none := fun b o e k => Classical.byContradiction fun q => by
    obtain ⟨d1, d2⟩ := hD b o q e
    rcases k with k | ⟨us, k, ne⟩
    · exact d1 k
    · exact ne (d2 us k)
  have TB : ∀ p ∈ cs, TabB (hidT s1.heap H) mg p.1 p.2 := fun p hp => {
    code := code_hid (C p hp) fun o us e dt ne => free_of p.1 o e (.inr ⟨us, dt, ne⟩)
    bm := mod_hid hns (hT p hp) hbm fun b o e pl => free_of b o e (.inl pl)
    gP := fun z => by
      obtain ⟨_, _, _, e, dct, _⟩ := hns
      have := (Option.some.inj ((z ▸ e).symm.trans (hT p hp))) ▸ dct
      cases this }
  have none_in : ∀ b : Addr, b ∉ ([] : List Addr) := fun _ z => nomatch z
  have e0 : Env0 P w K mg (hidT s1.heap H) callerA [] s1 H := ⟨rfl, M, fun _ _ e => of_hidT e, Nat.le_of_eq (hidT_size _ _), trivial, fun b z => (none_in b z).elim, hok, .of_eq hg⟩
  refine codeAny_mono ((F _ inK (ns n1 hns) TB).go callerA [] s1 H ⟨[.ref a], []⟩ [.ref a] [.ref a] _ _ hr rfl e0 (hbind s1 (.ref a)) (.cons rfl .nil) hsp) fun r s' h => ?_
  cases r with
  | error e => exact (hCX H e s' h).elim
  | ok fl =>
    cases fl with
    | ret u =>
      obtain ⟨v, H', os, bare, un, hok', rv, q⟩ := h
      obtain rfl : v = .bl true := q
      obtain rfl : u = Value.bool true := rv
      have rest : ∀ b o, (∀ p ∈ cs, p.2 ≠ b) → s1.heap.get? b = some o → s'.heap.get? b = some o := fun b o far e => by
        rcases only b with z | z | ⟨ob, xs, z⟩
        · exact un.keep b o e z (none_in b) (none_in b)
        · obtain ⟨p, hp, ep⟩ := List.mem_map.mp z
          exact absurd ep (far p hp)
        · have e2 := (hok' b _ (un.frzs b ob _ z)).1
          have e1 := (hok b _ z).1
          rw [e] at e1
          cases e1
          exact e2
      have tabs : ∀ p ∈ cs, ∃ vs', s'.heap.get? p.2 = some { cls := .none, data := .fields vs' } := fun p hp => (un.tbls p.2 #[] (hH p hp)).elim fun more z => ⟨_, hok' p.2 _ z⟩
      have split : ∀ b, (∃ p ∈ cs, p.2 = b) ∨ ∀ p ∈ cs, p.2 ≠ b := fun b => Classical.byCases .inl fun n => .inr fun p hp e => n ⟨p, hp, e⟩
      refine ⟨rfl, { old := fun b o e => ?_, there := fun b o e => ?_ }, os, bare⟩
      · rcases split b with ⟨p, hp, rfl⟩ | far
        · obtain ⟨vs', hv⟩ := tabs p hp
          have eo : o = { cls := .none, data := .fields #[] } := Option.some.inj (e.symm.trans (hT p hp))
          subst eo
          exact .inr (.inl ⟨((C p hp).tab e).isCodeTable, rfl, #[], vs', rfl, by simpa using hv⟩)
        · exact .inl (rest b o far e)
      · rcases split b with ⟨p, hp, rfl⟩ | far
        · exact (tabs p hp).elim fun vs' hv => ⟨_, hv⟩
        · exact ⟨o, rest b o far e⟩
    | _ => exact h.elim
theorem law_endST (KX : K.In s1.heap) (hns : s1.heap.Ns mainGlobals mg) (hb : s1.heap.Ns builtinsNs mb) (hbb : ∀ x : Str, x ≠ "__name__" → mb x = bootBuiltins x) (hsys : ∃ mm, s1.heap.Ns sysModules mm)
    (hlim : s1.heap.NoLimit) (hg : s1.gens = #[]) (ha : s1.heap.get? a = some { cls := .type "list", data := .seq vs.toArray }) (hi : IntsAre vs ns) (hl : ns.length ≤ sizeLine) (hr : Room k callerA)
    (hT : ∀ p ∈ cs, s1.heap.get? p.2 = some { cls := .none, data := .fields #[] }) (nT : ∀ p ∈ cs, K.lookup p.2 = none) (C : ∀ p ∈ cs, PySem.W.CodeHd s1.heap p.1 p.2)
    (hbm : ∃ (bm : Addr) (ob : Obj), mg "__builtins__" = some (.ref bm) ∧ bm ≠ builtinsNs ∧ s1.heap.get? bm = some ob ∧ ob.cls = .type "module" ∧ ob.dict = some builtinsNs ∧ ob.data = .plain)
    (F : ∀ base : Heap, K.In base → base.Ns mainGlobals mg → (∀ p ∈ cs, TabB base mg p.1 p.2) → FnG P w K mg base CX k fa fd [x] sp) (hbind : ∀ (s : Shared) (u : Value), BindsTo s fd ⟨[u], []⟩ [(x, u)])
    (hCX : ∀ H e s', ¬ CX [] H s1 (fun _ _ _ => False) e s')
    (hsp : ∀ H : Hp, Sys K H → (∀ p ∈ cs, H p.2 = some (.tbl #[])) → SqL K H a (ns.map V.int) → sp [.ref a] H (fun v _ => v = .bl true) fun _ _ _ => False) :
    codeAny (model P w) callerA (.call (.ref fa) ⟨[.ref a], []⟩) (LawEnd s1) s1 := by
  have rv := vals_ints hi
  obtain ⟨mm, om, es, ep, hm, dm, _⟩ := hsys
  have nd : ∀ {b : Addr} {m : Str → Option Value}, s1.heap.Ns b m → a ≠ b := by
    rintro b m ⟨o, es, ep, e, d, _⟩ rfl
    rw [ha] at e
    cases e
    cases (d : Data.seq vs.toArray _ = Data.dict es ep)
  have nm : a ≠ sysModules := by
    rintro rfl
    rw [ha] at hm
    cases hm
    cases (dm : Data.seq vs.toArray _ = Data.dict es ep)
  have isT : ∀ b : Addr, b ∈ cs.map (·.2) → s1.heap.get? b = some { cls := .none, data := .fields #[] } := fun b hb => by
    obtain ⟨p, hp, e⟩ := List.mem_map.mp hb
    rw [← e]
    exact hT p hp
  have notT : ∀ {b : Addr} {m : Str → Option Value}, s1.heap.Ns b m → b ∉ cs.map (·.2) := by
    rintro b m ⟨o, es, ep, e, d, _⟩ hb
    rw [isT b hb] at e
    cases e
    cases d
  have sT : sysModules ∉ cs.map (·.2) := fun z => by
    rw [isT _ z] at hm
    cases hm
    cases dm
  have aT : a ∉ cs.map (·.2) := fun z => by
    rw [isT _ z] at ha
    have z' := congrArg Obj.data (Option.some.inj ha)
    cases z'
  have memT : ∀ p ∈ cs, p.2 ∈ cs.map (·.2) := fun p hp => List.mem_map.mpr ⟨p, hp, rfl⟩
  have kT : ∀ b, b ∈ cs.map (·.2) → K.lookup b = none := fun b hb => by
    obtain ⟨p, hp, e⟩ := List.mem_map.mp hb
    rw [← e]
    exact nT p hp
  have farT : ∀ b, b ∈ cs.map (·.2) → b ≠ mainGlobals ∧ b ≠ builtinsNs ∧ b ≠ cStatics := fun b hb => by
    obtain ⟨mc, l1, _⟩ := hlim
    exact ⟨fun e => notT hns (by rw [← e]; exact hb), fun e => notT ‹s1.heap.Ns builtinsNs mb› (by rw [← e]; exact hb), fun e => notT l1 (by rw [← e]; exact hb)⟩
  -- sys.modules, the tables
  have one : ∃ H1 : Hp, (∀ b, H1 b ≠ none → b = sysModules ∨ b ∈ cs.map (·.2)) ∧ Sys K H1 ∧ (∀ p ∈ cs, H1 p.2 = some (.tbl #[])) ∧ (∀ b, H1 b = none ∨ b ∈ cs.map (·.2) ∨ ∃ o u, H1 b = some (.frz o u)) ∧ HOk P w H1 s1.heap ∧ (∀ b, H1 b ≠ none → K.lookup b = none) := by
    cases hk : K.lookup sysModules with
    | some o =>
      have e := KX _ o hk
      rw [hm] at e
      cases e
      refine ⟨fun b => if b ∈ cs.map (·.2) then some (.tbl #[]) else none, fun b z => .inr (Classical.byContradiction fun n => z (if_neg n)), .inl ⟨_, _, _, hk, dm⟩, fun p hp => if_pos (memT p hp), fun b => ?_, fun b u z => ?_, fun b z => kT b (Classical.byContradiction fun n => z (if_neg n))⟩
      · by_cases h : b ∈ cs.map (·.2)
        · exact .inr (.inl h)
        · exact .inl (if_neg h)
      · by_cases h : b ∈ cs.map (·.2)
        · have z' := (if_pos h).symm.trans z
          cases z'
          exact isT b h
        · have z' := (if_neg h).symm.trans z
          cases z'
    | none =>
      refine ⟨fun b => if b = sysModules then some (.frz om (.ext fun _ => True)) else if b ∈ cs.map (·.2) then some (.tbl #[]) else none, fun b z => ?_, .inr ⟨hk, _, _, if_pos rfl⟩, fun p hp => (if_neg (fun e => sT (by rw [← e]; exact memT p hp))).trans (if_pos (memT p hp)), fun b => ?_, fun b u z => ?_, fun b z => ?_⟩
      · by_cases h1 : b = sysModules
        · exact .inl h1
        · exact .inr (Classical.byContradiction fun n => z ((if_neg h1).trans (if_neg n)))
      · by_cases h1 : b = sysModules
        · exact .inr (.inr ⟨_, _, if_pos h1⟩)
        · by_cases h2 : b ∈ cs.map (·.2)
          · exact .inr (.inl h2)
          · exact .inl ((if_neg h1).trans (if_neg h2))
      · by_cases h1 : b = sysModules
        · have z' := (if_pos h1).symm.trans z
          cases z'
          subst h1
          exact ⟨hm, trivial, ⟨_, hm⟩, fun _ _ _ _ => trivial⟩
        · have z1 := (if_neg h1).symm.trans z
          by_cases h2 : b ∈ cs.map (·.2)
          · have z' := (if_pos h2).symm.trans z1
            cases z'
            exact isT b h2
          · have z' := (if_neg h2).symm.trans z1
            cases z'
      · by_cases h1 : b = sysModules
        · rw [h1]; exact hk
        · exact kT b (Classical.byContradiction fun n => z ((if_neg h1).trans (if_neg n)))
  obtain ⟨H1, at1, sy, tb1, on1, ok1, kn1⟩ := one
  have h1a : H1 a = none := Classical.byContradiction fun q => (at1 a q).elim nm aT
  have far : ∀ b, b = sysModules ∨ b ∈ cs.map (·.2) → b ≠ mainGlobals ∧ b ≠ builtinsNs ∧ b ≠ cStatics := by
    rintro b (rfl | h)
    · exact ⟨by decide, by decide, by decide⟩
    · exact farT b h
  have fara : a ≠ mainGlobals ∧ a ≠ builtinsNs ∧ a ≠ cStatics := ⟨nd hns, nd hb, let ⟨_, l1, _⟩ := hlim; nd l1⟩
  have data1 : ∀ b o, H1 b ≠ none → s1.heap.get? b = some o → o.data ≠ .plain ∧ ∀ us, o.data = .fields us → us = #[] := fun b o q e => by
    rcases at1 b q with rfl | h
    · rw [hm] at e
      cases e
      rw [dm]
      exact ⟨(fun z => by cases z), (fun us z => by cases z)⟩
    · rw [isT b h] at e
      cases e
      exact ⟨(fun z => by cases z), (fun us z => by cases z; rfl)⟩
  cases hk : K.lookup a with
  | some o =>
    have e := KX a o hk
    rw [ha] at e
    cases e
    refine law_coreST KX hns hb hbb hlim hg hr hT C hbm F hbind hCX on1 tb1 (hsp _ sy tb1 (.inr ⟨_, vs.toArray, _, hk, rfl, rfl, rfl, ?_, by simpa using rv⟩)) ok1 (fun b z => ⟨kn1 b z, far b (at1 b z)⟩) data1
    rw [List.size_toArray, hi.length]
    exact hl
  | none =>
    have at_a : (upd H1 a (.frz { cls := .type "list", data := .seq vs.toArray } (.lst (ns.map V.int))) : Hp) a = some (.frz { cls := .type "list", data := .seq vs.toArray } (.lst (ns.map V.int))) := upd_same
    have off : ∀ b, b ≠ a → (upd H1 a (.frz { cls := .type "list", data := .seq vs.toArray } (.lst (ns.map V.int))) : Hp) b = H1 b := fun b nb => upd_ne nb
    have same : Same H1 (upd H1 a (.frz { cls := .type "list", data := .seq vs.toArray } (.lst (ns.map V.int)))) := fun b u e => by
      rw [off b (fun z => by rw [z, h1a] at e; cases e)]
      exact e
    have tb2 : ∀ p ∈ cs, (upd H1 a (.frz { cls := .type "list", data := .seq vs.toArray } (.lst (ns.map V.int))) : Hp) p.2 = some (.tbl #[]) := fun p hp => same _ _ (tb1 p hp)
    refine law_coreST KX hns hb hbb hlim hg hr hT C hbm F hbind hCX (fun b => ?_) tb2 (hsp _ (sy.same same) tb2 (.inl (.inr ⟨_, at_a⟩))) (fun b u z => ?_) (fun b z => ?_) fun b o q e => ?_
    · by_cases nb : b = a
      · rw [nb]; exact .inr (.inr ⟨_, _, at_a⟩)
      · rw [off b nb]; exact on1 b
    · by_cases nb : b = a
      · subst nb
        rw [at_a] at z
        cases z
        exact ⟨ha, by rw [List.length_map]; exact hl, vs, _, rv, ha⟩
      · rw [off b nb] at z
        have o1 := ok1 b u z
        rcases on1 b with q | q | ⟨ob, xs, q⟩
        · rw [q] at z; cases z
        · obtain ⟨p, hp, e⟩ := List.mem_map.mp q
          rw [← e, tb1 p hp] at z
          cases z
          exact o1
        · rw [q] at z
          cases z
          exact o1.stay (fun c w' hc q => q) (fun _ q => same _ _ q) fun _ _ q => same _ _ q
    · by_cases nb : b = a
      · rw [nb]; exact ⟨hk, fara⟩
      · rw [off b nb] at z
        exact ⟨kn1 b z, far b (at1 b z)⟩
    · by_cases nb : b = a
      · rw [nb, ha] at e
        cases e
        exact ⟨(fun z => by cases z), (fun us z => by cases z)⟩
      · rw [off b nb] at q
        exact data1 b o q e
end
theorem walkST {l : PySem.W.OpenLaw} {n k : Nat} {q : Program} {loose : List Str} {XP : (Str → Option Value) → Heap → Prop} {YP : World → Heap → Prop} {d : DefRec} {sp : PySem.W.Frag → Sp} {x : Str} {tf : PySem.W.Frag → List (Addr × Addr)}
    (hn : l.most = some n) (hn2 : n ≤ sizeLine) (hdf : d.params.defaults = []) (himp : importsNone q = true) (hr : Room k callerA)
    (F : ∀ (w : World) (mg : Str → Option Value) (fa : Addr) (h : Heap), YP w h → h.Ns mainGlobals mg → mg d.name = some (.ref fa) →
      ∃ (K : PySem.W.Frag) (fd : FuncData), K.In h ∧ (∀ p ∈ tf K, h.get? p.2 = some { cls := .none, data := .fields #[] }) ∧ (∀ p ∈ tf K, K.lookup p.2 = none) ∧ (∀ p ∈ tf K, PySem.W.codeHdIn K p.1 p.2 = true) ∧ (∀ (s : Shared) (u : Value), BindsTo s fd ⟨[u], []⟩ [(x, u)]) ∧
        ∀ base : Heap, K.In base → base.Ns mainGlobals mg → (∀ p ∈ tf K, TabB base mg p.1 p.2) → FnG l.prog w K mg base CX0 k fa fd [x] (sp K))
    (hsp : ∀ (K : PySem.W.Frag) (H : Hp) (a : Addr) (ns : List Int), ns.length ≤ n → Sys K H → (∀ p ∈ tf K, H p.2 = some (.tbl #[])) → SqL K H a (ns.map V.int) → sp K [.ref a] H (fun v _ => v = .bl true) fun _ _ _ => False) :
    PySem.W.WalkO q loose XP YP l.row.toRowW d [] (fun f vs => PySem.call f vs) := by
  refine Att.attach_call hn hdf fun w s₀ s₁ mg mb fa o pm cd doc a vs ns G Y ho hd hcd hmg hobj hints hlen hg => ?_
  obtain ⟨K, fd, KX, hT, nT, hC, hb, hF⟩ := F w mg fa _ Y G.T.g hmg
  obtain ⟨mm, hmm, _⟩ := (G.T.seer himp).mods
  exact law_endST KX G.T.g G.T.b G.T.builtins ⟨mm, hmm⟩ G.T.nolimit hg hobj hints (Nat.le_trans hlen hn2) hr hT nT (fun p hp => PySem.W.codeHd_of_K KX (hC p hp)) G.T.bmain hF hb (fun _ _ _ z => z) fun H hO hT' hS => hsp K H a ns hlen hO hT' hS
end Tp
set_option Elab.async false
set_option linter.all false
set_option maxRecDepth 100000
set_option maxHeartbeats 4000000
namespace Tp
open PySem PySem.Spec PyProof.Rows L2 He
def frFT {α : Type} (g : Addr → Option Obj) : List Addr → (PySem.W.Frag → α) → α
  | [], k => k []
  | a :: r, k => match g a with
    | some ⟨c, d, dt, sl⟩ => if emptyTab ⟨c, d, dt, sl⟩ = true then frFT g r k else HandSHeadRun.frNat a fun a => frFT g r fun K => k ((a, ⟨c, d, dt, sl⟩) :: K)
    | none => frFT g r k
theorem frFT_eq {α : Type} (g : Addr → Option Obj) : ∀ (l : List Addr) (k : PySem.W.Frag → α), frFT g l k = k (frT g l)
  | [], _ => rfl
  | a :: r, k => by
    unfold frFT frT frG
    cases e : g a with
    | none =>
      rw [List.filterMap_cons, e]
      exact frFT_eq g r k
    | some o =>
      rw [List.filterMap_cons, e]
      show (if emptyTab o = true then frFT g r k else HandSHeadRun.frNat a fun a => frFT g r fun K => k ((a, o) :: K)) = k (List.filter (fun q => !emptyTab q.2) ((a, o) :: frG g r))
      by_cases c : emptyTab o = true
      · rw [if_pos c, List.filter_cons, if_neg (by simp [c])]
        exact frFT_eq g r k
      · rw [if_neg c, List.filter_cons, if_pos (by simp [c])]
        show HandSHeadRun.frNat a (fun a => frFT g r fun K => k ((a, o) :: K)) = _
        rw [HandSHeadRun.frNat_eq, frFT_eq g r] <;> rfl
def withKT {α : Type} (g : Addr → Option Obj) (cs : List Str) (ds : List (Str × Option Str)) (k : PySem.W.Frag → α) : α := withAs g cs ds fun as => frFT g as k
def KKT (g : Addr → Option Obj) (cs : List Str) (ds : List (Str × Option Str)) : PySem.W.Frag := frT g (withAs g cs ds id)
theorem withKT_eq {α : Type} {g : Addr → Option Obj} {cs : List Str} {ds : List (Str × Option Str)} (k : PySem.W.Frag → α) : withKT g cs ds k = k (KKT g cs ds) := by
  unfold withKT
  rw [withAs_eq, frFT_eq] <;> rfl
abbrev AlBT : Type := AlD × Bool
def obsBT (cs : List Str) (fn : List DefD) (ex : List (PySem.W.Frag → Bool)) (tf : List Defn) (g : Addr → Option Obj) : AlBT := (obsK fn ex (KKT g cs (fn.map DefD.at_)), tabsB g tf (KKT g cs (fn.map DefD.at_)))
structure SaysBT (fn : List DefD) (ex : List (PySem.W.Frag → Bool)) (tf : List Defn) (h : Heap) (K : PySem.W.Frag) : Prop where
  b : SaysB fn ex K
  hd : ∀ p ∈ tf, PySem.W.codeHdIn K (cT K p).1 (cT K p).2 = true
  out : ∀ p ∈ tf, K.lookup (cT K p).2 = none
  empty : ∀ p ∈ tf, h.get? (cT K p).2 = some { cls := .none, data := .fields #[] }
theorem saysBT_of {cs : List Str} {fn : List DefD} {ex : List (PySem.W.Frag → Bool)} {tf : List Defn} {h : Heap} (e : obsBT cs fn ex tf h.get? = (valD fn, true)) : SaysBT fn ex tf h (KKT h.get? cs (fn.map DefD.at_)) := by
  have e1 : obsK fn ex (KKT h.get? cs (fn.map DefD.at_)) = valD fn := congrArg (fun z : AlBT => z.1) e
  have e2 : tabsB h.get? tf (KKT h.get? cs (fn.map DefD.at_)) = true := congrArg (fun z : AlBT => z.2) e
  have key : ∀ p ∈ tf, PySem.W.codeHdIn (KKT h.get? cs (fn.map DefD.at_)) (cT (KKT h.get? cs (fn.map DefD.at_)) p).1 (cT (KKT h.get? cs (fn.map DefD.at_)) p).2 = true ∧ ∃ o, h.get? (cT (KKT h.get? cs (fn.map DefD.at_)) p).2 = some o ∧ emptyTab o = true := fun p hp => by
    obtain ⟨h3, h4⟩ := ba (List.all_eq_true.mp e2 p hp)
    refine ⟨h3, ?_⟩
    cases q : h.get? (cT (KKT h.get? cs (fn.map DefD.at_)) p).2 with
    | none => rw [q] at h4; cases h4
    | some o =>
      rw [q] at h4
      exact ⟨o, rfl, h4⟩
  exact ⟨e1, fun p hp => (key p hp).1, fun p hp => by
    obtain ⟨_, o, q, z⟩ := key p hp
    exact frT_none q z, fun p hp => by
    obtain ⟨_, o, q, z⟩ := key p hp
    rw [q, emptyTab_eq z]⟩
def hookBT (cs : List Str) (fn : List DefD) (ex : List (PySem.W.Frag → Bool)) (tf : List Defn) : PySem.W.Hook where
  α := AlBT
  obs := fun s => obsBT cs fn ex tf s.heap.get?
  val := fun _ => (valD fn, true)
  says := fun _ h => ∃ K : PySem.W.Frag, K.In h ∧ SaysBT fn ex tf h K
  of := fun _ _ e => ⟨_, frT_in, saysBT_of e⟩
  keeps := fun _ _ _ ⟨K, hK, c⟩ k => ⟨K, PySem.W.Frag.In.keeps hK k, ⟨c.b, c.hd, c.out, fun p hp => k _ _ (c.empty p hp)⟩⟩
theorem obsBT_eq {cs : List Str} {fn : List DefD} {ex : List (PySem.W.Frag → Bool)} {tf : List Defn} {g : Addr → Option Obj} {s : Shared} (h : ∀ a, g a = s.heap.get? a) : obsBT cs fn ex tf g = (hookBT cs fn ex tf).obs s := by
  have e : g = s.heap.get? := funext h
  rw [e] <;> rfl
theorem run_joinT {α β : Type} {x : Option PySem.W.SharedT} {A : PySem.W.SharedT → α} {a : α} {B : PySem.W.SharedT → β} {b : β} {cs : List Str} {fn : List DefD} {exs : List (List (PySem.W.Frag → Bool))} {tf : List Defn} (hA : x.map A = some a) (hB : x.map B = some b)
    (hE : AllP (fun e : List (PySem.W.Frag → Bool) => x.map (fun s => withKT (HandSHeadRun.getT s) cs (fn.map DefD.at_) fun K => e.all fun f => f K) = some true) exs)
    (hF : x.map (fun s => withKT (HandSHeadRun.getT s) cs (fn.map DefD.at_) fun K => fn.all fun d => d.ok K) = some true)
    (hV : x.map (fun s => withKT (HandSHeadRun.getT s) cs (fn.map DefD.at_) fun K => fn.map fun d => fnW K d.at_) = some (fn.map DefD.val))
    (hT : x.map (fun s => withKT (HandSHeadRun.getT s) cs (fn.map DefD.at_) fun K => tabsB (HandSHeadRun.getT s) tf K) = some true) :
    x.map (fun s => (A s, B s, obsBT cs fn exs.flatten tf (HandSHeadRun.getT s))) = some (a, b, (valD fn, true)) := by
  simp only [withKT_eq] at hE hF hV hT
  cases x with
  | none => cases hA
  | some s =>
    have e1 : A s = a := Option.some.inj hA
    have e2 : B s = b := Option.some.inj hB
    have e3 : (fn.all fun d => d.ok (KKT (HandSHeadRun.getT s) cs (fn.map DefD.at_))) = true := Option.some.inj hF
    have e4 : (fn.map fun d => fnW (KKT (HandSHeadRun.getT s) cs (fn.map DefD.at_)) d.at_) = fn.map DefD.val := Option.some.inj hV
    have e6 : tabsB (HandSHeadRun.getT s) tf (KKT (HandSHeadRun.getT s) cs (fn.map DefD.at_)) = true := Option.some.inj hT
    have e5 : ∀ exs : List (List (PySem.W.Frag → Bool)), AllP (fun e : List (PySem.W.Frag → Bool) => (some s).map (fun s => e.all fun f => f (KKT (HandSHeadRun.getT s) cs (fn.map DefD.at_))) = some true) exs → (exs.flatten.all fun f => f (KKT (HandSHeadRun.getT s) cs (fn.map DefD.at_))) = true := by
      intro exs
      induction exs with
      | nil => intro _; rfl
      | cons e r ih =>
        intro ⟨h1, h2⟩
        rw [List.flatten_cons, List.all_append, ih h2, show (e.all fun f => f (KKT (HandSHeadRun.getT s) cs (fn.map DefD.at_))) = true from Option.some.inj h1] <;> rfl
    show some (A s, B s, (obsK fn exs.flatten (KKT (HandSHeadRun.getT s) cs (fn.map DefD.at_)), tabsB (HandSHeadRun.getT s) tf (KKT (HandSHeadRun.getT s) cs (fn.map DefD.at_)))) = _
    unfold obsK valD
    rw [e1, e2, e3, e4, e5 exs hE, e6] <;> rfl
theorem code_of {K : PySem.W.Frag} {p : Defn} {x qual : Str} {pa : Arguments} {bd : List Stmt} {sc : Scope} {dvs : List V} {kws : List (Str × V)} {fd : FuncData} (F : FunD K x qual pa bd sc dvs kws (fAd K p) fd) : fd.code = .ref (codeOf K p) := by
  obtain ⟨⟨oc, od, dV, kV, doc, pm, an, cdv, ct, osl, rfl, lk, hc, _, _⟩, _⟩ := F
  cases cdv with
  | ref c => exact congrArg Value.ref (codeOf_eq lk rfl).symm
  | _ => simp [PySem.W.codeIn] at hc
section
variable {P : Program} {w : World} {K : PySem.W.Frag} {mg : Str → Option Value} {base : Heap} {k : Nat} {f c : Addr} {fd : FuncData} {ps : List Str} {sp : Sp}
end
end Tp
set_option Elab.async false
set_option linter.all false
set_option maxRecDepth 100000
set_option maxHeartbeats 4000000
namespace Tp
open PySem PySem.Spec PyProof.Rows L2
def lowC (c : Nat) : Bool := decide (97 ≤ c) && decide (c ≤ 122)
def digC (c : Nat) : Bool := decide (48 ≤ c) && decide (c ≤ 57)
def nmB (z : Str) : Bool := match z.cps.toList with
  | [] => false
  | c :: cs => decide (cs.length + 1 ≤ 8) && (lowC c && (c :: cs).all fun x => lowC x || digC x)
theorem mem_low (c : Nat) : c ∈ ("abcdefghijklmnopqrstuvwxyz" : Str).cps.toList ↔ lowC c = true := by
  have e : ("abcdefghijklmnopqrstuvwxyz" : Str).cps.toList = [97, 98, 99, 100, 101, 102, 103, 104, 105, 106, 107, 108, 109, 110, 111, 112, 113, 114, 115, 116, 117, 118, 119, 120, 121, 122] := by decide +kernel
  rw [e]
  simp only [List.mem_cons, List.not_mem_nil, or_false, lowC, Bool.and_eq_true, decide_eq_true_eq]
  omega
theorem mem_sign (c : Nat) : c ∈ (("abcdefghijklmnopqrstuvwxyz" : Str) ++ ("0123456789" : Str)).cps.toList ↔ (lowC c || digC c) = true := by
  have e : (("abcdefghijklmnopqrstuvwxyz" : Str) ++ ("0123456789" : Str)).cps.toList = [97, 98, 99, 100, 101, 102, 103, 104, 105, 106, 107, 108, 109, 110, 111, 112, 113, 114, 115, 116, 117, 118, 119, 120, 121, 122, 48, 49, 50, 51, 52, 53, 54, 55, 56, 57] := by decide +kernel
  rw [e]
  simp only [List.mem_cons, List.not_mem_nil, or_false, lowC, digC, Bool.and_eq_true, Bool.or_eq_true, decide_eq_true_eq]
  omega
theorem nm_nil {z : Str} (h : ¬ (0 : Int) < z.length) : nmB z = false := by
  unfold nmB
  have e : z.cps.toList = [] := List.eq_nil_of_length_eq_zero (by rw [len_list]; omega)
  rw [e]
theorem nm_long {z : Str} (h : ¬ (z.length : Int) ≤ 8) : nmB z = false := by
  unfold nmB
  have l := len_list z
  cases e : z.cps.toList with
  | nil => rfl
  | cons c cs =>
    rw [e] at l
    simp only [List.length_cons] at l
    have : decide (cs.length + 1 ≤ 8) = false := decide_eq_false (by omega)
    show (decide (cs.length + 1 ≤ 8) && _) = false
    rw [this, Bool.false_and]
theorem nm_cons {z : Str} {c : Nat} {cs : List Nat} (e : z.cps.toList = c :: cs) (h : (z.length : Int) ≤ 8) : nmB z = (lowC c && (c :: cs).all fun x => lowC x || digC x) := by
  unfold nmB
  have l := len_list z
  rw [e] at l ⊢
  simp only [List.length_cons] at l
  have : decide (cs.length + 1 ≤ 8) = true := decide_eq_true (by omega)
  show (decide (cs.length + 1 ≤ 8) && _) = _
  rw [this, Bool.true_and]
theorem nm_len {n : Str} (h : nmB n = true) : n.length ≤ 8 := by
  refine Classical.byContradiction fun k => ?_
  rw [nm_long (by omega)] at h
  cases h
theorem nm_sm {n : Str} (h : nmB n = true) : Sm 8 n := by
  refine ⟨nm_len h, fun c hc => ?_⟩
  unfold nmB at h
  cases e : n.cps.toList with
  | nil => rw [e] at hc; cases hc
  | cons x xs =>
    rw [e] at h hc
    have h := (Bool.and_eq_true_iff.mp (Bool.and_eq_true_iff.mp (show (decide (xs.length + 1 ≤ 8) && (lowC x && (x :: xs).all fun y => lowC y || digC y)) = true from h)).2).2
    have := List.all_eq_true.mp h c hc
    simp only [lowC, digC, Bool.or_eq_true, Bool.and_eq_true, decide_eq_true_eq] at this
    omega
def NoS (K : PySem.W.Frag) (H : Hp) (v : V) : Prop := ∃ t, TyA K H v t ∧ PySem.W.kitOne K t (.type "str") = some false
def NameIs (K : PySem.W.Frag) (H : Hp) (v : V) (b : Bool) : Prop := (∃ z : Str, v = .str z ∧ z.length ≤ 10000 ∧ b = nmB z) ∨ (NoS K H v ∧ b = false)
def spName (K : PySem.W.Frag) : Sp := fun vs H Q _ => ∃ (v : V) (b : Bool), vs = [v] ∧ NameIs K H v b ∧ Q (.bl b) H
end Tp
set_option Elab.async false
set_option linter.all false
set_option maxRecDepth 100000
set_option maxHeartbeats 4000000
namespace Tp
open PySem PySem.Spec PyProof.Rows L2 LamX NdefX
theorem tab_one (P : Addr) {nm : Nat → Nat → Str} : ∀ p ∈ ([(P, nm)] : List NTab), p.1 = P → p.2 = nm := fun p hp _ => by rw [List.mem_singleton.mp hp]
structure Know (X : Cx) (cl : List (Str × Addr)) (fr : List Str) (ws : List (Option V)) : Prop where
  at0 : CellsAt cl fr ws X.s_0.heap X.H_0
  fs : ∀ y c, cl.lookup y = some c → c ∉ X.fs
  ex : ∀ y c, cl.lookup y = some c → c ∉ X.ex
  st : ∀ y c, cl.lookup y = some c → c ∉ frs X.stack
section
variable {X : Cx} {pins : List (Addr × Obj)} {σ : L2.St} {H : Hp} {s : Shared} {cl cl' : List (Str × Addr)} {fr fr' : List Str} {ws : List (Option V)}
theorem Know.now (k : Know X cl fr ws) (I : Inv X pins σ H s) : CellsAt cl fr ws s.heap H := k.at0.later k.fs k.ex I
end
structure NOkW (P : Program) (w : World) (K : PySem.W.Frag) (mg : Str → Option Value) (base : Heap) (CX : CXT) (k : Nat) (f : Addr) (F : NF) (ps : List Str) (cl : List (Str × Addr)) (fr : List Str) (sp : List (Option V) → Sp) : Prop where
  len : ∀ ws vs H Q E, sp ws vs H Q E → vs.length = ps.length
  run : ∀ (A : Around) (outer : List Env) (s : Shared) (H : Hp) (us : List Value) (vs : List V) (ws : List (Option V)) (Q : VK) (E : XK), Room k A → Env0 P w K mg base A outer s H → H f = some (FnO f F) → H F.c = some (CodeO F.c F.qual) →
    CellsAt cl fr ws s.heap H → (∀ y c, cl.lookup y = some c → c ∉ frs outer) → Vals vs us → sp ws vs H Q E → codeAny (model P w) A (.call (.ref f) ⟨us, []⟩) (CR CX outer P w H s Q E) s
abbrev pick (js : List Nat) (ws : List (Option V)) : List (Option V) := js.map fun j => (ws[j]?).getD none
section
variable {CX : CXT} {P : Program} {w : World} {K : PySem.W.Frag} {mg : Str → Option Value} {base : Heap} {N ps fr fr' : List Str} {F : NF} {f : Addr} {k j : Nat} {sp : List (Option V) → Sp} {cl : List (Str × Addr)} {js : List Nat}
theorem NOkW.mono (o : NOkW P w K mg base CX j f F ps cl fr sp) (h : j ≤ k) : NOkW P w K mg base CX k f F ps cl fr sp := ⟨o.len, fun A outer s H us vs ws Q E hr => o.run A outer s H us vs ws Q E (hr.mono h)⟩
end
section
variable {P : Program} {w : World} {K : PySem.W.Frag} {mg : Str → Option Value} {base : Heap} {N ps fr fr' : List Str} {F : NF} {f : Addr} {k j : Nat} {sp : List (Option V) → Sp} {cl : List (Str × Addr)} {js : List Nat}
end
section
variable {X : Cx} {cl : List (Str × Addr)} {fr : List Str} {wv : L2.St → List (Option V)}
end
end Tp
set_option Elab.async false
set_option linter.all false
set_option maxRecDepth 100000
set_option maxHeartbeats 4000000
namespace Tp
open PySem PySem.Spec PyProof.Rows L2 LamX NdefX
def cellH (ob : Obj) : HO := .frz ob (.ext fun _ => True)
theorem cellH_ok {P : Program} {w : World} {H : Hp} {h : Heap} {c : Addr} {ob : Obj} (e : h.get? c = some ob) : ObjOk P w H h c (cellH ob) := ⟨e, True.intro, ⟨ob, e⟩, fun _ _ _ _ => True.intro⟩
def hidC (cs : List Addr) (H : Hp) : Hp := fun b => if b ∈ cs then none else H b
def bakC (cs : List Addr) (H H' : Hp) : Hp := fun b => if b ∈ cs then H b else H' b
theorem hid_in {cs : List Addr} {H : Hp} {b : Addr} (h : b ∈ cs) : hidC cs H b = none := if_pos h
theorem hid_out {cs : List Addr} {H : Hp} {b : Addr} (h : b ∉ cs) : hidC cs H b = H b := if_neg h
theorem bak_in {cs : List Addr} {H H' : Hp} {b : Addr} (h : b ∈ cs) : bakC cs H H' b = H b := if_pos h
theorem bak_out {cs : List Addr} {H H' : Hp} {b : Addr} (h : b ∉ cs) : bakC cs H H' b = H' b := if_neg h
theorem hid_to {cs : List Addr} {H : Hp} : Same (hidC cs H) H := fun b o h => by
  unfold hidC at h
  split at h
  · cases h
  · exact h
theorem bak_same {cs : List Addr} {H H' : Hp} (S : Same (hidC cs H) H') : Same H (bakC cs H H') := fun b o h => by
  by_cases c : b ∈ cs
  · rw [bak_in c]; exact h
  · rw [bak_out c]; exact S _ _ (by rw [hid_out c]; exact h)
def csF (cl : List (Str × Addr)) : List Addr := cl.filterMap fun p => cl.lookup p.1
theorem mem_cs {cl : List (Str × Addr)} {c : Addr} : c ∈ csF cl ↔ ∃ y, cl.lookup y = some c := by
  unfold csF
  rw [List.mem_filterMap]
  constructor
  · rintro ⟨p, _, h⟩
    exact ⟨_, h⟩
  · rintro ⟨y, h⟩
    exact ⟨(y, c), PySem.mem_of_lookup h, h⟩
section
variable {P : Program} {w : World} {H H' : Hp} {h h' : Heap} {cs : List Addr}
theorem hok_hid (ok : HOk P w H h) (fz : ∀ c ∈ cs, ∃ ob, H c = some (cellH ob)) : HOk P w (hidC cs H) h := fun b o e => by
  have e := hid_to _ _ e
  refine (ok b o e).stay (fun _ _ _ q => q) (fun c q => ?_) fun c xs q => ?_
  · by_cases m : c ∈ cs
    · obtain ⟨ob, z⟩ := fz c m
      rw [z] at q; cases q
    · rw [hid_out m]; exact q
  · by_cases m : c ∈ cs
    · obtain ⟨ob, z⟩ := fz c m
      rw [z] at q; cases q
    · rw [hid_out m]; exact q
theorem env0_hid {K : PySem.W.Frag} {mg : Str → Option Value} {base : Heap} {A : Around} {outer : List Env} {s : Shared} (e : Env0 P w K mg base A outer s H) (fz : ∀ c ∈ cs, ∃ ob, H c = some (cellH ob)) : Env0 P w K mg base A outer s (hidC cs H) := by
  have n : ∀ {b : Addr}, H b = none → hidC cs H b = none := fun {b} z => by
    by_cases m : b ∈ cs
    · exact hid_in m
    · rw [hid_out m]; exact z
  exact ⟨e.frames, e.mod, fun b o q => ⟨(e.bs b o q).1, n (e.bs b o q).2⟩, e.bsz, e.funs, fun b q => n (e.frf b q), hok_hid e.hok fz, e.bare⟩
theorem hok_bak (ok : HOk P w H' h') (nn : ∀ c ∈ cs, H' c = none) (fz : ∀ c ∈ cs, ∃ ob, H c = some (cellH ob) ∧ h'.get? c = some ob) : HOk P w (bakC cs H H') h' := fun b o e => by
  by_cases m : b ∈ cs
  · obtain ⟨ob, z, q⟩ := fz b m
    rw [bak_in m, z] at e
    cases e
    exact cellH_ok q
  · rw [bak_out m] at e
    refine (ok b o e).stay (fun _ _ _ q => q) (fun c q => ?_) fun c xs q => ?_
    · rw [bak_out (fun m => by rw [nn c m] at q; cases q)]; exact q
    · rw [bak_out (fun m => by rw [nn c m] at q; cases q)]; exact q
theorem ce_bak {outer : List Env} {s s' : Shared} {Q : VK} {u : Value} (fz : ∀ c ∈ cs, ∃ ob, H c = some (cellH ob) ∧ s.heap.get? c = some ob ∧ c ∉ frs outer) (h : CE outer P w (hidC cs H) s (fun v H' => Q v (bakC cs H H')) u s') : CE outer P w H s Q u s' := by
  obtain ⟨v, H', os, bare, un, hok, r, q⟩ := h
  have kept : ∀ c ∈ cs, ∃ ob, H c = some (cellH ob) ∧ s'.heap.get? c = some ob := fun c m => by
    obtain ⟨ob, z, g, n⟩ := fz c m
    exact ⟨ob, z, un.keep c ob g (hid_in m) n (by simp)⟩
  have nn : ∀ c ∈ cs, H' c = none := fun c m => by
    obtain ⟨ob, z, g, n⟩ := fz c m
    exact un.free c ob g (hid_in m) (by simp)
  have out : ∀ {b : Addr} {o : HO}, H b = some o → (∀ ob, o ≠ cellH ob) → b ∉ cs := fun {b o} e ne m => by
    obtain ⟨ob, z, _⟩ := fz b m
    rw [z] at e
    exact ne ob (Option.some.inj e).symm
  have non : ∀ {b : Addr}, H b = none → b ∉ cs := fun {b} e m => by
    obtain ⟨ob, z, _⟩ := fz b m
    rw [z] at e; cases e
  refine ⟨v, bakC cs H H', os, bare, ⟨fun b o g n hf hx => un.keep b o g (by rw [hid_out (non n)]; exact n) hf hx, fun b o g n hf hx => un.slot b o g (by rw [hid_out (non n)]; exact n) hf hx, fun b o g n hx => ?_, un.there, fun b xs e => ?_, fun b o u e => ?_, fun b ps e => ?_⟩, hok_bak hok nn kept, r, q⟩
  · rw [bak_out (non n)]
    exact un.free b o g (by rw [hid_out (non n)]; exact n) hx
  · have m := out e (fun ob z => by cases z)
    rw [bak_out m]
    exact un.tups b xs (by rw [hid_out m]; exact e)
  · by_cases m : b ∈ cs
    · rw [bak_in m]; exact e
    · rw [bak_out m]
      exact un.frzs b o u (by rw [hid_out m]; exact e)
  · have m := out e (fun ob z => by cases z)
    rw [bak_out m]
    exact un.tbls b ps (by rw [hid_out m]; exact e)
end
abbrev fdA (F : NF) (b : FuncBody) (doc pm ctv : Value) : FuncData :=
  { name := F.name, qualname := F.qual, params := F.params, body := b, scope := F.scope, globals := mainGlobals, closure := F.cl, defaults := .none, kwdefaults := .none, doc, pyModule := pm, annotations := none, code := .ref F.c, closureTuple := ctv, builtins := builtinsNs }
def FnA (f : Addr) (F : NF) (b : FuncBody) : HO := .ext fun h => ∃ (od : Option Addr) (sl : Array (Option Value)) (doc pm ctv : Value), h.get? f = some (⟨.type "function", od, .func (fdA F b doc pm ctv), sl⟩ : Obj)
theorem fnA_at {P : Program} {w : World} {H : Hp} {h : Heap} {f : Addr} {F : NF} {b : FuncBody} (hok : HOk P w H h) (e : H f = some (FnA f F b)) : ∃ (od : Option Addr) (sl : Array (Option Value)) (doc pm ctv : Value), h.get? f = some (⟨.type "function", od, .func (fdA F b doc pm ctv), sl⟩ : Obj) := by
  obtain ⟨z, _, _⟩ := hok f _ e
  exact z
structure VOk (P : Program) (w : World) (K : PySem.W.Frag) (mg : Str → Option Value) (base : Heap) (k : Nat) (f : Addr) (F : NF) (b : FuncBody) (fr : List Str) (sp : List (Option V) → Sp) : Prop where
  run : ∀ (A : Around) (outer : List Env) (s : Shared) (H : Hp) (us : List Value) (vs : List V) (ws : List (Option V)) (Q : VK) (E : XK), Room k A → Env0 P w K mg base A outer s H → H f = some (FnA f F b) → H F.c = some (CodeO F.c F.qual) →
    CellsAt F.cl fr ws s.heap H → Vals vs us → sp ws vs H Q E → codeAny (model P w) A (.call (.ref f) ⟨us, []⟩) (CR CX0 outer P w H s Q E) s
section
variable {P : Program} {w : World} {K : PySem.W.Frag} {mg : Str → Option Value} {base : Heap} {k j : Nat} {f : Addr} {F : NF} {b : FuncBody} {fr ps N : List Str} {sp : List (Option V) → Sp}
theorem VOk.mono (o : VOk P w K mg base j f F b fr sp) (h : j ≤ k) : VOk P w K mg base k f F b fr sp := ⟨fun A outer s H us vs ws Q E hr => o.run A outer s H us vs ws Q E (hr.mono h)⟩
theorem VOk.imp {sp' : List (Option V) → Sp} (o : VOk P w K mg base k f F b fr sp) (h : ∀ ws vs H Q E, sp' ws vs H Q E → sp ws vs H Q E) : VOk P w K mg base k f F b fr sp' := ⟨fun A outer s H us vs ws Q E hr e0 hf hc C r q => o.run A outer s H us vs ws Q E hr e0 hf hc C r (h _ _ _ _ _ q)⟩
theorem vok_lam {e : Expr} {te : L2.St → TE} (S : NScope N ps fr F.scope) (hb : ∀ (doc pm ctv : Value) (us : List Value), us.length = ps.length → bindArgs (fdA F (.expr e) doc pm ctv) ⟨us, []⟩ = pure (ps.zip us)) (len : ∀ ws vs H Q E, sp ws vs H Q E → vs.length = ps.length)
    (body : ∀ (A : Around) (outer : List Env) (s : Shared) (H : Hp) (vs : List V) (ws : List (Option V)) (Q : VK) (E : XK), Room k (A.deeper (envF F f s.heap.objs.size)) → H f = some (FnA f F (.expr e)) → H F.c = some (CodeO F.c F.qual) → ws.length = fr.length → sp ws vs H Q E →
      ∃ t, PE (ncx CX0 P w K mg base N F f A outer s H E).nox e t ∧ t (startF N vs ws) H Q) : VOk P w K mg base (k + 1) f F (.expr e) fr sp := by
  refine ⟨fun A outer s H us vs ws Q E hr e0 hf hc C r hsp => ?_⟩
  have hl := len _ _ _ _ _ hsp
  have lim : s.heap.NoLimit := e0.mod.nolimit.keeps fun b o e => (e0.bs b o e).1
  obtain ⟨od, sl, doc, pm, ctv, ho⟩ := fnA_at e0.hok hf
  obtain ⟨⟨oc, vsc, t, hoc, hdc, hvc⟩, _, _⟩ := e0.hok _ _ hc
  refine PySem.W.kla_callFunE hr.depth ho rfl S.co S.gen rfl ⟨F.c, oc, vsc, t, rfl, hoc, hdc, hvc⟩ ?_
  rw [hb doc pm ctv us (by rw [← r.length]; exact hl)]
  refine wpAny_pure (wpAny_newFunctionEnv S.nocell (fun ⟨n, _⟩ hy => S.par n (List.of_mem_zip hy).1) (fun h₁ hns hsb => ⟨lim.fresh _ hsb, ?_⟩) S.kind)
  show codeAny _ _ (.expr e (envF F f s.heap.objs.size)) _ _
  have kp : ∀ b o, s.heap.get? b = some o → h₁.get? b = some o := fun b o e => hsb.extBut b o (Nat.ne_of_lt (Heap.lt_size e)) (Heap.get?_push_of_some _ e)
  obtain ⟨t, ht, hq⟩ := body A outer s H vs ws Q E (hr.deeper _) hf hc C.len hsp
  have I : Inv (ncx CX0 P w K mg base N F f A outer s H E) [] (startF N vs ws) H { s with heap := h₁, toks := s.toks + (ps.zip us).length } := inv_startN S hr.hd e0 hl r C hns kp
  refine PySem.W.kla_codeExpr (wpAny_mono (ht.nox.run [] _ _ H Q I hq) (fun v s' ⟨w', H', J', rv, q⟩ => ?_) fun e s' hq => hq)
  exact ⟨w', H', J'.os, J'.bare, J'.base, J'.hok, rv, q⟩
end
structure CloAt (H : Hp) (f : Addr) (F : NF) (b : FuncBody) (fr : List Str) (ws : List V) : Prop where
  fn : H f = some (FnA f F b)
  code : H F.c = some (CodeO F.c F.qual)
  len : ws.length = fr.length
  inj : ∀ x y c, F.cl.lookup x = some c → F.cl.lookup y = some c → x = y
  all : ∀ y c, F.cl.lookup y = some c → ∃ ob v, H c = some (cellH ob) ∧ ob.data = .cell v
  has : ∀ (i : Nat) (y : Str) (v : V), fr[i]? = some y → ws[i]? = some v → ∃ c ob u, F.cl.lookup y = some c ∧ H c = some (cellH ob) ∧ ob.data = .cell (some u) ∧ L2.RelV v u
section
variable {P : Program} {w : World} {H H' : Hp} {h : Heap} {f : Addr} {F : NF} {b : FuncBody} {fr : List Str} {ws : List V}
theorem CloAt.same (x : CloAt H f F b fr ws) (S : Same H H') : CloAt H' f F b fr ws :=
  ⟨S _ _ x.fn, S _ _ x.code, x.len, x.inj, fun y c e => let ⟨ob, v, h1, h2⟩ := x.all y c e; ⟨ob, v, S _ _ h1, h2⟩, fun i y v e1 e2 => let ⟨c, ob, u, h1, h2, h3⟩ := x.has i y v e1 e2; ⟨c, ob, u, h1, S _ _ h2, h3⟩⟩
theorem CloAt.frz (x : CloAt H f F b fr ws) : ∀ c ∈ csF F.cl, ∃ ob, H c = some (cellH ob) := fun c m => by
  obtain ⟨y, e⟩ := mem_cs.mp m
  obtain ⟨ob, v, h1, _⟩ := x.all y c e
  exact ⟨ob, h1⟩
theorem CloAt.out (x : CloAt H f F b fr ws) {a : Addr} {o : HO} (e : H a = some o) (n : ∀ ob, o ≠ cellH ob) : hidC (csF F.cl) H a = some o := by
  rw [hid_out]
  · exact e
  · intro m
    obtain ⟨ob, z⟩ := x.frz a m
    rw [z] at e
    exact n ob (Option.some.inj e).symm
theorem CloAt.cells (x : CloAt H f F b fr ws) (hok : HOk P w H h) : CellsAt F.cl fr (ws.map some) h (hidC (csF F.cl) H) := by
  have at_ : ∀ {c : Addr} {ob : Obj}, H c = some (cellH ob) → h.get? c = some ob := fun {c ob} e => (hok c _ e).1
  refine ⟨by rw [List.length_map]; exact x.len, fun y c e => ⟨hid_in (mem_cs.mpr ⟨y, e⟩), ?_⟩, x.inj, fun i y e => ?_⟩
  · obtain ⟨ob, v, h1, h2⟩ := x.all y c e
    exact ⟨v, ob, at_ h1, h2⟩
  · have il : i < ws.length := by rw [x.len]; exact (List.getElem?_eq_some_iff.mp e).1
    obtain ⟨c, ob, u, h1, h2, h3, h4⟩ := x.has i y ws[i] e (List.getElem?_eq_getElem il)
    refine ⟨c, h1, fun v ev => ⟨u, ?_, ob, at_ h2, h3⟩⟩
    rw [List.getElem?_map, List.getElem?_eq_getElem il] at ev
    cases ev
    exact h4
end
def tCallV (P : Program) (w : World) (K : PySem.W.Frag) (mg : Str → Option Value) (base : Heap) (j : Nat) (i : Nat) (t : TA) : TE := fun σ H Q => ∃ f F b, σ[i]? = some (some (.ref f)) ∧ H f = some (FnA f F b) ∧
  t σ H fun vs H1 => ∃ fr ws sp, CloAt H1 f F b fr ws ∧ VOk P w K mg base j f F b fr sp ∧ sp (ws.map some) vs (hidC (csF F.cl) H1) (fun v H' => Q v (bakC (csF F.cl) H1 H')) E0
theorem fnAtA {X : Cx} {pins : List (Addr × Obj)} {σ : L2.St} {H : Hp} {s : Shared} {f : Addr} {F : NF} {b : FuncBody} (I : Inv X pins σ H s) (e : H f = some (FnA f F b)) : PySem.W.FnAt f s.heap := by
  obtain ⟨od, sl, doc, pm, ctv, ho⟩ := fnA_at I.hok e
  exact ⟨_, od, _, sl, ho⟩
theorem pe_callV {X : Cx} {i j : Nat} {x : Str} {t : TA} {e : Expr} {es : List Expr} {p pos : Pos} (hr : Room j X.A) (hN : X.N[i]? = some x) (hv : Vis X.env.scope x) (ha : PA X (e :: es) t)
    (hd : (x == ("__debug__" : Str)) = false := by decide) (hcd : (x == ("__classdict__" : Str)) = false := by decide)
    (he : starEach (e :: es) X.env = (false, eval e X.env) :: starEach es X.env := by rfl) (hpl : (backTo pos (starEach es X.env)).any (·.1) = false := by rfl) :
    PE X (.Call (.Name x p) (e :: es) [] pos) (tCallV X.prog X.w X.K X.mg X.base j i t) := by
  refine ⟨fun pins s σ H Q I h => ?_⟩
  obtain ⟨f, F, b, hs, hf, ht⟩ := h
  refine wpAny_Call_Name_kw (thn ((pe_var (pos := p) hN hv hd hcd).run pins s σ H (fun v H1 => v = .ref f ∧ H1 = H) I ⟨.ref f, hs, rfl, rfl⟩) fun u s1 ⟨v, H1, I1, r1, q1⟩ => ?_)
  obtain ⟨ev, eH⟩ := q1
  subst ev
  rw [eH] at I1
  obtain rfl : u = Value.ref f := r1
  refine PySem.W.callWith_F (first := []) (fnAtA I1 hf) (thn (ha.run pos pins s1 σ H _ I1 ht) fun us s2 ⟨vs, H2, I2, r, fr, ws, sp, cl, vo, q⟩ => ⟨fnAtA I2 cl.fn, ?_⟩) he hpl
  show wpAny _ _ (call (.ref f) us) _ _ _
  refine wpAny_call (codeAny_mono (vo.run X.A X.stack s2 _ us vs _ _ E0 hr (env0_hid I2.env0 cl.frz) (cl.out cl.fn fun ob z => by cases z) (cl.out cl.code fun ob z => by cases z) (cl.cells I2.hok) r q) fun r s' hq => ?_)
  cases r with
  | error e => exact False.elim hq
  | ok fl =>
    cases fl with
    | ret u => exact I2.after (ce_bak (fun c m => by
        obtain ⟨ob, z⟩ := cl.frz c m
        exact ⟨ob, z, (I2.hok c _ z).1, fun n => by rw [I2.env0.frf c n] at z; cases z⟩) hq)
    | next => exact False.elim hq
    | brk => exact False.elim hq
    | cont => exact False.elim hq
end Tp
set_option Elab.async false
set_option linter.all false
set_option maxRecDepth 100000
set_option maxHeartbeats 4000000
namespace Tp
open PySem PySem.Spec PyProof.Rows L2 LamX NdefX
section
variable {X : Cx} {pins : List (Addr × Obj)} {σ : L2.St} {H : Hp} {s : Shared}
theorem inv_fnA {F : NF} {b : FuncBody} {o : Obj} {t' : Nat} {doc pm ctv : Value} (I : Inv X pins σ H s) (ho : o = { cls := .type "function", data := .func (fdA F b doc pm ctv) }) :
    Inv X pins σ (upd H s.heap.objs.size (FnA s.heap.objs.size F b)) { s with heap := s.heap.push o, toks := t' } := by
  subst ho
  refine I.laid (a := s.heap.objs.size) (fun b u e => Heap.get?_push_of_some _ e) (Nat.le_refl _) ?_
  have e : (s.heap.push ({ cls := .type "function", data := .func (fdA F b doc pm ctv) } : Obj)).get? s.heap.objs.size = some ({ cls := .type "function", data := .func (fdA F b doc pm ctv) } : Obj) := Heap.get?_push_size _ rfl
  exact ⟨⟨_, _, doc, pm, ctv, e⟩, ⟨_, e⟩, fun h1 h2 ⟨od, sl, d, p, t, z⟩ st => ⟨od, sl, d, p, t, st _ z⟩⟩
def tLamV (T : List NTab) (mk : Addr → NF) (body : Expr) : TE := fun σ H Q => TabsN T H ∧ ∀ (f c' : Addr) (H1 : Hp), ExtN H H1 → TabsN T H1 → H f = none → H1 f = some (FnA f (mk c') (.expr body)) → H1 c' = some (CodeO c' (mk c').qual) → Q (.ref f) H1
theorem pe_lamV {T : List NTab} {nm : Nat → Nat → Str} {c P : Addr} {params : Arguments} {body : Expr} {scope : Scope} {pos : Pos} (TB : TabB X.base X.mg c P) (hcode : X.env.code = .ref c) (hm : (P, nm) ∈ T) (hn : nm pos.line pos.col = X.env.qual ++ "<lambda>") (hu : ∀ p ∈ T, p.1 = P → p.2 = nm)
    (hfree : ∀ y ∈ scope.names, y.2 = .free → X.env.scope.names.lookup y.1 = some .cell ∨ X.env.scope.names.lookup y.1 = some .free) (hdef : defaultsOf params X.env = ([], [])) :
    PE X (.Lambda params body scope pos) (tLamV T (fun c' => ⟨"<lambda>", X.env.qual ++ "<lambda>", params, [], scope, cloFrom X.env.cells scope.names [], c'⟩) body) := by
  refine ⟨fun pins s σ H Q I h => ?_⟩
  obtain ⟨hT, h⟩ := h
  have hfr : ∀ y ∈ scope.names, y.2 = .free → ∃ c, X.env.cells.lookup y.1 = some c := fun y hy e => (hfree y hy e).elim (fun z => I.ok.has _ (.inl z)) fun z => I.ok.has _ (.inr z)
  obtain ⟨ps, hP, ht, ha⟩ := (show TabN H P nm from hT _ hm)
  refine PySem.W.kla_eval hdef ?_
  have bP : s.heap.BuiltinsAt X.mg P := TB.bm.keeps I.bk
  have hP' : s.heap.get? P = some { cls := .none, data := .fields ps } := I.hok P _ hP
  cases hc : codeAmong pos ps.toList with
  | none =>
    refine PySem.W.kla_makeFunction (mg := X.mg) (c := c) (P := P) (ps := ps) (closure_ok hfr) I.ok.glob (I.mod.glob.keeps I.bk) hcode (TB.code.keeps I.bk) hP' ht hc TB.gP bP fun c' ctv h' tk hx hge hlt hrec htb => ?_
    obtain ⟨c2, oc, vs, t, e2, hoc, hd, hv⟩ := hrec
    cases e2
    have nC : H c' = none := I.hok.fresh hge
    have I1 := inv_table (t' := tk) (more := #[rawInt pos.line, rawInt pos.col, .ref c']) (h' := h') I hP (fun b o hb e => hx b o hb e) htb hge ⟨oc, vs, t, hoc, hd, hv⟩
    have hE : ExtN H (upd (upd H P (.tbl (ps ++ #[rawInt pos.line, rawInt pos.col, .ref c']))) c' (CodeO c' (X.env.qual ++ "<lambda>"))) := fun b o e n => by
      rw [upd_ne (ne_of_none e nC), upd_ne (fun z => n ps (Option.some.inj (e.symm.trans (by rw [z]; exact hP))))]
      exact e
    have eL : (ps ++ #[rawInt pos.line, rawInt pos.col, .ref c']).toList = ps.toList ++ [rawInt pos.line, rawInt pos.col, .ref c'] := by simp
    have T1 : TabsN T (upd (upd H P (.tbl (ps ++ #[rawInt pos.line, rawInt pos.col, .ref c']))) c' (CodeO c' (X.env.qual ++ "<lambda>"))) := fun p hp => by
      by_cases hb : p.1 = P
      · rw [hu p hp hb, hb]
        refine ⟨_, by rw [upd_ne (ne_of_none hP nC), upd_same], by rw [eL]; exact PySem.TriplesOk_snoc _ _ _ _ ht, fun p' cv hcv => ?_⟩
        rw [eL] at hcv
        rcases among_app2 _ ht hcv with z | ⟨z, z1, z2⟩
        · obtain ⟨c0, e1, e2⟩ := ha p' cv z
          exact ⟨c0, e1, hE _ _ e2 codeO_ne⟩
        · refine ⟨c', z, ?_⟩
          rw [← z1, ← z2, hn]
          exact upd_same
      · obtain ⟨ps', a1, a2, a3⟩ := hT p hp
        refine ⟨ps', by rw [upd_ne (ne_of_none a1 nC), upd_ne hb]; exact a1, a2, fun p' cv hcv => ?_⟩
        obtain ⟨c0, e1, e2⟩ := a3 p' cv hcv
        exact ⟨c0, e1, hE _ _ e2 codeO_ne⟩
    have nF := I1.hok.fresh (Nat.le_refl _)
    have I2 := inv_fnA (F := ⟨"<lambda>", X.env.qual ++ "<lambda>", params, [], scope, cloFrom X.env.cells scope.names [], c'⟩) (b := .expr body) (t' := tk) (doc := .none) (pm := (X.mg "__name__").getD .none) (ctv := ctv) I1 rfl
    refine ⟨.ref h'.objs.size, _, I2, rfl, h h'.objs.size c' _ (fun b o e n => ?_) (T1.ext fun b o e => ?_) (I.hok.fresh (Nat.le_trans hge (Nat.le_of_lt hlt))) upd_same ?_⟩
    · have e1 := hE b o e n
      exact (upd_ne (ne_of_none e1 nF)).trans e1
    · exact (upd_ne (ne_of_none e nF)).trans e
    · exact (upd_ne (Nat.ne_of_lt hlt)).trans upd_same
  | some cv =>
    obtain ⟨c', e, hco⟩ := ha pos cv hc
    subst e
    rw [hn] at hco
    refine PySem.W.kla_makeFunctionHit (mg := X.mg) (c := c) (P := P) (ps := ps) (closure_ok hfr) I.ok.glob (I.mod.glob.keeps I.bk) hcode (TB.code.keeps I.bk) hP' ht hc bP fun ctv h' tk hx hsz => ?_
    have I1 : Inv X pins σ H { s with heap := h', toks := tk } := I.kept hx
    have nF : H h'.objs.size = none := I1.hok.fresh (Nat.le_refl _)
    have I2 := inv_fnA (F := ⟨"<lambda>", X.env.qual ++ "<lambda>", params, [], scope, cloFrom X.env.cells scope.names [], c'⟩) (b := .expr body) (t' := tk) (doc := .none) (pm := (X.mg "__name__").getD .none) (ctv := ctv) I1 rfl
    refine ⟨.ref h'.objs.size, _, I2, rfl, h h'.objs.size c' _ (fun b o e n => ?_) (hT.ext fun b o e => ?_) nF upd_same ?_⟩
    · exact (upd_ne (ne_of_none e nF)).trans e
    · exact (upd_ne (ne_of_none e nF)).trans e
    · exact (upd_ne (ne_of_none hco nF)).trans hco
end
abbrev RT := L2.St → V → Hp → Prop
structure PSsR (X : Cx) (l : List Stmt) (t : RT → L2.St → Hp → Prop) : Prop where
  run : ∀ (pins : List (Addr × Obj)) (s : Shared) (σ : L2.St) (H : Hp) (R : RT), Inv X pins σ H s → t R σ H → wpAny (model X.prog X.w) X.A (execs l X.env) (fun f s' => match f with | .ret u => ∃ v σ' H', Inv X pins σ' H' s' ∧ L2.RelV v u ∧ R σ' v H' | _ => False) X.xe s
section
variable {X : Cx} {st : Stmt} {l : List Stmt} {t1 : TS} {t2 : RT → L2.St → Hp → Prop} {e : Expr} {te : TE} {pos : Pos}
theorem psr_ret (he : PE X e te) : PSsR X [.Return (some e) pos] fun R σ H => te σ H fun v H' => R σ v H' := by
  refine ⟨fun pins s σ H R I h => ?_⟩
  refine wpAny_execs_cons (wpAny_Return_some (thn (he.run pins s σ H _ I h) fun u s1 ⟨v, H1, I1, r1, q1⟩ => ?_))
  exact ⟨v, σ, H1, I1, r1, q1⟩
theorem psr_cons (h1 : PS X st t1) (h2 : PSsR X l t2) : PSsR X (st :: l) fun R σ H => t1 { nx := fun σ' H' => t2 R σ' H', rt := fun _ _ => False } σ H := by
  refine ⟨fun pins s σ H R I h => ?_⟩
  refine wpAny_execs_cons (thn (h1.run pins s σ H _ I h) fun f s1 q => ?_)
  cases f with
  | next =>
    obtain ⟨σ', H', I', q⟩ := q
    exact h2.run pins s1 σ' H' R I' q
  | ret v =>
    obtain ⟨_, _, _, _, _, z⟩ := q
    exact z.elim
  | brk =>
    obtain ⟨_, _, _, z⟩ := q
    exact z.elim
  | cont =>
    obtain ⟨_, _, _, z⟩ := q
    exact z.elim
theorem PSsR.nox (h : PSsR X.nox l t2) : PSsR X l t2 := ⟨fun pins s σ H R I hw =>
  wpAny_mono (h.run pins s σ H R (I.wish _) hw) (fun f s' q => by
    cases f with
    | ret u => obtain ⟨v, σ', H', I', r, q⟩ := q; exact ⟨v, σ', H', I'.unwish, r, q⟩
    | next => exact q
    | brk => exact q
    | cont => exact q) fun _ _ z => False.elim z⟩
end
structure CellsIn (ec : List (Str × Addr)) (N : List Str) (sc : Scope) (σ : L2.St) (H : Hp) : Prop where
  inj : ∀ x y c, ec.lookup x = some c → ec.lookup y = some c → x = y
  all : ∀ y c, ec.lookup y = some c → ∃ ob v, H c = some (cellH ob) ∧ ob.data = .cell v
  val : ∀ (y : Str) (j : Nat) (v : V) (c : Addr), N[j]? = some y → σ[j]? = some (some v) → sc.names.lookup y = some .cell → ec.lookup y = some c → ∃ ob u, H c = some (cellH ob) ∧ ob.data = .cell (some u) ∧ L2.RelV v u
theorem ce_clo {P : Program} {w : World} {K : PySem.W.Frag} {mg : Str → Option Value} {base : Heap} {CX : CXT} {N : List Str} {qual : Str} {scope : Scope} {f : Addr} {cd : Value} {A : Around} {outer : List Env} {s s' : Shared} {H H' : Hp} {E : XK} {σ' : L2.St} {v : V} {u : Value} {Q : VK}
    (J : Inv (cxOf CX P w K mg base N qual scope f cd A outer s H E) [] σ' H' s') (rv : L2.RelV v u) (q : ∀ H'', Same H' H'' → CellsIn (envOfC qual scope s.heap.objs.size f cd).cells N scope σ' H'' → Q v H'') : CE outer P w H s Q u s' := by
  obtain ⟨ec, eec⟩ : ∃ ec, ec = (envOfC qual scope s.heap.objs.size f cd).cells := ⟨_, rfl⟩
  have cell : ∀ y c, ec.lookup y = some c → ∃ v ob, s'.heap.get? c = some ob ∧ ob.data = .cell v := fun y c e => J.cell y c (by rw [eec] at e; exact e)
  have freeC : ∀ y c, ec.lookup y = some c → H' c = none := fun y c e => J.freeC y c (by rw [eec] at e; exact e)
  have above : ∀ y c, ec.lookup y = some c → s.heap.objs.size ≤ c := fun y c e => J.ok.cab y c rfl (by rw [eec] at e; exact e)
  have un : Un (frs outer) [] H H' s.heap s'.heap := J.base
  have hok : HOk P w H' s'.heap := J.hok
  have nn : ∀ c ∈ csF ec, H' c = none := fun c m => let ⟨y, e⟩ := mem_cs.mp m; freeC y c e
  obtain ⟨G, hG⟩ : ∃ G : Hp, G = fun b => if b ∈ csF ec then (s'.heap.get? b).map cellH else H' b := ⟨_, rfl⟩
  have gin : ∀ {y : Str} {c : Addr} {ob : Obj}, ec.lookup y = some c → s'.heap.get? c = some ob → G c = some (cellH ob) := fun {y c ob} e g => by
    rw [hG]
    show (if c ∈ csF ec then (s'.heap.get? c).map cellH else H' c) = _
    rw [if_pos (mem_cs.mpr ⟨y, e⟩), g]
    rfl
  have gout : ∀ {b : Addr}, b ∉ csF ec → G b = H' b := fun {b} m => by
    rw [hG]
    exact if_neg m
  have gsome : ∀ {b : Addr} {o : HO}, H' b = some o → G b = some o := fun {b o} e => by
    rw [gout (fun m => by rw [nn b m] at e; cases e)]
    exact e
  have hokG : HOk P w G s'.heap := fun b o e => by
    by_cases m : b ∈ csF ec
    · obtain ⟨y, e1⟩ := mem_cs.mp m
      obtain ⟨v, ob, g, _⟩ := cell y b e1
      rw [gin e1 g] at e
      cases e
      exact cellH_ok g
    · rw [gout m] at e
      exact (hok b o e).stay (fun _ _ _ q => q) (fun c q => gsome q) fun c xs q => gsome q
  refine ⟨v, G, J.os, J.bare, ⟨un.keep, un.slot, fun b o g n hx => ?_, un.there, fun b xs e => gsome (un.tups b xs e), fun b o u e => gsome (un.frzs b o u e), fun b ps e => ?_⟩, hokG, rv, q G (fun b o e => gsome e) ?_⟩
  · rw [gout (fun m => ?_)]
    · exact un.free b o g n hx
    · obtain ⟨y, e⟩ := mem_cs.mp m
      exact absurd (Nat.lt_of_lt_of_le (Heap.lt_size g) (above y b e)) (Nat.lt_irrefl _)
  · obtain ⟨more, e2⟩ := un.tbls b ps e
    exact ⟨more, gsome e2⟩
  · rw [← eec]
    refine ⟨fun x y c e1 e2 => J.ok.inj x y c (by rw [eec] at e1; exact e1) (by rw [eec] at e2; exact e2), fun y c e => ?_, fun y j v c e1 e2 e3 e4 => ?_⟩
    · obtain ⟨v, ob, g, hd⟩ := cell y c e
      exact ⟨ob, v, gin e g, hd⟩
    · obtain ⟨m, hn, hl⟩ := J.loc
      obtain ⟨u, r, l⟩ := hl j y v e1 e2 (.inr (.inl e3))
      rcases l with ⟨z, _⟩ | ⟨_, a', ha', ob, g, hd⟩
      · have z : scope.names.lookup y = some .local := z
        rw [e3] at z
        cases z
      · have ha' : (envOfC qual scope s.heap.objs.size f cd).cells.lookup y = some a' := ha'
        rw [← eec, e4] at ha'
        cases ha'
        exact ⟨ob, u, gin e4 g, hd, r⟩
section
variable {P : Program} {w : World} {K : PySem.W.Frag} {mg : Str → Option Value} {base : Heap} {k : Nat} {f c : Addr} {fd : FuncData} {ps : List Str} {sp : Sp}
theorem run_clo {CX : CXT} {name qual : Str} {params : Arguments} {body : List Stmt} {scope : Scope} {dV kV doc pm cdv ct oc : Value} {an od : Option Addr} {osl : Array (Option Value)} {N : List Str} (lk : K.lookup f = some ⟨oc, od, .func (PySem.W.fnOf name qual params body scope dV kV doc pm an cdv ct), osl⟩) (hcd : PySem.W.codeIn K cdv qual = true) (S : FnScope N ps scope)
    {A : Around} {outer : List Env} {s : Shared} {H : Hp} {args : Args} {us : List Value} {vs : List V} {Q : VK} {E : XK} (hl : vs.length = ps.length) (hr : Room (k + 1) A) (e0 : Env0 P w K mg base A outer s H) (hb : BindsTo s (PySem.W.fnOf name qual params body scope dV kV doc pm an cdv ct) args (ps.zip us)) (r : Vals vs us)
    (hbody : Room k (A.deeper (envOfC qual scope s.heap.objs.size f cdv)) → ∃ t, PSsR (cxOf CX P w K mg base N qual scope f cdv A outer s H E) body t ∧ t (fun σ v H' => ∀ H'', Same H' H'' → CellsIn (envOfC qual scope s.heap.objs.size f cdv).cells N scope σ H'' → Q v H'') (start N vs) H) :
    codeAny (model P w) A (.call (.ref f) args) (CR CX outer P w H s Q E) s := by
  have KX : K.In s.heap := e0.mod.kin.keeps fun b o e => (e0.bs b o e).1
  have lim : s.heap.NoLimit := e0.mod.nolimit.keeps fun b o e => (e0.bs b o e).1
  have hkind : ∀ y ∈ ps.zip us, scope.names.lookup y.1 = some .local ∨ (scope.names.lookup y.1 = some .cell ∧ ((cellsFrom (s.heap.objs.size + 1) scope.names []).lookup y.1).isSome = true) := fun ⟨n, v⟩ hy => by
    rcases S.par n (List.of_mem_zip hy).1 with q | q
    · exact .inl q
    · exact .inr ⟨q, PySem.W.cellsFrom_some _ _ _ (.inl q)⟩
  refine codeAny_call_function hr.depth (KX _ _ lk) rfl S.co S.gen rfl (PySem.W.codeRec_of KX hcd) (hb _ _ _ _ ?_)
  refine wpAny_newFunctionEnv_cells S.kind hkind fun env he s1 x => ?_
  subst he
  refine ⟨lim.keeps x.toInCall.keep, codeAny_func ?_⟩
  obtain ⟨t, ht, hq⟩ := hbody (hr.deeper _)
  have I : Inv (cxOf CX P w K mg base N qual scope f cdv A outer s H E) [] (start N vs) H s1 := inv_start S hr.hd e0 hl r x
  refine wpAny_mono (ht.run [] s1 (start N vs) H _ I hq) (fun fl s' hs => ?_) fun e s' hs => hs
  cases fl with
  | ret u =>
    obtain ⟨v, σ', H', J, rv, q⟩ := hs
    exact ce_clo J rv q
  | next => exact False.elim hs
  | brk => exact False.elim hs
  | cont => exact False.elim hs
theorem okNR {x qual : Str} {st : Stmt} {N : List Str} (F : Fun K x qual st f fd) (hc : fd.code = .ref c) (S : FnScope N ps (defScope st)) (ar : ∀ vs H Q E, sp vs H Q E → vs.length = ps.length)
    (bd : ∀ (A : Around) (outer : List Env) (s : Shared) (H : Hp) (vs : List V) (Q : VK) (E : XK), Room k (A.deeper (envOfC qual (defScope st) s.heap.objs.size f (.ref c))) → sp vs H Q E →
      ∃ t, PSsR (cxOf CX0 P w K mg base N qual (defScope st) f (.ref c) A outer s H E).nox (defBody st) t ∧ t (fun σ v H' => ∀ H'', Same H' H'' → CellsIn (envOfC qual (defScope st) s.heap.objs.size f (.ref c)).cells N (defScope st) σ H'' → Q v H'') (start N vs) H) :
    FnOk P w K mg base CX0 (k + 1) f fd ps sp := by
  obtain ⟨oc, od, kV, doc, pm, an, cdv, ct, osl, rfl, lk, hcd⟩ := F.ex
  have e : cdv = .ref c := hc
  subst e
  refine ⟨ar, fun A outer s H args us vs Q E hr e0 hb r hsp => ?_⟩
  exact run_clo lk hcd S (ar _ _ _ _ hsp) hr e0 hb r fun hr2 => let ⟨t, h, q⟩ := bd A outer s H vs Q E hr2 hsp; ⟨t, h.nox, q⟩
end
theorem clo_of {ec : List (Str × Addr)} {N : List Str} {sc nsc : Scope} {σ : L2.St} {H : Hp} {f : Addr} {F : NF} {b : FuncBody} {fr : List Str} {js : List Nat} {ws : List V} (C : CellsIn ec N sc σ H) (hcl : F.cl = cloFrom ec nsc.names []) (hfree : ∀ y ∈ nsc.names, y.2 = .free → ∃ c, ec.lookup y.1 = some c)
    (hfr : ∀ y ∈ fr, (y, NameKind.free) ∈ nsc.names ∧ sc.names.lookup y = some .cell) (hf : H f = some (FnA f F b)) (hc : H F.c = some (CodeO F.c F.qual)) (hN : js.map (fun j => N[j]?) = fr.map some) (hw : js.map (fun j => σ[j]?) = ws.map fun v => some (some v)) : CloAt H f F b fr ws := by
  have sub : ∀ y c, F.cl.lookup y = some c → ec.lookup y = some c := fun y c e => by rw [hcl] at e; exact clo_cm hfree e
  have lj : js.length = fr.length := by have := congrArg List.length hN; rw [List.length_map, List.length_map] at this; exact this
  have lw : js.length = ws.length := by have := congrArg List.length hw; rw [List.length_map, List.length_map] at this; exact this
  refine ⟨hf, hc, by omega, fun x y c e1 e2 => C.inj x y c (sub x c e1) (sub y c e2), fun y c e => C.all y c (sub y c e), fun i y v e1 e2 => ?_⟩
  have il : i < js.length := by rw [lj]; exact (List.getElem?_eq_some_iff.mp e1).1
  have n1 : N[js[i]]? = some y := by
    have h : (js.map fun j => N[j]?)[i]? = (fr.map some)[i]? := by rw [hN]
    rw [List.getElem?_map, List.getElem?_map, List.getElem?_eq_getElem il, e1] at h
    exact Option.some.inj h
  have n2 : σ[js[i]]? = some (some v) := by
    have h : (js.map fun j => σ[j]?)[i]? = (ws.map fun v => some (some v))[i]? := by rw [hw]
    rw [List.getElem?_map, List.getElem?_map, List.getElem?_eq_getElem il, e2] at h
    exact Option.some.inj h
  obtain ⟨m1, m2⟩ := hfr y (List.mem_of_getElem? e1)
  obtain ⟨c, ec1⟩ := hfree _ m1 rfl
  obtain ⟨ob, u, h1, h2, h3⟩ := C.val y js[i] v c n1 n2 m2 ec1
  exact ⟨c, ob, u, by rw [hcl]; exact clo_has hfree m1 ec1, h1, h2, h3⟩
end Tp
set_option Elab.async false
set_option linter.all false
set_option maxRecDepth 100000
set_option maxHeartbeats 4000000
namespace Tp
open PySem PySem.Spec PyProof.Rows L2
section
variable {X : Cx} {pins : List (Addr × Obj)} {σ : L2.St} {H : Hp} {s : Shared} {a : Addr} {y z : V} {u r : Value} {A : Around} {E : Value → Shared → Prop}
theorem d_setdef {Q : Value → Shared → Prop} (hu : A.units + 1 < cLine) (I : Inv X pins σ H s) (ry : L2.RelV y u) (rz : L2.RelV z r)
    (h : (∃ v, DGet H a y (some v) ∧ (∃ e, H a = some e ∧ Mut (some e)) ∧ ∀ w' s', Inv X pins σ H s' → L2.RelV v w' → Q w' s') ∨ (DGet H a y none ∧ ∃ H', DPut H a y z H' ∧ ∀ s', Inv X pins σ H' s' → Q r s')) :
    wpAny (model X.prog X.w) A (call (.builtin "dict.setdefault") [.ref a, u, r]) Q E s := by
  rcases h with ⟨v, g, _, q⟩ | ⟨g, H', p, q⟩
  · rcases g with ⟨kvs, k, e, ey, l⟩ | ⟨kvs, k, b, e, ey, eb, l⟩
    · subst ey
      obtain ⟨sz, hd, vs, rel, dd⟩ := dk_rd I.hok e
      obtain ⟨w', hw, rw'⟩ := RelO.some_of (v := v) (o := valueAt vs k) (by rw [l]; exact rel.val k)
      refine call_meetsIn PySem.F.slot_dict_setdefault dd.typeIs PySem.F.entry_dict_setdefault (PySem.F.args_dict_setdefault_3 _ _ _) (kt_meets_setdefault (mixKind X.prog X.w) a (kV_is ry) hd r) ⟨vs, dd, by rw [← rel.length]; exact sz, fun v2 h2 => ?_, fun h2 => ?_⟩
      · rw [hw] at h2
        cases h2
        exact q _ _ (I.tok _) rw'
      · rw [hw] at h2
        cases h2
    · subst ey
      cases (show u = Value.ref b from ry)
      obtain ⟨sz, hd, xs, rel, dd⟩ := dt_rd I.hok e
      obtain ⟨w', hw, rw'⟩ := RelO.some_of (v := v) (o := (atKey xs k).map (·.2)) (by rw [l]; exact rel.val k)
      obtain ⟨p, hp, hp2⟩ := Option.map_eq_some_iff.mp hw
      refine call_meetsIn PySem.F.slot_dict_setdefault dd.typeIs PySem.F.entry_dict_setdefault (PySem.F.args_dict_setdefault_3 _ _ _) (meetsH_dict_setdefault (tupleKind (mixKind X.prog X.w)) a b hd r) ⟨tupleKind_room_in1 hu, k, xs, key_of I.hok eb, dd, by rw [← Paired.length rel]; exact sz, fun p2 h2 => ?_, fun h2 => ?_⟩
      · rw [hp] at h2
        cases h2
        rw [hp2]
        exact q _ _ (I.tok _) rw'
      · rw [hp] at h2
        cases h2
  · rcases p with ⟨kvs, k, e, ey, l, eH⟩ | ⟨kvs, k, b, e, ey, eb, l, eH⟩
    · subst ey eH
      obtain ⟨sz, hd, vs, rel, dd⟩ := dk_of I.hok e
      have hl : (putK kvs k z).length ≤ sizeLine := by have := length_putK kvs k z; omega
      have no : valV kvs k = none := by
        rcases g with ⟨kvs2, k2, e2, ey2, l2⟩ | ⟨kvs2, k2, b2, e2, ey2, _, _⟩
        · rcases e2 with e2 | ⟨ob, e2⟩
          · rw [e] at e2
            cases e2
            have : k = k2 := by
              cases k <;> cases k2 <;> simp [kV] at ey2 <;> rw [ey2]
            rw [this]
            exact l2.symm
          · rw [e] at e2; cases e2
        · cases k <;> cases ey2
      have hn : valueAt vs k = none := RelO.none_of (by rw [← no]; exact rel.val k)
      refine call_meetsIn PySem.F.slot_dict_setdefault dd.typeIs PySem.F.entry_dict_setdefault (PySem.F.args_dict_setdefault_3 _ _ _) (kt_meets_setdefault (mixKind X.prog X.w) a (kV_is ry) hd r) ⟨vs, dd, by rw [← rel.length]; exact sz, fun v2 h2 => ?_, fun _ h' dd' hs => q _ ?_⟩
      · rw [hn] at h2
        cases h2
      · have he : ∃ q, h'.get? a = some q := let ⟨q, _, _, hq, _⟩ := dd'; ⟨q, hq⟩
        exact d_write I (by rw [e]; exact True.intro) hs he (dk_new hl hd (rel.put k rz) dd')
    · subst ey eH
      cases (show u = Value.ref b from ry)
      obtain ⟨sz, hd, xs, rel, dd⟩ := dt_of I.hok e
      have hl : (putK kvs k z).length ≤ sizeLine := by have := length_putK kvs k z; omega
      have no : valV kvs k = none := by
        rcases g with ⟨kvs2, k2, e2, ey2, l2⟩ | ⟨kvs2, k2, b2, e2, ey2, eb2, l2⟩
        · cases k2 <;> cases ey2
        · rcases e2 with e2 | ⟨ob, e2⟩
          · rw [e] at e2
            cases e2
            cases ey2
            rw [eb] at eb2
            have e3 := HO.tup.inj (Option.some.inj eb2)
            have : k = k2 := by
              have inj : ∀ {l m : List L2.Key}, l.map kV = m.map kV → l = m := by
                intro l
                induction l with
                | nil => intro m h; cases m with
                  | nil => rfl
                  | cons x m => cases h
                | cons x l ih => intro m h; cases m with
                  | nil => cases h
                  | cons y m =>
                    rw [List.map_cons, List.map_cons] at h
                    injection h with h1 h2
                    rw [ih h2]
                    have : x = y := by cases x <;> cases y <;> simp [kV] at h1 <;> rw [h1]
                    rw [this]
              exact inj e3
            rw [this]
            exact l2.symm
          · rw [e] at e2; cases e2
      have hn : (atKey xs k).map (·.2) = none := RelO.none_of (by rw [← no]; exact rel.val k)
      have hn : atKey xs k = none := Option.map_eq_none_iff.mp hn
      refine call_meetsIn PySem.F.slot_dict_setdefault dd.typeIs PySem.F.entry_dict_setdefault (PySem.F.args_dict_setdefault_3 _ _ _) (meetsH_dict_setdefault (tupleKind (mixKind X.prog X.w)) a b hd r) ⟨tupleKind_room_in1 hu, k, xs, key_of I.hok eb, dd, by rw [← Paired.length rel]; exact sz, fun p2 h2 => ?_, fun _ h' dd' hs => q _ ?_⟩
      · rw [hn] at h2
        cases h2
      · obtain ⟨q, es, ep, hq, h2, h3, h4, _, h5⟩ := dd'
        refine d_write I (by rw [e]; exact True.intro) hs ⟨q, hq⟩ ⟨hl, hd, _, (rel.put k eb rz).keeps fun c ys ec => ?_, q, es, ep, hq, h2, h3, h4, h5⟩
        rw [upd_ne (ne_of ec e (fun z => nomatch z))]
        exact ec
end
def tDSd (td ty tx : TE) : TE := fun σ H Q => td σ H fun x H1 => ∃ a, x = .ref a ∧ IsD H1 a ∧ ty σ H1 fun y H2 => tx σ H2 fun z H3 => (∃ v, DGet H3 a y (some v) ∧ (∃ e, H3 a = some e ∧ Mut (some e)) ∧ Q v H3) ∨ (DGet H3 a y none ∧ ∃ H4, DPut H3 a y z H4 ∧ Q z H4)
theorem pe_dsetdef {X : Cx} {o e f : Expr} {apos cpos : Pos} {td ty tx : TE} (hu : X.A.units + 1 < cLine) (ho : PE X o td) (he : PE X e ty) (hf : PE X f tx) (m : M2 X o "setdefault" apos e f cpos) : PE X (.Call (.Attribute o "setdefault" apos) [e, f] [] cpos) (tDSd td ty tx) := by
  refine ⟨fun pins s σ H Q I h => ?_⟩
  refine wpAny_Call_method m.base m.few m.line PySem.F.plainAttrs_dict PySem.F.slot_dict_setdefault PySem.F.type_dict_setdefault (thn (ho.run pins s σ H _ I h) fun u s1 ⟨x, H1, I1, rx, a, ex, d, q1⟩ => ?_)
  subst ex
  obtain rfl : u = Value.ref a := rx
  obtain ⟨t1, t2, _⟩ := isD_at I1 d
  refine ⟨t1, t2, ?_⟩
  rw [m.trees]
  refine Calls.callWith_builtin rfl (Calls.evalArgs_plain (Calls.spliced_cons (thn (he.run pins s1 σ H1 _ I1 q1) fun iv s2 ⟨y, H2, I2, ry, q2⟩ =>
    Calls.spliced_cons (thn (hf.run pins s2 σ H2 _ I2 q2) fun fv s3 ⟨z, H3, I3, rz, q3⟩ => Calls.spliced_nil ?_))))
  refine d_setdef hu I3 ry rz ?_
  rcases q3 with ⟨v, g, m, q⟩ | ⟨g, H4, p, q⟩
  · exact .inl ⟨v, g, m, fun w' s4 I4 rw' => ⟨v, H3, I4, rw', q⟩⟩
  · exact .inr ⟨g, H4, p, fun s4 I4 => ⟨z, H4, I4, rz, q⟩⟩
end Tp
set_option Elab.async false
set_option linter.all false
set_option maxRecDepth 100000
set_option maxHeartbeats 4000000
namespace Tp
open PySem PySem.Spec PyProof.Rows L2
section
variable {X : Cx} {CX : CXT} {k : Nat} {f C : Addr} {fd : FuncData} {ps : List Str} {sp : Sp} {E : XK}
end
end Tp
set_option Elab.async false
set_option linter.all false
set_option maxRecDepth 100000
set_option maxHeartbeats 4000000
namespace Tp
open PySem PySem.Spec PyProof.Rows L2
mutual
inductive NkV (K : PySem.W.Frag) (H : Hp) : NestedKey → V → Prop
  | num (i : Int) : NkV K H (.num i) (.int i)
  | text (x : Str) : NkV K H (.text x) (.str x)
  | tup {b : Addr} {ks : List NestedKey} {vs : List V} : SqT K H b vs → NkAll K H ks vs → NkV K H (.tup ks) (.ref b)
inductive NkAll (K : PySem.W.Frag) (H : Hp) : List NestedKey → List V → Prop
  | nil : NkAll K H [] []
  | cons {k : NestedKey} {ks : List NestedKey} {v : V} {vs : List V} : NkV K H k v → NkAll K H ks vs → NkAll K H (k :: ks) (v :: vs)
end
theorem sqT_same {K : PySem.W.Frag} {H H' : Hp} (S : Same H H') {a : Addr} {xs : List V} : SqT K H a xs → SqT K H' a xs := by
  rintro ((h | ⟨o, h⟩) | h)
  · exact .inl (.inl (S _ _ h))
  · exact .inl (.inr ⟨o, S _ _ h⟩)
  · exact .inr h
def SameT (H H' : Hp) : Prop := (∀ a xs, H a = some (.tup xs) → H' a = some (.tup xs)) ∧ ∀ a o xs, H a = some (.frz o (.tup xs)) → H' a = some (.frz o (.tup xs))
theorem SameT.trans {H H1 H2 : Hp} (p : SameT H H1) (q : SameT H1 H2) : SameT H H2 := ⟨fun a xs h => q.1 a xs (p.1 a xs h), fun a o xs h => q.2 a o xs (p.2 a o xs h)⟩
theorem SameT.sq {K : PySem.W.Frag} {H H' : Hp} (S : SameT H H') {a : Addr} {xs : List V} : SqT K H a xs → SqT K H' a xs := by
  rintro ((h | ⟨o, h⟩) | h)
  · exact .inl (.inl (S.1 _ _ h))
  · exact .inl (.inr ⟨o, S.2 _ _ _ h⟩)
  · exact .inr h
def NoTup : HO → Prop
  | .tup _ => False
  | .frz _ (.tup _) => False
  | _ => True
theorem SameT.upd {H : Hp} {a : Addr} {o u : HO} (h : H a = some o) (n : NoTup o) : SameT H (L2.upd H a u) :=
  ⟨fun b xs e => by rw [upd_ne (fun z => by rw [z, h] at e; cases e; exact n)]; exact e, fun b ob xs e => by rw [upd_ne (fun z => by rw [z, h] at e; cases e; exact n)]; exact e⟩
mutual
theorem NkV.same {K : PySem.W.Frag} {H H' : Hp} (S : SameT H H') : ∀ {k : NestedKey} {v : V}, NkV K H k v → NkV K H' k v
  | _, _, .num i => .num i
  | _, _, .text x => .text x
  | _, _, .tup s r => .tup (S.sq s) (NkAll.same S r)
theorem NkAll.same {K : PySem.W.Frag} {H H' : Hp} (S : SameT H H') : ∀ {k : List NestedKey} {v : List V}, NkAll K H k v → NkAll K H' k v
  | _, _, .nil => .nil
  | _, _, .cons a b => .cons (NkV.same S a) (NkAll.same S b)
end
section
variable {X : Cx} {pins : List (Addr × Obj)} {σ : L2.St} {H : Hp} {s : Shared}
mutual
theorem NkV.is (I : Inv X pins σ H s) : ∀ {k : NestedKey} {v : V}, NkV X.K H k v → ∀ u, RelV v u → NestedIs s.heap k u
  | _, _, .num i, u, r => by obtain ⟨t, rfl⟩ := r; exact .int _ _
  | _, _, .text x, u, r => by obtain ⟨t, rfl⟩ := r; exact .text _ _
  | _, _, .tup hs hr, u, r => by
    obtain ⟨its, rv, ⟨o, ho, hc, n, hd⟩, _⟩ := I.tuple hs
    cases r
    exact .tup ho hc hd (by simpa using NkAll.is I hr its rv)
theorem NkAll.is (I : Inv X pins σ H s) : ∀ {k : List NestedKey} {v : List V}, NkAll X.K H k v → ∀ u, Vals v u → NestedAll s.heap k u
  | _, _, .nil, u, r => by cases r; exact .nil
  | _, _, .cons a b, u, r => by
    cases r with
    | cons r1 r2 => exact .cons (NkV.is I a _ r1) (NkAll.is I b _ r2)
end
end
abbrev NX := List (NestedKey × Addr × V)
def RelN (x : NestedKey × Addr × V) (y : NestedKey × Addr × Value) : Prop := x.1 = y.1 ∧ x.2.1 = y.2.1 ∧ RelV x.2.2 y.2.2
def dNφ (P : Program) (w : World) (a : Addr) (xs : NX) : Heap → Prop := fun h => xs.length ≤ sizeLine ∧ (a == sysModules) = false ∧ ∃ ys, Paired RelN xs ys ∧ ∃ o es ep, h.get? a = some o ∧ o.ExactDict ∧ o.data = .dict es ep ∧ es.toList = ys.map (entryOfKey (nestedKind P w)) ∧ (ys.map (·.1)).Nodup
def dN (P : Program) (w : World) (a : Addr) (xs : NX) : HO := .ext (dNφ P w a xs)
def NOk (K : PySem.W.Frag) (H : Hp) (xs : NX) : Prop := ∀ x ∈ xs, NkV K H x.1 (.ref x.2.1) ∧ x.1.depth ≤ 8
theorem NOk.same {K : PySem.W.Frag} {H H' : Hp} {xs : NX} (h : NOk K H xs) (S : SameT H H') : NOk K H' xs := fun x hx => ⟨(h x hx).1.same S, (h x hx).2⟩
section
variable {X : Cx} {pins : List (Addr × Obj)} {σ : L2.St} {H : Hp} {s : Shared} {a b : Addr} {xs : NX} {k : NestedKey} {A : Around} {E : Value → Shared → Prop}
end
section
variable {X : Cx} {o i value : Expr} {pos pos' : Pos} {td ty tv : TE}
theorem paired_snoc {α β : Type} {F : α → β → Prop} {xs : List α} {ys : List β} {x : α} {y : β} (r : Paired F xs ys) (h : F x y) : Paired F (xs ++ [x]) (ys ++ [y]) := by
  induction r with
  | nil => exact .cons h .nil
  | cons a _ ih => exact .cons a ih
end
end Tp
set_option Elab.async false
set_option linter.all false
set_option maxRecDepth 100000
set_option maxHeartbeats 4000000
namespace Tp
open PySem PySem.Spec PyProof.Rows L2
section
variable {X : Cx} {CX : CXT} {k : Nat} {f C : Addr} {fd : FuncData} {ps : List Str} {sp : Sp} {E : XK}
end
end Tp
set_option Elab.async false
set_option linter.all false
set_option maxRecDepth 100000
set_option maxHeartbeats 4000000
structure PySem.InitF (B initId : String) : Prop where
  init : Slot B "__init__" initId
  initEntry : entryFor table initId = some Builtin.«BaseException.__init__»
  initSplit : splitId initId = some (B, "__init__")
  initKind : builtinKind initId = some .slot
  initRow : Manifest.signature? initId = some ⟨.positional, "*", B, .self, [⟨"args", .varPos, false⟩]⟩
  noStar : (B != "*") = true
namespace PySem.F
theorem initF_of {B newId initId : String} {bm : List Value} (F : ExcBaseFacts B newId initId bm) : InitF B initId := ⟨F.init, F.initEntry, F.initSplit, F.initKind, F.initRow, F.noStar⟩
theorem initF_KeyError : InitF "KeyError" "KeyError.__init__" where
  init := .of (owner := "KeyError") (n := "__init__") (by rw [typeLookup_type, builtinLookup_eq_fast]; kernel_rfl) (by decide +kernel) (by decide +kernel) (by decide +kernel)
    (by first | exact .inl (by decide +kernel) | exact .inr (by decide +kernel)) (by rw [isSubtype_type]; kernel_rfl)
  initEntry := entryFor_alias (id' := "BaseException.__init__") (by rw [fastTable_eq_tree]; kernel_rfl) (by first | rfl | decide +kernel) (by decide +kernel) (by rw [fastTable_eq_tree]; kernel_rfl)
  initSplit := by kernel_rfl
  initKind := by kernel_rfl
  initRow := by kernel_rfl
  noStar := by decide +kernel
end PySem.F
namespace PySem.HandSPX
open Builtin Builtin.ObjectAttr
structure Over (bm : List Value) (B : String) : Prop where
  hasB : bm.contains (.type B) = true
  noA : bm.contains (.type "AttributeError") = false
  noN : bm.contains (.type "NameError") = false
section
variable {prog : Program} {w : World} {A : Around} {E : Value → Shared → Prop} {R : Result → Shared → Prop} {h : Heap} {g : Array GenState} {d : Drawn} {t : Nat} {os : OsState}
variable {nm q : Str} {C N : Addr} {bs bm bmB : List Value} {hdct : Bool} {sn : List Str} {sub : List Value} {ab : Bool} {col : Option Bool} {dd : Option Addr} {k0 k1 k2 k3 k5 : Option Value} {B newId initId : String}
theorem check_new_over {M : Model} (F : ExcBaseFacts B newId initId bmB) (hT : Over bm B) {rest : List Value} {Q : Unit → Shared → Prop}
    (hC : h.get? C = some (excClassObj nm q C N bs bm hdct sn sub ab col dd k0 k1 k2 k3 k5 newId)) (hq : Q () ⟨h, g, d, t, os⟩) : wpAny M A (checkBuiltinCall newId ⟨.ref C :: rest, []⟩) Q E ⟨h, g, d, t, os⟩ := by
  have hcont : (Value.ref C :: bm).contains (.type B) = true := by rw [List.contains_cons, hT.hasB, Bool.or_true]
  have hstar := F.noStar
  simp only [checkBuiltinCall, F.newKind, F.newSplit, F.newRow]
  repeat (first | refine wpAny_loadPart_at hC ?_ | (refine wpAny_isSubtype_exc hC ?_; rw [hcont]) | refine wpAny_staticBase_exc hC ?_ | refine wpAny_madeBy_exc hC ?_ | simp only [bne_self_eq_false, Bool.false_eq_true, if_false] | wp_step)
  exact hq
theorem new_over (F : ExcBaseFacts B newId initId bmB) (hT : Over bm B) {rest : List Value}
    (hC : h.get? C = some (excClassObj nm q C N bs bm hdct sn sub ab col dd k0 k1 k2 k3 k5 newId))
    (hq : R (.ok (.ret (.ref (h.objs.size + 1)))) ⟨(h.push { cls := .type "tuple", data := .seq rest.toArray }).push
      { cls := .ref C, data := .fields #[.ref h.objs.size, .none, .none, .none, .bool false, .none] }, g, d, t, os⟩) (hrest : rest.length ≤ sizeLine) :
    codeAny (model prog w) A (.builtin newId ⟨.ref C :: rest, []⟩) R ⟨h, g, d, t, os⟩ := by
  have hends := F.ends
  have hcB : (Value.ref C :: bm).contains (.type B) = true := by rw [List.contains_cons, hT.hasB, Bool.or_true]
  have hcA : (Value.ref C :: bm).contains (.type "AttributeError") = false := by rw [List.contains_cons, hT.noA]; rfl
  have hcN : (Value.ref C :: bm).contains (.type "NameError") = false := by rw [List.contains_cons, hT.noN]; rfl
  refine codeAny_builtinAt F.entry ?_
  unfold Builtin.«BaseException.__new__»
  refine wpAt_bind ?_
  show wpAt _ _ _ (stack >>= _) _ _ _
  refine wpAt_bind (wpAt_stack fun p below => wpAt_of_wpAny ?_)
  wp_walk
  refine wpAt_of_wpAny ?_
  rw [F.owner]
  repeat (first | with_reducible refine wpAny_madeHere_exc F.canon hC ?_ | with_reducible refine wpAny_loadPart_at hC ?_ | (with_reducible refine wpAny_isSubtype_exc hC ?_; first | rw [hcB] | rw [hcA] | rw [hcN]) | wp_step)
  show R _ _
  rw [Heap.size_push]
  exact hq
theorem init_over {B2 initId2 : String} (F : InitF B2 initId2) (hT : bm.contains (.type B2) = true) {e t0 : Addr} {rest : List Value}
    (hC : h.get? C = some (excClassObj nm q C N bs bm hdct sn sub ab col dd k0 k1 k2 k3 k5 newId)) (he : h.get? e = some (excO C t0)) (hrest : rest.length ≤ sizeLine)
    (hq : ∀ h' t1, (∀ b o, b ≠ e → h.get? b = some o → h'.get? b = some o) → h'.get? e = some (excO C t1) → R (.ok (.ret .none)) ⟨h', g, d, t, os⟩) :
    codeAny (model prog w) A (.call (.builtin initId2) ⟨.ref e :: rest, []⟩) R ⟨h, g, d, t, os⟩ := by
  have hcB : (Value.ref C :: bm).contains (.type B2) = true := by rw [List.contains_cons, hT, Bool.or_true]
  have hshort := F.noStar
  refine codeAny_call_builtin F.init.plain F.initEntry ?_
  simp only [checkBuiltinCall, F.initKind, F.initSplit, F.initRow]
  repeat (first | with_reducible refine wpAny_loadPart_at he ?_ | with_reducible refine wpAny_loadPart_at hC ?_ | (with_reducible refine wpAny_isSubtype_exc hC ?_; rw [hcB]) | wp_step)
  refine wpAny_onRaise ?_
  rw [show ∀ (a b : String) (n : Nat), Bind.check ⟨.positional, "*", B2, .self, [⟨"args", .varPos, false⟩]⟩ a b n (List.map (fun x => x.fst) ({ pos := Value.ref e :: rest } : Args).kw) = pure () from
    fun a b n => check_star_args _ _ _ _ _ _]
  refine wpAny_pure ?_
  wp_walk
  refine hq _ h.objs.size (fun b o hb ho => ?_) ?_
  · rw [Heap.get?_update_other _ _ (Ne.symm hb)]
    exact Heap.get?_push_of_some _ ho
  · rw [Heap.get?_update_self _ (Heap.get?_push_of_some _ he) rfl]
    rfl
theorem type_call_over (F : ExcBaseFacts B newId initId bmB) (hT : Over bm B) {rest : List Value} {fI : Addr} {Q : Fin → Shared → Prop}
    (hC : h.get? C = some (excClassObj nm q C N bs bm hdct sn sub ab col dd k0 k1 k2 k3 k5 newId))
    (hi : W.Looks (model prog w) h (typeLookup (.ref C) "__init__") (some (.ref fI))) (hb : ∀ self, W.Looks (model prog w) h (bindSpecial (.ref fI) self) (.ref fI, [self])) (hrest : rest.length ≤ sizeLine)
    (hq : codeAny (model prog w) A (.call (.ref fI) ⟨.ref (h.objs.size + 1) :: rest, []⟩)
      (fun r s' => match r with | .ok (.ret v) => v = .none ∧ Q (.done (.ret (.ref (h.objs.size + 1)))) s' | .ok _ => False | .error e => E e s')
      ⟨(h.push (W.kdv_tup rest)).push (excO C h.objs.size), g, d, t, os⟩) :
    wpAny (model prog w) A (Builtin.«type.__call__» ⟨.ref C :: rest, []⟩) Q E ⟨h, g, d, t, os⟩ := by
  repeat (first | with_reducible refine wpAny_loadPart_at hC ?_ | with_reducible refine wpAny_madeBy_exc hC ?_ | wp_step)
  refine codeAny_call_builtin_code (Code.quiet_builtin _ F.quiet) (check_new_over F hT hC ?_)
  refine new_over F hT hC ?_ hrest
  show wpAny _ _ _ _ _ _
  have k : ∀ b o, h.get? b = some o → ((h.push (W.kdv_tup rest)).push (excO C h.objs.size)).get? b = some o := fun b o e => Heap.get?_push_of_some _ (Heap.get?_push_of_some _ e)
  have hC₁ := k _ _ hC
  have hget : ((h.push (W.kdv_tup rest)).push (excO C h.objs.size)).get? (h.objs.size + 1) = some (excO C h.objs.size) := by heap_get
  have hcC : (Value.ref C :: bm).contains (.ref C) = true := by simp
  have i1 := hi.keeps k
  have b1 := (hb (.ref (h.objs.size + 1))).keeps k
  unfold isInstance
  repeat (first | with_reducible refine wpAny_loadPart_at hget ?_ | (with_reducible refine wpAny_isSubtype_exc hC₁ ?_; rw [hcC]) | wp_step)
  show wpAny _ _ (typeLookup (.ref C) _) _ _ _
  refine i1.at ?_
  refine wpAny_holding (wpAny_bind (b1.at ?_))
  refine wpAny_bind (wpAny_call (codeAny_mono hq fun r s' z => ?_))
  rcases r with e | (v | _ | _ | _) <;> first | exact z | exact z.elim | skip
  obtain ⟨rfl, z⟩ := z
  first
    | exact wpAny_pure (wpAny_pure z)
    | (wp_walk; exact z)
theorem call_over (F : ExcBaseFacts B newId initId bmB) (hT : Over bm B) {rest : List Value} {fI : Addr}
    (hC : h.get? C = some (excClassObj nm q C N bs bm hdct sn sub ab col dd k0 k1 k2 k3 k5 newId))
    (hi : W.Looks (model prog w) h (typeLookup (.ref C) "__init__") (some (.ref fI))) (hb : ∀ self, W.Looks (model prog w) h (bindSpecial (.ref fI) self) (.ref fI, [self])) (hrest : rest.length ≤ sizeLine)
    (hq : codeAny (model prog w) (A.under (.builtin "type.__call__" ⟨.ref C :: rest, []⟩)) (.call (.ref fI) ⟨.ref (h.objs.size + 1) :: rest, []⟩) (W.InitBack (h.objs.size + 1) R)
      ⟨(h.push (W.kdv_tup rest)).push (excO C h.objs.size), g, d, t, os⟩) :
    codeAny (model prog w) A (.call (.ref C) ⟨rest, []⟩) R ⟨h, g, d, t, os⟩ := by
  have f1 := tc_lookup
  have f2 := tc_bind (.ref C)
  have hTy : (⟨h, g, d, t, os⟩ : Shared).TypeIs (.ref C) "type" := ⟨_, hC, rfl⟩
  refine codeAny_of_tree ?_
  show wpAny _ _ (callAny (.ref C) _) _ _ _
  repeat (any_goals (first | assumption | with_reducible refine wpAny_loadPart_at hC ?_ | wp_step))
  refine ⟨rfl, ?_⟩
  refine codeAny_call_builtin_at (Code.quiet_builtin _ (by decide +kernel)) entry_typeCall (wpAny_check_type_call_sub hC (type_call_over F hT hC hi hb hrest ?_))
  refine codeAny_mono hq fun r s' z => ?_
  rcases r with e | (v | _ | _ | _) <;> exact z
end
end PySem.HandSPX
namespace Tp
open PySem PySem.Spec PyProof.Rows L2 PySem.Builtin PySem.Builtin.ObjectAttr
inductive XB where
  | ve | ke | le
def XB.name : XB → String
  | .ve => "ValueError"
  | .ke => "KeyError"
  | .le => "LookupError"
def XB.tail : XB → List Value
  | .ve => [.type "ValueError", .type "Exception", .type "BaseException", .type "object"]
  | .ke => [.type "KeyError", .type "LookupError", .type "Exception", .type "BaseException", .type "object"]
  | .le => [.type "LookupError", .type "Exception", .type "BaseException", .type "object"]
def XB.mk : XB → String
  | .ve => "ValueError"
  | _ => "LookupError"
def XB.newId : XB → String
  | .ve => "ValueError.__new__"
  | _ => "LookupError.__new__"
def XB.initId : XB → String
  | .ve => "ValueError.__init__"
  | .ke => "KeyError.__init__"
  | .le => "LookupError.__init__"
theorem XB.fb : ∀ b : XB, ∃ i bmB, ExcBaseFacts b.mk b.newId i bmB
  | .ve => ⟨_, _, F.excBase_ValueError⟩
  | .ke => ⟨_, _, F.excBase_LookupError⟩
  | .le => ⟨_, _, F.excBase_LookupError⟩
theorem XB.fi : ∀ b : XB, InitF b.name b.initId
  | .ve => F.initF_of F.excBase_ValueError
  | .ke => F.initF_KeyError
  | .le => F.initF_of F.excBase_LookupError
theorem XB.over : ∀ b : XB, PySem.HandSPX.Over b.tail b.mk
  | .ve => ⟨by decide +kernel, by decide +kernel, by decide +kernel⟩
  | .ke => ⟨by decide +kernel, by decide +kernel, by decide +kernel⟩
  | .le => ⟨by decide +kernel, by decide +kernel, by decide +kernel⟩
theorem XB.pass : ∀ (b : XB) (self : Value), refuseLoop self "__setattr__" b.tail = pure ()
  | .ve, self => by kernel_rfl
  | .ke, self => by kernel_rfl
  | .le, self => by kernel_rfl
theorem XB.ob : ∀ b : XB, b.tail.contains (.type "object") = true
  | .ve => by decide +kernel
  | .ke => by decide +kernel
  | .le => by decide +kernel
end Tp
set_option Elab.async false
set_option linter.all false
set_option maxRecDepth 100000
set_option maxHeartbeats 4000000
namespace PySem.HandSPX
open Builtin Builtin.ObjectAttr
section
variable {prog : Program} {w : World} {A : Around} {E : Value → Shared → Prop} {R : Result → Shared → Prop} {hp : Heap} {g : Array GenState} {d : Drawn} {t : Nat} {os : OsState}
structure Stores (m : List Value) : Prop where
  pass : ∀ self, refuseLoop self "__setattr__" m = pure ()
  ob : m.contains (.type "object") = true
  ne : m.isEmpty = false
theorem osa_newB {K : W.Frag} {name : Str} {tk : Tok} {v : Value} {x C : Addr} {fv : Array Value} {cd : ClassData}
    (X : K.In hp) (hx : hp.get? x = some { cls := .ref C, data := .fields fv }) (hcd : W.clsIn K C = some cd) (hm : Stores cd.mro) (hh : cd.hasDict = true) (ha : W.findIn K (.ref C) name = some none)
    (hq : ∀ h' tk' dx, (∀ b o, b ≠ x → hp.get? b = some o → h'.get? b = some o) → hp.objs.size ≤ dx → dx ≠ x → h'.get? x = some { cls := .ref C, dict := some dx, data := .fields fv } →
      h'.Ns1 dx (fun y => if y = name then some v else none) → R (.ok (.ret .none)) ⟨h', g, d, tk', os⟩) :
    codeAny (model prog w) A (.call (.builtin "object.__setattr__") ⟨[.ref x, .str name tk, v], []⟩) R ⟨hp, g, d, t, os⟩ := by
  have I : W.InstAt hp x { cls := .ref C, data := .fields fv } C none := ⟨hx, rfl, rfl, trivial⟩
  have SF := F.store_object
  have ne := hm.ne
  have hob := hm.ob
  have hxs : x ≠ hp.objs.size := Nat.ne_of_lt (Heap.lt_size hx)
  have sub : W.Looks (model prog w) hp (isInstance (.ref x) (.type "object")) true := I.type.andThen (W.looks_mroIn X (by unfold W.mroIn; rw [hcd, Option.bind_some, if_neg (by rw [ne]; decide), hob]))
  refine codeAny_call_builtin SF.slot.plain SF.entry (@W.check_slot (model prog w) _ _ ⟨hp, g, d, t, os⟩ "object.__setattr__" "object" "__setattr__" (.ref x) [.str name tk, v] [] _ SF.kind SF.split sub (SF.args (.ref x) (.str name tk) v) ?_)
  have hmr : W.Looks (model prog w) hp (mroOf (.ref C)) cd.mro := (W.looks_clsIn X hcd).andThen .now
  have L3 : W.Looks (model prog w) hp (storeTaker? none) none := .now
  have hcls : W.Looks (model prog w) hp (classData C) cd := W.looks_clsIn X hcd
  rw [W.osa_eq, refuse_eq]
  refine wpAny_bind (wpAny_bind (I.type.at (wpAny_bind (hmr.at ?_))))
  rw [hm.pass]
  refine wpAny_pure (wpAny_bind (I.type.at (wpAny_bind ((W.looks_findIn X ha).at (wpAny_bind (L3.at ?_))))))
  show wpAny _ _ (storeInOwnDict (.ref x) (.ref C) (.str name tk) name v false) _ _ _
  obtain ⟨nm, bs, mro, ns, qn, hd, sn, sb, ab, col, del⟩ := cd
  dsimp only at hh
  subst hh
  unfold storeInOwnDict ownDictForStores
  repeat (first | with_reducible refine store_in_new ?_ ?_ | with_reducible refine wpAny_loadPart_at hx ?_ | with_reducible refine hcls.at ?_ | wp_step)
  · exact ⟨_, #[], _, (Heap.get?_update_ne _ _ _ _ hxs.symm).trans (Heap.get?_push_at rfl rfl), rfl, fun e he => absurd he (by simp), fun _ => rfl⟩
  · intro h' tk' hn' hs
    have hx₁ : (hp.push { cls := .type "dict", data := .dict #[] }).get? x = some { cls := .ref C, data := .fields fv } := Heap.get?_push_of_some _ hx
    refine hq h' tk' hp.objs.size (fun b o hb ho => ?_) (Nat.le_refl _) hxs.symm ?_ hn'
    · exact (hs.2 b (Nat.ne_of_lt (Heap.lt_size ho))).trans ((Heap.get?_update_ne _ _ _ _ hb).trans (Heap.get?_push_of_some _ ho))
    · exact (hs.2 x hxs).trans (Heap.get?_update_self _ hx₁ rfl)
theorem osa_oldB {K : W.Frag} {name : Str} {tk : Tok} {v : Value} {x C dx : Addr} {fv : Array Value} {cd : ClassData} {m0 : Str → Option Value} {nl : List Str}
    (X : K.In hp) (hx : hp.get? x = some { cls := .ref C, dict := some dx, data := .fields fv }) (hns : hp.Ns1 dx m0) (hw : Within m0 nl) (hz : nl.length ≤ 1000) (hcd : W.clsIn K C = some cd) (hm : Stores cd.mro) (hh : cd.hasDict = true)
    (ha : W.findIn K (.ref C) name = some none)
    (hq : ∀ h' tk', (∀ b o, b ≠ dx → hp.get? b = some o → h'.get? b = some o) → h'.Ns1 dx (fun y => if y = name then some v else m0 y) → R (.ok (.ret .none)) ⟨h', g, d, tk', os⟩) :
    codeAny (model prog w) A (.call (.builtin "object.__setattr__") ⟨[.ref x, .str name tk, v], []⟩) R ⟨hp, g, d, t, os⟩ := by
  obtain ⟨oD, esD, epD, hoD, hdD, _⟩ := hns.count hw
  have I : W.InstAt hp x { cls := .ref C, dict := some dx, data := .fields fv } C (some oD) := ⟨hx, rfl, rfl, hoD⟩
  have SF := F.store_object
  have ne := hm.ne
  have hob := hm.ob
  have sub : W.Looks (model prog w) hp (isInstance (.ref x) (.type "object")) true := I.type.andThen (W.looks_mroIn X (by unfold W.mroIn; rw [hcd, Option.bind_some, if_neg (by rw [ne]; decide), hob]))
  refine codeAny_call_builtin SF.slot.plain SF.entry (@W.check_slot (model prog w) _ _ ⟨hp, g, d, t, os⟩ "object.__setattr__" "object" "__setattr__" (.ref x) [.str name tk, v] [] _ SF.kind SF.split sub (SF.args (.ref x) (.str name tk) v) ?_)
  have hmr : W.Looks (model prog w) hp (mroOf (.ref C)) cd.mro := (W.looks_clsIn X hcd).andThen .now
  have L3 : W.Looks (model prog w) hp (storeTaker? none) none := .now
  have hcls : W.Looks (model prog w) hp (classData C) cd := W.looks_clsIn X hcd
  rw [W.osa_eq, refuse_eq]
  refine wpAny_bind (wpAny_bind (I.type.at (wpAny_bind (hmr.at ?_))))
  rw [hm.pass]
  refine wpAny_pure (wpAny_bind (I.type.at (wpAny_bind ((W.looks_findIn X ha).at (wpAny_bind (L3.at ?_))))))
  show wpAny _ _ (storeInOwnDict (.ref x) (.ref C) (.str name tk) name v false) _ _ _
  obtain ⟨nm, bs, mro, ns, qn, hd, sn, sb, ab, col, del⟩ := cd
  dsimp only at hh
  subst hh
  unfold storeInOwnDict ownDictForStores
  repeat (first | with_reducible refine PySem.OEX.store_in_old hns hw hz ?_ | with_reducible refine wpAny_loadPart_at hx ?_ | with_reducible refine hcls.at ?_ | wp_step)
  intro h' tk' hn' hs
  exact hq h' tk' (fun b o hb ho => (hs.2 b hb).trans ho) hn'
end
end PySem.HandSPX
namespace Tp
open PySem PySem.Spec PyProof.Rows L2
structure OexB (b : XB) (K : PySem.W.Frag) (C : Addr) : Prop where
  cls : ∃ nm q N bs bm sn sub ab col dd k0 k1 k2 k3 k5, K.lookup C = some (excClassObj nm q C N bs bm true sn sub ab col dd k0 k1 k2 k3 k5 b.newId) ∧ PySem.W.excTail b.tail bm = true
  sa : PySem.W.findIn K (.ref C) "__setattr__" = some (some (.builtin "object.__setattr__"))
  exC : PySem.W.subIn K (.ref C) (.type "BaseException") = some true
  tyC : PySem.W.typeIn K (.ref C) = some (.type "type")
  kC : PySem.W.keepIn K (.ref C) = true
theorem over_of {b : XB} {bm : List Value} (h : PySem.W.excTail b.tail bm = true) : PySem.HandSPX.Over bm b.mk := by
  have o := b.over
  exact ⟨(PySem.W.excTail_contains _ bm h).trans o.hasB, (PySem.W.excTail_contains _ bm h).trans o.noA, (PySem.W.excTail_contains _ bm h).trans o.noN⟩
theorem XB.hasN : ∀ b : XB, b.tail.contains (.type b.name) = true
  | .ve => by decide +kernel
  | .ke => by decide +kernel
  | .le => by decide +kernel
theorem stores_of {b : XB} {C : Addr} {bm : List Value} (h : PySem.W.excTail b.tail bm = true) : PySem.HandSPX.Stores (.ref C :: bm) :=
  ⟨fun self => PySem.W.excTail_pass self (b.pass self) (.ref C :: bm) h, (PySem.W.excTail_contains "object" (.ref C :: bm) h).trans b.ob, rfl⟩
section
variable {b : XB} {X : Cx} {pins : List (Addr × Obj)} {σ : L2.St} {H : Hp} {s : Shared} {a C dx : Addr} {f : Str} {y : V} {u : Value} {fs : List (Str × V)} {Q : Unit → Shared → Prop} {E : Value → Shared → Prop} {A : Around}
theorem ost_newB (T : OexB b X.K C) (I : Inv X pins σ H s) (e : H a = some (exo a C none)) (hno : PySem.W.findIn X.K (.ref C) f = some none) (ry : RelV y u)
    (h : ∀ dx s', H dx = none → dx ≠ a → Inv X pins σ (upd (upd H dx (exd dx [(f, y)])) a (exo a C (some dx))) s' → Q () s') : wpAny (model X.prog X.w) A (setAttr (.ref a) f u) Q E s := by
  obtain ⟨nm, q, N, bs, bm, sn, sub, ab, col, dd, k0, k1, k2, k3, k5, hC, hbm⟩ := T.cls
  have hcl : PySem.W.clsIn X.K C = some { name := nm, bases := bs, mro := .ref C :: bm, ns := N, qualname := q, hasDict := true, slotNames := sn, subclasses := sub, abstract := ab, collection := col, hasDel := false } := by unfold PySem.W.clsIn; rw [hC] <;> rfl
  obtain ⟨t1, ho⟩ := exo_at I.hok e
  obtain ⟨hp, g, d, t, os⟩ := s
  refine PySem.W.set_plain I.kIn (ox := { cls := .ref C, dict := none, data := .fields #[.ref t1, .none, .none, .none, .bool false, .none] }) (od := none) ⟨ho, rfl, rfl, trivial⟩ T.sa ?_
  refine PySem.HandSPX.osa_newB I.kIn ho hcl (stores_of hbm) rfl hno (fun h' tk' dx k dn dne hx hn => ?_)
  have hnd : H dx = none := I.hok.fresh dn
  have nd : ∀ {b : Addr} {o : Obj}, hp.get? b = some o → b ≠ dx := fun {b o} q => Nat.ne_of_lt (Nat.lt_of_lt_of_le (Heap.lt_size q) dn)
  have na : ∀ {b : Addr}, H b = none → b ≠ a := fun {b} n z => by
    rw [z, e] at n
    cases n
  have Un1 : Un X.fs [] H (upd (upd H dx (exd dx [(f, y)])) a (exo a C (some dx))) hp h' := {
    keep := fun b o q n _ _ => k b o (na n) q
    slot := fun b o q n _ _ => ⟨o.slots, k b o (na n) q⟩
    free := fun b o q n _ => by rw [upd_ne (na n), upd_ne (nd q)]; exact n
    there := fun b o q _ => by
      by_cases hb : b = a
      · exact ⟨_, by rw [hb]; exact hx⟩
      · exact ⟨o, k b o hb q⟩
    tups := fun b xs q => by rw [upd_ne (at_ne e q exo_tup), upd_ne (ne_of_none q hnd)]; exact q
    frzs := fun b o v q => by rw [upd_ne (at_ne e q exo_frz), upd_ne (ne_of_none q hnd)]; exact q
    tbls := fun b ps q => ⟨#[], by rw [upd_ne (at_ne e q exo_tbl), upd_ne (ne_of_none q hnd), q]; simp⟩ }
  refine h dx _ hnd dne (I.un (t' := tk') Un1 fun b o q => ?_)
  by_cases hb : b = a
  · subst hb
    rw [upd_same] at q
    cases q
    exact exo_ok hx
  · rw [upd_ne hb] at q
    by_cases hd : b = dx
    · subst hd
      rw [upd_same] at q
      cases q
      exact exd_ok hn (relO_put (fs := []) ry fun g => True.intro)
    · rw [upd_ne hd] at q
      exact (I.hok b o q).stay (fun c v hc z => k c v (by
          rcases hc with hc | hc
          · rw [hc]
            exact hb
          · exact at_ne e hc exo_own) z)
        (fun c hc => by rw [upd_ne (at_ne e hc exo_own), upd_ne (ne_of_none hc hnd)]; exact hc) (fun c xs hc => by rw [upd_ne (at_ne e hc exo_tup), upd_ne (ne_of_none hc hnd)]; exact hc)
theorem ost_oldB (T : OexB b X.K C) (I : Inv X pins σ H s) (e : H a = some (exo a C (some dx))) (ed : H dx = some (exd dx fs)) (hl : fs.length ≤ 900) (hno : PySem.W.findIn X.K (.ref C) f = some none) (ry : RelV y u)
    (h : ∀ s', Inv X pins σ (upd H dx (exd dx ((f, y) :: fs))) s' → Q () s') : wpAny (model X.prog X.w) A (setAttr (.ref a) f u) Q E s := by
  obtain ⟨nm, q, N, bs, bm, sn, sub, ab, col, dd, k0, k1, k2, k3, k5, hC, hbm⟩ := T.cls
  have hcl : PySem.W.clsIn X.K C = some { name := nm, bases := bs, mro := .ref C :: bm, ns := N, qualname := q, hasDict := true, slotNames := sn, subclasses := sub, abstract := ab, collection := col, hasDel := false } := by unfold PySem.W.clsIn; rw [hC] <;> rfl
  obtain ⟨t1, ho⟩ := exo_at I.hok e
  obtain ⟨mA, hns, rel⟩ := exd_at I.hok ed
  have hw := within_of rel
  obtain ⟨hp, g, d, t, os⟩ := s
  obtain ⟨oD, _, _, hoD, _, _⟩ := hns.count hw
  refine PySem.W.set_plain I.kIn (ox := { cls := .ref C, dict := some dx, data := .fields #[.ref t1, .none, .none, .none, .bool false, .none] }) (od := some oD) ⟨ho, rfl, rfl, hoD⟩ T.sa ?_
  refine PySem.HandSPX.osa_oldB I.kIn ho hns hw (by rw [List.length_map]; omega) hcl (stores_of hbm) rfl hno (fun h' tk' k hn => ?_)
  have hd : ∃ o, h'.get? dx = some o := by
    obtain ⟨o, _, _, e', _⟩ := hn
    exact ⟨o, e'⟩
  exact h _ (I.write (t' := tk') (x := dx) (e := dx) (o := exd dx ((f, y) :: fs)) (by rw [ed]; exact True.intro) (.inl rfl) k hd (exd_ok hn (relO_put ry rel)))
theorem oinit_okB {us : List Value} {Q : Value → Shared → Prop} (T : OexB b X.K C) (I : Inv X pins σ H s) (e : H a = some (exo a C none)) (hl : us.length ≤ sizeLine) (h : ∀ s', Inv X pins σ H s' → Q .none s') :
    wpAny (model X.prog X.w) A (call (.builtin b.initId) (.ref a :: us)) Q E s := by
  obtain ⟨nm, q, N, bs, bm, sn, sub, ab, col, dd, k0, k1, k2, k3, k5, hC, hbm⟩ := T.cls
  obtain ⟨t1, ho⟩ := exo_at I.hok e
  obtain ⟨hp, g, d, t, os⟩ := s
  refine wpAny_call (PySem.HandSPX.init_over b.fi ((PySem.W.excTail_contains _ bm hbm).trans b.hasN) (I.kIn _ _ hC) ho hl fun h' t2 k hx => ?_)
  have J := I.write (t' := t) (x := a) (e := a) (o := exo a C none) (by rw [e]; exact True.intro) (.inl rfl) k ⟨_, hx⟩ (exo_ok hx)
  have eu : upd H a (exo a C none) = H := by
    funext b
    by_cases hb : b = a
    · rw [hb, upd_same, e]
    · rw [upd_ne hb]
  rw [eu] at J
  exact h _ J
end
end Tp
set_option Elab.async false
set_option linter.all false
set_option maxRecDepth 100000
set_option maxHeartbeats 4000000
namespace PySem.HandSPX
open Builtin Builtin.ObjectAttr
section
variable {prog : Program} {w : World} {A : Around} {E : Value → Shared → Prop} {R : Result → Shared → Prop} {h : Heap} {g : Array GenState} {d : Drawn} {t : Nat} {os : OsState}
variable {nm q : Str} {C N : Addr} {bs bm bmB : List Value} {hdct : Bool} {sn : List Str} {sub : List Value} {ab : Bool} {col : Option Bool} {dd : Option Addr} {k0 k1 k2 k3 k5 : Option Value} {B newId initId : String}
end
end PySem.HandSPX
set_option Elab.async false
set_option linter.all false
set_option maxRecDepth 100000
set_option maxHeartbeats 4000000
namespace Tp
open PySem PySem.Spec PyProof.Rows L2
structure BaseB (b : XB) (K : PySem.W.Frag) (B : Addr) : Prop where
  ga : PySem.W.specialIn K (.ref B) "__getattribute__" = some (some (.builtin "type.__getattribute__"))
  rd : PySem.W.readsIn K B (.type "type") = true
  fi : PySem.W.findCls K (.ref B) (.type "type") "__init__" = some (.val (.builtin b.initId))
theorem XB.handed : ∀ b : XB, PySem.W.handedIn (.builtin b.initId) = true
  | .ve => by decide +kernel
  | .ke => by decide +kernel
  | .le => by decide +kernel
def tInB (b : XB) (K : PySem.W.Frag) (ta : TA) : TE := fun σ H Q => ta σ H fun vs H1 => ∃ (a C : Addr) (ws : List V), vs = .ref a :: ws ∧ ws.length ≤ 1000 ∧ OexB b K C ∧ H1 a = some (exo a C none) ∧ Q .non H1
def tOstB (b : XB) (K : PySem.W.Frag) (f : Str) (to te : TE) : TS := fun D σ H => te σ H fun y H1 => to σ H1 fun x H2 => ∃ a C : Addr, x = .ref a ∧ OexB b K C ∧ PySem.W.findIn K (.ref C) f = some none ∧
  ((H2 a = some (exo a C none) ∧ ∀ dx, H2 dx = none → dx ≠ a → D.nx σ (upd (upd H2 dx (exd dx [(f, y)])) a (exo a C (some dx)))) ∨
    ∃ (dx : Addr) (fs : List (Str × V)), H2 a = some (exo a C (some dx)) ∧ H2 dx = some (exd dx fs) ∧ fs.length ≤ 900 ∧ D.nx σ (upd H2 dx (exd dx ((f, y) :: fs))))
section
variable {b : XB} {X : Cx} {o e : Expr} {es : List Expr} {to te : TE} {ta : TA} {x f : Str} {B : Addr} {p p' p1 p2 pos : Pos}
theorem pe_initB {pl : Sem Bool} (hg : Gl X x) (hm : X.mg x = some (.ref B)) (T : BaseB b X.K B) (ha : PA X (e :: es) ta)
    (hc : eval (.Call (.Attribute (.Name x p1) "__init__" p2) (e :: es) [] pos) X.env = (do
      let ov ← eval (.Name x p1) X.env
      standAt p2.atName
      let (f, first) ← holding [ov] (getMethod ov "__init__" pl)
      callWith pos f first (backTo pos (starEach (e :: es) X.env)) (backToKw pos (keywordEach [] X.env))) := by rfl)
    (hdb : (x == ("__debug__" : Str)) = false := by decide)
    (he : starEach (e :: es) X.env = (false, eval e X.env) :: starEach es X.env := by rfl) (hpl : (backTo pos (starEach es X.env)).any (·.1) = false := by rfl) :
    PE X (.Call (.Attribute (.Name x p1) "__init__" p2) (e :: es) [] pos) (tInB b X.K ta) := by
  refine ⟨fun pins s σ H Q I h => ?_⟩
  refine PySem.W.methodCall_KW (ld_glob I hg hm ?_ hdb) hc
  refine PySem.W.method_cls I.kIn T.ga (PySem.W.cls_value I.kIn T.rd T.fi b.handed ?_)
  show wpAny _ _ (callWith pos (Value.builtin b.initId) [] (backTo pos (starEach (e :: es) X.env)) []) _ _ _
  refine PyProof.Rows.callWith_method1 (thn (ha.run pos pins _ σ H _ (I.tok _) h) fun us s1 ⟨vs, H1, I1, r1, a, C, ws, ev, hl, TC, ea, q⟩ => ?_) he hpl
  subst ev
  cases r1 with
  | cons ra rr =>
    cases (ra : _ = Value.ref a)
    refine oinit_okB TC I1 ea ?_ fun s' J => ⟨.non, H1, J, rfl, q⟩
    have := Paired.length rr
    exact Nat.le_trans (by omega) (show 1000 ≤ sizeLine from by decide)
theorem ps_ostB (ho : PE X o to) (he : PE X e te) (hs : swapsWith e (some (.Attribute o f p')) pos.line X.env = pure false := by rfl) : PS X (.Assign [.Attribute o f p'] e pos) (tOstB b X.K f to te) := by
  refine ⟨fun pins s σ H D I h => ?_⟩
  refine plainObj_wpAny_Assign_Attribute (thn (he.run pins s σ H _ I h) fun v s1 ⟨y, H1, I1, r1, q1⟩ => thn (ho.run pins s1 σ H1 _ I1 q1) fun u s2 ⟨x, H2, I2, r2, a, C, ex, T, hno, q⟩ => ?_) hs
  subst ex
  obtain rfl : u = Value.ref a := r2
  rcases q with ⟨ea, q⟩ | ⟨dx, fs, ea, ed, hl, q⟩
  · exact ost_newB T I2 ea hno r1 fun dx s' n ne J => ⟨σ, _, J, q dx n ne⟩
  · exact ost_oldB T I2 ea ed hl hno r1 fun s' J => ⟨σ, _, J, q⟩
end
structure ExB (b : XB) (P : Program) (w : World) (K : PySem.W.Frag) (mg : Str → Option Value) (base : Heap) (C fI : Addr) (fd : FuncData) (ps : List Str) (sp : Sp) : Prop where
  ox : OexB b K C
  iC : PySem.W.findIn K (.ref C) "__init__" = some (some (.ref fI))
  tI : PySem.W.typeIn K (.ref fI) = some (.type "function")
  ok : FnOk P w K mg base CX0 1 fI fd ps sp
  bn : Binds K fd ps []
section
variable {b : XB} {X : Cx} {x : Str} {C fI : Addr} {fd : FuncData} {ps : List Str} {sp : Sp} {e : Expr} {es : List Expr} {ta : TA} {p pos : Pos}
end
end Tp
set_option Elab.async false
set_option linter.all false
set_option maxRecDepth 100000
set_option maxHeartbeats 4000000
namespace Tp
open PySem PySem.Spec PyProof.Rows L2
section
variable {b : XB} {X : Cx} {x : Str} {C fI : Addr} {fd : FuncData} {ps ks : List Str} {sp : Sp} {e : Expr} {es : List Expr} {ta tk : TA} {p pos : Pos} {kws : List Keyword} {g : List Value → List Value → List Value} {gV : List V → List V → List V}
def tMkB (C : Addr) (sp : Sp) (ta : TA) : L2.St → Hp → XK → Prop := fun σ H Q => ta σ H fun vs H1 => vs.length ≤ 1000 ∧ ∀ a, H1 a = none → sp (.ref a :: vs) (upd H1 a (exo a C none))
  (fun v H2 => v = .non ∧ ∃ (d : Addr) (fs : List (Str × V)), H2 a = some (exo a C (some d)) ∧ H2 d = some (exd d fs) ∧ H1 d = none ∧ Q (.ref C) (some d) (upd (del H2 a) d (.xd fs))) (fun _ _ _ => False)
theorem pmk_B {k : Nat} (T : ExB b X.prog X.w X.K X.mg X.base C fI fd ps sp) (hr : Room (k + 2) X.A) (hg : Gl X x) (hm : X.mg x = some (.ref C)) (ha : PA X (e :: es) ta)
    (hdb : (x == ("__debug__" : Str)) = false := by decide) (he : starEach (e :: es) X.env = (false, eval e X.env) :: starEach es X.env := by rfl) (hpl : (backTo pos (starEach es X.env)).any (·.1) = false := by rfl) :
    PMk X (.Call (.Name x p) (e :: es) [] pos) (tMkB C sp ta) := by
  intro pins s σ H Q I h
  obtain ⟨nm, q, N, bs, bm, sn, sub, ab, col, dd, k0, k1, k2, k3, k5, hC, hbm⟩ := T.ox.cls
  refine wpAny_Call_Name_kw (ld_glob I hg hm ?_ hdb)
  refine PySem.W.callWith_K (h₀ := X.base) I.ok.mod.kin T.ox.kC (thn (ha.run pos pins s σ H _ I h) fun us s1 ⟨vs, H1, I1, r1, hz, q1⟩ => ⟨I1.kIn, ?_⟩) he hpl
  show wpAny _ _ (call (.ref C) us) _ _ _
  obtain ⟨hp, g, dr, tk, os⟩ := s1
  have hsz : hp.objs.size ≤ hp.objs.size + 1 := Nat.le_succ _
  have hn : H1 (hp.objs.size + 1) = none := I1.hok.fresh hsz
  have hq := q1 (hp.objs.size + 1) hn
  rw [← List.append_nil vs] at hq
  have kk : ∀ b o, hp.get? b = some o → ((hp.push (PySem.W.kdv_tup us)).push (PySem.HandSPX.excO C hp.objs.size)).get? b = some o := fun b o e => Heap.get?_push_of_some _ (Heap.get?_push_of_some _ e)
  have hget : ((hp.push (PySem.W.kdv_tup us)).push (PySem.HandSPX.excO C hp.objs.size)).get? (hp.objs.size + 1) = some (PySem.HandSPX.excO C hp.objs.size) := by heap_get
  have I2 : Inv X pins σ (upd H1 (hp.objs.size + 1) (exo (hp.objs.size + 1) C none)) ⟨(hp.push (PySem.W.kdv_tup us)).push (PySem.HandSPX.excO C hp.objs.size), g, dr, tk, os⟩ :=
    I1.laid (t' := tk) (a := hp.objs.size + 1) (o := exo (hp.objs.size + 1) C none) (h' := (hp.push (PySem.W.kdv_tup us)).push (PySem.HandSPX.excO C hp.objs.size)) kk hsz (exo_ok hget)
  have r2 : Vals (V.ref (hp.objs.size + 1) :: (vs ++ [])) (Value.ref (hp.objs.size + 1) :: (us ++ [])) := .cons rfl (r1.append .nil)
  have hl : (Value.ref (hp.objs.size + 1) :: us ++ []).length = ps.length := by
    have e := r2.length
    rw [T.ok.len _ _ _ _ hq] at e
    exact e.symm
  have hbn := T.bn _ (Value.ref (hp.objs.size + 1) :: us) I2.kIn hl
  rw [List.cons_append] at hbn
  have hus : us.length ≤ sizeLine := by
    rw [← Paired.length r1, sizeLine_eq]
    omega
  obtain ⟨i0, bmB, FB⟩ := b.fb
  refine wpAny_call (PySem.HandSPX.call_over FB (over_of hbm) (I1.kIn _ _ hC) (PySem.W.looks_findIn I1.kIn T.iC) (fun self => PySem.W.bind_fn I1.kIn self T.tI) hus
    (codeAny_mono (T.ok.run _ X.stack _ _ ⟨Value.ref (hp.objs.size + 1) :: us, []⟩ (Value.ref (hp.objs.size + 1) :: (us ++ [])) _ _ (fun _ _ _ => False) ((hr.mono (j := 2) (by omega)).make C us []) (I2.env0.make C us []) hbn r2 hq) fun r s' hq' => ?_))
  cases r with
  | error er => exact False.elim hq'
  | ok fl =>
    cases fl with
    | ret u =>
      obtain ⟨v, H2, os2, bare2, un2, hok2, rv, ev, d, fs, ea, ed, hd1, q2⟩ := hq'
      subst ev
      obtain ⟨h2, g2, d2, t2, os'⟩ := s'
      exact ⟨rv, mk_end (raises_own T.ox.exC T.ox.tyC) I1 hsz kk un2 hok2 os2 bare2 ea ed hd1 q2⟩
    | next => exact False.elim hq'
    | brk => exact False.elim hq'
    | cont => exact False.elim hq'
theorem ps_raiseB {k : Nat} {W : WX} {pos2 : Pos} (hc : X.calm = true) (T : ExB b X.prog X.w X.K X.mg X.base C fI fd ps sp) (hr : Room (k + 2) X.A) (tk : Takes X W) (hg : Gl X x) (hm : X.mg x = some (.ref C)) (ha : PA X (e :: es) ta)
    (hdb : (x == ("__debug__" : Str)) = false := by decide) (hs : starEach (e :: es) X.env = (false, eval e X.env) :: starEach es X.env := by rfl) (hpl : (backTo pos (starEach es X.env)).any (·.1) = false := by rfl) :
    PS X (.Raise (some (.Call (.Name x p) (e :: es) [] pos)) none pos2) (fun _ σ H => tMkB C sp ta σ H fun cls d H' => W cls d σ H') := ps_raise hc tk (pmk_B T hr hg hm ha hdb hs hpl)
end
end Tp
set_option Elab.async false
set_option linter.all false
set_option maxRecDepth 100000
set_option maxHeartbeats 4000000
namespace PySem.HandSPX
open Builtin Builtin.ObjectAttr
section
variable {prog : Program} {w : World} {A : Around} {E : Value → Shared → Prop} {R : Result → Shared → Prop} {h : Heap} {g : Array GenState} {d : Drawn} {t : Nat} {os : OsState}
variable {nm q : Str} {C N : Addr} {bs bm bmB : List Value} {hdct : Bool} {sn : List Str} {sub : List Value} {ab : Bool} {col : Option Bool} {dd : Option Addr} {k0 k1 k2 k3 k5 : Option Value} {B newId initId B2 initId2 : String}
end
end PySem.HandSPX
namespace Tp
open PySem PySem.Spec PyProof.Rows L2
inductive TyB (K : PySem.W.Frag) (H : Hp) : V → Value → Prop
  | a {v : V} {t : Value} (h : TyA K H v t) : TyB K H v t
  | exc0 {a D : Addr} (e : H a = some (exo a D none)) (C : ExcC K D) : TyB K H (.ref a) (.ref D)
theorem TyB.same {K : PySem.W.Frag} {H H' : Hp} (S : Same H H') {v : V} {t : Value} (h : TyB K H v t) : TyB K H' v t := by
  cases h with
  | a h => exact .a (h.same S)
  | exc0 e C => exact .exc0 (S _ _ e) C
end Tp
set_option Elab.async false
set_option linter.all false
set_option maxRecDepth 100000
set_option maxHeartbeats 4000000
namespace Tp
open PySem PySem.Spec PyProof.Rows L2 He
structure ClsX (b : XB) (K : PySem.W.Frag) (C : Addr) (up : List Addr) : Prop where
  lk : ∃ nm q N bs sn sub ab col dd k0 k1 k2 k3 k5, K.lookup C = some (excClassObj nm q C N bs (up.map Value.ref ++ b.tail) true sn sub ab col dd k0 k1 k2 k3 k5 b.newId)
  sa : PySem.W.findIn K (.ref C) "__setattr__" = some (some (.builtin "object.__setattr__"))
  hg : PySem.W.findIn K (.ref C) "__getattribute__" = some (some (.builtin "BaseException.__getattribute__"))
  hk : PySem.W.findIn K (.ref C) "__getattr__" = some none
  ha : PySem.W.findIn K (.ref C) "__class__" = some (some (.builtin "object.__class__"))
  kC : PySem.W.keepIn K (.ref C) = true
  hn : PySem.W.specialIn K (.builtin "object.__class__") "__get__" = some (some (.builtin "getset_descriptor.__get__"))
  ht : PySem.W.takesIn K (.builtin "object.__class__") = some true
def clsXB (b : XB) (K : PySem.W.Frag) (C : Addr) (up : List Addr) : Bool := (match K.lookup C with
  | some ⟨.type t, _, .cls cd, sl⟩ => decide (t = "type") && (match sl.toList with
    | [_, _, _, _, some (.builtin n), _] => decide (n = b.newId) && (decide (cd.mro = .ref C :: (up.map Value.ref ++ b.tail)) && (!cd.hasDel && cd.hasDict))
    | _ => false)
  | _ => false) && (eqO (PySem.W.findIn K (.ref C) "__setattr__") (some (some (.builtin "object.__setattr__"))) && (eqO (PySem.W.findIn K (.ref C) "__getattribute__") (some (some (.builtin "BaseException.__getattribute__"))) &&
  (eqO (PySem.W.findIn K (.ref C) "__getattr__") (some none) && (eqO (PySem.W.findIn K (.ref C) "__class__") (some (some (.builtin "object.__class__"))) && (PySem.W.keepIn K (.ref C) &&
  (eqO (PySem.W.specialIn K (.builtin "object.__class__") "__get__") (some (some (.builtin "getset_descriptor.__get__"))) && decide (PySem.W.takesIn K (.builtin "object.__class__") = some true)))))))
theorem clsXB_ok {b : XB} {K : PySem.W.Frag} {C : Addr} {up : List Addr} (h : clsXB b K C up = true) : ClsX b K C up := by
  obtain ⟨h, g⟩ := ba h
  obtain ⟨g1, g⟩ := ba g
  obtain ⟨g2, g⟩ := ba g
  obtain ⟨g3, g⟩ := ba g
  obtain ⟨g4, g⟩ := ba g
  obtain ⟨g5, g⟩ := ba g
  obtain ⟨g6, g7⟩ := ba g
  refine ⟨?_, eqO_ok g1, eqO_ok g2, eqO_ok g3, eqO_ok g4, g5, eqO_ok g6, of_decide_eq_true g7⟩
  cases q : K.lookup C with
  | none => rw [q] at h; cases h
  | some o =>
    obtain ⟨oc, od, dt, sl⟩ := o
    rw [q] at h
    cases oc with
    | type t =>
      cases dt with
      | cls cd =>
        obtain ⟨h1, h2⟩ := ba h
        have e1 : t = "type" := of_decide_eq_true h1
        subst e1
        obtain ⟨nm, bs, mro, N, qn, hd, sn, sub, ab, col, del⟩ := cd
        obtain ⟨sl⟩ := sl
        dsimp only at h2
        split at h2
        · rename_i k0 k1 k2 k3 n k5
          obtain ⟨h5, h6⟩ := ba h2
          obtain ⟨h3, h8⟩ := ba h6
          obtain ⟨h7, h9⟩ := ba h8
          have e5 : n = b.newId := of_decide_eq_true h5
          have e3 : mro = .ref C :: (up.map Value.ref ++ b.tail) := of_decide_eq_true h3
          subst e3 e5
          cases del
          · cases hd
            · cases h9
            · exact ⟨_, _, _, _, _, _, _, _, _, _, _, _, _, _, rfl⟩
          · cases h7
        · cases h2
      | _ => cases h
    | _ => cases dt <;> cases h
section
variable {b : XB} {K : PySem.W.Frag} {C : Addr} {up : List Addr}
theorem ClsX.cls (T : ClsX b K C up) : ∃ cd, PySem.W.clsIn K C = some cd ∧ cd.mro = .ref C :: (up.map Value.ref ++ b.tail) ∧ cd.hasDict = true := by
  obtain ⟨nm, q, N, bs, sn, sub, ab, col, dd, k0, k1, k2, k3, k5, hC⟩ := T.lk
  exact ⟨_, by unfold PySem.W.clsIn; rw [hC] <;> rfl, rfl, rfl⟩
theorem ClsX.sub (T : ClsX b K C up) (t : Value) : PySem.W.subIn K (.ref C) t = some ((Value.ref C :: (up.map Value.ref ++ b.tail)).contains t) := by
  obtain ⟨cd, hc, hm, _⟩ := T.cls
  show PySem.W.mroIn K C t = _
  unfold PySem.W.mroIn
  rw [hc, Option.bind_some, hm]
  rfl
theorem tail_ok : ∀ up : List Addr, PySem.W.excTail b.tail (up.map Value.ref ++ b.tail) = true
  | [] => by cases b <;> decide +kernel
  | _ :: r => tail_ok r
theorem tail_has (n : String) : ∀ up : List Addr, (up.map Value.ref ++ b.tail).contains (.type n) = b.tail.contains (.type n) := fun up => PySem.W.excTail_contains n _ (tail_ok up)
theorem ClsX.isB (T : ClsX b K C up) (n : String) : PySem.W.subIn K (.ref C) (.type n) = some (b.tail.contains (.type n)) := by
  rw [T.sub, List.contains_cons, tail_has]
  rfl
theorem ClsX.dict (T : ClsX b K C up) : PySem.W.hasDictIn K C = true := by
  obtain ⟨cd, hc, _, hd⟩ := T.cls
  unfold PySem.W.hasDictIn
  rw [hc]
  exact hd
theorem ClsX.ty (T : ClsX b K C up) : PySem.W.typeIn K (.ref C) = some (.type "type") := by
  obtain ⟨nm, q, N, bs, sn, sub, ab, col, dd, k0, k1, k2, k3, k5, hC⟩ := T.lk
  show (K.lookup C).map (·.cls) = _
  rw [hC] <;> rfl
theorem XB.isE : ∀ b : XB, b.tail.contains (.type "BaseException") = true
  | .ve => by decide +kernel
  | .ke => by decide +kernel
  | .le => by decide +kernel
theorem ClsX.exc (T : ClsX b K C up) : PySem.W.subIn K (.ref C) (.type "BaseException") = some true := by rw [T.isB, b.isE]
theorem ClsX.ox (T : ClsX b K C up) : OexB b K C := by
  obtain ⟨nm, q, N, bs, sn, sub, ab, col, dd, k0, k1, k2, k3, k5, hC⟩ := T.lk
  exact ⟨⟨_, _, _, _, _, _, _, _, _, _, _, _, _, _, _, hC, tail_ok up⟩, T.sa, T.exc, T.ty, T.kC⟩
theorem ClsX.ec (T : ClsX b K C up) : ExcC K C := ⟨T.hg, T.hk, T.exc, T.dict, T.ha, T.hn, T.ht, by
  have e := T.isB "object"
  rw [b.ob] at e
  exact e⟩
theorem ClsX.xf (T : ClsX b K C up) : XfC K C := ⟨T.hg, T.hk, T.exc, T.dict⟩
theorem tail_ref (D : Addr) : ∀ b : XB, b.tail.contains (.ref D) = false
  | .ve => rfl
  | .ke => rfl
  | .le => rfl
theorem up_has (D : Addr) : ∀ up : List Addr, (up.map Value.ref ++ b.tail).contains (.ref D) = up.contains D
  | [] => tail_ref D b
  | c :: r => by
    have e : (Value.ref D == Value.ref c) = (D == c) := by
      by_cases q : D = c
      · rw [q]; simp
      · have q1 : (D == c) = false := by simpa using q
        rw [q1]
        simpa using q
    rw [List.map_cons, List.cons_append, List.contains_cons, List.contains_cons, up_has D r, e]
theorem exm_X {b2 : XB} {D : Addr} {up2 : List Addr} (T : ClsX b K C up) (T2 : ClsX b2 K D up2) : PySem.W.exmOne K (.ref C) (.ref D) = some ((C :: up).contains D) := by
  refine PySem.W.exm_ref T2.exc T2.dict T2.ty ?_
  rw [T.sub]
  exact congrArg some (up_has (b := b) D (C :: up))
end
end Tp
set_option Elab.async false
set_option linter.all false
set_option maxRecDepth 100000
set_option maxHeartbeats 4000000
namespace Tp
open PySem PySem.Spec PyProof.Rows L2 He
structure InitX (K : PySem.W.Frag) (C fI : Addr) (fs : List Str) : Prop where
  iC : PySem.W.findIn K (.ref C) "__init__" = some (some (.ref fI))
  tI : PySem.W.typeIn K (.ref fI) = some (.type "function")
  no : ∀ f ∈ fs, PySem.W.findIn K (.ref C) f = some none
def initXB (K : PySem.W.Frag) (C fI : Addr) (fs : List Str) : Bool := eqO (PySem.W.findIn K (.ref C) "__init__") (some (some (.ref fI))) && (decide (PySem.W.typeIn K (.ref fI) = some (.type "function")) && fs.all fun f => eqO (PySem.W.findIn K (.ref C) f) (some none))
theorem initXB_ok {K : PySem.W.Frag} {C fI : Addr} {fs : List Str} (h : initXB K C fI fs = true) : InitX K C fI fs := by
  obtain ⟨h1, h⟩ := ba h
  obtain ⟨h2, h3⟩ := ba h
  exact ⟨eqO_ok h1, of_decide_eq_true h2, fun f hf => eqO_ok (List.all_eq_true.mp h3 f hf)⟩
theorem mkX {b : XB} {P : Program} {w : World} {K : PySem.W.Frag} {mg : Str → Option Value} {base : Heap} {C fI : Addr} {up : List Addr} {fs : List Str} {fd : FuncData} {ps : List Str} {sp : Sp} (T : ClsX b K C up) (J : InitX K C fI fs) (ok : FnOk P w K mg base CX0 1 fI fd ps sp) (bn : Binds K fd ps []) :
    ExB b P w K mg base C fI fd ps sp := ⟨T.ox, J.iC, J.tI, ok, bn⟩
end Tp
set_option Elab.async false
set_option linter.all false
set_option maxRecDepth 100000
set_option maxHeartbeats 4000000
namespace Tp
open PySem PySem.Spec PyProof.Rows L2
def ExAt (H : Hp) (x : V) (C : Addr) (l : List (Str × V)) : Prop := ∃ a, x = .ref a ∧ ((l = [] ∧ H a = some (exo a C none)) ∨ ∃ d, H a = some (exo a C (some d)) ∧ H d = some (exd d l))
theorem ExAt.same {H H' : Hp} {x : V} {C : Addr} {l : List (Str × V)} (h : ExAt H x C l) (S : Same H H') : ExAt H' x C l := by
  obtain ⟨a, e, ⟨hl, h⟩ | ⟨d, h1, h2⟩⟩ := h
  · exact ⟨a, e, .inl ⟨hl, S _ _ h⟩⟩
  · exact ⟨a, e, .inr ⟨d, S _ _ h1, S _ _ h2⟩⟩
theorem ExAt.ty {b : XB} {K : PySem.W.Frag} {up : List Addr} {H : Hp} {x : V} {C : Addr} {l : List (Str × V)} (h : ExAt H x C l) (c : ClsX b K C up) : TyB K H x (.ref C) := by
  obtain ⟨a, rfl, ⟨_, h⟩ | ⟨d, h1, h2⟩⟩ := h
  · exact .exc0 h c.ec
  · exact .a (.exc h1 h2 c.ec)
theorem same_three {H : Hp} {a d : Addr} {x y z : HO} (ha : H a = none) (hd : upd H a x d = none) : Same H (upd (upd (upd H a x) d y) a z) := fun b o h => by
  have ne : d ≠ a := fun e => by rw [e, upd_same] at hd; cases hd
  rw [upd_ne ne] at hd
  rw [upd_ne (ne_of_none h ha), upd_ne (ne_of_none h hd), upd_ne (ne_of_none h ha)]
  exact h
theorem same_fly {H : Hp} {a d : Addr} {x y z u : HO} (ha : H a = none) (hd : upd H a x d = none) : Same H (upd (del (upd (upd (upd H a x) d y) a z) a) d u) := fun b o h => by
  have ne : d ≠ a := fun e => by rw [e, upd_same] at hd; cases hd
  rw [upd_ne ne] at hd
  rw [upd_ne (ne_of_none h hd), del_ne (ne_of_none h ha)]
  exact same_three ha (by rw [upd_ne ne]; exact hd) b o h
theorem sys_kp {K : PySem.W.Frag} {b : Addr} {n : Nat} {H H' : Hp} (bx : BoxAt b n H) (k : Kp b H H') (h : Sys K H) : Sys K H' := by
  rcases h with h | ⟨h, o, φ, e⟩
  · exact .inl h
  · refine .inr ⟨h, o, φ, k _ _ (fun z => ?_) e⟩
    obtain ⟨x, y, z', e', _⟩ := bx
    rw [z, e'] at e
    cases e
inductive FlV : V → PyData → Prop
  | int {i : Int} (h : i.natAbs < 10 ^ 40) : FlV (.int i) (.int i)
  | str {z : Str} (h : ∀ c ∈ z.cps.toList, c < 16 ^ 8) (l : z.length ≤ 50) : FlV (.str z) (.str z)
  | non : FlV .non .none
  | bl (b : Bool) : FlV (.bl b) (.bool b)
theorem FlV.dq {K : PySem.W.Frag} {H : Hp} {v : V} {d : PyData} (h : FlV v d) : Dq K H v d := by
  cases h with
  | int _ => exact .int _
  | str _ _ => exact .str _
  | non => exact .non
  | bl b => exact .bl b
theorem FlV.fit {v : V} {d : PyData} (h : FlV v d) : FitQ 0 600 d := by
  cases h with
  | int h => exact (fitq_int h).up (Nat.le_refl _) (by decide)
  | str h l =>
    refine (fitq_of (n := 0) (.str h)).up (Nat.le_refl _) ?_
    simp only [wt]
    omega
  | non => exact fitq_none.up (Nat.le_refl _) (by decide)
  | bl b => exact (fitq_bool b).up (Nat.le_refl _) (by decide)
end Tp
set_option Elab.async false
set_option linter.all false
set_option maxRecDepth 100000
set_option maxHeartbeats 4000000
namespace Tp
open PySem PySem.Spec PyProof.Rows L2
structure BRow where
  nm : Str
  sec : Sum (List Nat) Nat
deriving DecidableEq
def numsD (l : List Nat) : List PyData := l.map fun (n : Nat) => .int n
def numsV (l : List Nat) : List V := l.map fun (n : Nat) => .int n
def BRow.data (r : BRow) : PyData := .tuple [.str r.nm, match r.sec with | .inl l => .tuple (numsD l) | .inr t => .int t]
def BRow.key (r : BRow) : NestedKey := .tup [.text r.nm, match r.sec with | .inl l => .tup (l.map fun (n : Nat) => .num n) | .inr t => .num t]
def BRow.args (r : BRow) : List Nat := match r.sec with | .inl l => l | .inr _ => []
def RowAt (K : PySem.W.Frag) (H : Hp) (r : BRow) (a : Addr) : Prop := Dp K H (.ref a) r.data
theorem RowAt.same {K : PySem.W.Frag} {H H' : Hp} {r : BRow} {a : Addr} (h : RowAt K H r a) (S : Same H H') : RowAt K H' r a := (dp_same S).1 h
theorem dpN_inv {K : PySem.W.Frag} {H : Hp} : ∀ {xs : List V} {l : List Nat}, DpAll K H xs (numsD l) → xs = numsV l
  | _, [], h => by cases h; rfl
  | _, n :: l, h => by
    cases h with
    | cons h1 h2 =>
      cases h1
      rw [dpN_inv h2]
      rfl
theorem RowAt.inv {K : PySem.W.Frag} {H : Hp} {r : BRow} {a : Addr} (h : RowAt K H r a) : (∃ l b, r.sec = .inl l ∧ SqT K H a [.str r.nm, .ref b] ∧ SqT K H b (numsV l)) ∨ ∃ t, r.sec = .inr t ∧ SqT K H a [.str r.nm, .int (t : Nat)] := by
  obtain ⟨n, s⟩ := r
  unfold RowAt BRow.data at h
  cases h with
  | tup s1 h1 =>
    cases h1 with
    | cons d1 h2 =>
      cases h2 with
      | cons d2 h3 =>
        cases h3
        cases d1
        cases s with
        | inl l =>
          cases d2 with
          | tup s2 h2 =>
            obtain rfl := dpN_inv h2
            exact .inl ⟨l, _, rfl, s1, s2⟩
        | inr t =>
          cases d2
          exact .inr ⟨t, rfl, s1⟩
theorem nkN {K : PySem.W.Frag} {H : Hp} : ∀ l : List Nat, NkAll K H (l.map fun (n : Nat) => NestedKey.num (n : Nat)) (numsV l)
  | [] => .nil
  | n :: l => .cons (.num _) (nkN l)
theorem RowAt.nk {K : PySem.W.Frag} {H : Hp} {r : BRow} {a : Addr} (h : RowAt K H r a) : NkV K H r.key (.ref a) := by
  obtain ⟨n, s⟩ := r
  rcases h.inv with ⟨l, b, e, h1, h2⟩ | ⟨t, e, h1⟩
  · obtain rfl : s = .inl l := e
    exact .tup h1 (.cons (.text _) (.cons (.tup h2 (nkN l)) .nil))
  · obtain rfl : s = .inr t := e
    exact .tup h1 (.cons (.text _) (.cons (.num _) .nil))
def ents : Nat → List BRow → List Addr → NX
  | i, r :: rs, a :: as => (r.key, a, .int (i : Nat)) :: ents (i + 1) rs as
  | _, _, _ => []
theorem paired_imp {α β : Type} {F G : α → β → Prop} (f : ∀ a b, F a b → G a b) {l : List α} {m : List β} (h : Paired F l m) : Paired G l m := by
  induction h with
  | nil => exact .nil
  | cons h _ ih => exact .cons (f _ _ h) ih
theorem paired_get {α β : Type} {F : α → β → Prop} : ∀ {l : List α} {m : List β}, Paired F l m → ∀ {i : Nat} {a : α}, l[i]? = some a → ∃ b, m[i]? = some b ∧ F a b
  | _, _, .cons h _, 0, a, e => by cases e; exact ⟨_, rfl, h⟩
  | _, _, .cons _ t, i + 1, a, e => paired_get t e
structure BookAt (P : Program) (w : World) (K : PySem.W.Frag) (C : Addr) (H : Hp) (x l m : Addr) (rows : List BRow) (as : List Addr) : Prop where
  obj : ∃ dx, H x = some (.ins C dx [("held", .ref l), ("numbers", .ref m)])
  lst : H l = some (.lst (as.map V.ref))
  num : H m = some (dN P w m (ents 0 rows as))
  row : Paired (RowAt K H) rows as
  nd : rows.Nodup
  few : rows.length ≤ 100000
def Kp2 (l m : Addr) (H H' : Hp) : Prop := ∀ a o, a ≠ l → a ≠ m → H a = some o → H' a = some o
theorem Kp2.refl (l m : Addr) (H : Hp) : Kp2 l m H H := fun _ _ _ _ h => h
theorem Kp2.trans {l m : Addr} {H H1 H2 : Hp} (p : Kp2 l m H H1) (q : Kp2 l m H1 H2) : Kp2 l m H H2 := fun a o n k h => q a o n k (p a o n k h)
theorem Kp2.same {l m : Addr} {H H1 H2 : Hp} (p : Kp2 l m H H1) (q : Same H1 H2) : Kp2 l m H H2 := fun a o n k h => q a o (p a o n k h)
theorem Kp2.of {l m : Addr} {H H1 : Hp} (q : Same H H1) : Kp2 l m H H1 := fun a o _ _ h => q a o h
section
variable {P : Program} {w : World} {K : PySem.W.Frag} {C x l m : Addr} {H H' : Hp} {rows : List BRow} {as : List Addr}
theorem BookAt.len (b : BookAt P w K C H x l m rows as) : rows.length = as.length := Paired.length b.row
theorem BookAt.same (b : BookAt P w K C H x l m rows as) (S : Same H H') : BookAt P w K C H' x l m rows as :=
  ⟨let ⟨dx, h⟩ := b.obj; ⟨dx, S _ _ h⟩, S _ _ b.lst, S _ _ b.num, paired_imp (fun _ _ h => h.same S) b.row, b.nd, b.few⟩
end
def argsAt (rows : List BRow) (i : Nat) : List Nat := match rows[i]? with | some r => r.args | none => []
def mark (rows : List BRow) (i : Nat) (f : Nat → Bool) : Nat → Bool := fun j => f j || (f i && decide (j ∈ argsAt rows i))
end Tp
set_option Elab.async false
set_option linter.all false
set_option maxRecDepth 100000
set_option maxHeartbeats 4000000
namespace Tp
open PySem PySem.Spec PyProof.Rows L2
section
variable {X : Cx} {CX : CXT} {k : Nat} {f C : Addr} {fd : FuncData} {ps : List Str} {sp : Sp} {dvs : List V} {ds : List Value} {E : L2.St → XK} {x : Str} {p pos : Pos}
end
section
open PySem.AutoSeq1 (wpAny_loadPart')
theorem tup_dec_dict (l b : Addr) (its : Array Value) (n : Nat) (dd dd2 : Option Addr) (sl sl2 : Array (Option Value)) (es : Array DictEntry) (ep : Nat) :
    Meets (Builtin.«tuple.__eq__» ⟨[.ref l, .ref b], []⟩) (fun _ R s => s.heap.get? l = some ⟨.type "tuple", dd, .seq its n, sl⟩ ∧ s.heap.get? b = some ⟨.type "dict", dd2, .dict es ep, sl2⟩ ∧ R (.ok (.ret .notImplemented)) s) :=
  .of_wp fun _ _ _ _ st z => by
    obtain ⟨hp, g, d, tk, os⟩ := st
    obtain ⟨z1, z2, z3⟩ := z
    have f1 := F.sub_dict_tuple
    wp_walk using wpAny_loadPart' z1, wpAny_loadPart' z2
    exact ⟨_, rfl, z3⟩
theorem dict_dec_tup (l b : Addr) (its : Array Value) (n : Nat) (dd dd2 : Option Addr) (sl sl2 : Array (Option Value)) (es : Array DictEntry) (ep : Nat) :
    Meets (Builtin.«dict.__eq__» ⟨[.ref b, .ref l], []⟩) (fun _ R s => s.heap.get? l = some ⟨.type "tuple", dd, .seq its n, sl⟩ ∧ s.heap.get? b = some ⟨.type "dict", dd2, .dict es ep, sl2⟩ ∧ R (.ok (.ret .notImplemented)) s) :=
  .of_wp fun _ _ _ _ st z => by
    obtain ⟨hp, g, d, tk, os⟩ := st
    obtain ⟨z1, z2, z3⟩ := z
    have f1 := F.sub_tuple_dict
    wp_walk using wpAny_loadPart' z1, wpAny_loadPart' z2
    exact ⟨_, rfl, z3⟩
theorem str_dec_dict (x : Str) (t : Tok) (b : Addr) (dd2 : Option Addr) (sl2 : Array (Option Value)) (es : Array DictEntry) (ep : Nat) :
    Meets (Builtin.«str.__eq__» ⟨[.str x t, .ref b], []⟩) (fun _ R s => s.heap.get? b = some ⟨.type "dict", dd2, .dict es ep, sl2⟩ ∧ R (.ok (.ret .notImplemented)) s) :=
  .of_wp fun _ _ _ _ st z => by
    obtain ⟨hp, g, d, tk, os⟩ := st
    obtain ⟨z2, z3⟩ := z
    have f1 := F.sub_dict_str
    wp_walk using wpAny_loadPart' z2, wpAny_load z2
    exact ⟨_, rfl, z3⟩
theorem dict_dec_str (x : Str) (t : Tok) (b : Addr) (dd2 : Option Addr) (sl2 : Array (Option Value)) (es : Array DictEntry) (ep : Nat) :
    Meets (Builtin.«dict.__eq__» ⟨[.ref b, .str x t], []⟩) (fun _ R s => s.heap.get? b = some ⟨.type "dict", dd2, .dict es ep, sl2⟩ ∧ R (.ok (.ret .notImplemented)) s) :=
  .of_wp fun _ _ _ _ st z => by
    obtain ⟨hp, g, d, tk, os⟩ := st
    obtain ⟨z2, z3⟩ := z
    have f1 := F.sub_str_dict
    wp_walk using wpAny_loadPart' z2, wpAny_load z2
    exact ⟨_, rfl, z3⟩
theorem int_dec_dict (x : Int) (t : Tok) (b : Addr) (dd2 : Option Addr) (sl2 : Array (Option Value)) (es : Array DictEntry) (ep : Nat) :
    Meets (Builtin.«int.__eq__» ⟨[.int x t, .ref b], []⟩) (fun _ R s => s.heap.get? b = some ⟨.type "dict", dd2, .dict es ep, sl2⟩ ∧ R (.ok (.ret .notImplemented)) s) :=
  .of_wp fun _ _ _ _ st z => by
    obtain ⟨hp, g, d, tk, os⟩ := st
    obtain ⟨z2, z3⟩ := z
    have f1 := F.sub_dict_int
    wp_walk using wpAny_loadPart' z2, wpAny_load z2
    exact ⟨_, rfl, z3⟩
theorem dict_dec_int (x : Int) (t : Tok) (b : Addr) (dd2 : Option Addr) (sl2 : Array (Option Value)) (es : Array DictEntry) (ep : Nat) :
    Meets (Builtin.«dict.__eq__» ⟨[.ref b, .int x t], []⟩) (fun _ R s => s.heap.get? b = some ⟨.type "dict", dd2, .dict es ep, sl2⟩ ∧ R (.ok (.ret .notImplemented)) s) :=
  .of_wp fun _ _ _ _ st z => by
    obtain ⟨hp, g, d, tk, os⟩ := st
    obtain ⟨z2, z3⟩ := z
    have f1 := F.sub_int_dict
    wp_walk using wpAny_loadPart' z2, wpAny_load z2
    exact ⟨_, rfl, z3⟩
def DicAt (h : Heap) (b : Addr) : Prop := ∃ dd es ep sl, h.get? b = some ⟨.type "dict", dd, .dict es ep, sl⟩
section
variable {A : Around} {s : Shared}
theorem ne_tup_dic {l b : Addr} {its : Array Value} (hl : s.heap.IsTuple l its) (hb : DicAt s.heap b) : l ≠ b := fun e => by
  subst e
  obtain ⟨o, ho, hc, _⟩ := hl
  obtain ⟨dd, es, ep, sl, h⟩ := hb
  rw [ho] at h
  cases h
  exact absurd hc (by simp)
theorem rc_tup_dic {l b : Addr} {its : Array Value} (hl : s.heap.IsTuple l its) (hb : DicAt s.heap b) (hu : A.units < cLine) : SeqAt.RcAt A s (.ref l) (.ref b) false := fun prog w E Q h => by
  have ne := ne_tup_dic hl hb
  obtain ⟨⟨cls, dd, data, sl⟩, ho, hc, n, hd⟩ := hl
  obtain ⟨dd2, es, ep, sl2, ho2⟩ := hb
  simp only at hc hd
  subst hc hd
  refine SeqAt.rc_eq_decline_or (k := false) (Ta := "tuple") (Tb := "dict") ⟨_, ho, rfl⟩ ⟨_, ho2, rfl⟩ (by decide) F.sub_dict_tuple F.slot_tuple_eq F.slot_dict_eq_refl ?_ ?_ ?_ (.inr hu) h
  · exact fun _ hq => call_meets F.slot_tuple_eq ⟨_, ho, rfl⟩ F.entry_tuple_eq (F.args_tuple_eq_2 _ _) (tup_dec_dict l b its n dd dd2 sl sl2 es ep) ⟨ho, ho2, hq⟩
  · exact fun _ hq => call_meets F.slot_dict_eq_refl ⟨_, ho2, rfl⟩ F.entry_dict_eq (F.args_dict_eq_2 _ _) (dict_dec_tup l b its n dd dd2 sl sl2 es ep) ⟨ho, ho2, hq⟩
  · exact fun _ hq => SeqAt.wpAny_isSame_ref_other' ne ho ho2 (by simp) hq
theorem eq_tup_dic {l b : Addr} {its : Array Value} (hl : s.heap.IsTuple l its) (hb : DicAt s.heap b) (hu : A.units < cLine) : SeqAt.EqAt A s (.ref l) (.ref b) false := .of_refs (ne_tup_dic hl hb) (rc_tup_dic hl hb hu)
theorem eq_str_dic {x : Str} {t : Tok} {b : Addr} (hb : DicAt s.heap b) (hu : A.units < cLine) : SeqAt.EqAt A s (.str x t) (.ref b) false := fun prog w E Q h => by
  obtain ⟨dd2, es, ep, sl2, ho2⟩ := hb
  unfold eqBool
  refine wpAny_holding (wpAny_ite_split (fun z => absurd (eq_of_beq z) nofun) (fun _ => wpAny_bind ?_))
  refine SeqAt.rc_eq_decline_or (k := false) (Ta := "str") (Tb := "dict") (typeIs_str s x t) ⟨_, ho2, rfl⟩ (by decide) F.sub_dict_str F.slot_str_eq F.slot_dict_eq_refl ?_ ?_ ?_ (.inr hu) (wpAny_truthy_bool h)
  · exact fun _ hq => call_meets F.slot_str_eq (typeIs_str s x t) F.entry_str_eq (F.args_str_eq_2 _ _) (str_dec_dict x t b dd2 sl2 es ep) ⟨ho2, hq⟩
  · exact fun _ hq => call_meets F.slot_dict_eq_refl ⟨_, ho2, rfl⟩ F.entry_dict_eq (F.args_dict_eq_2 _ _) (dict_dec_str x t b dd2 sl2 es ep) ⟨ho2, hq⟩
  · exact fun _ hq => wpAny_of_eq (rfl : isSame (.str x t) (.ref b) = pure false) hq
theorem eq_int_dic {x : Int} {t : Tok} {b : Addr} (hb : DicAt s.heap b) (hu : A.units < cLine) : SeqAt.EqAt A s (.int x t) (.ref b) false := fun prog w E Q h => by
  obtain ⟨dd2, es, ep, sl2, ho2⟩ := hb
  unfold eqBool
  refine wpAny_holding (wpAny_ite_split (fun z => absurd (eq_of_beq z) nofun) (fun _ => wpAny_bind ?_))
  refine SeqAt.rc_eq_decline_or (k := false) (Ta := "int") (Tb := "dict") (typeIs_int s x t) ⟨_, ho2, rfl⟩ (by decide) F.sub_dict_int F.slot_int_eq F.slot_dict_eq_refl ?_ ?_ ?_ (.inr hu) (wpAny_truthy_bool h)
  · exact fun _ hq => call_meets F.slot_int_eq (typeIs_int s x t) F.entry_int_eq (F.args_int_eq_2 _ _) (int_dec_dict x t b dd2 sl2 es ep) ⟨ho2, hq⟩
  · exact fun _ hq => call_meets F.slot_dict_eq_refl ⟨_, ho2, rfl⟩ F.entry_dict_eq (F.args_dict_eq_2 _ _) (dict_dec_int x t b dd2 sl2 es ep) ⟨ho2, hq⟩
  · exact fun _ hq => wpAny_of_eq (rfl : isSame (.int x t) (.ref b) = pure false) hq
end
end
mutual
inductive NeV (K : PySem.W.Frag) (H : Hp) : V → V → Prop
  | int {i : Int} {b : Addr} : NeV K H (.int i) (.ref b)
  | str {z : Str} {b : Addr} : NeV K H (.str z) (.ref b)
  | tup {a b : Addr} {xs ys : List V} : SqT K H a xs → SqT K H b ys → NeVs K H xs ys → NeV K H (.ref a) (.ref b)
inductive NeVs (K : PySem.W.Frag) (H : Hp) : List V → List V → Prop
  | nil {y : V} {ys : List V} : NeVs K H [] (y :: ys)
  | hd {x y : V} {xs ys : List V} : NeV K H x y → NeVs K H (x :: xs) (y :: ys)
  | tl {x y : V} {xs ys : List V} : NeVs K H xs ys → NeVs K H (x :: xs) (y :: ys)
end
mutual
inductive EqZ (K : PySem.W.Frag) (H : Hp) : Nat → V → V → Bool → Prop
  | data {n : Nat} {v x : V} {d e : PyData} : Dp K H v d → Dp K H x e → d.canLay0 = true → e.canLay0 = true → d.depth ≤ n → EqZ K H n v x (PyData.eqv d e)
  | tup {n : Nat} {a b : Addr} {xs : List V} : SqT K H a xs → H b = some (.dK []) → EqZ K H n (.ref a) (.ref b) false
  | str {n : Nat} {x : Str} {b : Addr} : H b = some (.dK []) → EqZ K H n (.str x) (.ref b) false
  | int {n : Nat} {x : Int} {b : Addr} : H b = some (.dK []) → EqZ K H n (.int x) (.ref b) false
  | intT {n : Nat} {x : Int} {b : Addr} {ys : List V} : SqT K H b ys → EqZ K H n (.int x) (.ref b) false
  | tups {n : Nat} {a b : Addr} {xs ys : List V} {p : Bool} : NeVs K H xs ys → SqT K H a xs → SqT K H b ys → EqZs K H n xs ys p → EqZ K H (n + 1) (.ref a) (.ref b) (p && xs.length == ys.length)
inductive EqZs (K : PySem.W.Frag) (H : Hp) : Nat → List V → List V → Bool → Prop
  | nil1 {n : Nat} {ys : List V} : EqZs K H n [] ys true
  | nil2 {n : Nat} {xs : List V} : EqZs K H n xs [] true
  | cons {n : Nat} {x y : V} {xs ys : List V} {p q : Bool} : EqZ K H n x y p → EqZs K H n xs ys q → EqZs K H n (x :: xs) (y :: ys) (p && q)
end
section
variable {X : Cx} {pins : List (Addr × Obj)} {σ : L2.St} {H : Hp} {s : Shared}
theorem dic_at (I : Inv X pins σ H s) {b : Addr} (h : H b = some (.dK [])) : DicAt s.heap b := by
  obtain ⟨_, ya, va, ra, da⟩ := (show ObjOk X.prog X.w H s.heap b (.dK []) from I.hok b _ h)
  obtain ⟨⟨c, dd, dt, sl⟩, es, ep, e1, ⟨e2, _, _⟩, e3, _⟩ := da
  simp only at e2 e3
  subst e2 e3
  exact ⟨_, _, _, _, e1⟩
mutual
theorem NeV.at (I : Inv X pins σ H s) : ∀ {v x : V}, NeV X.K H v x → ∀ (u : Value), RelV v u → RelV x u → False
  | _, _, .int, u, r1, r2 => by
    obtain ⟨t, rfl⟩ := r1
    cases r2
  | _, _, .str, u, r1, r2 => by
    obtain ⟨t, rfl⟩ := r1
    cases r2
  | _, _, .tup h1 h2 z, u, r1, r2 => by
    cases r1
    cases r2
    obtain ⟨its, rv, ⟨o, e1, _, n, d1⟩, _⟩ := I.tuple h1
    obtain ⟨its2, rv2, ⟨o2, e2, _, n2, d2⟩, _⟩ := I.tuple h2
    rw [e1] at e2
    cases e2
    rw [d1] at d2
    injection d2 with d2 _
    have : its = its2 := by simpa using d2
    subst this
    exact NeVs.at I z its rv rv2
theorem NeVs.at (I : Inv X pins σ H s) : ∀ {xs ys : List V}, NeVs X.K H xs ys → ∀ (us : List Value), Vals xs us → Vals ys us → False
  | _, _, .nil, us, r1, r2 => by
    cases r1
    cases r2
  | _, _, .hd h, us, r1, r2 => by
    cases r1 with
    | cons a b =>
      cases r2 with
      | cons c d => exact NeV.at I h _ a c
  | _, _, .tl h, us, r1, r2 => by
    cases r1 with
    | cons a b =>
      cases r2 with
      | cons c d => exact NeVs.at I h _ b d
end
mutual
theorem EqZ.at (I : Inv X pins σ H s) : ∀ {n : Nat} {v x : V} {b : Bool}, EqZ X.K H n v x b → ∀ (A : Around) (u w : Value), RelV v u → RelV x w → A.units + n < cLine → SeqAt.EqAt A s u w b
  | n, _, _, _, .data (d := d) (e := e) h1 h2 c1 c2 dn, A, u, w, ru, rw_, hu => by
    obtain ⟨as, r1⟩ := Dp.reads I d _ u h1 ru
    obtain ⟨bs, r2⟩ := Dp.reads I e _ w h2 rw_
    exact SeqAt.eqAt_reads d e A s u w as bs r1 r2 c1 c2 (Nat.lt_of_le_of_lt (Nat.add_le_add_left (Nat.le_trans (Nat.min_le_left _ _) dn) _) hu)
  | n, _, _, _, .tup h1 h2, A, u, w, ru, rw_, hu => by
    obtain ⟨its, rv, it, _⟩ := I.tuple h1
    cases ru
    cases rw_
    exact eq_tup_dic it (dic_at I h2) (by omega)
  | n, _, _, _, .str h2, A, u, w, ru, rw_, hu => by
    obtain ⟨t, rfl⟩ := ru
    cases rw_
    exact eq_str_dic (dic_at I h2) (by omega)
  | n, _, _, _, .int h2, A, u, w, ru, rw_, hu => by
    obtain ⟨t, rfl⟩ := ru
    cases rw_
    exact eq_int_dic (dic_at I h2) (by omega)
  | n, _, _, _, .intT h2, A, u, w, ru, rw_, hu => by
    obtain ⟨its, rv, it, _⟩ := I.tuple h2
    obtain ⟨t, rfl⟩ := ru
    cases rw_
    exact SeqAt.EqAt.int_tuple _ t it (by omega)
  | _, _, _, _, .tups (n := n) (a := a) (b := b) (xs := xs) (ys := ys) ne h1 h2 z, A, u, w, ru, rw_, hu => by
    obtain ⟨its, rv, it, _⟩ := I.tuple h1
    obtain ⟨its2, rv2, it2, _⟩ := I.tuple h2
    cases ru
    cases rw_
    obtain ⟨e, he, ha⟩ := EqZs.at I z A.in1 its its2 rv rv2 (show A.units + 1 + n < cLine by omega)
    have := SeqAt.RcAt.tuples (e := e) it it2 (show A.units < cLine by omega) (fun j g1 g2 => by
      have g1' : j < its.length := by simpa using g1
      have g2' : j < its2.length := by simpa using g2
      simpa using he j _ _ (List.getElem?_eq_getElem g1') (List.getElem?_eq_getElem g2'))
    have ne : a ≠ b := fun z => by
      subst z
      exact NeV.at I (.tup h1 h2 ne) _ rfl rfl
    refine .of_refs ne ?_
    have e1 : its.toArray.size = xs.length := by simpa using rv.length.symm
    have e2 : its2.toArray.size = ys.length := by simpa using rv2.length.symm
    rw [e1, e2] at this
    rw [rv.length, rv2.length, ha] at this
    rw [rv.length, rv2.length]
    exact this
theorem EqZs.at (I : Inv X pins σ H s) : ∀ {n : Nat} {xs ys : List V} {p : Bool}, EqZs X.K H n xs ys p → ∀ (A : Around) (us ws : List Value), Vals xs us → Vals ys ws → A.units + n < cLine →
    ∃ e : Nat → Bool, (∀ (j : Nat) (a b : Value), us[j]? = some a → ws[j]? = some b → SeqAt.EqAt A s a b (e j)) ∧ (List.range (min us.length ws.length)).all e = p
  | n, _, _, _, .nil1, A, us, ws, ru, rw_, hu => by
    cases ru
    exact ⟨fun _ => true, (fun j a b h => by cases h), by simp⟩
  | n, _, _, _, .nil2, A, us, ws, ru, rw_, hu => by
    cases rw_
    exact ⟨fun _ => true, (fun j a b _ h => by cases h), by simp⟩
  | n, _, _, _, .cons (p := p) (q := q) h t, A, us, ws, ru, rw_, hu => by
    cases ru with
    | cons r1 r2 =>
      cases rw_ with
      | cons w1 w2 =>
        obtain ⟨e, he, ha⟩ := EqZs.at I t A _ _ r2 w2 hu
        refine ⟨fun j => match j with | 0 => p | j + 1 => e j, fun j a b g1 g2 => ?_, ?_⟩
        · cases j with
          | zero =>
            cases g1
            cases g2
            exact EqZ.at I h A _ _ r1 w1 hu
          | succ j => exact he j a b g1 g2
        · rw [List.length_cons, List.length_cons, Nat.add_min_add_right, List.range_succ_eq_map, List.all_cons, List.all_map, ← ha]
          rfl
end
end
end Tp
set_option Elab.async false
set_option linter.all false
set_option maxRecDepth 100000
set_option maxHeartbeats 4000000
namespace Tp
open PySem PySem.Spec PyProof.Rows
section
variable {prog : Program} {w : World} {A : Around} {R : Result → Shared → Prop} {I : Addr} {fp wr : List Addr} {n : Nat} {PP : Nat → Value → Prop} {St : Nat → Heap → Prop} {kw : List (Str × Value)}
end
section
variable {prog : Program} {w : World} {A : Around} {E : Value → Shared → Prop} {s : Shared} {l : Addr} {xs : Array (Int × Tok)} {d : Value}
end
end Tp
namespace Tp
open PySem PySem.Spec PyProof.Rows L2
section
variable {X : Cx} {K : PySem.W.Frag}
theorem ix_listK (hK : X.K = K) : IxR X (rIxL K) := by
  subst hK
  exact ix_list
theorem ix_seqK (hK : X.K = K) : IxR X (rIx K) := by
  subst hK
  exact ix_seq
end
end Tp
set_option Elab.async false
set_option linter.all false
set_option maxRecDepth 100000
set_option maxHeartbeats 4000000
namespace Tp
open PySem PySem.Spec PyProof.Rows L2
end Tp
set_option Elab.async false
set_option linter.all false
set_option maxRecDepth 100000
set_option maxHeartbeats 4000000
namespace Tp
open PySem PySem.Spec PyProof.Rows L2
section
variable {prog : Program} {w : World} {A : Around} {E : Value → Shared → Prop} {s : Shared}
end
end Tp
set_option Elab.async false
set_option linter.all false
set_option maxRecDepth 100000
set_option maxHeartbeats 4000000
namespace Tp
open PySem PySem.Spec PyProof.Rows L2
end Tp
set_option Elab.async false
set_option linter.all false
set_option maxRecDepth 100000
set_option maxHeartbeats 4000000
namespace Tp
open PySem PySem.Spec PyProof.Rows L2
end Tp
set_option Elab.async false
set_option linter.all false
set_option maxRecDepth 100000
set_option maxHeartbeats 4000000
namespace Tp
open PySem PySem.Spec PyProof.Rows L2
structure NEdge where
  src : Str
  st : List Nat
deriving DecidableEq
structure NGate where
  nm : Str
  sy : Str
  es : List NEdge
deriving DecidableEq
def EdgeAt (K : PySem.W.Frag) (H : Hp) (e : NEdge) (v : V) : Prop := ∃ p c q c', v = .ref p ∧ SqB c K H p [.str e.src, .ref q] ∧ SqB c' K H q (numsV e.st)
def GateAt (K : PySem.W.Frag) (H : Hp) (g : NGate) (v : V) : Prop := ∃ p c q c' us, v = .ref p ∧ SqB c K H p [.str g.nm, .str g.sy, .ref q] ∧ SqB c' K H q us ∧ Paired (EdgeAt K H) g.es us
theorem EdgeAt.same {K : PySem.W.Frag} {H H' : Hp} {e : NEdge} {v : V} (h : EdgeAt K H e v) (S : Same H H') : EdgeAt K H' e v := by
  obtain ⟨p, c, q, c', e1, h1, h2⟩ := h
  exact ⟨p, c, q, c', e1, h1.same S, h2.same S⟩
theorem GateAt.same {K : PySem.W.Frag} {H H' : Hp} {g : NGate} {v : V} (h : GateAt K H g v) (S : Same H H') : GateAt K H' g v := by
  obtain ⟨p, c, q, c', us, e1, h1, h2, h3⟩ := h
  exact ⟨p, c, q, c', us, e1, h1.same S, h2.same S, paired_imp (fun _ _ h => h.same S) h3⟩
def Rdy (names ord : List Str) (g : NGate) : Prop := ∀ e ∈ g.es, e.st ≠ [] ∨ e.src ∉ names ∨ e.src ∈ ord
instance {names ord : List Str} {g : NGate} : Decidable (Rdy names ord g) := by unfold Rdy; infer_instance
structure OrdOk (gs : List NGate) (ord : List Str) : Prop where
  nd : ord.Nodup
  sub : ∀ x ∈ ord, x ∈ gs.map NGate.nm
  why : ∀ (i : Nat) (x : Str), ord[i]? = some x → ∃ g ∈ gs, g.nm = x ∧ Rdy (gs.map NGate.nm) (ord.take i) g
theorem sub_lenS : ∀ {l m : List Str}, l.Nodup → (∀ x ∈ l, x ∈ m) → l.length ≤ m.length
  | [], _, _, _ => Nat.zero_le _
  | x :: l, m, nd, h => by
    obtain ⟨m1, m2, rfl⟩ := List.append_of_mem (h x List.mem_cons_self)
    obtain ⟨nx, nl⟩ := List.nodup_cons.mp nd
    have := sub_lenS (m := m1 ++ m2) nl fun y hy => by
      rcases List.mem_append.mp (h y (List.mem_cons_of_mem _ hy)) with k | k
      · exact List.mem_append_left _ k
      · rcases List.mem_cons.mp k with k | k
        · rw [k] at hy
          exact absurd hy nx
        · exact List.mem_append_right _ k
    rw [List.length_append] at this ⊢
    rw [List.length_cons, List.length_cons]
    omega
theorem OrdOk.len {gs : List NGate} {ord : List Str} (h : OrdOk gs ord) : ord.length ≤ gs.length := by
  have := sub_lenS h.nd h.sub
  rw [List.length_map] at this
  exact this
end Tp
set_option Elab.async false
set_option linter.all false
set_option maxRecDepth 100000
set_option maxHeartbeats 4000000
namespace Tp
open PySem PySem.Spec PyProof.Rows L2
theorem paired_rev {α β : Type} {F : α → β → Prop} {l : List α} {m : List β} (h : Paired F l m) {i : Nat} {b : β} (hb : m[i]? = some b) : ∃ a, l[i]? = some a ∧ F a b := by
  have il : i < l.length := by
    have := (List.getElem?_eq_some_iff.mp hb).1
    have := Paired.length h
    omega
  have ha : l[i]? = some l[i] := List.getElem?_eq_getElem il
  obtain ⟨b', hb', f⟩ := Tp.paired_get h ha
  rw [hb] at hb'
  cases hb'
  exact ⟨_, ha, f⟩
def StackOk (rows : List BRow) (st : List (Nat × Nat)) : Prop := (st.map (·.1)).Pairwise (· < ·) ∧ ∀ p ∈ st, p.1 < rows.length
theorem StackOk.len {rows : List BRow} {st : List (Nat × Nat)} (h : StackOk rows st) : st.length ≤ rows.length := by
  have key : ∀ {l : List Nat} {n : Nat}, l.Pairwise (· < ·) → (∀ x ∈ l, x < n) → l.length ≤ n := by
    intro l
    induction l with
    | nil => intro n _ _; exact Nat.zero_le _
    | cons x l ih =>
      intro n hp hl
      obtain ⟨h1, h2⟩ := List.pairwise_cons.mp hp
      have : l.length ≤ n - (x + 1) := by
        have key2 : ∀ {l : List Nat} {a b : Nat}, l.Pairwise (· < ·) → (∀ x ∈ l, a ≤ x ∧ x < b) → l.length ≤ b - a := by
          intro l
          induction l with
          | nil => intro a b _ _; exact Nat.zero_le _
          | cons y l ih2 =>
            intro a b hp hl
            obtain ⟨h1, h2⟩ := List.pairwise_cons.mp hp
            have hy := hl y List.mem_cons_self
            have := ih2 (a := y + 1) (b := b) h2 fun z hz => ⟨h1 z hz, (hl z (List.mem_cons_of_mem _ hz)).2⟩
            rw [List.length_cons]
            omega
        exact key2 h2 fun z hz => ⟨h1 z hz, hl z (List.mem_cons_of_mem _ hz)⟩
      have hx := hl x List.mem_cons_self
      rw [List.length_cons]
      omega
  have := key h.1 fun x hx => by
    obtain ⟨p, hp, rfl⟩ := List.mem_map.mp hx
    exact h.2 p hp
  rw [List.length_map] at this
  exact this
theorem StackOk.tail {rows : List BRow} {e : Nat × Nat} {st : List (Nat × Nat)} (h : StackOk rows (e :: st)) : StackOk rows st := ⟨(List.pairwise_cons.mp h.1).2, fun p hp => h.2 p (List.mem_cons_of_mem _ hp)⟩
end Tp
set_option Elab.async false
set_option linter.all false
set_option maxRecDepth 100000
set_option maxHeartbeats 4000000
namespace Tp
open PySem PySem.Spec PyProof.Rows L2
section
variable {prog : Program} {w : World} {A : Around} {E : Value → Shared → Prop} {s : Shared}
end
section
variable {K : PySem.W.Frag} {H : Hp} {c : Bool} {p : Addr} {xs : List V}
theorem SqB.lt (h : SqB c K H p xs) : ∃ t, TyX K H (.ref p) t ∧ PySem.W.kitAny K t [.type "list", .type "tuple"] = some true := by
  cases c
  · exact ⟨_, ty_sqL h, kit_lt (.list [])⟩
  · exact ⟨_, ty_sqT h, kit_lt (.tuple [])⟩
end
def TermAt (K : PySem.W.Frag) (H : Hp) (r : BRow) (v : V) : Prop := ∃ p c q c', v = .ref p ∧ SqB c K H p [.str r.nm, .ref q] ∧ SqB c' K H q (numsV r.args)
theorem TermAt.same {K : PySem.W.Frag} {H H' : Hp} {r : BRow} {v : V} (h : TermAt K H r v) (S : Same H H') : TermAt K H' r v := by
  obtain ⟨p, c, q, c', e, h1, h2⟩ := h
  exact ⟨p, c, q, c', e, h1.same S, h2.same S⟩
end Tp
set_option Elab.async false
set_option linter.all false
set_option maxRecDepth 100000
set_option maxHeartbeats 4000000
namespace Tp
open PySem PySem.Spec PyProof.Rows L2
theorem Kp2.old {l m : Addr} {H H1 H2 : Hp} (k : Kp2 l m H1 H2) (S : Same H H1) (hl : H l = none) (hm : H m = none) : Same H H2 := fun a o h => k a o (ne_of_none h hl) (ne_of_none h hm) (S a o h)
structure TabAt (P : Program) (w : World) (K : PySem.W.Frag) (C : Addr) (H : Hp) (x l m : Addr) (rows : List BRow) (as : List Addr) : Prop where
  obj : ∃ dx, H x = some (.ins C dx [("own_rows", .ref l), ("own_numbers", .ref m)])
  lst : H l = some (.lst (as.map V.ref))
  num : H m = some (dN P w m (ents 0 rows as))
  row : Paired (RowAt K H) rows as
  nd : rows.Nodup
  few : rows.length ≤ 100000
section
variable {P : Program} {w : World} {K : PySem.W.Frag} {C x l m : Addr} {H H' : Hp} {rows : List BRow} {as : List Addr}
theorem TabAt.len (b : TabAt P w K C H x l m rows as) : rows.length = as.length := Paired.length b.row
theorem TabAt.same (b : TabAt P w K C H x l m rows as) (S : Same H H') : TabAt P w K C H' x l m rows as :=
  ⟨let ⟨dx, h⟩ := b.obj; ⟨dx, S _ _ h⟩, S _ _ b.lst, S _ _ b.num, paired_imp (fun _ _ h => h.same S) b.row, b.nd, b.few⟩
end
end Tp
set_option Elab.async false
set_option linter.all false
set_option maxRecDepth 100000
set_option maxHeartbeats 4000000
namespace Tp
open PySem PySem.Spec PyProof.Rows L2
structure Parts where
  ins : List Str
  gs : List NGate
  outs : List NEdge
  tms : List BRow
def edgeD (e : NEdge) : PyData := .tuple [.str e.src, .tuple (numsD e.st)]
def gateD (g : NGate) : PyData := .tuple [.str g.nm, .str g.sy, .tuple (g.es.map edgeD)]
def offk (k : Addr) (H : Hp) : Hp := fun x => if x = k then none else H x
theorem offk_get {k x : Addr} {H : Hp} {o : HO} (n : x ≠ k) (h : H x = some o) : offk k H x = some o := by unfold offk; rw [if_neg n]; exact h
theorem offk_to {k : Addr} {H : Hp} : Same (offk k H) H := fun x o h => by
  unfold offk at h
  split at h
  · cases h
  · exact h
def netF (t1 t2 t3 t5 t6 q : Addr) : List (Str × V) := [("own_terms", .ref t1), ("own_inputs", .ref t2), ("own_gates", .ref t3), ("own_outs", .ref t5), ("own_rows", .ref t6), ("own_order", .ref q)]
def NetAt (K : PySem.W.Frag) (C : Addr) (H : Hp) (x : Addr) (N : Parts) : Prop := ∃ (dx t1 t2 t3 t5 t6 q : Addr), H x = some (.ins C dx (netF t1 t2 t3 t5 t6 q)) ∧
  Dp K H (.ref t1) (.tuple (N.tms.map BRow.data)) ∧ Dp K H (.ref t2) (.tuple (N.ins.map .str)) ∧ Dp K H (.ref t3) (.tuple (N.gs.map gateD)) ∧ Dp K H (.ref t5) (.tuple (N.outs.map edgeD)) ∧ SqT K H t6 [.ref t2, .ref t3, .ref t5, .ref t1] ∧ ∃ ord : List Str, H q = some (.lst (ord.map V.str))
theorem NetAt.same {K : PySem.W.Frag} {C : Addr} {H H' : Hp} {x : Addr} {N : Parts} (h : NetAt K C H x N) (S : Same H H') : NetAt K C H' x N := by
  obtain ⟨dx, t1, t2, t3, t5, t6, q, h0, h1, h2, h3, h5, h6, ord, h7⟩ := h
  exact ⟨dx, t1, t2, t3, t5, t6, q, S _ _ h0, (dp_same S).1 h1, (dp_same S).1 h2, (dp_same S).1 h3, (dp_same S).1 h5, sqT_same S h6, ord, S _ _ h7⟩
end Tp
set_option Elab.async false
set_option linter.all false
set_option maxRecDepth 100000
set_option maxHeartbeats 4000000
namespace Tp
open PySem PySem.Spec PyProof.Rows L2
theorem call_tuple_ofK {X : Cx} {K : PySem.W.Frag} (hK : X.K = K) : CallR X (.type "tuple") (fun xs H Q => ∃ p ys, xs = [.ref p] ∧ ((SqL K H p ys ∧ ∀ l, H l = none → Q (.ref l) (upd H l (.tup ys))) ∨ (SqT K H p ys ∧ Q (.ref p) H))) := by
  subst hK
  exact call_tuple_of
theorem call_list_ofK {X : Cx} {K : PySem.W.Frag} (hK : X.K = K) : CallR X (.type "list") (fun xs H Q => ∃ p ys, xs = [.ref p] ∧ (SqL K H p ys ∨ SqT K H p ys) ∧ ∀ l, H l = none → Q (.ref l) (upd H l (.lst ys))) := by
  subst hK
  exact call_list_of
end Tp
set_option Elab.async false
set_option linter.all false
set_option maxRecDepth 100000
set_option maxHeartbeats 4000000
namespace Tp
open PySem PySem.Spec PyProof.Rows L2
end Tp
set_option Elab.async false
set_option linter.all false
set_option maxRecDepth 100000
set_option maxHeartbeats 4000000
namespace Tp
open PySem PySem.Spec PyProof.Rows L2
end Tp
set_option Elab.async false
set_option linter.all false
set_option maxRecDepth 100000
set_option maxHeartbeats 4000000
namespace Tp
open PySem PySem.Spec PyProof.Rows L2
def ofC (l : List Nat) : Str := ⟨l.toArray⟩
theorem ofC_codes (l : List Nat) : (ofC l).cps.toList = l := by simp [ofC]
theorem ofC_eq {z : Str} {l : List Nat} (h : z.cps.toList = l) : z = ofC l := by
  unfold ofC
  rw [← h]
theorem ofC_len (l : List Nat) : (ofC l).length = l.length := by
  show (ofC l).cps.size = l.length
  rw [← Array.length_toList, ofC_codes]
theorem nmB_ofC (l : List Nat) : nmB (ofC l) = (match l with | [] => false | c :: cs => decide (cs.length + 1 ≤ 8) && (lowC c && (c :: cs).all fun x => lowC x || digC x)) := by
  unfold nmB
  rw [ofC_codes]
  all_goals (cases l <;> rfl)
def digs (i : Nat) : List Nat := if i < 10 then [48 + i] else [48 + i / 10, 48 + i % 10]
theorem digs_str : ∀ i : Nat, i < 20 → (toString ((i : Nat) : Int) : Str).cps.toList = digs i := by
  have h : ∀ i : Fin 20, (toString ((i.1 : Nat) : Int) : Str).cps.toList = digs i.1 := by decide +kernel
  exact fun i hi => h ⟨i, hi⟩
theorem digs_ok : ∀ i : Nat, i < 20 → (digs i).all digC = true ∧ (digs i).length ≤ 2 ∧ 1 ≤ (digs i).length := by
  have h : ∀ i : Fin 20, (digs i.1).all digC = true ∧ (digs i.1).length ≤ 2 ∧ 1 ≤ (digs i.1).length := by decide +kernel
  exact fun i hi => h ⟨i, hi⟩
def nmC (way a b i : Nat) : List Nat := match way with
  | 0 => a :: (List.replicate (i % 3) b ++ digs i)
  | 1 => a :: (digs i ++ List.replicate (i % 5) b)
  | 2 => 103 :: digs i
  | _ => List.replicate (1 + i % 8) (97 + (a - 97 + i / 8) % 26)
theorem nmC_ok {way a b : Nat} (ha : lowC a = true) (hb : lowC b = true) {i : Nat} (hi : i < 16) : nmB (ofC (nmC way a b i)) = true ∧ (ofC (nmC way a b i)).length ≤ 8 := by
  have d := digs_ok i (by omega)
  have key : ∀ (c : Nat) (cs : List Nat), lowC c = true → cs.length ≤ 7 → (∀ x ∈ cs, (lowC x || digC x) = true) → nmB (ofC (c :: cs)) = true ∧ (ofC (c :: cs)).length ≤ 8 := fun c cs h1 h2 h3 => by
    rw [nmB_ofC, ofC_len]
    refine ⟨?_, by rw [List.length_cons]; omega⟩
    show (decide (cs.length + 1 ≤ 8) && (lowC c && (c :: cs).all fun x => lowC x || digC x)) = true
    rw [decide_eq_true (by omega), h1, Bool.true_and, Bool.true_and, List.all_eq_true]
    intro x hx
    rcases List.mem_cons.mp hx with e | hx
    · rw [e, h1]
      rfl
    · exact h3 x hx
  have dg : ∀ x ∈ digs i, (lowC x || digC x) = true := fun x hx => by rw [List.all_eq_true.mp d.1 x hx]; simp
  have rp : ∀ n, ∀ x ∈ List.replicate n b, (lowC x || digC x) = true := fun n x hx => by rw [List.eq_of_mem_replicate hx, hb]; rfl
  match way with
  | 0 =>
    refine key a _ ha ?_ fun x hx => (List.mem_append.mp hx).elim (rp _ x) (dg x)
    rw [List.length_append, List.length_replicate]
    omega
  | 1 =>
    refine key a _ ha ?_ fun x hx => (List.mem_append.mp hx).elim (dg x) (rp _ x)
    rw [List.length_append, List.length_replicate]
    omega
  | 2 => exact key 103 _ rfl (by omega) dg
  | n + 3 =>
    have hc : lowC (97 + (a - 97 + i / 8) % 26) = true := by
      unfold lowC
      rw [Bool.and_eq_true, decide_eq_true_eq, decide_eq_true_eq]
      omega
    have e : nmC (n + 3) a b i = (97 + (a - 97 + i / 8) % 26) :: List.replicate (i % 8) (97 + (a - 97 + i / 8) % 26) := by
      show List.replicate (1 + i % 8) _ = _
      rw [Nat.add_comm, List.replicate_succ]
    rw [e]
    refine key _ _ hc (by rw [List.length_replicate]; omega) fun x hx => by rw [List.eq_of_mem_replicate hx, hc]; rfl
theorem letters26 : ∀ k : Nat, k < 26 → ("abcdefghijklmnopqrstuvwxyz" : Str).cps.toList[k]? = some (97 + k) ∧ lowC (97 + k) = true ∧ Txt.index0 "abcdefghijklmnopqrstuvwxyz" (ofC [97 + k]) = some k := by
  have h : ∀ k : Fin 26, ("abcdefghijklmnopqrstuvwxyz" : Str).cps.toList[k.1]? = some (97 + k.1) ∧ lowC (97 + k.1) = true ∧ Txt.index0 "abcdefghijklmnopqrstuvwxyz" (ofC [97 + k.1]) = some k.1 := by decide +kernel
  exact fun k hk => h ⟨k, hk⟩
def DrawnNm (z : Str) : Prop := ∃ way a b i : Nat, lowC a = true ∧ lowC b = true ∧ i < 16 ∧ z = ofC (nmC way a b i)
theorem DrawnNm.ok {z : Str} (h : DrawnNm z) : nmB z = true ∧ z.length ≤ 8 := by
  obtain ⟨way, a, b, i, ha, hb, hi, rfl⟩ := h
  exact nmC_ok ha hb hi
end Tp
set_option Elab.async false
set_option linter.all false
set_option maxRecDepth 100000
set_option maxHeartbeats 4000000
namespace Tp
open PySem PySem.Spec PyProof.Rows L2
open PySem.AutoSeq1 (wpAny_loadPart')
end Tp
set_option Elab.async false
set_option linter.all false
set_option maxRecDepth 100000
set_option maxHeartbeats 4000000
namespace Tp
open PySem PySem.Spec PyProof.Rows L2
open PySem.Builtin.Str (reprChar)
open TL (numL numL_digits numL_ne numL_inj)
def plC (c : Nat) : Bool := lowC c || digC c
theorem plC_lt {c : Nat} (h : plC c = true) : c < 128 ∧ c ≠ 39 := by
  unfold plC lowC digC at h
  rw [Bool.or_eq_true, Bool.and_eq_true, Bool.and_eq_true, decide_eq_true_eq, decide_eq_true_eq, decide_eq_true_eq, decide_eq_true_eq] at h
  omega
theorem nmB_pl {z : Str} (h : nmB z = true) : ∀ c ∈ z.cps.toList, plC c = true := fun c hc => by
  unfold nmB at h
  cases e : z.cps.toList with
  | nil => rw [e] at hc; cases hc
  | cons c0 cs =>
    rw [e] at h hc
    obtain ⟨_, h⟩ := Bool.and_eq_true_iff.mp h
    obtain ⟨_, h⟩ := Bool.and_eq_true_iff.mp h
    exact List.all_eq_true.mp h c hc
def ShN (n : Nat) (d : PyData) : Prop := d.canLay0 = true ∧ d.depth ≤ n
theorem strOk_pl {z : Str} (h : ∀ c ∈ z.cps.toList, plC c = true) : PyData.strOk z = true := by
  unfold PyData.strOk
  rw [← Array.all_toList]
  exact List.all_eq_true.mpr fun x hx => decide_eq_true (Nat.lt_of_lt_of_le (plC_lt (h x hx)).1 (by decide))
theorem ShN.str {n : Nat} {z : Str} (h : PyData.strOk z = true) : ShN n (.str z) := ⟨by simpa [PyData.canLay0] using h, by simp [PyData.depth]⟩
theorem ShN.nm {n : Nat} {z : Str} (h : nmB z = true) : ShN n (.str z) := .str (strOk_pl (nmB_pl h))
theorem ShN.int {n : Nat} (i : Int) : ShN n (.int i) := ⟨by simp [PyData.canLay0], by simp [PyData.depth]⟩
theorem ShN.non {n : Nat} : ShN n .none := ⟨by simp [PyData.canLay0], by simp [PyData.depth]⟩
theorem ShN.bl {n : Nat} (b : Bool) : ShN n (.bool b) := ⟨by simp [PyData.canLay0], by simp [PyData.depth]⟩
theorem shn_all {n : Nat} : ∀ {xs : List PyData}, (∀ x ∈ xs, ShN n x) → PyData.canLayAll0 xs = true ∧ PyData.depthAll xs ≤ n
  | [], _ => ⟨by simp [PyData.canLayAll0], by simp [PyData.depthAll]⟩
  | x :: xs, h => by
    obtain ⟨a1, a2⟩ := h x List.mem_cons_self
    obtain ⟨b1, b2⟩ := shn_all (xs := xs) fun y hy => h y (List.mem_cons_of_mem _ hy)
    simp only [PyData.canLayAll0, PyData.depthAll, a1, b1, Bool.and_self, true_and]
    omega
theorem ShN.lst {n : Nat} {xs : List PyData} (h : ∀ x ∈ xs, ShN n x) : ShN (n + 1) (.list xs) := by
  obtain ⟨h1, h2⟩ := shn_all h
  refine ⟨by simpa [PyData.canLay0] using h1, ?_⟩
  simp only [PyData.depth]
  omega
theorem ShN.tup {n : Nat} {xs : List PyData} (h : ∀ x ∈ xs, ShN n x) : ShN (n + 1) (.tuple xs) := by
  obtain ⟨h1, h2⟩ := shn_all h
  refine ⟨by simpa [PyData.canLay0] using h1, ?_⟩
  simp only [PyData.depth]
  omega
theorem ShN.shaped {n : Nat} {d : PyData} (h : ShN n d) (hn : n ≤ 64) : SeqAt.shaped d = true := by
  unfold SeqAt.shaped
  rw [h.1, Bool.true_and]
  exact decide_eq_true (Nat.le_trans h.2 hn)
theorem ShN.eqv {n : Nat} {d : PyData} (h : ShN n d) : PyData.eqv d d = true := PySem.SeqAt.eqv_refl d h.1
end Tp
set_option Elab.async false
set_option linter.all false
set_option maxRecDepth 100000
set_option maxHeartbeats 4000000
namespace L58
open PySem L2 Tp
def top (i : Nat) : Stmt := PySem.Challenge.pw_toldpast_k58_meanings_of_tables.main.body.getD i (.Pass ⟨0, 0, 0, 0⟩)
abbrev scInvalidPart_st : Stmt := inClass (top 2) 0
abbrev scInvalidPart_N : List Str := ["self", "value"]
theorem scInvalidPart : FnScope scInvalidPart_N ["self", "value"] (defScope scInvalidPart_st) := ⟨rfl, rfl, rfl, by decide +kernel, rfl, by decide +kernel, by decide +kernel⟩
abbrev scInvalidName_st : Stmt := inClass (top 3) 0
abbrev scInvalidName_N : List Str := ["self", "value"]
theorem scInvalidName : FnScope scInvalidName_N ["self", "value"] (defScope scInvalidName_st) := ⟨rfl, rfl, rfl, by decide +kernel, rfl, by decide +kernel, by decide +kernel⟩
abbrev scInvalidRow_st : Stmt := inClass (top 4) 0
abbrev scInvalidRow_N : List Str := ["self", "value"]
theorem scInvalidRow : FnScope scInvalidRow_N ["self", "value"] (defScope scInvalidRow_st) := ⟨rfl, rfl, rfl, by decide +kernel, rfl, by decide +kernel, by decide +kernel⟩
abbrev scIsName_st : Stmt := top 10
abbrev scIsName_N : List Str := ["value"]
theorem scIsName : FnScope scIsName_N ["value"] (defScope scIsName_st) := ⟨rfl, rfl, rfl, by decide +kernel, rfl, by decide +kernel, by decide +kernel⟩
abbrev scIsList_st : Stmt := top 11
abbrev scIsList_N : List Str := ["value"]
theorem scIsList : FnScope scIsList_N ["value"] (defScope scIsList_st) := ⟨rfl, rfl, rfl, by decide +kernel, rfl, by decide +kernel, by decide +kernel⟩
abbrev scIsPair_st : Stmt := top 12
abbrev scIsPair_N : List Str := ["value"]
theorem scIsPair : FnScope scIsPair_N ["value"] (defScope scIsPair_st) := ⟨rfl, rfl, rfl, by decide +kernel, rfl, by decide +kernel, by decide +kernel⟩
abbrev scIsRow_st : Stmt := top 14
abbrev scIsRow_N : List Str := ["value", "item"]
theorem scIsRow : FnScope scIsRow_N ["value"] (defScope scIsRow_st) := ⟨rfl, rfl, rfl, by decide +kernel, rfl, by decide +kernel, by decide +kernel⟩
abbrev scFunOf_st : Stmt := top 15
abbrev scFunOf_N : List Str := ["rows", "values", "arguments", "value"]
theorem scFunOf : FnScope scFunOf_N ["rows"] (defScope scFunOf_st) := ⟨rfl, rfl, rfl, by decide +kernel, rfl, by decide +kernel, by decide +kernel⟩
abbrev scMeaning_st : Stmt := top 16
abbrev scMeaning_N : List Str := ["tables", "name", "rows", "row"]
theorem scMeaning : FnScope scMeaning_N ["tables"] (defScope scMeaning_st) := ⟨rfl, rfl, rfl, by decide +kernel, rfl, by decide +kernel, by decide +kernel⟩
abbrev scCell_st : Stmt := top 18
abbrev scCell_N : List Str := ["_law_script", "_law_k"]
theorem scCell : FnScope scCell_N ["_law_script", "_law_k"] (defScope scCell_st) := ⟨rfl, rfl, rfl, by decide +kernel, rfl, by decide +kernel, by decide +kernel⟩
abbrev scBox_st : Stmt := top 19
abbrev scBox_N : List Str := ["_law_cell_here"]
theorem scBox : FnScope scBox_N ["_law_cell_here"] (defScope scBox_st) := ⟨rfl, rfl, rfl, by decide +kernel, rfl, by decide +kernel, by decide +kernel⟩
abbrev scTake_st : Stmt := top 20
abbrev scTake_N : List Str := ["_law_box_here", "_law_many", "_law_digit", "_law_mixed"]
theorem scTake : FnScope scTake_N ["_law_box_here", "_law_many"] (defScope scTake_st) := ⟨rfl, rfl, rfl, by decide +kernel, rfl, by decide +kernel, by decide +kernel⟩
abbrev scLabels_st : Stmt := top 21
abbrev scLabels_N : List Str := ["_law_box_here", "_law_many", "_law_small", "_law_way", "_law_spot", "_law_stem", "_law_at", "_law_k"]
theorem scLabels : FnScope scLabels_N ["_law_box_here", "_law_many"] (defScope scLabels_st) := ⟨rfl, rfl, rfl, by decide +kernel, rfl, by decide +kernel, by decide +kernel⟩
abbrev scLooked_st : Stmt := top 22
abbrev scLooked_N : List Str := ["_law_table_here", "_law_items", "_law_row"]
theorem scLooked : FnScope scLooked_N ["_law_table_here", "_law_items"] (defScope scLooked_st) := ⟨rfl, rfl, rfl, by decide +kernel, rfl, by decide +kernel, by decide +kernel⟩
abbrev scTable_st : Stmt := top 23
abbrev scTable_N : List Str := ["_law_box_here", "_law_found", "_law_k", "_law_items", "_law_value", "_law_j"]
theorem scTable : FnScope scTable_N ["_law_box_here"] (defScope scTable_st) := ⟨rfl, rfl, rfl, by decide +kernel, rfl, by decide +kernel, by decide +kernel⟩
abbrev scTabsR_st : Stmt := top 24
abbrev scTabsR_N : List Str := ["_law_box_here", "_law_tables", "_law_name", "_law_held", "_law_meaning", "_law_asked", "_law_function", "_law_items", "_law_row"]
theorem scTabsR : FnScope scTabsR_N ["_law_box_here"] (defScope scTabsR_st) := ⟨rfl, rfl, rfl, by decide +kernel, rfl, by decide +kernel, by decide +kernel⟩
abbrev scTold_st : Stmt := top 25
abbrev scTold_N : List Str := ["_law_tables", "e"]
theorem scTold : FnScope scTold_N ["_law_tables"] (defScope scTold_st) := ⟨rfl, rfl, rfl, by decide +kernel, rfl, by decide +kernel, by decide +kernel⟩
abbrev scRefused_st : Stmt := top 26
abbrev scRefused_N : List Str := ["_law_box_here", "_law_good", "_law_odds", "_law_odd", "_law_at", "_law_bent", "_law_found", "_law_due", "_law_thing"]
theorem scRefused : FnScope scRefused_N ["_law_box_here"] (defScope scRefused_st) := ⟨rfl, rfl, rfl, by decide +kernel, rfl, by decide +kernel, by decide +kernel⟩
abbrev scSpoiled_st : Stmt := top 27
abbrev scSpoiled_N : List Str := ["_law_row"]
theorem scSpoiled : FnScope scSpoiled_N ["_law_row"] (defScope scSpoiled_st) := ⟨rfl, rfl, rfl, by decide +kernel, rfl, by decide +kernel, by decide +kernel⟩
abbrev scKept_st : Stmt := top 28
abbrev scKept_N : List Str := ["_law_box_here", "_law_table_here", "_law_tables", "_law_meaning", "_law_held", "_law_row", "_law_function", "_law_items"]
theorem scKept : FnScope scKept_N ["_law_box_here"] (defScope scKept_st) := ⟨rfl, rfl, rfl, by decide +kernel, rfl, by decide +kernel, by decide +kernel⟩
abbrev scLaw_st : Stmt := top 29
abbrev scLaw_N : List Str := ["_law_script", "_law_k", "_law_box_here"]
theorem scLaw : FnScope scLaw_N ["_law_script"] (defScope scLaw_st) := ⟨rfl, rfl, rfl, by decide +kernel, rfl, by decide +kernel, by decide +kernel⟩
structure Ad where
  iInvalidPart : Addr
  iInvalidName : Addr
  iInvalidRow : Addr
  isName : Addr
  isList : Addr
  isPair : Addr
  isRow : Addr
  funOf : Addr
  meaning : Addr
  cell : Addr
  box : Addr
  take : Addr
  labels : Addr
  looked : Addr
  table : Addr
  tabsR : Addr
  told : Addr
  refused : Addr
  spoiled : Addr
  kept : Addr
  law : Addr
  CNetError : Addr
  CInvalidPart : Addr
  CInvalidName : Addr
  CInvalidRow : Addr
  cFn : Addr
  pFn : Addr
structure Fd where
  iInvalidPart : FuncData
  iInvalidName : FuncData
  iInvalidRow : FuncData
  isName : FuncData
  isList : FuncData
  isPair : FuncData
  isRow : FuncData
  funOf : FuncData
  meaning : FuncData
  cell : FuncData
  box : FuncData
  take : FuncData
  labels : FuncData
  looked : FuncData
  table : FuncData
  tabsR : FuncData
  told : FuncData
  refused : FuncData
  spoiled : FuncData
  kept : FuncData
  law : FuncData
structure Txt (K : PySem.W.Frag) (mg : Str → Option Value) (a : Ad) (d : Fd) : Prop where
  F_iInvalidPart : Fun K "__init__" "InvalidPart.__init__" scInvalidPart_st a.iInvalidPart d.iInvalidPart
  b_iInvalidPart : Binds K d.iInvalidPart ["self", "value"] []
  F_iInvalidName : Fun K "__init__" "InvalidName.__init__" scInvalidName_st a.iInvalidName d.iInvalidName
  b_iInvalidName : Binds K d.iInvalidName ["self", "value"] []
  F_iInvalidRow : Fun K "__init__" "InvalidRow.__init__" scInvalidRow_st a.iInvalidRow d.iInvalidRow
  b_iInvalidRow : Binds K d.iInvalidRow ["self", "value"] []
  F_isName : Fun K "is_name" "is_name" scIsName_st a.isName d.isName
  b_isName : Binds K d.isName ["value"] []
  mg_isName : mg "is_name" = some (.ref a.isName)
  F_isList : Fun K "is_list" "is_list" scIsList_st a.isList d.isList
  b_isList : Binds K d.isList ["value"] []
  mg_isList : mg "is_list" = some (.ref a.isList)
  F_isPair : Fun K "is_pair" "is_pair" scIsPair_st a.isPair d.isPair
  b_isPair : Binds K d.isPair ["value"] []
  mg_isPair : mg "is_pair" = some (.ref a.isPair)
  F_isRow : Fun K "is_table_row" "is_table_row" scIsRow_st a.isRow d.isRow
  b_isRow : Binds K d.isRow ["value"] []
  mg_isRow : mg "is_table_row" = some (.ref a.isRow)
  F_funOf : Fun K "function_of" "function_of" scFunOf_st a.funOf d.funOf
  b_funOf : Binds K d.funOf ["rows"] []
  mg_funOf : mg "function_of" = some (.ref a.funOf)
  F_meaning : Fun K "meaning_of" "meaning_of" scMeaning_st a.meaning d.meaning
  b_meaning : Binds K d.meaning ["tables"] []
  mg_meaning : mg "meaning_of" = some (.ref a.meaning)
  F_cell : Fun K "_law_cell" "_law_cell" scCell_st a.cell d.cell
  b_cell : Binds K d.cell ["_law_script", "_law_k"] []
  mg_cell : mg "_law_cell" = some (.ref a.cell)
  F_box : Fun K "_law_box" "_law_box" scBox_st a.box d.box
  b_box : Binds K d.box ["_law_cell_here"] []
  mg_box : mg "_law_box" = some (.ref a.box)
  F_take : Fun K "_law_take" "_law_take" scTake_st a.take d.take
  b_take : Binds K d.take ["_law_box_here", "_law_many"] []
  mg_take : mg "_law_take" = some (.ref a.take)
  F_labels : Fun K "_law_labels" "_law_labels" scLabels_st a.labels d.labels
  b_labels : Binds K d.labels ["_law_box_here", "_law_many"] []
  mg_labels : mg "_law_labels" = some (.ref a.labels)
  F_looked : Fun K "_law_looked" "_law_looked" scLooked_st a.looked d.looked
  b_looked : Binds K d.looked ["_law_table_here", "_law_items"] []
  mg_looked : mg "_law_looked" = some (.ref a.looked)
  F_table : Fun K "_law_table" "_law_table" scTable_st a.table d.table
  b_table : Binds K d.table ["_law_box_here"] []
  mg_table : mg "_law_table" = some (.ref a.table)
  F_tabsR : Fun K "_law_tables_right" "_law_tables_right" scTabsR_st a.tabsR d.tabsR
  b_tabsR : Binds K d.tabsR ["_law_box_here"] []
  mg_tabsR : mg "_law_tables_right" = some (.ref a.tabsR)
  F_told : Fun K "_law_told" "_law_told" scTold_st a.told d.told
  b_told : Binds K d.told ["_law_tables"] []
  mg_told : mg "_law_told" = some (.ref a.told)
  F_refused : Fun K "_law_refused" "_law_refused" scRefused_st a.refused d.refused
  b_refused : Binds K d.refused ["_law_box_here"] []
  mg_refused : mg "_law_refused" = some (.ref a.refused)
  F_spoiled : Fun K "_law_spoiled" "_law_spoiled" scSpoiled_st a.spoiled d.spoiled
  b_spoiled : Binds K d.spoiled ["_law_row"] []
  mg_spoiled : mg "_law_spoiled" = some (.ref a.spoiled)
  F_kept : Fun K "_law_kept" "_law_kept" scKept_st a.kept d.kept
  b_kept : Binds K d.kept ["_law_box_here"] []
  mg_kept : mg "_law_kept" = some (.ref a.kept)
  F_law : Fun K "law" "law" scLaw_st a.law d.law
  b_law : Binds K d.law ["_law_script"] []
  mg_law : mg "law" = some (.ref a.law)
  mg_LETTERS : ∃ t, mg "LETTERS" = some (.str "abcdefghijklmnopqrstuvwxyz" t)
  mg_DIGITS : ∃ t, mg "DIGITS" = some (.str "0123456789" t)
  mg_LONGEST_NAME : ∃ t, mg "LONGEST_NAME" = some (.int 8 t)
  mg_MOST_ARGUMENTS : ∃ t, mg "MOST_ARGUMENTS" = some (.int 3 t)
  len_ : mg "len" = none
  max_ : mg "max" = none
  min_ : mg "min" = none
  isinstance_ : mg "isinstance" = none
  str_ : mg "str" = none
  int_ : mg "int" = none
  all_ : mg "all" = none
  range_ : mg "range" = none
  repr_ : mg "repr" = none
  list_ : mg "list" = none
  tuple_ : mg "tuple" = none
  bool_ : mg "bool" = none
  dict_ : mg "dict" = none
  sorted_ : mg "sorted" = none
  mg_NetError : mg "NetError" = some (.ref a.CNetError)
  cx_NetError : Tp.ClsX .ve K a.CNetError []
  ba_NetError : Tp.BaseB .ve K a.CNetError
  mg_InvalidPart : mg "InvalidPart" = some (.ref a.CInvalidPart)
  cx_InvalidPart : Tp.ClsX .ve K a.CInvalidPart [a.CNetError]
  xi_InvalidPart : Tp.InitX K a.CInvalidPart a.iInvalidPart ["value"]
  mg_InvalidName : mg "InvalidName" = some (.ref a.CInvalidName)
  cx_InvalidName : Tp.ClsX .ve K a.CInvalidName [a.CNetError]
  xi_InvalidName : Tp.InitX K a.CInvalidName a.iInvalidName ["value"]
  mg_InvalidRow : mg "InvalidRow" = some (.ref a.CInvalidRow)
  cx_InvalidRow : Tp.ClsX .ve K a.CInvalidRow [a.CNetError]
  xi_InvalidRow : Tp.InitX K a.CInvalidRow a.iInvalidRow ["value"]
  cn_ : PySem.W.specialIn K (.builtin "object.__class__") "__get__" = some (some (.builtin "getset_descriptor.__get__"))
  ct_ : PySem.W.takesIn K (.builtin "object.__class__") = some true
  xnd : [a.CInvalidPart, a.CInvalidName, a.CInvalidRow, a.CNetError].Nodup
  cdFn : d.funOf.code = .ref a.cFn
section
variable {P : Program} {w : World} {K : PySem.W.Frag} {mg : Str → Option Value} {base : Heap} {a : Ad} {d : Fd}
theorem ok_cell (T : Txt K mg a d) : FnG P w K mg base CX0 1 a.cell d.cell ["_law_script", "_law_k"] (Tp.spCell K) := by
  refine okG T.F_cell scCell (fun vs H Q E h => ?_) (fun cdv A outer s H vs Q E hr hg h => ?_)
  · obtain ⟨s, ns, k, rfl, _⟩ := h
    rfl
  · obtain ⟨s, ns, k, rfl, hS, h0, h1, q⟩ := h
    refine ⟨_, (pss_cons (ps_if (pt_cmpR op_lt (pv 1) (pe_callB call_len_seq (by rfl) T.len_ Tp.bt_len (pa_cons (pv 0) pa_nil)) (nomark _)) (pss_one (ps_ret (pe_ix ix_list (pv 0) (pv 1) (fun _ _ => rfl)))) pss_nil)
      (pss_one (ps_ret (pe_op op_add (pe_op op_mul pe_int (pv 1)) pe_int)))), ?_⟩
    refine ⟨_, rfl, _, rfl, s, _, rfl, .inl hS, _, _, rfl, rfl, _, rfl, ?_⟩
    refine ite2 (fun c => ?_) (fun c => ?_)
    · have c' := of_decide_eq_true c
      rw [List.length_map] at c'
      obtain ⟨j, rfl⟩ := Int.eq_ofNat_of_zero_le h0
      have hj : j < ns.length := by omega
      exact ⟨_, rfl, _, rfl, s, _, _, _, rfl, rfl, hS, atI_nat (by rw [List.getElem?_map, List.getElem?_eq_getElem hj]; rfl), q _⟩
    · exact ⟨_, rfl, _, _, rfl, rfl, .inl ⟨by decide, by decide⟩, _, _, rfl, rfl, q _⟩
theorem ok_box (T : Txt K mg a d) : FnG P w K mg base CX0 1 a.box d.box ["_law_cell_here"] Tp.spBox := by
  refine okG T.F_box scBox (fun vs H Q E h => ?_) (fun cdv A outer s H vs Q E hr hg h => ?_)
  · obtain ⟨c, rfl, _⟩ := h
    rfl
  · obtain ⟨c, rfl, q⟩ := h
    refine ⟨_, (pss_one (ps_ret (pe_lst (pa_cons (pe_callB (call_max2 rfl) (by rfl) T.max_ Tp.bt_max (pa_cons pe_int (pa_cons (pe_op op_sub (pv 0) (pe_op op_pow pe_int pe_int)) pa_nil))) (pa_cons (pe_op op_modN (pv 0) pe_int) (pa_cons pe_int pa_nil)))))), ?_⟩
    refine ⟨_, rfl, _, _, rfl, rfl, ⟨by decide, by decide, by decide⟩, _, _, rfl, rfl, _, _, rfl, _, rfl, _, _, rfl, rfl, (show (_ : Int) ≠ 0 from by decide), (show 3 ≤ sizeLine from by decide), fun p hp => q p _ _ hp ?_ ?_ ?_⟩
    · split <;> omega
    · rw [Int.fmod_eq_emod_of_nonneg _ (by decide)]; exact Int.emod_nonneg _ (by decide)
    · rw [Int.fmod_eq_emod_of_nonneg _ (by decide)]; exact Int.emod_lt_of_pos _ (by decide)
def spTake9 : Sp := fun vs H Q _ => ∃ (b : Addr) (m : Int) (n : Nat), vs = [.ref b, .int m] ∧ BoxAt b n H ∧ n < 1000000 ∧ 0 < m ∧ m ≤ 1000000000 ∧
  ∀ r H', 0 ≤ r → r < m → Kp b H H' → BoxAt b (n + 1) H' → Q (.int r) H'
theorem ok_take (T : Txt K mg a d) : FnG P w K mg base CX0 1 a.take d.take ["_law_box_here", "_law_many"] spTake9 := by
  refine okG T.F_take scTake (fun vs H Q E h => ?_) (fun cdv A outer s H vs Q E hr hg h => ?_)
  · obtain ⟨b, m, n, rfl, _⟩ := h
    rfl
  · obtain ⟨b, m, n, rfl, ⟨x, y, z, hb, x0, y0, y1, z0, z1⟩, hn, m0, m1, q⟩ := h
    refine ⟨_, (pss_cons (ps_if (pt_cmpR op_gt (pe_ix ix_list (pv 0) pe_int (fun _ _ => rfl)) pe_int (nomark _)) (pss_cons (ps_set (i := 2) scTake.nd rfl (Or.inl rfl) (pe_op op_modN (pe_ix ix_list (pv 0) pe_int (fun _ _ => rfl)) (pv 1)))
      (pss_cons (ps_asg (pe_op op_fdivN (pe_ix ix_list (pv 0) pe_int (fun _ _ => rfl)) (pv 1)) (pg_sub (pv 0) pe_int set_list))
      (pss_one (ps_ret (pv 2))))) pss_nil)
      (pss_cons (ps_asg (pe_op op_add (pe_ix ix_list (pv 0) pe_int (fun _ _ => rfl)) pe_int) (pg_sub (pv 0) pe_int set_list))
      (pss_cons (ps_set (i := 3) scTake.nd rfl (Or.inl rfl) (pe_op op_modN (pe_op op_pow (pe_op op_add (pe_op op_add (pe_ix ix_list (pv 0) pe_int (fun _ _ => rfl)) (pe_op op_mul pe_int (pe_ix ix_list (pv 0) pe_int (fun _ _ => rfl)))) pe_int) pe_int) pe_int))
      (pss_cons (ps_set (i := 3) scTake.nd rfl (Or.inl rfl) (pe_op op_modN (pe_op op_pow (pe_op op_add (pv 3) (pe_op op_mul pe_int (pe_ix ix_list (pv 0) pe_int (fun _ _ => rfl)))) pe_int) pe_int))
      (pss_one (ps_ret (pe_op op_modN (pe_op op_fdivN (pv 3) pe_int) (pv 1)))))))), ?_⟩
    refine ⟨_, rfl, b, _, _, _, rfl, rfl, SqL.of hb, rfl, _, _, rfl, rfl, _, rfl, ?_⟩
    refine ite2 (fun c => ?_) (fun c => ?_)
    · have c' := of_decide_eq_true c
      refine ⟨_, rfl, b, _, _, _, rfl, rfl, SqL.of hb, rfl, _, rfl, _, _, rfl, rfl, (by show m ≠ 0; omega), ?_⟩
      refine ⟨_, rfl, b, _, _, _, rfl, rfl, SqL.of hb, rfl, _, rfl, _, _, rfl, rfl, ⟨by omega, by omega⟩, _, rfl, b, _, _, _, rfl, rfl, hb, rfl, _, rfl, ?_⟩
      show Q (V.int (x.fmod m)) _
      rw [Int.fmod_eq_emod_of_nonneg _ (by omega)]
      refine q _ _ (Int.emod_nonneg _ (by omega)) (Int.emod_lt_of_pos _ m0) Kp.box ⟨x.fdiv m, y, z, upd_same, ?_, y0, y1, z0, by omega⟩
      rw [Int.fdiv_eq_ediv_of_nonneg _ (by omega)]
      exact Int.ediv_nonneg x0 (by omega)
    · refine ⟨_, rfl, b, _, _, _, rfl, rfl, SqL.of hb, rfl, _, _, rfl, rfl, _, rfl, b, _, _, _, rfl, rfl, hb, rfl, ?_⟩
      have h2 : (upd H b (.lst [V.int x, V.int y, V.int (z + 1)])) b = some (.lst [V.int x, V.int y, V.int (z + 1)]) := upd_same
      refine ⟨_, rfl, b, _, _, _, rfl, rfl, SqL.of h2, rfl, _, rfl, b, _, _, _, rfl, rfl, SqL.of h2, rfl, _, _, rfl, rfl, .inl ⟨by decide, by decide⟩, _, _, rfl, rfl, _, _, rfl, rfl, _, _, rfl, rfl, ⟨by decide, by decide, mixA y0 y1 z0 (by omega) (by decide) (by decide)⟩, _, _, rfl, rfl, (show (_ : Int) ≠ 0 from by decide), ?_⟩
      refine ⟨_, rfl, _, rfl, b, _, _, _, rfl, rfl, SqL.of h2, rfl, _, _, rfl, rfl, .inl ⟨by decide, by decide⟩, _, _, rfl, rfl, _, _, rfl, rfl, ⟨by decide, by decide, mixB z0 (by omega) (by decide)⟩, _, _, rfl, rfl, (show (_ : Int) ≠ 0 from by decide), ?_⟩
      refine ⟨_, rfl, _, _, rfl, rfl, ⟨by decide, by decide⟩, _, rfl, _, _, rfl, rfl, (by show m ≠ 0; omega), ?_⟩
      show Q (V.int (Int.fmod _ m)) _
      rw [Int.fmod_eq_emod_of_nonneg _ (by omega : (0 : Int) ≤ m)]
      exact q _ _ (Int.emod_nonneg _ (by omega)) (Int.emod_lt_of_pos _ m0) Kp.box ⟨x, y, z + 1, h2, x0, y0, y1, by omega, by omega⟩
def nmF (_ _ : Nat) : Str := "function_of.<locals>.<lambda>"
abbrev TT (a : Ad) : List NdefX.NTab := [(a.pFn, nmF)]
end
end L58
set_option Elab.async false
set_option linter.all false
set_option maxRecDepth 100000
set_option maxHeartbeats 4000000
set_option pp.deepTerms false
set_option pp.deepTerms.threshold 4
set_option pp.maxSteps 1000
namespace L58
open PySem L2 Tp
section
variable {P : Program} {w : World} {K : PySem.W.Frag} {mg : Str → Option Value} {base : Heap} {a : Ad} {d : Fd}
theorem ok_isName (T : Txt K mg a d) : FnOk P w K mg base CX0 1 a.isName d.isName ["value"] (spName K) := by
  refine okN T.F_isName scIsName (fun vs H Q E h => ?_) (fun cdv A outer s H vs Q E hr h => ?_)
  · obtain ⟨v, b, rfl, _⟩ := h
    rfl
  · obtain ⟨v, b, rfl, h, q⟩ := h
    refine ⟨_, (pss_cons (ps_if (PW.pt (pw_or (pt_not (pt_val (pe_callB (Tp.call_isA (K := K) rfl) (by rfl) T.isinstance_ Tp.bt_isinstance (pa_cons (pv 0) (pa_cons (pe_bltn (v := .ty "str") (by rfl) T.str_ Tp.bt_str rfl) pa_nil))))) (pw_or1 (pt_not (pt_chain op_lt op_le pe_int (pe_callB call_len_str (by rfl) T.len_ Tp.bt_len (pa_cons (pv 0) pa_nil)) (Tp.pe_glI (by rfl) T.mg_LONGEST_NAME)))))) (pss_one (ps_ret pe_bl)) pss_nil)
      (pss_one (ps_ret (pe_and (pe_cmpR op_in_sign (pe_ix ix_str (pv 0) pe_int (fun _ _ => rfl)) (Tp.pe_glS (by rfl) T.mg_LETTERS) (by rfl)) (pe_one (pe_cmpR op_eq (pe_bm PySem.F.plainAttrs_str PySem.F.slot_str_strip PySem.F.type_str_strip mt_stripChars (pv 0) (pa_cons (pe_op op_add_str (Tp.pe_glS (by rfl) T.mg_LETTERS) (Tp.pe_glS (by rfl) T.mg_DIGITS)) pa_nil)) pe_str (nomark _))))))), ?_⟩
    rcases h with ⟨z, rfl, hz, rfl⟩ | ⟨⟨t, ty, kt⟩, rfl⟩
    · have hz' : z.length ≤ sizeLine := Nat.le_trans hz (by decide)
      refine ⟨_, rfl, _, _, _, _, true, rfl, .ty _, .x (.base (.str z)), kit_ty (by decide +kernel), _, rfl, iteF ?_⟩
      refine ⟨_, rfl, z, rfl, hz', _, _, rfl, rfl, _, rfl, if2 (fun l0 => ?_) (fun l0 => ?_)⟩
      rotate_left
      · rw [nm_nil l0] at q
        exact ⟨_, rfl, iteT q⟩
      refine ⟨_, _, rfl, rfl, _, rfl, ifn2 (fun l1 => ?_) (fun l1 => ?_)⟩
      rotate_left
      · rw [nm_long l1] at q
        exact q
      obtain ⟨c, cs, e⟩ : ∃ c cs, z.cps.toList = c :: cs := by
        cases e : z.cps.toList with
        | nil => have l := len_list z; rw [e] at l; simp at l; omega
        | cons c cs => exact ⟨c, cs, rfl⟩
      rw [nm_cons e l1] at q
      have at0 : atI z.cps.toList 0 = some c := by rw [e]; exact atI_nat (j := 0) rfl
      refine ⟨_, rfl, z, _, c, rfl, rfl, hz', at0, c, _, rfl, rfl, ?_⟩
      rw [show decide (c ∈ (Str.ofString "abcdefghijklmnopqrstuvwxyz").cps.toList) = lowC c from by
        by_cases h : c ∈ ("abcdefghijklmnopqrstuvwxyz" : Str).cps.toList
        · exact (decide_eq_true h).trans ((mem_low c).mp h).symm
        · exact (decide_eq_false h).trans (Bool.eq_false_iff.mpr fun k => h ((mem_low c).mpr k)).symm]
      refine ⟨_, rfl, ?_⟩
      cases hl : lowC c with
      | false =>
        rw [hl, Bool.false_and] at q
        exact iteF q
      | true =>
        rw [hl, Bool.true_and] at q
        refine iteT ⟨_, rfl, rfl, _, _, rfl, rfl, (by decide), z, _, rfl, rfl, hz', rfl, ?_⟩
        have e2 : decide (V.str (Txt.stripChars z (Str.ofString "abcdefghijklmnopqrstuvwxyz" ++ Str.ofString "0123456789")) = V.str (Str.ofString "")) = (c :: cs).all fun x => lowC x || digC x := by
          cases hb : (c :: cs).all fun x => lowC x || digC x with
          | true => exact decide_eq_true (congrArg V.str ((strip_empty _ _).mpr fun x hx => (mem_sign x).mpr (List.all_eq_true.mp hb x (by rw [← e]; exact hx))))
          | false =>
            refine decide_eq_false fun k => Bool.eq_false_iff.mp hb (List.all_eq_true.mpr fun x hx => ?_)
            exact (mem_sign x).mp ((strip_empty _ _).mp (V.str.inj k) x (by rw [e]; exact hx))
        show Q (V.bl (decide _)) H
        rw [e2]
        exact q
    · exact ⟨_, rfl, _, _, _, _, false, rfl, .ty _, ty, kt, _, rfl, iteT q⟩
theorem ok_iInvalidPart (T : Txt K mg a d) : FnOk P w K mg base CX0 1 a.iInvalidPart d.iInvalidPart ["self", "value"] (spXI a.CInvalidPart "value") := by
  refine okN T.F_iInvalidPart scInvalidPart (fun vs H Q E h => ?_) (fun cdv A outer s H vs Q E hr h => ?_)
  · obtain ⟨x, v, rfl, _⟩ := h
    rfl
  · obtain ⟨x, v, rfl, hx, q⟩ := h
    refine ⟨_, (pss_cons (ps_expr (Tp.pe_initB (by rfl) T.mg_NetError T.ba_NetError (pa_cons (pv 0) (pa_cons pe_str pa_nil))))
      (pss_one (Tp.ps_ostB (b := .ve) (pv 0) (pv 1)))), ?_⟩
    exact ⟨_, rfl, x, _, _, rfl, by decide, T.cx_InvalidPart.ox, hx, _, rfl, _, rfl, x, _, rfl, T.cx_InvalidPart.ox, (T.xi_InvalidPart.no "value" (by decide)), .inl ⟨hx, fun dx h1 h2 => q dx h1 h2⟩⟩
theorem x_InvalidPart (T : Txt K mg a d) : ExB .ve P w K mg base a.CInvalidPart a.iInvalidPart d.iInvalidPart ["self", "value"] (spXI a.CInvalidPart "value") := mkX T.cx_InvalidPart T.xi_InvalidPart (ok_iInvalidPart T) T.b_iInvalidPart
theorem ok_iInvalidName (T : Txt K mg a d) : FnOk P w K mg base CX0 1 a.iInvalidName d.iInvalidName ["self", "value"] (spXI a.CInvalidName "value") := by
  refine okN T.F_iInvalidName scInvalidName (fun vs H Q E h => ?_) (fun cdv A outer s H vs Q E hr h => ?_)
  · obtain ⟨x, v, rfl, _⟩ := h
    rfl
  · obtain ⟨x, v, rfl, hx, q⟩ := h
    refine ⟨_, (pss_cons (ps_expr (Tp.pe_initB (by rfl) T.mg_NetError T.ba_NetError (pa_cons (pv 0) (pa_cons pe_str pa_nil))))
      (pss_one (Tp.ps_ostB (b := .ve) (pv 0) (pv 1)))), ?_⟩
    exact ⟨_, rfl, x, _, _, rfl, by decide, T.cx_InvalidName.ox, hx, _, rfl, _, rfl, x, _, rfl, T.cx_InvalidName.ox, (T.xi_InvalidName.no "value" (by decide)), .inl ⟨hx, fun dx h1 h2 => q dx h1 h2⟩⟩
theorem x_InvalidName (T : Txt K mg a d) : ExB .ve P w K mg base a.CInvalidName a.iInvalidName d.iInvalidName ["self", "value"] (spXI a.CInvalidName "value") := mkX T.cx_InvalidName T.xi_InvalidName (ok_iInvalidName T) T.b_iInvalidName
theorem ok_iInvalidRow (T : Txt K mg a d) : FnOk P w K mg base CX0 1 a.iInvalidRow d.iInvalidRow ["self", "value"] (spXI a.CInvalidRow "value") := by
  refine okN T.F_iInvalidRow scInvalidRow (fun vs H Q E h => ?_) (fun cdv A outer s H vs Q E hr h => ?_)
  · obtain ⟨x, v, rfl, _⟩ := h
    rfl
  · obtain ⟨x, v, rfl, hx, q⟩ := h
    refine ⟨_, (pss_cons (ps_expr (Tp.pe_initB (by rfl) T.mg_NetError T.ba_NetError (pa_cons (pv 0) (pa_cons pe_str pa_nil))))
      (pss_one (Tp.ps_ostB (b := .ve) (pv 0) (pv 1)))), ?_⟩
    exact ⟨_, rfl, x, _, _, rfl, by decide, T.cx_InvalidRow.ox, hx, _, rfl, _, rfl, x, _, rfl, T.cx_InvalidRow.ox, (T.xi_InvalidRow.no "value" (by decide)), .inl ⟨hx, fun dx h1 h2 => q dx h1 h2⟩⟩
theorem x_InvalidRow (T : Txt K mg a d) : ExB .ve P w K mg base a.CInvalidRow a.iInvalidRow d.iInvalidRow ["self", "value"] (spXI a.CInvalidRow "value") := mkX T.cx_InvalidRow T.xi_InvalidRow (ok_iInvalidRow T) T.b_iInvalidRow
def spIsList (K : PySem.W.Frag) : Sp := fun vs H Q _ => ∃ (v : V) (t : Value) (b : Bool), vs = [v] ∧ TyX K H v t ∧ PySem.W.kitAny K t [.type "list", .type "tuple"] = some b ∧ ∀ H', Same H H' → Q (.bl b) H'
theorem ok_isList (T : Txt K mg a d) : FnOk P w K mg base CX0 1 a.isList d.isList ["value"] (spIsList K) := by
  refine okN T.F_isList scIsList (fun vs H Q E h => ?_) (fun cdv A outer s H vs Q E hr h => ?_)
  · obtain ⟨v, t, b, rfl, _⟩ := h
    rfl
  · obtain ⟨v, t, b, rfl, ty, kt, q⟩ := h
    refine ⟨_, (pss_one (ps_ret (pe_callB call_isiT (by rfl) T.isinstance_ Tp.bt_isinstance (pa_cons (pv 0) (pa_cons (pe_tup (pa_cons (pe_bltn (v := .ty "list") (by rfl) T.list_ Tp.bt_list rfl) (pa_cons (pe_bltn (v := .ty "tuple") (by rfl) T.tuple_ Tp.bt_tuple rfl) pa_nil))) pa_nil))))), ?_⟩
    refine ⟨_, rfl, (show 2 ≤ sizeLine from by decide), fun tp ntp => ?_⟩
    exact ⟨v, tp, _, t, _, b, rfl, upd_same, cls_lt, ty_same (same_new ntp) ty, kt, q _ (same_new ntp)⟩
def NoLT (K : PySem.W.Frag) (H : Hp) (v : V) : Prop := ∃ t, TyX K H v t ∧ PySem.W.kitAny K t [.type "list", .type "tuple"] = some false
def pairD (d : PyData) : Bool := isLT d && decide ((itemsD d).length = 2)
def PairIs (K : PySem.W.Frag) (H : Hp) (v : V) (b : Bool) : Prop := (∃ d, Dq K H v d ∧ b = pairD d) ∨ (NoLT K H v ∧ b = false)
def spIsPair (K : PySem.W.Frag) : Sp := fun vs H Q _ => ∃ (v : V) (b : Bool), vs = [v] ∧ PairIs K H v b ∧ ∀ H', Same H H' → Q (.bl b) H'
theorem ok_isPair (T : Txt K mg a d) : FnOk P w K mg base CX0 2 a.isPair d.isPair ["value"] (spIsPair K) := by
  have G_isList := ok_isList (P := P) (w := w) (base := base) T
  refine okN T.F_isPair scIsPair (fun vs H Q E h => ?_) (fun cdv A outer s H vs Q E hr h => ?_)
  · obtain ⟨v, b, rfl, _⟩ := h
    rfl
  · obtain ⟨v, b, rfl, h, q⟩ := h
    refine ⟨_, (pss_one (ps_ret (pe_and (pe_call G_isList (hr.mono (by decide)) (by rfl) T.mg_isList T.F_isList.kp T.b_isList .nil pass0 (pa_cons (pv 0) pa_nil)) (pe_one (pe_cmpR op_eq (pe_callB call_len_seq (by rfl) T.len_ Tp.bt_len (pa_cons (pv 0) pa_nil)) pe_int (nomark _)))))), ?_⟩
    rcases h with ⟨dd, dq, rfl⟩ | ⟨⟨t, ty, kt⟩, rfl⟩
    · refine ⟨_, rfl, v, _, _, rfl, dq_ty dq, kit_lt dd, fun H1 S1 => ⟨_, rfl, ?_⟩⟩
      cases e : isLT dd with
      | false =>
        have q := q H1 S1
        unfold pairD at q
        rw [e, Bool.false_and] at q
        exact iteF q
      | true =>
        obtain ⟨l, xs, rfl, sq, da⟩ := dq_seq dq e
        refine iteT ⟨_, rfl, l, xs, rfl, sqB_len (sq.same S1), rfl, ?_⟩
        have q := q H1 S1
        have e2 : decide (V.int (xs.length : Int) = V.int 2) = decide ((itemsD dd).length = 2) := by
          rw [← dqAll_len da]
          by_cases h : xs.length = 2
          · rw [decide_eq_true h]; exact decide_eq_true (by rw [h]; rfl)
          · rw [decide_eq_false h]; exact decide_eq_false (fun k => h (by have := V.int.inj k; omega))
        unfold pairD at q
        rw [e, Bool.true_and, ← e2] at q
        exact q
    · exact ⟨_, rfl, v, _, _, rfl, ty, kt, fun H1 S1 => ⟨_, rfl, iteF (q _ S1)⟩⟩
def intB (d : PyData) : Bool := isI d && !isB d
def rowD (e : PyData) : Bool := isLT e && match itemsD e with
  | [x, y] => isLT x && decide ((itemsD x).length ≤ 3) && (itemsD x ++ [y]).all intB
  | _ => false
def spIsRow (K : PySem.W.Frag) : Sp := fun vs H Q _ => ∃ (v : V) (e : PyData), vs = [v] ∧ Dq K H v e ∧ ∀ H', Same H H' → Q (.bl (rowD e)) H'
theorem ok_isRow (T : Txt K mg a d) : FnOk P w K mg base CX0 3 a.isRow d.isRow ["value"] (spIsRow K) := by
  have G_isList := ok_isList (P := P) (w := w) (base := base) T
  have G_isPair := ok_isPair (P := P) (w := w) (base := base) T
  refine okN T.F_isRow scIsRow (fun vs H Q E h => ?_) (fun cdv A outer s H vs Q E hr h => ?_)
  · obtain ⟨v, e, rfl, _⟩ := h
    rfl
  · obtain ⟨v, e, rfl, dq, q⟩ := h
    refine ⟨_, (pss_cons (ps_if (PW.pt (pw_or (pt_not (pt_val (pe_call G_isPair (hr.mono (by decide)) (by rfl) T.mg_isPair T.F_isPair.kp T.b_isPair .nil pass0 (pa_cons (pv 0) pa_nil)))) (pw_or (pt_not (pt_val (pe_call G_isList (hr.mono (by decide)) (by rfl) T.mg_isList T.F_isList.kp T.b_isList .nil pass0 (pa_cons (pe_ix ix_seq (pv 0) pe_int (fun _ _ => rfl)) pa_nil)))) (pw_or1 (pt_cmpR op_gt (pe_callB call_len_seq (by rfl) T.len_ Tp.bt_len (pa_cons (pe_ix ix_seq (pv 0) pe_int (fun _ _ => rfl)) pa_nil)) (Tp.pe_glI (by rfl) T.mg_MOST_ARGUMENTS) (nomark _)))))) (pss_one (ps_ret pe_bl)) pss_nil)
      (pss_one (ps_ret (pe_callB (cr_all rfl) (by rfl) T.all_ Tp.bt_all (pa_cons (pe_lc (own := [("item", 1)]) (by rfl) scIsRow.nd (pi_list (pe_lst (StX.pa_star (pe_ix ix_seq (pv 0) pe_int (fun _ _ => rfl)) (pa_cons (pe_ix ix_seq (pv 0) pe_int (fun _ _ => rfl)) pa_nil)))) (blkOk_by (own := [("item", 1)]) (N := scIsRow_N) (sc := defScope scIsRow_st) (by decide +kernel)) (fun _ _ _ _ _ => (pg_name (i := 1) scIsRow.nd rfl (Or.inl rfl))) (fun _ _ _ _ _ => pts_nil) (fun _ _ _ _ _ => (pe_and (pe_callB (Tp.call_isA (K := K) rfl) (by rfl) T.isinstance_ Tp.bt_isinstance (pa_cons (pv 1) (pa_cons (pe_bltn (v := .ty "int") (by rfl) T.int_ Tp.bt_int rfl) pa_nil))) (pe_one (pe_not (pe_callB (Tp.call_isA (K := K) rfl) (by rfl) T.isinstance_ Tp.bt_isinstance (pa_cons (pv 1) (pa_cons (pe_bltn (v := .ty "bool") (by rfl) T.bool_ Tp.bt_bool rfl) pa_nil)))))))) pa_nil))))), ?_⟩
    refine ⟨_, rfl, v, _, rfl, .inl ⟨e, dq, rfl⟩, fun H1 S1 => ⟨_, rfl, ?_⟩⟩
    cases ep : pairD e with
    | false =>
      have q := q H1 S1
      have : rowD e = false := by
        unfold rowD
        unfold pairD at ep
        cases h : isLT e with
        | false => rfl
        | true =>
          rw [h, Bool.true_and] at ep
          have l := of_decide_eq_false ep
          rw [Bool.true_and]
          split
          · rename_i x y h2
            rw [h2] at l
            exact absurd rfl l
          · rfl
      rw [this] at q
      exact iteT q
    | true =>
      unfold pairD at ep
      have ep1 : isLT e = true := (Bool.and_eq_true_iff.mp ep).1
      have e2 : (itemsD e).length = 2 := of_decide_eq_true (Bool.and_eq_true_iff.mp ep).2
      refine iteF ?_
      obtain ⟨l, xs, rfl, sq, da⟩ := dq_seq dq ep1
      obtain ⟨x, y, ei⟩ : ∃ x y, itemsD e = [x, y] := by
        match h : itemsD e with
        | [x, y] => exact ⟨x, y, rfl⟩
        | [] => rw [h] at e2; cases e2
        | [_] => rw [h] at e2; cases e2
        | _ :: _ :: _ :: _ => rw [h] at e2; simp at e2
      rw [ei] at da
      cases da with
      | cons dx r =>
        cases r with
        | cons dy r2 =>
          cases r2
          rename_i vx vy
          have er : rowD e = (isLT x && (decide ((itemsD x).length ≤ 3) && (itemsD x ++ [y]).all intB)) := by
            unfold rowD
            rw [ei, ep1, Bool.true_and]
            show (isLT x && _ && _) = _
            rw [Bool.and_assoc]
          have ixB : ∀ {H' : Hp} {i : Int} {u : V} {Q' : VK}, Same H H' → atI [vx, vy] i = some u → Q' u H' → rIx K (.ref l) (.int i) H' Q' := by
            intro H' i u Q' S hu hq
            cases hb : isTup e with
            | true => rw [hb] at sq; exact .inr (.inl ⟨l, _, i, u, rfl, rfl, SqB.same (b := true) S sq, hu, hq⟩)
            | false => rw [hb] at sq; exact .inl ⟨l, _, i, u, rfl, rfl, SqB.same (b := false) S sq, hu, hq⟩
          refine ⟨_, rfl, ixB S1 (i := 0) (u := vx) rfl ?_⟩
          refine ⟨vx, _, _, rfl, dq_ty ((dq_same S1).1 dx), kit_lt x, fun H2 S2 => ⟨_, rfl, ?_⟩⟩
          have S12 := S1.trans S2
          cases el : isLT x with
          | false =>
            have q := q H2 S12
            rw [er, el, Bool.false_and] at q
            exact iteT q
          | true =>
            refine iteF ⟨_, rfl, ixB S12 (i := 0) (u := vx) rfl ?_⟩
            obtain ⟨l2, ys, rfl, sq2, da2⟩ := dq_seq dx el
            have ly := dqAll_len da2
            refine ⟨l2, ys, rfl, sqB_len (sq2.same S12), _, _, rfl, rfl, _, rfl, if2 (fun c => ?_) (fun c => ?_)⟩
            · have q := q H2 S12
              have : decide ((itemsD x).length ≤ 3) = false := decide_eq_false (by omega)
              rw [er, el, this, Bool.true_and, Bool.false_and] at q
              exact q
            · have l3 : (itemsD x).length ≤ 3 := by omega
              refine ⟨_, rfl, ixB S12 (i := 0) (u := .ref l2) rfl ?_⟩
              refine ⟨l2, ys, rfl, (sqB_len (sq2.same S12)).symm, _, rfl, ixB S12 (i := 1) (u := vy) rfl ?_⟩
              refine ⟨by rw [List.length_append]; exact Nat.le_trans (show _ ≤ 4 by simp; omega) (by decide), fun L hL => ?_⟩
              have S3 := same_new (o := .lst (ys ++ [vy])) hL
              have g3 : (upd H2 L (.lst (ys ++ [vy]))) L = some (.lst (ys ++ [vy])) := upd_same
              generalize upd H2 L (.lst (ys ++ [vy])) = H3 at S3 g3 ⊢
              have S13 := S12.trans S3
              have daA : DqAll K H (ys ++ [vy]) (itemsD x ++ [y]) := dqAll_app da2 (.cons dy .nil)
              refine ⟨L, rfl, ⟨_, SqL.of g3⟩, fun D hD => ?_⟩
              refine lc_it (walk_list (xs := ys ++ [vy])) (fun i H' => Same H3 H' ∧ H' D = some (.lst ((((itemsD x ++ [y]).take i).map intB).map V.bl))) ⟨same_new hD, upd_same⟩ ?_ ?_ ?_
              · rintro i H' _ ⟨S, _⟩
                exact SqL.of (S _ _ g3)
              · rintro i u _ H' hi ⟨S, hD'⟩ ⟨rfl, hu⟩
                obtain ⟨e', he, de⟩ := dqAll_get daA hu
                have de' := (dq_same (S13.trans S)).1 de
                have fin : H' D = some (.lst ((((itemsD x ++ [y]).take i).map intB).map V.bl)) ∧ ((((itemsD x ++ [y]).take i).map intB).map V.bl).length < sizeLine ∧ Same H3 (upd H' D (.lst ((((itemsD x ++ [y]).take i).map intB).map V.bl ++ [V.bl (intB e')]))) ∧ (upd H' D (.lst ((((itemsD x ++ [y]).take i).map intB).map V.bl ++ [V.bl (intB e')]))) D = some (.lst ((((itemsD x ++ [y]).take (i + 1)).map intB).map V.bl)) := by
                  refine ⟨hD', ?_, Tp.Same.mut S hD, ?_⟩
                  · rw [List.length_map, List.length_map, List.length_take]
                    exact Nat.lt_of_le_of_lt (show _ ≤ 4 by simp; omega) (by decide)
                  · rw [upd_same, List.take_add_one, he, List.map_append, List.map_append]
                    rfl
                refine ⟨rfl, ?_⟩
                refine ⟨_, rfl, _, _, _, _, isI e', rfl, .ty _, .x (dq_ty de'), kit_int e', _, rfl, ?_⟩
                unfold intB at fin
                cases hI : isI e' with
                | false =>
                  rw [hI, Bool.false_and] at fin
                  exact iteF ⟨_, fin⟩
                | true =>
                  rw [hI, Bool.true_and] at fin
                  exact iteT ⟨_, rfl, _, _, _, _, isB e', rfl, .ty _, .x (dq_ty de'), kit_bool e', _, rfl, _, fin⟩
              · rintro H4 ⟨S4, hD'⟩
                have ll : (ys ++ [vy]).length = (itemsD x ++ [y]).length := dqAll_len daA
                rw [ll, List.take_length] at hD'
                refine ⟨D, _, rfl, SqL.of hD', ?_⟩
                have q := q H4 (S13.trans S4)
                have e3 : (((itemsD x ++ [y]).map intB).all id) = (itemsD x ++ [y]).all intB := by rw [List.all_map]; rfl
                rw [er, el, decide_eq_true l3, Bool.true_and, Bool.true_and, ← e3] at q
                exact q
end
end L58
set_option Elab.async false
set_option linter.all false
set_option maxRecDepth 100000
set_option maxHeartbeats 4000000
set_option pp.deepTerms false
set_option pp.deepTerms.threshold 4
set_option pp.maxSteps 1000
namespace L58
open PySem L2 Tp
section
variable {P : Program} {w : World} {K : PySem.W.Frag} {mg : Str → Option Value} {base : Heap} {a : Ad} {d : Fd}
def seqO (c : Bool) (xs : List V) : HO := if c then .tup xs else .lst xs
def RowH (H : Hp) (r : List Int × Int) (v : V) : Prop := ∃ p q c c', v = .ref p ∧ H p = some (seqO c [.ref q, .int r.2]) ∧ H q = some (seqO c' (r.1.map V.int))
def TabH (H : Hp) (R : List (List Int × Int)) (v : V) : Prop := ∃ t c rs, v = .ref t ∧ H t = some (seqO c rs) ∧ Paired (RowH H) R rs
theorem RowH.same {H H' : Hp} {r : List Int × Int} {v : V} (h : RowH H r v) (S : Same H H') : RowH H' r v := let ⟨p, q, c, c', e, h1, h2⟩ := h; ⟨p, q, c, c', e, S _ _ h1, S _ _ h2⟩
theorem seqO_B {K : PySem.W.Frag} {H : Hp} {c : Bool} {p : Addr} {xs : List V} (h : H p = some (seqO c xs)) : SqB c K H p xs := by
  cases c
  · exact SqL.of h
  · exact SqT.of h
def lookO : List (List Int × Int) → List Int → Option Int
  | [], _ => none
  | r :: R, ns => if r.1 = ns then some r.2 else lookO R ns
def look (R : List (List Int × Int)) (ns : List Int) : Int := (lookO R ns).getD 0
theorem lookO_snoc {R : List (List Int × Int)} {r : List Int × Int} {ns : List Int} : lookO (R ++ [r]) ns = match lookO R ns with | some i => some i | none => if r.1 = ns then some r.2 else none := by
  induction R with
  | nil => rfl
  | cons x R ih =>
    show (if x.1 = ns then some x.2 else lookO (R ++ [r]) ns) = match (if x.1 = ns then some x.2 else lookO R ns) with | some i => some i | none => _
    by_cases h : x.1 = ns
    · rw [if_pos h, if_pos h]
    · rw [if_neg h, if_neg h]
      exact ih
def keyT (ns : List Int) : List Key := ns.map Sum.inl
theorem keyT_kV (ns : List Int) : (keyT ns).map kV = ns.map V.int := by
  unfold keyT
  rw [List.map_map]
  rfl
theorem keyT_inj {ns ms : List Int} (h : keyT ns = keyT ms) : ns = ms := by
  induction ns generalizing ms with
  | nil => cases ms with
    | nil => rfl
    | cons y ms => cases h
  | cons x ns ih =>
    cases ms with
    | nil => cases h
    | cons y ms =>
      injection h with h1 h2
      rw [ih h2, Sum.inl.inj h1]
def lamE : Expr := match (defBody scFunOf_st).getD 2 (.Pass ⟨0, 0, 0, 0⟩) with
  | .Return (some e) _ => e
  | _ => .Name "" ⟨0, 0, 0, 0⟩
def lamP : Arguments := match lamE with
  | .Lambda p _ _ _ => p
  | _ => defArgs scFunOf_st
def lamB : Expr := match lamE with
  | .Lambda _ b _ _ => b
  | _ => .Name "" ⟨0, 0, 0, 0⟩
def lamS : Scope := match lamE with
  | .Lambda _ _ s _ => s
  | _ => defScope scFunOf_st
theorem scLam : NdefX.NScope ["items", "values"] ["items"] ["values"] lamS := NdefX.nscope_by (by decide +kernel)
theorem lam_free : ∀ y ∈ lamS.names, y.2 = NameKind.free → (defScope scFunOf_st).names.lookup y.1 = some .cell ∨ (defScope scFunOf_st).names.lookup y.1 = some .free := by decide +kernel
theorem lam_fr : ∀ y ∈ (["values"] : List Str), (y, NameKind.free) ∈ lamS.names ∧ (defScope scFunOf_st).names.lookup y = some .cell := by decide +kernel
def mkLam (cells : List (Str × Addr)) (c' : Addr) : NdefX.NF := ⟨"<lambda>", "function_of.<locals>.<lambda>", lamP, [], lamS, cloFrom cells lamS.names [], c'⟩
def spLam : List (Option V) → Sp := fun ws vs H Q _ => ∃ (D q : Addr) (kvs : List (List Key × V)) (c : Bool) (ns : List Int), ws = [some (.ref D)] ∧ vs = [.ref q] ∧ H D = some (.dT kvs) ∧ H q = some (seqO c (ns.map V.int)) ∧ ∀ H', Same H H' → Q ((valV kvs (keyT ns)).getD (.int 0)) H'
structure MeanAt (P : Program) (w : World) (K : PySem.W.Frag) (mg : Str → Option Value) (base : Heap) (H : Hp) (R : List (List Int × Int)) (v : V) : Prop where
  ex : ∃ (f D : Addr) (F : NdefX.NF) (b : FuncBody) (kvs : List (List Key × V)), v = .ref f ∧ CloAt H f F b ["values"] [.ref D] ∧ H D = some (.dT kvs) ∧ (∀ ns, (valV kvs (keyT ns)).getD (.int 0) = .int (look R ns)) ∧ VOk P w K mg base 2 f F b ["values"] spLam
theorem vok_L (T : Txt K mg a d) {f c' : Addr} {cells : List (Str × Addr)} : VOk P w K mg base 2 f (mkLam cells c') (.expr lamB) ["values"] spLam := by
  refine vok_lam (te := fun _ _ _ _ => True) scLam (fun doc pm ctv us h => ?_) (fun ws vs H Q E h => ?_) fun A outer s H vs ws Q E hr hf hc hl h => ?_
  · match us, h with
    | [u], _ => rfl
  · obtain ⟨D, q, kvs, c, ns, _, rfl, _⟩ := h
    rfl
  · obtain ⟨D, q, kvs, c, ns, rfl, rfl, hD, hq, k⟩ := h
    refine ⟨_, (pe_dget2 (Tp.hu1 hr) (pv 1) (pe_callTy (Tp.call_tuple_ofK (K := K) rfl) (by rfl) T.tuple_ Tp.bt_tuple (pa_cons (pv 0) pa_nil)) pe_int ⟨rfl, rfl, rfl, rfl⟩), ?_⟩
    refine ⟨_, rfl, D, rfl, .inr ⟨_, .inl hD⟩, _, rfl, q, ns.map V.int, rfl, ?_⟩
    cases c with
    | true => exact .inr ⟨SqT.of hq, _, DGet.t hD (by rw [keyT_kV]; exact hq), k H (Same.refl _)⟩
    | false => exact .inl ⟨SqL.of hq, fun l hl => ⟨_, DGet.t (same_new hl _ _ hD) (by rw [keyT_kV]; exact upd_same), k _ (same_new hl)⟩⟩
def spFunOf (P : Program) (w : World) (K : PySem.W.Frag) (mg : Str → Option Value) (base : Heap) (a : Ad) : Sp := fun vs H Q _ => ∃ (v : V) (R : List (List Int × Int)), vs = [v] ∧ TabH H R v ∧ R.length ≤ 100 ∧ NdefX.TabsN (TT a) H ∧
  ∀ f H', LamX.ExtN H H' → NdefX.TabsN (TT a) H' → MeanAt P w K mg base H' R (.ref f) → Q (.ref f) H'
theorem ok_funOf (T : Txt K mg a d) (TB : LamX.TabB base mg a.cFn a.pFn) : FnOk P w K mg base CX0 3 a.funOf d.funOf ["rows"] (spFunOf P w K mg base a) := by
  refine okNR T.F_funOf T.cdFn scFunOf (fun vs H Q E h => ?_) (fun A outer s H vs Q E hr h => ?_)
  · obtain ⟨v, R, rfl, _⟩ := h
    rfl
  · obtain ⟨v, R, rfl, ⟨t, c, rs, rfl, ht, pr⟩, hl, tn, q⟩ := h
    refine ⟨_, (Tp.psr_cons (ps_set (i := 1) scFunOf.nd rfl (Or.inr rfl) pe_dnewT)
      (Tp.psr_cons (ps_for PassesOwn.never rfl (Tp.pi_B (K := K) rfl (pv 0)) (Tp.pg_B (n := 2) (K := K) rfl rfl (pgs_cons (pg_name (i := 2) scFunOf.nd rfl (Or.inl rfl)) (pgs_cons (pg_name (i := 3) scFunOf.nd rfl (Or.inl rfl)) pgs_nil))) (pss_one (ps_expr (Tp.pe_dsetdef (Tp.hu1 hr) (pv 1) (pe_callTy (Tp.call_tuple_ofK (K := K) rfl) (by rfl) T.tuple_ Tp.bt_tuple (pa_cons (pv 2) pa_nil)) (pv 3) ⟨rfl, rfl, rfl, rfl⟩))))
      (Tp.psr_ret (Tp.pe_lamV (nm := nmF) (T := TT a) TB rfl (List.mem_singleton.mpr rfl) rfl (Tp.tab_one _) lam_free rfl)))), ?_⟩
    intro D hD
    have SD : Same H (upd H D (.dT [])) := same_new hD
    refine ⟨_, rfl, c, t, rs, rfl, seqO_B (SD _ _ ht), for_it (walk_B (xs := rs)) (fun j σ H' => Same H H' ∧ (∃ kvs, H' D = some (.dT kvs) ∧ kvs.length ≤ j ∧ ∀ ns, valV kvs (keyT ns) = (lookO (R.take j) ns).map V.int) ∧ ∃ v2 v3, σ = [some (.ref t), some (.ref D), v2, v3]) ⟨SD, ⟨[], upd_same, Nat.le_refl _, fun ns => rfl⟩, none, none, rfl⟩ ?_ ?_ ?_⟩
    · rintro j σ H' _ ⟨S, _⟩
      exact seqO_B (S _ _ ht)
    · rintro j u σ _ H1 hj ⟨S, ⟨kvs, gD, lk, hk⟩, v2, v3, rfl⟩ ⟨rfl, hu⟩
      obtain ⟨r, hr', p, qq, c1, c2, rfl, hp, hq⟩ := paired_rev pr hu
      refine ⟨c1, p, _, rfl, seqO_B (S _ _ hp), rfl, _, _, rfl, _, _, rfl, rfl, ?_⟩
      have key : ∀ (b : Addr) (H2 : Hp), Same H1 H2 → H2 b = some (.tup (r.1.map V.int)) →
          (∃ v, DGet H2 D (.ref b) (some v) ∧ (∃ e, H2 D = some e ∧ Mut (some e)) ∧ Same H H2 ∧ ∃ kvs, H2 D = some (.dT kvs) ∧ kvs.length ≤ j + 1 ∧ ∀ ns, valV kvs (keyT ns) = (lookO (R.take (j + 1)) ns).map V.int) ∨
          (DGet H2 D (.ref b) none ∧ ∃ H4, DPut H2 D (.ref b) (.int r.2) H4 ∧ Same H H4 ∧ ∃ kvs, H4 D = some (.dT kvs) ∧ kvs.length ≤ j + 1 ∧ ∀ ns, valV kvs (keyT ns) = (lookO (R.take (j + 1)) ns).map V.int) := by
        intro b H2 S2 hb
        have gD2 := S2 _ _ gD
        have hb' : H2 b = some (.tup ((keyT r.1).map kV)) := by rw [keyT_kV]; exact hb
        have et : R.take (j + 1) = R.take j ++ [r] := by rw [List.take_add_one, hr']; rfl
        have hj' : j < 100 := Nat.lt_of_lt_of_le (List.getElem?_eq_some_iff.mp hr').1 hl
        have g := DGet.t (k := keyT r.1) gD2 hb'
        rw [hk] at g
        cases hL : lookO (R.take j) r.1 with
        | some i =>
          rw [hL] at g
          refine .inl ⟨_, g, ⟨_, gD2, True.intro⟩, S.trans S2, kvs, gD2, by omega, fun ns => ?_⟩
          rw [hk, et, lookO_snoc]
          cases h : lookO (R.take j) ns with
          | some i => rfl
          | none =>
            show none = Option.map V.int (if r.1 = ns then _ else _)
            rw [if_neg (fun e => by rw [e, h] at hL; cases hL)]
            rfl
        | none =>
          rw [hL] at g
          refine .inr ⟨g, _, DPut.t gD2 hb' (Nat.lt_of_le_of_lt (show _ ≤ 100 by omega) (by decide)), fun z o h => ?_, _, upd_same, ?_, fun ns => ?_⟩
          · rw [upd_ne (fun e => by rw [e, hD] at h; cases h)]
            exact S2 _ _ (S _ _ h)
          · have := length_putK kvs (keyT r.1) (V.int r.2)
            omega
          · rw [valV_put, hk, et, lookO_snoc]
            by_cases e : r.1 = ns
            · rw [if_pos (by rw [e]), ← e, hL]
              show _ = Option.map V.int (if r.1 = r.1 then _ else _)
              rw [if_pos rfl]
              rfl
            · rw [if_neg (fun h => e (keyT_inj h).symm)]
              cases h : lookO (R.take j) ns with
              | some i => rfl
              | none =>
                show _ = Option.map V.int (if r.1 = ns then _ else _)
                rw [if_neg e]
      have fin : ∀ (b : Addr) (H2 : Hp), Same H1 H2 → H2 b = some (.tup (r.1.map V.int)) → ∃ v, some (some (V.int r.2)) = some (some v) ∧
          ((∃ v', DGet H2 D (.ref b) (some v') ∧ (∃ e, H2 D = some e ∧ Mut (some e)) ∧ Same H H2 ∧ (∃ kvs, H2 D = some (.dT kvs) ∧ kvs.length ≤ j + 1 ∧ ∀ ns, valV kvs (keyT ns) = (lookO (R.take (j + 1)) ns).map V.int) ∧ ∃ v2' v3', [some (V.ref t), some (V.ref D), some (V.ref qq), some (V.int r.2)] = [some (V.ref t), some (V.ref D), v2', v3']) ∨
          (DGet H2 D (.ref b) none ∧ ∃ H4, DPut H2 D (.ref b) v H4 ∧ Same H H4 ∧ (∃ kvs, H4 D = some (.dT kvs) ∧ kvs.length ≤ j + 1 ∧ ∀ ns, valV kvs (keyT ns) = (lookO (R.take (j + 1)) ns).map V.int) ∧ ∃ v2' v3', [some (V.ref t), some (V.ref D), some (V.ref qq), some (V.int r.2)] = [some (V.ref t), some (V.ref D), v2', v3'])) := by
        intro b H2 S2 hb
        refine ⟨_, rfl, ?_⟩
        rcases key b H2 S2 hb with ⟨v, g, m, S3, x⟩ | ⟨g, H4, p, S3, x⟩
        · exact .inl ⟨v, g, m, S3, x, _, _, rfl⟩
        · exact .inr ⟨g, H4, p, S3, x, _, _, rfl⟩
      refine ⟨_, rfl, D, rfl, .inr ⟨_, .inl gD⟩, _, rfl, qq, r.1.map V.int, rfl, ?_⟩
      have hq1 := S _ _ hq
      cases c2 with
      | true => exact .inr ⟨SqT.of hq1, fin qq _ (Same.refl _) hq1⟩
      | false => exact .inl ⟨SqL.of hq1, fun l hl => fin l _ (same_new hl) upd_same⟩
    · rintro σ H1 ⟨S, ⟨kvs, gD, lk, hk⟩, v2, v3, rfl⟩
      have ll : rs.length = R.length := (Paired.length pr).symm
      rw [ll, List.take_length] at hk
      refine ⟨tn.ext fun b o h => S _ _ h, fun f c' H2 X2 T2 nf hf hc H3 S3 C => ?_⟩
      have X3 : LamX.ExtN H1 H3 := fun b o h n => S3 _ _ (X2 _ _ h n)
      refine q f H3 (fun b o h n => X3 _ _ (S _ _ h) n) (T2.ext fun b o h => S3 _ _ h) ⟨f, D, mkLam (PyProof.Rows.envOfC (Str.ofString "function_of") (defScope scFunOf_st) s.heap.objs.size a.funOf (.ref a.cFn)).cells c', .expr lamB, kvs, rfl, ?_, X3 _ _ gD (fun _ e => by cases e), fun ns => ?_, vok_L T⟩
      · refine clo_of (js := [1]) C rfl ?_ ?_ (S3 _ _ hf) (S3 _ _ hc) rfl rfl
        · intro y hy e
          have h1 : y.1 = "values" := List.mem_singleton.mp (scLam.free y hy e)
          exact Option.isSome_iff_exists.mp (PySem.W.cellsFrom_some _ _ _ (.inl ((lam_fr y.1 (by rw [h1]; exact List.mem_singleton.mpr rfl)).2)))
        · exact lam_fr
      · rw [hk]
        unfold look
        cases lookO R ns <;> rfl
end
end L58
set_option Elab.async false
set_option linter.all false
set_option maxRecDepth 100000
set_option maxHeartbeats 4000000
set_option pp.deepTerms false
set_option pp.deepTerms.threshold 4
set_option pp.maxSteps 1000
namespace L58
open PySem L2 Tp
section
variable {P : Program} {w : World} {K : PySem.W.Frag} {mg : Str → Option Value} {base : Heap} {a : Ad} {d : Fd}
def Rz (E : XK) (X : Addr) (v : V) (H : Hp) : Prop := ∀ dx H', Same H H' → H' dx = some (.xd [("value", v)]) → E (.ref X) (some dx) H'
theorem Rz.same {E : XK} {X : Addr} {v : V} {H H' : Hp} (h : Rz E X v H) (S : Same H H') : Rz E X v H' := fun dx H2 S2 g => h dx H2 (S.trans S2) g
theorem tabsN_data {L : List NdefX.NTab} {H H' : Hp} (t : NdefX.TabsN L H) (e : ∀ b o, (∀ xs, o ≠ .lst xs) → (∀ ks, o ≠ .dK ks) → H b = some o → H' b = some o) : NdefX.TabsN L H' := fun p hp => by
  obtain ⟨ps, h1, h2, h3⟩ := t p hp
  refine ⟨ps, e _ _ (fun _ z => by cases z) (fun _ z => by cases z) h1, h2, fun pos cv hc => ?_⟩
  obtain ⟨c, e1, e2⟩ := h3 pos cv hc
  exact ⟨c, e1, e _ _ (fun _ z => by cases z) (fun _ z => by cases z) e2⟩
theorem tabsN_lock {L : List NdefX.NTab} {H : Hp} {d : Addr} {kvs : List (Key × V)} {u : HO} (t : NdefX.TabsN L H) (h : H d = some (.dK kvs)) : NdefX.TabsN L (upd H d u) := tabsN_data t fun b o _ n k => by
  rw [upd_ne fun e => n kvs (by rw [e, h] at k; exact (Option.some.inj k).symm)]
  exact k
theorem tabsN_free {L : List NdefX.NTab} {H : Hp} {d : Addr} {u o : HO} {od : Obj} (t : NdefX.TabsN L H) (h : H d = some (.frz od o)) (m : Mut (some o)) : NdefX.TabsN L (upd H d u) := fun p hp => by
  obtain ⟨ps, h1, h2, h3⟩ := t p hp
  refine ⟨ps, by rw [upd_ne fun e => by rw [e, h] at h1; cases h1]; exact h1, h2, fun pos cv hc => ?_⟩
  obtain ⟨c, e1, e2⟩ := h3 pos cv hc
  exact ⟨c, e1, by rw [upd_ne fun e => by rw [e, h] at e2; cases e2]; exact e2⟩
def rowE (c c' : Bool) (r : List Int × Int) : PyData := if c then .tuple [if c' then .tuple (r.1.map PyData.int) else .list (r.1.map PyData.int), PyData.int r.2] else .list [if c' then .tuple (r.1.map PyData.int) else .list (r.1.map PyData.int), PyData.int r.2]
theorem dq_ints {H : Hp} : ∀ (ns : List Int), DqAll K H (ns.map V.int) (ns.map PyData.int)
  | [] => .nil
  | n :: ns => .cons (.int n) (dq_ints ns)
theorem dq_seqO {H : Hp} {c : Bool} {p : Addr} {xs : List V} {ds : List PyData} (h : H p = some (seqO c xs)) (x : DqAll K H xs ds) : Dq K H (.ref p) (if c then .tuple ds else .list ds) := by
  cases c
  · exact .lst (SqL.of h) x
  · exact .tup (SqT.of h) x
theorem row_dq {H : Hp} {r : List Int × Int} {v : V} (h : RowH H r v) : ∃ c c', Dq K H v (rowE c c' r) := by
  obtain ⟨p, q, c, c', rfl, h1, h2⟩ := h
  exact ⟨c, c', dq_seqO h1 (.cons (dq_seqO h2 (dq_ints _)) (.cons (.int _) .nil))⟩
theorem row_ok {c c' : Bool} {r : List Int × Int} (l : r.1.length ≤ 3) : rowD (rowE c c' r) = true := by
  have a : ∀ ns : List Int, (ns.map PyData.int).all intB = true := fun ns => by
    rw [List.all_map]
    exact List.all_eq_true.mpr fun _ _ => rfl
  have h : ∀ x : PyData, (x = .tuple (r.1.map PyData.int) ∨ x = .list (r.1.map PyData.int)) → (isLT x && decide ((itemsD x).length ≤ 3) && (itemsD x ++ [PyData.int r.2]).all intB) = true := by
    intro x hx
    have hl : (r.1.map PyData.int).length ≤ 3 := by rw [List.length_map]; exact l
    have ha : (r.1.map PyData.int ++ [PyData.int r.2]).all intB = true := by
      rw [List.all_append, a]
      rfl
    rcases hx with rfl | rfl
    · show (true && decide ((r.1.map PyData.int).length ≤ 3) && (r.1.map PyData.int ++ [PyData.int r.2]).all intB) = true
      rw [decide_eq_true hl, ha]
      rfl
    · show (true && decide ((r.1.map PyData.int).length ≤ 3) && (r.1.map PyData.int ++ [PyData.int r.2]).all intB) = true
      rw [decide_eq_true hl, ha]
      rfl
  have h2 := h (if c' then .tuple (r.1.map PyData.int) else .list (r.1.map PyData.int)) (by cases c' <;> simp)
  unfold rowD rowE
  cases c
  · exact (Bool.and_eq_true_iff.mpr ⟨rfl, h2⟩)
  · exact (Bool.and_eq_true_iff.mpr ⟨rfl, h2⟩)
structure EntOk (H : Hp) (R : List (List Int × Int)) (kv : Key × V) : Prop where
  nm : ∃ z : Str, kv.1 = .inr z ∧ z.length ≤ 10000 ∧ nmB z = true
  tab : TabH H R kv.2
  len : R.length ≤ 100
  row : ∀ r ∈ R, r.1.length ≤ 3
theorem EntOk.same {H H' : Hp} {R : List (List Int × Int)} {kv : Key × V} (h : EntOk H R kv) (S : Same H H') : EntOk H' R kv :=
  ⟨h.nm, let ⟨t, c, rs, e, h1, h2⟩ := h.tab; ⟨t, c, rs, e, S _ _ h1, paired_imp (fun _ _ x => x.same S) h2⟩, h.len, h.row⟩
theorem rd_lock {H : Hp} {D a : Addr} {kvs : List (Key × V)} {od : Obj} {o : HO} (hD : H D = some (.dK kvs)) (h : Rd H a o) : Rd (upd H D (.frz od (.dK kvs))) a o := by
  by_cases e : a = D
  · rw [e] at h ⊢
    rcases h with h | ⟨o', h⟩
    · rw [hD] at h
      cases h
      exact .inr ⟨od, upd_same⟩
    · rw [hD] at h
      cases h
  · rcases h with h | ⟨o', h⟩
    · exact .inl (by rw [upd_ne e]; exact h)
    · exact .inr ⟨o', by rw [upd_ne e]; exact h⟩
theorem dq_rd {K : PySem.W.Frag} {H H' : Hp} (S : ∀ a o, Rd H a o → Rd H' a o) : (∀ {v : V} {d : PyData}, Dq K H v d → Dq K H' v d) ∧ (∀ {vs : List V} {ds : List PyData}, DqAll K H vs ds → DqAll K H' vs ds) := by
  constructor
  · intro v d h
    exact Dq.rec (motive_1 := fun v d _ => Dq K H' v d) (motive_2 := fun vs ds _ => DqAll K H' vs ds) .non .bl .int .str (fun s _ ih => .lst (s.imp (S _ _) id) ih) (fun s _ ih => .tup (s.imp (S _ _) id) ih) (fun r _ _ i1 i2 => .dic (S _ _ r) i1 i2) .nil (fun _ _ a b => .cons a b) h
  · intro vs ds h
    exact DqAll.rec (motive_1 := fun v d _ => Dq K H' v d) (motive_2 := fun vs ds _ => DqAll K H' vs ds) .non .bl .int .str (fun s _ ih => .lst (s.imp (S _ _) id) ih) (fun s _ ih => .tup (s.imp (S _ _) id) ih) (fun r _ _ i1 i2 => .dic (S _ _ r) i1 i2) .nil (fun _ _ a b => .cons a b) h
theorem sqB_rd {K : PySem.W.Frag} {H H' : Hp} {c : Bool} {a : Addr} {xs : List V} (S : ∀ a o, Rd H a o → Rd H' a o) (h : SqB c K H a xs) : SqB c K H' a xs := by
  cases c
  · exact Or.imp (S _ _) id h
  · exact Or.imp (S _ _) id h
theorem un_lock {H H' : Hp} {D : Addr} {kvs : List (Key × V)} {od : Obj} (hD : H D = some (.dK kvs)) (S : Same (upd H D (.frz od (.dK kvs))) H') : Same H (upd H' D (.dK kvs)) := fun b o h => by
  by_cases e : b = D
  · rw [e] at h ⊢
    rw [hD] at h
    cases h
    exact upd_same
  · rw [upd_ne e]
    exact S _ _ (by rw [upd_ne e]; exact h)
theorem raise_at {E : XK} {X : Addr} {v : V} {H H' : Hp} {D dz : Addr} {kvs : List (Key × V)} {od : Obj} (r : Rz E X v H) (hD : H D = some (.dK kvs)) (S : Same (upd H D (.frz od (.dK kvs))) H') (g : H' dz = some (.xd [("value", v)])) :
    ∃ d' od' u, H' d' = some (.frz od' u) ∧ (∀ o' u', H d' ≠ some (.frz o' u')) ∧ E (.ref X) (some dz) (upd H' d' u) := by
  have hd := S _ _ upd_same
  refine ⟨D, od, _, hd, (fun o' u' z => by rw [hD] at z; cases z), r dz _ (un_lock hD S) ?_⟩
  rw [upd_ne fun e => by rw [e, hd] at g; cases g]
  exact g
def nmK : Key → Bool
  | .inr z => nmB z
  | .inl _ => false
theorem name_key {K : PySem.W.Frag} {H : Hp} {k : Key} (h : ∀ z, k = .inr z → z.length ≤ 10000) : NameIs K H (kV k) (nmK k) := by
  cases k with
  | inr z => exact .inl ⟨z, rfl, h z rfl, rfl⟩
  | inl i => exact .inr ⟨⟨_, .x (.base (.int i)), kit_ty (by decide +kernel)⟩, rfl⟩
theorem rows_dq {K : PySem.W.Frag} {H : Hp} {R : List (List Int × Int)} {rs : List V} (p : Paired (RowH H) R rs) (l : ∀ r ∈ R, r.1.length ≤ 3) : ∃ es, DqAll K H rs es ∧ ∀ e ∈ es, rowD e = true := by
  induction p with
  | nil => exact ⟨[], .nil, fun _ h => by cases h⟩
  | cons h t ih =>
    obtain ⟨es, h1, h2⟩ := ih fun r hr => l r (List.mem_cons_of_mem _ hr)
    obtain ⟨c, c', h3⟩ := row_dq (K := K) h
    refine ⟨_ :: es, .cons h3 h1, fun e he => ?_⟩
    rcases List.mem_cons.mp he with rfl | he
    · exact row_ok (l _ List.mem_cons_self)
    · exact h2 e he
def Dk (o : HO) : Prop := (∃ ks, o = .dK ks) ∨ (∃ ps, o = .tbl ps) ∨ ∃ od ks, o = .frz od (.dK ks)
def KeepD (H H' : Hp) : Prop := ∀ b o, ¬ Dk o → H b = some o → H' b = some o
theorem KeepD.ext {H H' : Hp} (X : LamX.ExtN H H') : KeepD H H' := fun b o n h => X b o h fun ps e => n (.inr (.inl ⟨ps, e⟩))
theorem KeepD.upd {H : Hp} {m : Addr} {o' : HO} {u : HO} (h : H m = some o') (d : Dk o') : KeepD H (upd H m u) := fun b o n k => by
  rw [upd_ne fun e => n (by rw [e, h] at k; cases k; exact d)]
  exact k
theorem KeepD.trans {H H1 H2 : Hp} (x : KeepD H H1) (y : KeepD H1 H2) : KeepD H H2 := fun b o n h => y b o n (x b o n h)
theorem dk_seq {c : Bool} {xs : List V} : ¬ Dk (seqO c xs) := by
  rintro (⟨_, z⟩ | ⟨_, z⟩ | ⟨_, _, z⟩) <;> (cases c <;> cases z)
theorem dk_dT {kvs : List (List Key × V)} : ¬ Dk (.dT kvs) := by
  rintro (⟨_, z⟩ | ⟨_, z⟩ | ⟨_, _, z⟩) <;> cases z
theorem dk_cell {ob : Obj} : ¬ Dk (cellH ob) := by
  rintro (⟨_, z⟩ | ⟨_, z⟩ | ⟨_, _, z⟩) <;> cases z
theorem dk_fn {f : Addr} {F : NdefX.NF} {b : FuncBody} : ¬ Dk (FnA f F b) := by
  rintro (⟨_, z⟩ | ⟨_, z⟩ | ⟨_, _, z⟩) <;> cases z
theorem dk_code {c : Addr} {q : Str} : ¬ Dk (LamX.CodeO c q) := by
  rintro (⟨_, z⟩ | ⟨_, z⟩ | ⟨_, _, z⟩) <;> cases z
theorem RowH.keep {H H' : Hp} {r : List Int × Int} {v : V} (h : RowH H r v) (S : KeepD H H') : RowH H' r v := by
  obtain ⟨p, q, c, c', e, h1, h2⟩ := h
  exact ⟨p, q, c, c', e, S _ _ dk_seq h1, S _ _ dk_seq h2⟩
theorem TabH.keep {H H' : Hp} {R : List (List Int × Int)} {v : V} (h : TabH H R v) (S : KeepD H H') : TabH H' R v := by
  obtain ⟨t, c, rs, e, h1, h2⟩ := h
  exact ⟨t, c, rs, e, S _ _ dk_seq h1, paired_imp (fun _ _ x => x.keep S) h2⟩
theorem EntOk.keep {H H' : Hp} {R : List (List Int × Int)} {kv : Key × V} (h : EntOk H R kv) (S : KeepD H H') : EntOk H' R kv := ⟨h.nm, h.tab.keep S, h.len, h.row⟩
theorem MeanAt.keep {H H' : Hp} {R : List (List Int × Int)} {v : V} (h : MeanAt P w K mg base H R v) (S : KeepD H H') : MeanAt P w K mg base H' R v := by
  obtain ⟨f, D, F, b, kvs, e, x, hD, hl, vo⟩ := h.ex
  refine ⟨f, D, F, b, kvs, e, ⟨S _ _ dk_fn x.fn, S _ _ dk_code x.code, x.len, x.inj, fun y c e => ?_, fun i y v e1 e2 => ?_⟩, S _ _ dk_dT hD, hl, vo⟩
  · obtain ⟨ob, v, h1, h2⟩ := x.all y c e
    exact ⟨ob, v, S _ _ dk_cell h1, h2⟩
  · obtain ⟨c, ob, u, h1, h2, h3⟩ := x.has i y v e1 e2
    exact ⟨c, ob, u, h1, S _ _ dk_cell h2, h3⟩
theorem valV_none {k : Key} : ∀ {fs : List (Key × V)}, k ∉ fs.map (·.1) → valV fs k = none
  | [], _ => rfl
  | p :: fs, h => by
    rw [valV_neg fun e => h (by rw [← e]; exact List.mem_cons_self)]
    exact valV_none fun m => h (List.mem_cons_of_mem _ m)
inductive OneBad (K : PySem.W.Frag) (a : Ad) (H : Hp) (E : XK) (k : Key) (u : V) : Prop
  | name (h : nmK k = false) (r : Rz E a.CInvalidName (kV k) H)
  | part (n : nmK k = true) (e : PyData) (h : Dq K H u e) (l : isLT e = false) (r : Rz E a.CInvalidPart u H)
  | row (n : nmK k = true) (t : Addr) (c : Bool) (rs : List V) (es : List PyData) (i : Nat) (v : V) (e : PyData) (h1 : u = .ref t) (h2 : SqB c K H t rs) (h3 : DqAll K H rs es) (h4 : rs[i]? = some v) (h5 : es[i]? = some e) (h6 : rowD e = false) (h7 : ∀ j e', j < i → es[j]? = some e' → rowD e' = true) (r : Rz E a.CInvalidRow v H)
def spMeaning (P : Program) (w : World) (K : PySem.W.Frag) (mg : Str → Option Value) (base : Heap) (a : Ad) : Sp := fun vs H Q E => ∃ (v : V), vs = [v] ∧
  ((∃ e, Dq K H v e ∧ isDc e = false ∧ Rz E a.CInvalidPart v H) ∨
   (∃ d k u, v = .ref d ∧ H d = some (.dK [(k, u)]) ∧ (∀ z, k = .inr z → z.length ≤ 10000) ∧ OneBad K a H E k u) ∨
   (∃ d kvs Rs, v = .ref d ∧ H d = some (.dK kvs) ∧ NdefX.TabsN (TT a) H ∧ Paired (EntOk H) Rs kvs ∧ kvs.length ≤ 60 ∧ (kvs.map (·.1)).Nodup ∧
     ∀ m H' fs, LamX.ExtN H H' → NdefX.TabsN (TT a) H' → H m = none → H' m = some (.dK fs) → fs.map (·.1) = kvs.map (·.1) → Paired (MeanAt P w K mg base H') Rs (fs.map (·.2)) → Q (.ref m) H'))
theorem ok_meaning (T : Txt K mg a d) (TB : LamX.TabB base mg a.cFn a.pFn) : FnOk P w K mg base (L2.CX P w) 5 a.meaning d.meaning ["tables"] (spMeaning P w K mg base a) := by
  have G_isList := ok_isList (P := P) (w := w) (base := base) T
  have G_isName := ok_isName (P := P) (w := w) (base := base) T
  have G_isRow := ok_isRow (P := P) (w := w) (base := base) T
  have G_funOf := ok_funOf (P := P) (w := w) (base := base) T TB
  refine okX T.F_meaning scMeaning (fun vs H Q E h => ?_) (fun cdv A outer s H vs Q E hr h tk po => ?_)
  · obtain ⟨v, rfl, _⟩ := h
    rfl
  · obtain ⟨v, rfl, h⟩ := h
    refine ⟨_, (pss_cons (ps_if (pt_not (pt_val (pe_callB (Tp.call_isA (K := K) rfl) (by rfl) T.isinstance_ Tp.bt_isinstance (pa_cons (pv 0) (pa_cons (pe_bltn (v := .ty "dict") (by rfl) T.dict_ Tp.bt_dict rfl) pa_nil))))) (pss_one (Tp.ps_raiseB (k := 0) rfl (x_InvalidPart T) (hr.mono (by decide)) tk (by rfl) T.mg_InvalidPart (pa_cons (pv 0) pa_nil))) pss_nil)
      (pss_cons (ps_lock (ps_for po rfl (pi_items (pv 0)) (pg_tup (by rfl) (pgs_cons (pg_name (i := 1) scMeaning.nd rfl (Or.inl rfl)) (pgs_cons (pg_name (i := 2) scMeaning.nd rfl (Or.inl rfl)) pgs_nil))) (pss_cons (ps_if (pt_not (pt_val (pe_call G_isName (hr.mono (by decide)) (by rfl) T.mg_isName T.F_isName.kp T.b_isName .nil pass0 (pa_cons (pv 1) pa_nil)))) (pss_one (Tp.ps_raiseB (k := 0) rfl (x_InvalidName T) (hr.mono (by decide)) (Tp.takes_unlock tk) (by rfl) T.mg_InvalidName (pa_cons (pv 1) pa_nil))) pss_nil)
      (pss_cons (ps_if (pt_not (pt_val (pe_call G_isList (hr.mono (by decide)) (by rfl) T.mg_isList T.F_isList.kp T.b_isList .nil pass0 (pa_cons (pv 2) pa_nil)))) (pss_one (Tp.ps_raiseB (k := 0) rfl (x_InvalidPart T) (hr.mono (by decide)) (Tp.takes_unlock tk) (by rfl) T.mg_InvalidPart (pa_cons (pv 2) pa_nil))) pss_nil)
      (pss_one (ps_for po rfl (Tp.pi_B (K := K) rfl (pv 2)) (pg_name (i := 3) scMeaning.nd rfl (Or.inl rfl)) (pss_one (ps_if (pt_not (pt_val (pe_call G_isRow (hr.mono (by decide)) (by rfl) T.mg_isRow T.F_isRow.kp T.b_isRow .nil pass0 (pa_cons (pv 3) pa_nil)))) (pss_one (Tp.ps_raiseB (k := 0) rfl (x_InvalidRow T) (hr.mono (by decide)) (Tp.takes_unlock tk) (by rfl) T.mg_InvalidRow (pa_cons (pv 3) pa_nil))) pss_nil))))))))
      (pss_one (ps_ret (pe_lock (pe_dc (own := [("name", 1), ("rows", 2)]) (by rfl) scMeaning.nd (pi_items (pv 0)) (blkOk_by (own := [("name", 1), ("rows", 2)]) (N := scMeaning_N) (sc := defScope scMeaning_st) (by decide +kernel)) (fun _ _ _ _ _ => (Tp.pg_B (n := 2) (K := K) rfl rfl (pgs_cons (pg_name (i := 1) scMeaning.nd rfl (Or.inl rfl)) (pgs_cons (pg_name (i := 2) scMeaning.nd rfl (Or.inl rfl)) pgs_nil)))) (fun _ _ _ _ _ => pts_nil) (fun _ _ _ _ _ => (pv 1)) (fun _ _ _ _ _ => (pe_call G_funOf (hr.mono (by decide)) (by rfl) T.mg_funOf T.F_funOf.kp T.b_funOf .nil pass0 (pa_cons (pv 2) pa_nil))))))))), ?_⟩
    rcases h with ⟨e, dq, nd, r⟩ | ⟨D, k, u, rfl, hD, hk, bad⟩ | ⟨D, kvs, Rs, rfl, hD, tn, pe, l60, nod, q⟩
    · refine ⟨_, rfl, _, _, _, _, isDc e, rfl, .ty _, .x (dq_ty dq), kit_dict e, _, rfl, ?_⟩
      rw [nd]
      exact iteT ⟨_, rfl, (show 1 ≤ 1000 from by decide), fun z hz => ⟨z, _, rfl, upd_same, fun dz k n => ⟨rfl, dz, _, upd_same, by rw [upd_ne n]; exact upd_same, by rw [upd_ne n] at k; exact k, r dz _ (same_fly hz k) upd_same⟩⟩⟩
    · refine ⟨_, rfl, _, _, _, _, true, rfl, .ty _, .x (.base (.dK hD)), kit_ty (by decide +kernel), _, rfl, iteF ?_⟩
      refine ⟨D, _, hD, True.intro, fun od => ⟨_, rfl, D, od, _, rfl, upd_same, ?_⟩⟩
      refine for_it walk_items (fun j σ H' => j = 0 ∧ σ = [some (.ref D), none, none, none] ∧ H' = upd H D (.frz od (.dK [(k, u)]))) ⟨rfl, rfl, rfl⟩ ?_ ?_ ?_
      · rintro j σ H' _ ⟨_, _, rfl⟩
        exact upd_same
      · rintro j x σ H' _ hj ⟨rfl, rfl, rfl⟩ ⟨TT, x, y, rfl, hT, rfl, hx, hy⟩
        cases hx
        cases hy
        have rk : ∀ a o, Rd H a o → Rd (upd H D (.frz od (.dK [(k, u)]))) a o := fun a o h => rd_lock hD h
        have SL : Same (upd H D (.frz od (.dK [(k, u)]))) (upd H D (.frz od (.dK [(k, u)]))) := Same.refl _
        obtain ⟨HL, hL⟩ : ∃ HL, HL = upd H D (.frz od (.dK [(k, u)])) := ⟨_, rfl⟩
        rw [← hL] at rk hT ⊢
        have SL : Same (upd H D (.frz od (.dK [(k, u)]))) HL := by rw [hL]; exact Same.refl _
        have S1 := same_new (o := .tup [kV k, u]) hT
        have g1 : (upd HL TT (.tup [kV k, u])) TT = some (.tup [kV k, u]) := upd_same
        generalize upd HL TT (.tup [kV k, u]) = H1 at S1 g1 ⊢
        refine ⟨TT, _, rfl, SqT.of g1, rfl, _, _, rfl, _, _, rfl, rfl, ?_⟩
        refine ⟨_, rfl, kV k, nmK k, rfl, name_key hk, _, rfl, ?_⟩
        cases bad with
        | name h r =>
          rw [h]
          exact iteT ⟨_, rfl, (show 1 ≤ 1000 from by decide), fun z hz => ⟨z, _, rfl, upd_same, fun dz k n => ⟨rfl, dz, _, upd_same, by rw [upd_ne n]; exact upd_same, by rw [upd_ne n] at k; exact k, raise_at r hD ((SL.trans S1).trans (same_fly hz k)) upd_same⟩⟩⟩
        | part n e h l r =>
          rw [n]
          refine iteF ⟨_, rfl, u, _, _, rfl, dq_ty ((dq_same S1).1 ((dq_rd rk).1 h)), kit_lt e, fun H2 S2 => ⟨_, rfl, ?_⟩⟩
          rw [l]
          exact iteT ⟨_, rfl, (show 1 ≤ 1000 from by decide), fun z hz => ⟨z, _, rfl, upd_same, fun dz k n => ⟨rfl, dz, _, upd_same, by rw [upd_ne n]; exact upd_same, by rw [upd_ne n] at k; exact k, raise_at r hD (((SL.trans S1).trans S2).trans (same_fly hz k)) upd_same⟩⟩⟩
        | row n t c rs es i v e h1 h2 h3 h4 h5 h6 h7 r =>
          rw [n]
          subst h1
          have h3 := (dq_same S1).2 ((dq_rd rk).2 h3)
          have h2 := SqB.same S1 (sqB_rd rk h2)
          have dt : Dq K H1 (.ref t) (if c then .tuple es else .list es) := by
            cases c
            · exact .lst h2 h3
            · exact .tup h2 h3
          refine iteF ⟨_, rfl, .ref t, _, _, rfl, dq_ty dt, kit_lt _, fun H2 S2 => ⟨_, rfl, ?_⟩⟩
          have e1 : isLT (if c then .tuple es else .list es) = true := by cases c <;> rfl
          rw [e1]
          refine iteF ⟨_, rfl, c, t, rs, rfl, h2.same S2, for_it (walk_B (xs := rs)) (fun j σ H' => j ≤ i ∧ Same H2 H' ∧ ∃ v3, σ = [some (.ref D), some (kV k), some (.ref t), v3]) ⟨Nat.zero_le _, Same.refl _, _, rfl⟩ ?_ ?_ ?_⟩
          · rintro j σ H' _ ⟨_, S, _⟩
            exact h2.same (S2.trans S)
          · rintro j x σ _ H3 hj ⟨ji, S3, v3, rfl⟩ ⟨rfl, hx⟩
            obtain ⟨e', he', de⟩ := dqAll_get h3 hx
            refine ⟨_, rfl, x, e', rfl, (dq_same (S2.trans S3)).1 de, fun H4 S4 => ⟨_, rfl, ?_⟩⟩
            by_cases ej : j = i
            · subst ej
              rw [h5] at he'
              cases he'
              rw [h4] at hx
              cases hx
              rw [h6]
              exact iteT ⟨_, rfl, (show 1 ≤ 1000 from by decide), fun z hz => ⟨z, _, rfl, upd_same, fun dz k n => ⟨rfl, dz, _, upd_same, by rw [upd_ne n]; exact upd_same, by rw [upd_ne n] at k; exact k, raise_at r hD (((((SL.trans S1).trans S2).trans S3).trans S4).trans (same_fly hz k)) upd_same⟩⟩⟩
            · rw [h7 j e' (by omega) he']
              exact iteF ⟨by omega, S3.trans S4, _, rfl⟩
          · rintro σ H3 ⟨ji, _⟩
            have := (List.getElem?_eq_some_iff.mp h4).1
            omega
      · rintro σ H' ⟨z, _⟩
        cases z
    · refine ⟨_, rfl, _, _, _, _, true, rfl, .ty _, .x (.base (.dK hD)), kit_ty (by decide +kernel), _, rfl, iteF ?_⟩
      refine ⟨D, _, hD, True.intro, fun od => ⟨_, rfl, D, od, _, rfl, upd_same, ?_⟩⟩
      have kL : KeepD H (upd H D (.frz od (.dK kvs))) := KeepD.upd hD (.inl ⟨_, rfl⟩)
      refine for_it walk_items (fun j σ H' => Same (upd H D (.frz od (.dK kvs))) H' ∧ ∃ v1 v2 v3, σ = [some (.ref D), v1, v2, v3]) ⟨Same.refl _, _, _, _, rfl⟩ ?_ ?_ ?_
      · rintro j σ H' _ ⟨S, _⟩
        exact S _ _ upd_same
      · rintro j x σ H0 _ hj ⟨S, v1, v2, v3, rfl⟩ ⟨TT, x, y, rfl, hT, rfl, hx, hy⟩
        obtain ⟨kv, hkv⟩ : ∃ kv, kvs[j]? = some kv := ⟨_, List.getElem?_eq_getElem hj⟩
        have hx : kvs[j]?.map (fun kv => kV kv.1) = some x := hx
        have hy : kvs[j]?.map Prod.snd = some y := hy
        rw [hkv] at hx hy
        cases hx
        cases hy
        obtain ⟨R, hR, en⟩ := paired_rev pe hkv
        have en := (en.keep kL).same S
        have S1 := same_new (o := .tup [kV kv.1, kv.2]) hT
        have g1 : (upd H0 TT (.tup [kV kv.1, kv.2])) TT = some (.tup [kV kv.1, kv.2]) := upd_same
        generalize upd H0 TT (.tup [kV kv.1, kv.2]) = H1 at S1 g1 ⊢
        obtain ⟨k, u⟩ := kv
        obtain ⟨⟨z, ez, zl, zn⟩, ⟨t, c, rs, eu, ht, pr⟩, rl, rr⟩ := en
        cases ez
        cases eu
        have ht := S1 _ _ ht
        have pr := paired_imp (fun _ _ h => h.same S1) pr
        obtain ⟨es, da, ok⟩ := rows_dq (K := K) pr rr
        refine ⟨TT, _, rfl, SqT.of g1, rfl, _, _, rfl, _, _, rfl, rfl, ?_⟩
        refine ⟨_, rfl, .str z, nmB z, rfl, .inl ⟨z, rfl, zl, rfl⟩, _, rfl, ?_⟩
        rw [zn]
        refine iteF ⟨_, rfl, .ref t, _, _, rfl, dq_ty (dq_seqO ht da), kit_lt _, fun H2 S2 => ⟨_, rfl, ?_⟩⟩
        have e1 : isLT (if c then .tuple es else .list es) = true := by cases c <;> rfl
        rw [e1]
        refine iteF ⟨_, rfl, c, t, rs, rfl, seqO_B (S2 _ _ ht), for_it (walk_B (xs := rs)) (fun j σ H' => Same H2 H' ∧ ∃ v3, σ = [some (.ref D), some (.str z), some (.ref t), v3]) ⟨Same.refl _, _, rfl⟩ ?_ ?_ ?_⟩
        · rintro j σ H' _ ⟨S, _⟩
          exact seqO_B (S _ _ (S2 _ _ ht))
        · rintro j x σ _ H3 hj ⟨S3, v3, rfl⟩ ⟨rfl, hx⟩
          obtain ⟨e', he', de⟩ := dqAll_get da hx
          refine ⟨_, rfl, x, e', rfl, (dq_same (S2.trans S3)).1 de, fun H4 S4 => ⟨_, rfl, ?_⟩⟩
          rw [ok e' (List.mem_of_getElem? he')]
          exact iteF ⟨S3.trans S4, _, rfl⟩
        · rintro σ H3 ⟨S3, v3, rfl⟩
          exact ⟨((S.trans S1).trans S2).trans S3, _, _, _, rfl⟩
      · rintro σ H1 ⟨S, v1, v2, v3, rfl⟩
        refine ⟨S _ _ upd_same, ?_⟩
        have S2 := un_lock hD S
        have gD2 : (upd H1 D (.dK kvs)) D = some (.dK kvs) := upd_same
        have T2 : NdefX.TabsN (TT a) (upd H1 D (.dK kvs)) := tn.ext fun b o h => S2 _ _ h
        generalize upd H1 D (.dK kvs) = H2 at S2 gD2 T2 ⊢
        refine ⟨D, _, gD2, True.intro, fun od2 => ⟨_, rfl, D, od2, kvs, rfl, upd_same, fun M hM => ?_⟩⟩
        have k2 : KeepD H (upd H2 D (.frz od2 (.dK kvs))) := (KeepD.ext (LamX.ExtN.of S2)).trans (KeepD.upd gD2 (.inl ⟨_, rfl⟩))
        have T3 : NdefX.TabsN (TT a) (upd H2 D (.frz od2 (.dK kvs))) := tabsN_lock T2 gD2
        have gD3 : (upd H2 D (.frz od2 (.dK kvs))) D = some (.frz od2 (.dK kvs)) := upd_same
        obtain ⟨H3, eH3⟩ : ∃ H3, H3 = upd H2 D (.frz od2 (.dK kvs)) := ⟨_, rfl⟩
        rw [← eH3] at hM k2 T3 gD3 ⊢
        have SM : Same H3 (upd H3 M (.dK [])) := same_new hM
        refine dc_it walk_items (fun i H' => LamX.ExtN H3 H' ∧ NdefX.TabsN (TT a) H' ∧ ∃ fs, H' M = some (.dK fs) ∧ fs.map (·.1) = (kvs.take i).map (·.1) ∧ Paired (MeanAt P w K mg base H') (Rs.take i) (fs.map (·.2))) ⟨LamX.ExtN.of SM, T3.ext fun b o h => SM _ _ h, [], upd_same, rfl, .nil⟩ ?_ ?_ ?_
        · rintro i H' _ ⟨X, _⟩
          exact X _ _ gD3 (fun _ z => by cases z)
        · rintro i x H0 _ hi ⟨X, TX, fs, gM, ef, pm⟩ ⟨TT, x, y, rfl, hT, rfl, hx, hy⟩
          obtain ⟨kv, hkv⟩ : ∃ kv, kvs[i]? = some kv := ⟨_, List.getElem?_eq_getElem hi⟩
          have hx : kvs[i]?.map (fun kv => kV kv.1) = some x := hx
          have hy : kvs[i]?.map Prod.snd = some y := hy
          rw [hkv] at hx hy
          cases hx
          cases hy
          obtain ⟨R, hR, en⟩ := paired_rev pe hkv
          have en := en.keep (k2.trans (KeepD.ext X))
          have S4 := same_new (o := .tup [kV kv.1, kv.2]) hT
          have g4 : (upd H0 TT (.tup [kV kv.1, kv.2])) TT = some (.tup [kV kv.1, kv.2]) := upd_same
          generalize upd H0 TT (.tup [kV kv.1, kv.2]) = H4 at S4 g4 ⊢
          refine ⟨true, TT, _, rfl, SqT.of g4, rfl, _, _, rfl, _, _, rfl, rfl, rfl, _, rfl, _, rfl, kv.2, R, rfl, (en.same S4).tab, en.len, TX.ext fun b o h => S4 _ _ h, fun f H5 X5 T5 m5 => ?_⟩
          have gM5 := X5 _ _ (S4 _ _ gM) (fun _ z => by cases z)
          have i60 : i < 60 := Nat.lt_of_lt_of_le hi l60
          have lf : fs.length ≤ i := by
            have := congrArg List.length ef
            rw [List.length_map, List.length_map, List.length_take] at this
            omega
          have nk : kv.1 ∉ fs.map (·.1) := by
            rw [ef]
            intro m
            rw [List.map_take] at m
            have hk : (kvs.map (·.1))[i]? = some kv.1 := by rw [List.getElem?_map, hkv]; rfl
            obtain ⟨j, hj⟩ := List.mem_iff_getElem?.mp m
            rw [List.getElem?_take] at hj
            split at hj
            · rename_i ji
              have h1 := (List.getElem?_eq_some_iff.mp hj).1
              have := (List.getElem?_inj h1 nod).mp (hj.trans hk.symm)
              omega
            · cases hj
          refine ⟨fs, kv.1, rfl, gM5, Nat.lt_of_lt_of_le (show fs.length < 60 by omega) (by decide), fun b o h n => ?_, tabsN_lock T5 gM5, _, upd_same, ?_, ?_⟩
          · rw [upd_ne fun e => by rw [e, hM] at h; cases h]
            exact X5 _ _ (S4 _ _ (X _ _ h n)) n
          · rw [putK_new _ (valV_none nk), List.map_append, ef, List.take_add_one, hkv, List.map_append]
            rfl
          · rw [putK_new _ (valV_none nk), List.map_append, List.take_add_one, hR]
            have kk : KeepD H0 (upd H5 M (.dK (fs ++ [(kv.1, .ref f)]))) := ((KeepD.ext (LamX.ExtN.of S4)).trans (KeepD.ext X5)).trans (KeepD.upd gM5 (.inl ⟨_, rfl⟩))
            exact paired_snoc (paired_imp (fun _ _ h => h.keep kk) pm) (m5.keep (KeepD.upd gM5 (.inl ⟨_, rfl⟩)))
        · rintro H7 ⟨X7, T7, fs, gM, ef, pm⟩
          have gD7 := X7 _ _ gD3 (fun _ z => by cases z)
          have lR : Rs.length = kvs.length := Paired.length pe
          rw [List.take_length] at ef
          rw [← lR, List.take_length] at pm
          have nMD : M ≠ D := fun e => by rw [e, gD3] at hM; cases hM
          have hM0 : H M = none := by
            cases h : H M with
            | none => rfl
            | some o =>
              have := S2 _ _ h
              rw [eH3, upd_ne nMD, this] at hM
              cases hM
          refine ⟨gD7, q M _ fs (fun b o h n => ?_) (tabsN_free T7 gD7 True.intro) hM0 (by rw [upd_ne nMD]; exact gM) ef (paired_imp (fun _ _ h => h.keep (KeepD.upd gD7 (.inr (.inr ⟨_, _, rfl⟩)))) pm)⟩
          · by_cases e : b = D
            · rw [e, hD] at h
              cases h
              rw [e]
              exact upd_same
            · rw [upd_ne e]
              refine X7 _ _ ?_ n
              rw [eH3, upd_ne e]
              exact S2 _ _ h
end
end L58
set_option Elab.async false
set_option linter.all false
set_option maxRecDepth 100000
set_option maxHeartbeats 4000000
set_option pp.deepTerms false
set_option pp.deepTerms.threshold 4
set_option pp.maxSteps 1000
namespace L58
open PySem L2 Tp
section
variable {P : Program} {w : World} {K : PySem.W.Frag} {mg : Str → Option Value} {base : Heap} {a : Ad} {d : Fd}
def LowA (l : List Nat) : Prop := ∀ c ∈ l, lowC c = true
theorem nm_ofC {l e : List Nat} (h1 : l ≠ []) (hl : LowA l) (he : ∀ c ∈ e, (lowC c || digC c) = true) (len : l.length + e.length ≤ 8) : nmB (ofC (l ++ e)) = true := by
  cases l with
  | nil => exact absurd rfl h1
  | cons c cs =>
    rw [nmB_ofC]
    show (decide ((cs ++ e).length + 1 ≤ 8) && (lowC c && (c :: (cs ++ e)).all fun x => lowC x || digC x)) = true
    rw [List.length_cons] at len
    rw [decide_eq_true (by rw [List.length_append]; omega), hl c List.mem_cons_self, Bool.true_and, Bool.true_and]
    refine List.all_eq_true.mpr fun x hx => ?_
    rcases List.mem_append.mp (show x ∈ (c :: cs) ++ e from hx) with h | h
    · rw [hl x h]
      rfl
    · exact he x h
theorem ofC_app (l e : List Nat) : ofC l ++ ofC e = ofC (l ++ e) := by
  unfold ofC
  show (⟨l.toArray ++ e.toArray⟩ : Str) = _
  rw [List.append_toArray]
theorem cut_pre (l : List Nat) (i : Nat) : cutS (ofC l) none (some (i : Int)) = ofC (l.take i) := by
  unfold cutS
  rw [HT.sIx_nat, ofC_codes, ofC_len]
  show (⟨((l.drop 0).take (min i l.length - 0)).toArray⟩ : Str) = ⟨(l.take i).toArray⟩
  rw [List.drop_zero, Nat.sub_zero]
  congr 2
  by_cases h : i ≤ l.length
  · rw [Nat.min_eq_left h]
  · rw [Nat.min_eq_right (by omega), List.take_length, List.take_of_length_le (by omega)]
theorem cut_suf (l : List Nat) (i : Nat) : cutS (ofC l) (some (i : Int)) none = ofC (l.drop i) := by
  unfold cutS
  rw [HT.sIx_nat, ofC_codes, ofC_len]
  show (⟨((l.drop (min i l.length)).take (l.length - min i l.length)).toArray⟩ : Str) = ⟨(l.drop i).toArray⟩
  congr 1
  rw [List.take_of_length_le (by rw [List.length_drop]; omega)]
  by_cases h : i ≤ l.length
  · rw [Nat.min_eq_left h]
  · rw [Nat.min_eq_right (by omega), List.drop_length, List.drop_of_length_le (by omega)]
theorem joinL_one : ∀ cs : List Nat, TL.joinL [] (cs.map fun c => [c]) = cs
  | [] => rfl
  | [c] => rfl
  | c :: e :: cs => by
    show [c] ++ ([] ++ TL.joinL [] ((e :: cs).map fun c => [c])) = _
    rw [joinL_one (e :: cs)]
    rfl
def one (c : Nat) : Str := ⟨#[c]⟩
theorem join_one (cs : List Nat) : Txt.join "" (cs.map one) = ofC cs := by
  refine ofC_eq ?_
  have e : Txt.join "" (cs.map one) = Str.join "" (cs.map one) := StrLaws.glued_eq_join _ _
  rw [e]
  have := TL.tl_join "" (cs.map one)
  rw [List.map_map] at this
  exact this.trans (joinL_one cs)
theorem let26 {i : Int} (h0 : 0 ≤ i) (h1 : i < 26) : ∃ c, atI ("abcdefghijklmnopqrstuvwxyz" : Str).cps.toList i = some c ∧ lowC c = true := by
  obtain ⟨j, rfl⟩ := Int.eq_ofNat_of_zero_le h0
  obtain ⟨h, l, _⟩ := letters26 j (by omega)
  exact ⟨_, atI_nat h, l⟩
theorem pre4 : ∀ z ∈ [("g" : Str), "x", "in", "out"], ∃ l, z = ofC l ∧ l ≠ [] ∧ LowA l ∧ l.length ≤ 3 := by
  intro z hz
  simp only [List.mem_cons, List.not_mem_nil, or_false] at hz
  rcases hz with rfl | rfl | rfl | rfl
  · exact ⟨[103], by decide +kernel, by simp, by unfold LowA; decide +kernel, by decide⟩
  · exact ⟨[120], by decide +kernel, by simp, by unfold LowA; decide +kernel, by decide⟩
  · exact ⟨[105, 110], by decide +kernel, by simp, by unfold LowA; decide +kernel, by decide⟩
  · exact ⟨[111, 117, 116], by decide +kernel, by simp, by unfold LowA; decide +kernel, by decide⟩
theorem num_str {i : Nat} (h : i < 8) : (toString ((0 : Int) + (i : Nat)) : Str) = ofC (digs i) ∧ (∀ c ∈ digs i, (lowC c || digC c) = true) ∧ (digs i).length = 1 ∧ ((0 : Int) + (i : Nat)).natAbs.log2 < 1920 := by
  rw [Int.zero_add]
  refine ⟨ofC_eq (digs_str i (by omega)), fun c hc => ?_, ?_, ?_⟩
  · rw [List.all_eq_true.mp (digs_ok i (by omega)).1 c hc, Bool.or_true]
  · unfold digs
    rw [if_pos (by omega)]
    rfl
  · exact Nat.lt_of_le_of_lt (Nat.log2_le_self _) (by omega)
def spLabels : Sp := fun vs H Q _ => ∃ (b : Addr) (m n : Nat), vs = [.ref b, .int (m : Nat)] ∧ BoxAt b n H ∧ n < 900000 ∧ m ≤ 8 ∧
  ∀ (zs : List Str) (q : Addr) (H' : Hp), zs.length = m → (∀ z ∈ zs, nmB z = true) → Kp b H H' → BoxAt b (n + 12) H' → q ≠ b → H' q = some (.lst (zs.map V.str)) → Q (.ref q) H'
theorem ok_labels (T : Txt K mg a d) : FnG P w K mg base CX0 2 a.labels d.labels ["_law_box_here", "_law_many"] spLabels := by
  have G_take := ok_take (P := P) (w := w) (base := base) T
  refine okG T.F_labels scLabels (fun vs H Q E h => ?_) (fun cdv A outer s H vs Q E hr hg h => ?_)
  · obtain ⟨b, m, n, rfl, _⟩ := h
    rfl
  · obtain ⟨b, m, n, rfl, hB, hn, m8, q⟩ := h
    refine ⟨_, (pss_cons (ps_set (i := 2) scLabels.nd rfl (Or.inr rfl) pe_str)
      (pss_cons (ps_asg (pe_tup (pa_cons (Tp.pe_callG G_take (hr.mono (by decide)) hg (by rfl) T.mg_take T.F_take.kp T.b_take .nil pass0 (pa_cons (pv 0) (pa_cons pe_int pa_nil))) (pa_cons (Tp.pe_callG G_take (hr.mono (by decide)) hg (by rfl) T.mg_take T.F_take.kp T.b_take .nil pass0 (pa_cons (pv 0) (pa_cons pe_int pa_nil))) pa_nil))) (pg_tup (by rfl) (pgs_cons (pg_name (i := 3) scLabels.nd rfl (Or.inl rfl)) (pgs_cons (pg_name (i := 4) scLabels.nd rfl (Or.inr rfl)) pgs_nil))))
      (pss_cons (ps_if (pt_cmpR op_eq (pv 3) pe_int (nomark _)) (pss_one (ps_ret (pe_lc (own := [("_law_k", 7)]) (by rfl) scLabels.nd (pi_range1 (by rfl) T.range_ (pa_cons (pv 1) pa_nil)) (blkOk_by (own := [("_law_k", 7)]) (N := scLabels_N) (sc := defScope scLabels_st) (by decide +kernel)) (fun _ _ _ _ _ => (pg_name (i := 7) scLabels.nd rfl (Or.inl rfl))) (fun _ _ _ _ _ => pts_nil) (fun _ _ _ _ _ => (pe_ix ix_str (pv 2) (pe_op op_modN (pe_op op_add (pv 4) (pv 7)) pe_int) (fun _ _ => rfl)))))) pss_nil)
      (pss_cons (ps_if (pt_cmpR op_eq (pv 3) pe_int (nomark _)) (pss_one (ps_ret (pe_lc (own := [("_law_k", 7)]) (by rfl) scLabels.nd (pi_range1 (by rfl) T.range_ (pa_cons (pv 1) pa_nil)) (blkOk_by (own := [("_law_k", 7)]) (N := scLabels_N) (sc := defScope scLabels_st) (by decide +kernel)) (fun _ _ _ _ _ => (pg_name (i := 7) scLabels.nd rfl (Or.inl rfl))) (fun _ _ _ _ _ => pts_nil) (fun _ _ _ _ _ => (pe_op op_add_str (pe_ix (Tp.ix_listK (K := K) rfl) (pe_lst (pa_cons pe_str (pa_cons pe_str (pa_cons pe_str (pa_cons pe_str pa_nil))))) (pe_op op_modN (pv 4) pe_int) (fun _ _ => rfl)) (pe_callTy call_str_int (by rfl) T.str_ Tp.bt_str (pa_cons (pv 7) pa_nil))))))) pss_nil)
      (pss_cons (ps_set (i := 5) scLabels.nd rfl (Or.inr rfl) (pe_join pe_str (pe_lc (own := [("_law_k", 7)]) (by rfl) scLabels.nd (pi_range1 (by rfl) T.range_ (pa_cons pe_int pa_nil)) (blkOk_by (own := [("_law_k", 7)]) (N := scLabels_N) (sc := defScope scLabels_st) (by decide +kernel)) (fun _ _ _ _ _ => (pg_name (i := 7) scLabels.nd rfl (Or.inl rfl))) (fun _ _ _ _ _ => pts_nil) (fun _ _ _ _ _ => (pe_ix ix_str (pv 2) (Tp.pe_callG G_take (hr.mono (by decide)) hg (by rfl) T.mg_take T.F_take.kp T.b_take .nil pass0 (pa_cons (pv 0) (pa_cons pe_int pa_nil))) (fun _ _ => rfl))))))
      (pss_cons (ps_if (pt_cmpR op_eq (pv 3) pe_int (nomark _)) (pss_one (ps_ret (pe_lc (own := [("_law_k", 7)]) (by rfl) scLabels.nd (pi_range1 (by rfl) T.range_ (pa_cons (pv 1) pa_nil)) (blkOk_by (own := [("_law_k", 7)]) (N := scLabels_N) (sc := defScope scLabels_st) (by decide +kernel)) (fun _ _ _ _ _ => (pg_name (i := 7) scLabels.nd rfl (Or.inl rfl))) (fun _ _ _ _ _ => pts_nil) (fun _ _ _ _ _ => (pe_op op_add_str (pe_slice sl_str (pv 5) po_none (po_some (pe_op op_add pe_int (pe_op op_modN (pv 7) pe_int)))) (pe_callTy call_str_int (by rfl) T.str_ Tp.bt_str (pa_cons (pv 7) pa_nil))))))) pss_nil)
      (pss_cons (ps_set (i := 6) scLabels.nd rfl (Or.inr rfl) (Tp.pe_callG G_take (hr.mono (by decide)) hg (by rfl) T.mg_take T.F_take.kp T.b_take .nil pass0 (pa_cons (pv 0) (pa_cons pe_int pa_nil))))
      (pss_one (ps_ret (pe_lc (own := [("_law_k", 7)]) (by rfl) scLabels.nd (pi_range1 (by rfl) T.range_ (pa_cons (pv 1) pa_nil)) (blkOk_by (own := [("_law_k", 7)]) (N := scLabels_N) (sc := defScope scLabels_st) (by decide +kernel)) (fun _ _ _ _ _ => (pg_name (i := 7) scLabels.nd rfl (Or.inl rfl))) (fun _ _ _ _ _ => pts_nil) (fun _ _ _ _ _ => (pe_op op_add_str (pe_op op_add_str (pe_slice sl_str (pv 5) po_none (po_some (pv 6))) (pe_ix ix_str (pv 2) (pe_op op_modN (pe_op op_add (pv 4) (pv 7)) pe_int) (fun _ _ => rfl))) (pe_slice sl_str (pv 5) (po_some (pe_op op_add (pv 6) pe_int)) po_none))))))))))))), ?_⟩
    refine ⟨_, rfl, b, 4, n, rfl, hB, by omega, by decide, by decide, fun r1 H1 a1 b1 k1 B1 => ?_⟩
    refine ⟨_, rfl, b, 26, _, rfl, B1, by omega, by decide, by decide, fun r2 H2 a2 b2 k2 B2 => ?_⟩
    refine ⟨(show 2 ≤ sizeLine from by decide), fun t ht => ?_⟩
    have k3 := (k1.trans k2).trans (Kp.new (o := .tup [.int r1, .int r2]) (b := b) ht)
    have B3 := B2.same (same_new (o := .tup [.int r1, .int r2]) ht)
    have g3 : (upd H2 t (.tup [.int r1, .int r2])) t = some (.tup [.int r1, .int r2]) := upd_same
    generalize upd H2 t (.tup [.int r1, .int r2]) = H3 at k3 B3 g3 ⊢
    refine ⟨t, _, rfl, SqT.of g3, rfl, _, _, rfl, _, _, rfl, rfl, ?_⟩
    clear k1 B1 k2 B2 g3 ht
    have fin2 : ∀ {H3 H4 : Hp} {D : Addr} {i : Nat} {z : Str}, H3 D = none → i < m → nmB z = true → (Same H3 H4 ∧ ∃ zs : List Str, H4 D = some (.lst (zs.map V.str)) ∧ zs.length = i ∧ ∀ z ∈ zs, nmB z = true) →
        ∃ acc, H4 D = some (.lst acc) ∧ acc.length < sizeLine ∧ Same H3 (upd H4 D (.lst (acc ++ [V.str z]))) ∧ ∃ zs : List Str, (upd H4 D (.lst (acc ++ [V.str z]))) D = some (.lst (zs.map V.str)) ∧ zs.length = i + 1 ∧ ∀ z ∈ zs, nmB z = true := by
      rintro H3 H4 D i z hD hi hz ⟨S, zs, g, l, ok⟩
      refine ⟨_, g, ?_, Tp.Same.mut S hD, zs ++ [z], ?_, by rw [List.length_append, l]; rfl, fun y hy => ?_⟩
      · rw [List.length_map]
        exact Nat.lt_of_lt_of_le (show zs.length < 8 by omega) (by decide)
      · rw [upd_same, List.map_append]
        rfl
      · rcases List.mem_append.mp hy with hy | hy
        · exact ok y hy
        · rw [List.mem_singleton.mp hy]
          exact hz
    have fin := @fin2 H3
    have sp26 : ∀ i : Nat, ∃ c, atI ("abcdefghijklmnopqrstuvwxyz" : Str).cps.toList ((r2 + (0 + (i : Nat))).fmod 26) = some c ∧ lowC c = true := fun i => by
      refine let26 ?_ ?_
      · rw [Int.fmod_eq_emod_of_nonneg _ (by decide)]
        exact Int.emod_nonneg _ (by decide)
      · rw [Int.fmod_eq_emod_of_nonneg _ (by decide)]
        exact Int.emod_lt_of_pos _ (by decide)
    refine ⟨_, rfl, rfl, _, rfl, if2 (fun _ => ?_) (fun _ => ?_)⟩
    · refine ⟨_, rfl, m, rfl, by omega, by omega, fun D hD => lc_range (lo := 0) (n := m) (fun i H' => Same H3 H' ∧ ∃ zs : List Str, H' D = some (.lst (zs.map V.str)) ∧ zs.length = i ∧ ∀ z ∈ zs, nmB z = true) ⟨same_new hD, [], upd_same, rfl, (by simp)⟩ ?_ ?_⟩
      · rintro i H4 hi x
        obtain ⟨c, hc, lc⟩ := sp26 i
        refine ⟨rfl, _, rfl, _, rfl, _, rfl, _, _, rfl, rfl, _, _, rfl, rfl, (show (_ : Int) ≠ 0 from by decide), _, _, c, rfl, rfl, by decide, hc, ?_⟩
        exact fin hD hi (nm_ofC (l := [c]) (e := []) (by simp) (fun x hx => by rw [List.mem_singleton.mp hx]; exact lc) (by simp) (Nat.le_of_ble_eq_true rfl)) x
      · rintro H4 ⟨S, zs, g, l, ok⟩
        exact q zs D H4 l ok (fun z o n h => S _ _ (k3 _ _ n h)) ((B3.same S).up (by omega)) (B3.ne hD) g
    refine ⟨_, rfl, rfl, _, rfl, if2 (fun _ => ?_) (fun _ => ?_)⟩
    · refine ⟨_, rfl, m, rfl, by omega, by omega, fun D hD => lc_range (lo := 0) (n := m) (fun i H' => Same H3 H' ∧ ∃ zs : List Str, H' D = some (.lst (zs.map V.str)) ∧ zs.length = i ∧ ∀ z ∈ zs, nmB z = true) ⟨same_new hD, [], upd_same, rfl, (by simp)⟩ ?_ ?_⟩
      · rintro i H4 hi x
        refine ⟨rfl, (show 4 ≤ sizeLine from by decide), fun l hl => ?_⟩
        have S5 : Same H4 (upd H4 l (.lst [V.str "g", V.str "x", V.str "in", V.str "out"])) := same_new hl
        have g5 : (upd H4 l (.lst [V.str "g", V.str "x", V.str "in", V.str "out"])) l = some (.lst [V.str "g", V.str "x", V.str "in", V.str "out"]) := upd_same
        generalize upd H4 l (.lst [V.str "g", V.str "x", V.str "in", V.str "out"]) = H5 at S5 g5 ⊢
        have h0 : (0 : Int) ≤ r2.fmod 4 := by
          rw [Int.fmod_eq_emod_of_nonneg _ (by decide)]
          exact Int.emod_nonneg _ (by decide)
        have h1 : r2.fmod 4 < 4 := by
          rw [Int.fmod_eq_emod_of_nonneg _ (by decide)]
          exact Int.emod_lt_of_pos _ (by decide)
        obtain ⟨v, hv, z, rfl, c, rfl, n1, n2, n3⟩ := at_some (xs := [("g" : Str), "x", "in", "out"].map V.str) (r := r2.fmod 4) (P := fun v => ∃ z, v = V.str z ∧ ∃ l, z = ofC l ∧ l ≠ [] ∧ LowA l ∧ l.length ≤ 3) (fun x hx => by
          obtain ⟨z, hz, rfl⟩ := List.mem_map.mp hx
          exact ⟨z, rfl, pre4 z hz⟩) h0 h1
        obtain ⟨e1, e2, e3, e4⟩ := num_str (i := i) (by omega)
        refine ⟨_, rfl, _, _, rfl, rfl, (show (_ : Int) ≠ 0 from by decide), l, _, _, _, rfl, rfl, SqL.of g5, hv, _, rfl, _, rfl, e4, ?_⟩
        rw [e1]
        refine ⟨_, _, rfl, rfl, ?_, ?_⟩
        · rw [ofC_len, ofC_len, e3]
          exact Nat.le_trans (show _ ≤ 8 by omega) (by decide)
        · rw [ofC_app]
          obtain ⟨S, zs, g, x⟩ := x
          exact fin hD hi (nm_ofC n1 n2 e2 (by omega)) ⟨S.trans S5, zs, S5 _ _ g, x⟩
      · rintro H4 ⟨S, zs, g, l, ok⟩
        exact q zs D H4 l ok (fun z o n h => S _ _ (k3 _ _ n h)) ((B3.same S).up (by omega)) (B3.ne hD) g
    refine ⟨⟨_, rfl⟩, 7, rfl, by decide, by decide, fun D hD => lc_range (lo := 0) (n := 7) (fun i H' => BoxAt b (n + 2 + i) H' ∧ Kp b H3 H' ∧ ∃ cs : List Nat, H' D = some (.lst ((cs.map one).map V.str)) ∧ cs.length = i ∧ LowA cs)
        ⟨B3.same (same_new hD), Kp.new hD, [], upd_same, rfl, (fun c hc => by cases hc)⟩ ?_ ?_⟩
    · rintro i H4 hi ⟨B4, k4, cs, hy, ly, l1⟩
      have nDb : D ≠ b := B3.ne hD
      refine ⟨rfl, _, rfl, _, rfl, b, 26, _, rfl, B4, by omega, by decide, by decide, fun r H5 a5 b5 k5 B5 => ?_⟩
      obtain ⟨e, he, se⟩ := let26 a5 b5
      refine ⟨_, _, e, rfl, rfl, by decide, he, _, k5 _ _ nDb hy, ?_, B5.off nDb, (k4.trans k5).mut hD, cs ++ [e], ?_, by rw [List.length_append, ly]; rfl, fun y hy => ?_⟩
      · rw [List.length_map, List.length_map]
        exact Nat.lt_of_lt_of_le (show cs.length < 100 by omega) (by decide)
      · rw [upd_same, List.map_append, List.map_append]
        rfl
      · rcases List.mem_append.mp hy with hy | hy
        · exact l1 y hy
        · rw [List.mem_singleton.mp hy]
          exact se
    · rintro H4 ⟨B4, k4, cs, hy, ly, l1⟩
      refine ⟨_, D, cs.map one, rfl, rfl, .inl (SqL.of hy), ?_, ?_⟩
      · have sl := sum_len (ys := cs.map one) (m := 1) (fun y hy => by
          obtain ⟨c, _, rfl⟩ := List.mem_map.mp hy
          exact Nat.le_refl 1)
        have e0 : ("" : Str).length = 0 := by decide
        have l0 : (cs.map one).length = cs.length := List.length_map _
        rw [e0]
        omega
      rw [join_one]
      refine ⟨_, rfl, rfl, _, rfl, if2 (fun _ => ?_) (fun _ => ?_)⟩
      · refine ⟨_, rfl, m, rfl, by omega, by omega, fun D hD => lc_range (lo := 0) (n := m) (fun i H' => Same H4 H' ∧ ∃ zs : List Str, H' D = some (.lst (zs.map V.str)) ∧ zs.length = i ∧ ∀ z ∈ zs, nmB z = true) ⟨same_new hD, [], upd_same, rfl, (by simp)⟩ ?_ ?_⟩
        · rintro i H5 hi x
          obtain ⟨e1, e2, e3, e4⟩ := num_str (i := i) (by omega)
          have e7 : (1 : Int) + ((0 : Int) + (i : Nat)).fmod 7 = ((1 + i % 7 : Nat) : Int) := by
            rw [Int.fmod_eq_emod_of_nonneg _ (by decide)]
            omega
          refine ⟨rfl, _, rfl, _, rfl, _, _, rfl, rfl, (show (_ : Int) ≠ 0 from by decide), _, _, rfl, rfl, _, rfl, _, rfl, (by rw [ofC_len, ly]; decide), ?_⟩
          rw [e7, cut_pre]
          refine ⟨_, rfl, _, rfl, e4, ?_⟩
          rw [e1]
          have lt : (cs.take (1 + i % 7)).length = min (1 + i % 7) 7 := by rw [List.length_take, ly]
          refine ⟨_, _, rfl, rfl, ?_, ?_⟩
          · rw [ofC_len, ofC_len, e3, lt]
            exact Nat.le_trans (show _ ≤ 8 by omega) (by decide)
          · rw [ofC_app]
            refine fin2 hD hi (nm_ofC (fun z => ?_) (fun c hc => l1 c (List.mem_of_mem_take hc)) e2 (by omega)) x
            have := congrArg List.length z
            rw [lt, List.length_nil] at this
            omega
        · rintro H5 ⟨S, zs, g, l, ok⟩
          exact q zs D H5 l ok (fun z o n h => S _ _ (k4 _ _ n (k3 _ _ n h))) ((B4.same S).up (by omega)) (B4.ne hD) g
      · refine ⟨_, rfl, b, 7, _, rfl, B4, by omega, by decide, by decide, fun r6 H6 a6 b6 k6 B6 => ?_⟩
        obtain ⟨j, rfl⟩ := Int.eq_ofNat_of_zero_le a6
        refine ⟨_, rfl, m, rfl, by omega, by omega, fun D hD => lc_range (lo := 0) (n := m) (fun i H' => Same H6 H' ∧ ∃ zs : List Str, H' D = some (.lst (zs.map V.str)) ∧ zs.length = i ∧ ∀ z ∈ zs, nmB z = true) ⟨same_new hD, [], upd_same, rfl, (by simp)⟩ ?_ ?_⟩
        · rintro i H5 hi x
          obtain ⟨c, hc, lc⟩ := sp26 i
          refine ⟨rfl, _, rfl, _, rfl, _, rfl, _, rfl, (by rw [ofC_len, ly]; decide), ?_⟩
          rw [cut_pre]
          have lt : (cs.take j).length = j := by rw [List.length_take, ly]; omega
          refine ⟨_, rfl, _, rfl, _, rfl, _, _, rfl, rfl, _, _, rfl, rfl, (show (_ : Int) ≠ 0 from by decide), _, _, c, rfl, rfl, by decide, hc, _, _, rfl, rfl, ?_, ?_⟩
          · rw [ofC_len, lt]
            exact Nat.le_trans (show _ ≤ 8 from Nat.add_le_add (show j ≤ 7 by omega) (Nat.le_refl 1)) (by decide)
          rw [show ofC (cs.take j) ++ (⟨#[c]⟩ : Str) = ofC (cs.take j ++ [c]) from ofC_app _ [c]]
          refine ⟨_, rfl, _, rfl, _, _, rfl, rfl, _, rfl, _, rfl, (by rw [ofC_len, ly]; decide), ?_⟩
          rw [show ((j : Nat) : Int) + 1 = ((j + 1 : Nat) : Int) from rfl, cut_suf]
          have ld : (cs.drop (j + 1)).length = 7 - (j + 1) := by rw [List.length_drop, ly]
          refine ⟨_, _, rfl, rfl, ?_, ?_⟩
          · rw [ofC_len, ofC_len, ld, List.length_append, lt]
            exact Nat.le_trans (show _ ≤ 8 by simp; omega) (by decide)
          · rw [ofC_app]
            refine fin2 hD hi (nm_ofC (by simp) (fun c' hc' => ?_) (fun c' hc' => ?_) (by rw [List.length_append, lt, ld]; simp; omega)) x
            · rcases List.mem_append.mp hc' with h | h
              · exact l1 c' (List.mem_of_mem_take h)
              · rw [List.mem_singleton.mp h]
                exact lc
            · rw [l1 c' (List.mem_of_mem_drop hc')]
              rfl
        · rintro H5 ⟨S, zs, g, l, ok⟩
          exact q zs D H5 l ok (fun z o n h => S _ _ (k6 _ _ n (k4 _ _ n (k3 _ _ n h)))) ((B6.same S).up (by omega)) (B6.ne hD) g
end
end L58
set_option Elab.async false
set_option linter.all false
set_option maxRecDepth 100000
set_option maxHeartbeats 4000000
set_option pp.deepTerms false
set_option pp.deepTerms.threshold 4
set_option pp.maxSteps 1000
namespace L58
open PySem L2 Tp
section
variable {P : Program} {w : World} {K : PySem.W.Frag} {mg : Str → Option Value} {base : Heap} {a : Ad} {d : Fd}
theorem eqv_ints : ∀ ns ms : List Int, PyData.eqvAll (ns.map .int) (ms.map .int) = decide (ns = ms)
  | [], [] => rfl
  | [], _ :: _ => rfl
  | _ :: _, [] => rfl
  | n :: ns, m :: ms => by
    show (PyData.eqv (.int n) (.int m) && PyData.eqvAll (ns.map .int) (ms.map .int)) = _
    rw [eqv_ints ns ms]
    show ((n == m) && _) = _
    by_cases h : n = m
    · subst h
      by_cases k : ns = ms
      · subst k
        simp
      · simp [k]
    · simp [h]
theorem eqv_intL (ns ms : List Int) : PyData.eqv (.list (ns.map .int)) (.list (ms.map .int)) = decide (ns = ms) := eqv_ints ns ms
theorem dp_ints {H : Hp} : ∀ (ns : List Int), DpAll K H (ns.map V.int) (ns.map PyData.int)
  | [] => .nil
  | n :: ns => .cons (.int n) (dp_ints ns)
theorem sh_ints (ns : List Int) : SeqAt.shaped (.list (ns.map PyData.int)) = true := ShN.shaped (n := 1) (ShN.lst (n := 0) fun x hx => by
  obtain ⟨i, _, rfl⟩ := List.mem_map.mp hx
  exact ShN.int i) (by decide)
theorem lookO_app (A B : List (List Int × Int)) (ns : List Int) : lookO (A ++ B) ns = match lookO A ns with | some i => some i | none => lookO B ns := by
  induction A with
  | nil => rfl
  | cons x A ih =>
    show (if x.1 = ns then some x.2 else lookO (A ++ B) ns) = match (if x.1 = ns then some x.2 else lookO A ns) with | some i => some i | none => _
    by_cases h : x.1 = ns
    · rw [if_pos h, if_pos h]
    · rw [if_neg h, if_neg h]
      exact ih
theorem rIx_seqO {H : Hp} {c : Bool} {p : Addr} {xs : List V} {i : Int} {u : V} {Q : VK} (h : H p = some (seqO c xs)) (hu : atI xs i = some u) (q : Q u H) : rIx K (.ref p) (.int i) H Q := by
  cases c
  · exact .inl ⟨p, _, i, u, rfl, rfl, SqL.of h, hu, q⟩
  · exact .inr (.inl ⟨p, _, i, u, rfl, rfl, SqT.of h, hu, q⟩)
theorem seqO_or {H : Hp} {c : Bool} {p : Addr} {xs : List V} (h : H p = some (seqO c xs)) : SqL K H p xs ∨ SqT K H p xs := by
  cases c
  · exact .inl (SqL.of h)
  · exact .inr (SqT.of h)
def spLooked : Sp := fun vs H Q _ => ∃ (v : V) (q : Addr) (R : List (List Int × Int)) (ns : List Int), vs = [v, .ref q] ∧ TabH H R v ∧ H q = some (.lst (ns.map V.int)) ∧ ∀ H', Same H H' → Q (.int (look R ns)) H'
theorem ok_looked (T : Txt K mg a d) : FnG P w K mg base CX0 1 a.looked d.looked ["_law_table_here", "_law_items"] spLooked := by
  refine okG T.F_looked scLooked (fun vs H Q E h => ?_) (fun cdv A outer s H vs Q E hr hg h => ?_)
  · obtain ⟨v, q, R, ns, rfl, _⟩ := h
    rfl
  · obtain ⟨v, p, R, ns, rfl, ⟨t, c, rs, rfl, ht, pr⟩, hp, q⟩ := h
    refine ⟨_, (pss_cons (ps_for PassesOwn.never rfl (Tp.pi_B (K := K) rfl (pv 0)) (pg_name (i := 2) scLooked.nd rfl (Or.inl rfl)) (pss_one (ps_if (pt_cmpR (op_eqD hr.units) (pe_callTy call_list_of (by rfl) T.list_ Tp.bt_list (pa_cons (pe_ix ix_seq (pv 2) pe_int (fun _ _ => rfl)) pa_nil)) (pv 1) (nomark _)) (pss_one (ps_ret (pe_ix ix_seq (pv 2) pe_int (fun _ _ => rfl)))) pss_nil)))
      (pss_one (ps_ret pe_int))), ?_⟩
    refine ⟨_, rfl, c, t, rs, rfl, seqO_B ht, for_it (walk_B (xs := rs)) (fun j σ H' => Same H H' ∧ lookO (R.take j) ns = none ∧ ∃ v2, σ = [some (.ref t), some (.ref p), v2]) ⟨Same.refl _, rfl, none, rfl⟩ ?_ ?_ ?_⟩
    · rintro j σ H' _ ⟨S, _⟩
      exact seqO_B (S _ _ ht)
    · rintro j u σ _ H1 hj ⟨S, lk, v2, rfl⟩ ⟨rfl, hu⟩
      obtain ⟨r, hr', x, y, c1, c2, rfl, hx, hy⟩ := paired_rev pr hu
      refine ⟨_, rfl, rIx_seqO (S _ _ hx) (u := .ref y) (atI_nat (j := 0) rfl) ⟨y, _, rfl, seqO_or (S _ _ hy), fun l hl => ⟨_, rfl, .list (r.1.map PyData.int), .list (ns.map PyData.int), .lst (SqL.of upd_same) (dp_ints _), .lst (SqL.of ((S.trans (same_new hl)) _ _ hp)) (dp_ints _), sh_ints _, sh_ints _, ?_⟩⟩⟩
      rw [eqv_intL]
      refine ⟨_, rfl, if2 (fun e => ?_) (fun e => ?_)⟩
      · refine ⟨_, rfl, rIx_seqO ((S.trans (same_new hl)) _ _ hx) (u := .int r.2) (atI_nat (j := 1) rfl) ?_⟩
        have er : R = R.take j ++ r :: R.drop (j + 1) := by
          have := (List.take_append_drop j R).symm
          rw [List.drop_eq_getElem_cons (List.getElem?_eq_some_iff.mp hr').1, (List.getElem?_eq_some_iff.mp hr').2] at this
          exact this
        have el : look R ns = r.2 := by
          unfold look
          rw [er, lookO_app, lk]
          show (if r.1 = ns then some r.2 else _).getD 0 = r.2
          rw [if_pos e]
          rfl
        rw [← el]
        exact q _ (S.trans (same_new hl))
      · refine ⟨S.trans (same_new hl), ?_, _, rfl⟩
        rw [List.take_add_one, hr']
        show lookO (R.take j ++ [r]) ns = none
        rw [lookO_snoc, lk]
        exact if_neg e
    · rintro σ H1 ⟨S, lk, v2, rfl⟩
      have ll : rs.length = R.length := (Paired.length pr).symm
      rw [ll, List.take_length] at lk
      have el : look R ns = 0 := by
        unfold look
        rw [lk]
        rfl
      rw [← el]
      exact q _ S
def RowF (H H' : Hp) (r : List Int × Int) (v : V) : Prop := ∃ p q c c', v = .ref p ∧ H p = none ∧ H q = none ∧ H' p = some (seqO c [.ref q, .int r.2]) ∧ H' q = some (seqO c' (r.1.map V.int))
def RowN (r : List Int × Int) : Prop := r.1.length ≤ 3 ∧ (∀ x ∈ r.1, x.natAbs ≤ 10 ^ 9) ∧ r.2.natAbs ≤ 10 ^ 9
theorem RowF.row {H H' : Hp} {r : List Int × Int} {v : V} (h : RowF H H' r v) : RowH H' r v := let ⟨p, q, c, c', e, _, _, h1, h2⟩ := h; ⟨p, q, c, c', e, h1, h2⟩
theorem kp_none {b z : Addr} {n : Nat} {H H' : Hp} (k : Kp b H H') (B : BoxAt b n H') (h : H' z = none) : H z = none := by
  cases e : H z with
  | none => rfl
  | some o => rw [k z o (B.ne h) e] at h; cases h
theorem RowF.kp {b : Addr} {n : Nat} {H H1 H2 : Hp} {r : List Int × Int} {v : V} (h : RowF H H1 r v) (B : BoxAt b n H) (k : Kp b H1 H2) : RowF H H2 r v := by
  obtain ⟨p, q, c, c', e, h1, h2, h3, h4⟩ := h
  exact ⟨p, q, c, c', e, h1, h2, k _ _ (B.ne h1) h3, k _ _ (B.ne h2) h4⟩
def spTable : Sp := fun vs H Q _ => ∃ (b : Addr) (n : Nat), vs = [.ref b] ∧ BoxAt b n H ∧ n < 900000 ∧
  ∀ (R : List (List Int × Int)) (t : Addr) (rs : List V) (H' : Hp), H' t = some (.lst rs) → Paired (RowF H H') R rs → R.length ≤ 8 → (∀ r ∈ R, RowN r) → Kp b H H' → BoxAt b (n + 200) H' → H t = none → Q (.ref t) H'
theorem ok_table (T : Txt K mg a d) : FnG P w K mg base CX0 2 a.table d.table ["_law_box_here"] spTable := by
  have G_take := ok_take (P := P) (w := w) (base := base) T
  refine okG T.F_table scTable (fun vs H Q E h => ?_) (fun cdv A outer s H vs Q E hr hg h => ?_)
  · obtain ⟨b, n, rfl, _⟩ := h
    rfl
  · obtain ⟨b, n, rfl, hB, hn, q⟩ := h
    refine ⟨_, (pss_cons (ps_set (i := 1) scTable.nd rfl (Or.inl rfl) (pe_lst pa_nil))
      (pss_cons (ps_for PassesOwn.never rfl (pi_range1 (by rfl) T.range_ (pa_cons (Tp.pe_callG G_take (hr.mono (by decide)) hg (by rfl) T.mg_take T.F_take.kp T.b_take .nil pass0 (pa_cons (pv 0) (pa_cons pe_int pa_nil))) pa_nil)) (pg_name (i := 2) scTable.nd rfl (Or.inl rfl)) (pss_cons (ps_setLc (i := 3) (own := [("_law_j", 5)]) (by rfl) scTable.nd rfl rfl (sw_true rfl rfl rfl (by decide +kernel)) (pi_range1 (by rfl) T.range_ (pa_cons (Tp.pe_callG G_take (hr.mono (by decide)) hg (by rfl) T.mg_take T.F_take.kp T.b_take .nil pass0 (pa_cons (pv 0) (pa_cons pe_int pa_nil))) pa_nil)) (blkOk_by (own := [("_law_j", 5)]) (N := scTable_N) (sc := defScope scTable_st) (by decide +kernel)) (fun _ _ _ _ _ => (pg_name (i := 5) scTable.nd rfl (Or.inl rfl))) (fun _ _ _ _ _ => pts_nil) (fun _ _ _ _ _ => (pe_ix (Tp.ix_listK (K := K) rfl) (pe_lst (pa_cons (Tp.pe_callG G_take (hr.mono (by decide)) hg (by rfl) T.mg_take T.F_take.kp T.b_take .nil pass0 (pa_cons (pv 0) (pa_cons pe_int pa_nil))) (pa_cons (pe_op op_sub pe_int (Tp.pe_callG G_take (hr.mono (by decide)) hg (by rfl) T.mg_take T.F_take.kp T.b_take .nil pass0 (pa_cons (pv 0) (pa_cons (pe_op op_pow pe_int pe_int) pa_nil)))) pa_nil))) (Tp.pe_callG G_take (hr.mono (by decide)) hg (by rfl) T.mg_take T.F_take.kp T.b_take .nil pass0 (pa_cons (pv 0) (pa_cons pe_int pa_nil))) (fun _ _ => rfl))))
      (pss_cons (ps_set (i := 4) scTable.nd rfl (Or.inl rfl) (pe_op op_sub (Tp.pe_callG G_take (hr.mono (by decide)) hg (by rfl) T.mg_take T.F_take.kp T.b_take .nil pass0 (pa_cons (pv 0) (pa_cons (pe_op op_pow pe_int pe_int) pa_nil))) (pe_op op_pow pe_int pe_int)))
      (pss_one (ps_expr (pe_bm PySem.F.plainAttrs_list PySem.F.slot_list_append PySem.F.type_list_append mt_append (pv 1) (pa_cons (pe_ix ix_list (pe_lst (pa_cons (pe_tup (pa_cons (pe_callTy call_tuple_of (by rfl) T.tuple_ Tp.bt_tuple (pa_cons (pv 3) pa_nil)) (pa_cons (pv 4) pa_nil))) (pa_cons (pe_tup (pa_cons (pv 3) (pa_cons (pv 4) pa_nil))) (pa_cons (pe_lst (pa_cons (pv 3) (pa_cons (pv 4) pa_nil))) pa_nil)))) (Tp.pe_callG G_take (hr.mono (by decide)) hg (by rfl) T.mg_take T.F_take.kp T.b_take .nil pass0 (pa_cons (pv 0) (pa_cons pe_int pa_nil))) (fun _ _ => rfl)) pa_nil)))))))
      (pss_one (ps_ret (pv 1))))), ?_⟩
    refine ⟨Nat.zero_le _, fun F hF => ?_⟩
    have nFb : F ≠ b := hB.ne hF
    have k1 : Kp b H (upd H F (.lst [])) := Kp.new hF
    have B1 : BoxAt b n (upd H F (.lst [])) := hB.same (same_new hF)
    have g1 : (upd H F (.lst [])) F = some (.lst []) := upd_same
    obtain ⟨HF, eHF⟩ : ∃ HF, HF = upd H F (.lst []) := ⟨_, rfl⟩
    have nHF : ∀ {z : Addr}, H z = none → z ≠ F → HF z = none := fun {z} h n => by rw [eHF, upd_ne n]; exact h
    have xHF : ∀ {z : Addr}, HF z = none → z ≠ F ∧ H z = none := fun {z} h => by
      have n : z ≠ F := fun e => by rw [eHF, e, upd_same] at h; cases h
      rw [eHF, upd_ne n] at h
      exact ⟨n, h⟩
    generalize upd H F (.lst []) = H1 at k1 B1 g1 ⊢
    refine ⟨_, rfl, b, 9, n, rfl, B1, by omega, by decide, by decide, fun r2 H2 a2 b2 k2 B2 => ?_⟩
    refine ⟨r2, rfl, by omega, by omega, for_range (lo := 0) (n := r2.toNat) (fun i σ H' => (Kp b H H' ∧ BoxAt b (n + 1 + 16 * i) H' ∧ ∃ R rs, H' F = some (.lst rs) ∧ Paired (RowF HF H') R rs ∧ R.length = i ∧ ∀ r ∈ R, RowN r) ∧ ∃ v2 v3 v4 v5, σ = [some (.ref b), some (.ref F), v2, v3, v4, v5])
      ⟨⟨k1.trans k2, B2, [], [], k2 _ _ nFb g1, .nil, rfl, (by simp)⟩, none, none, none, none, rfl⟩ ?_ ?_⟩
    · rintro i σ H3 hi ⟨⟨k3, B3, R, rs, gF, pr, lR, okR⟩, v2, v3, v4, v5, rfl⟩
      have i9 : i < 9 := by omega
      refine ⟨_, rfl, b, 4, _, rfl, B3, by omega, by decide, by decide, fun r4 H4 a4 b4 k4 B4 => ?_⟩
      refine ⟨r4, rfl, by omega, by omega, fun D hD => lc_range (lo := 0) (n := r4.toNat) (fun j H' => BoxAt b (n + 2 + 16 * i + 3 * j) H' ∧ Kp b H4 H' ∧ ∃ ns : List Int, H' D = some (.lst (ns.map V.int)) ∧ ns.length = j ∧ ∀ x ∈ ns, x.natAbs ≤ 10 ^ 9)
        ⟨B4.same (same_new hD) |>.up (by omega), Kp.new hD, [], upd_same, rfl, (by simp)⟩ ?_ ?_⟩
      · rintro j H5 hj ⟨B5, k5, ns, gD, ln, okn⟩
        have nDb : D ≠ b := B4.ne hD
        have j4 : j < 4 := by omega
        refine ⟨rfl, _, rfl, b, 4, _, rfl, B5, by omega, by decide, by decide, fun ra Ha aa ba ka Ba => ?_⟩
        refine ⟨_, rfl, _, _, rfl, rfl, ⟨by decide, by decide, by decide⟩, b, _, _, rfl, Ba, by omega, by decide, by decide, fun rb Hb ab bb kb Bb => ?_⟩
        refine ⟨_, _, rfl, rfl, (show 2 ≤ sizeLine from by decide), fun l hl => ?_⟩
        have kl : Kp b Hb (upd Hb l (.lst [V.int ra, V.int (0 - rb)])) := Kp.new hl
        have Bl : BoxAt b _ (upd Hb l (.lst [V.int ra, V.int (0 - rb)])) := Bb.same (same_new hl)
        have gl : (upd Hb l (.lst [V.int ra, V.int (0 - rb)])) l = some (.lst [V.int ra, V.int (0 - rb)]) := upd_same
        have nlb := Bb.ne hl
        refine ⟨_, rfl, b, 2, _, rfl, Bl, by omega, by decide, by decide, fun rc Hc ac bc kc Bc => ?_⟩
        have bb' : rb < 1000000000 := bb
        obtain ⟨v, hv, x, rfl, okx⟩ := at_some (xs := [V.int ra, V.int (0 - rb)]) (r := rc) (P := fun v => ∃ x : Int, v = V.int x ∧ x.natAbs ≤ 10 ^ 9) (fun v hv => by
          rcases List.mem_cons.mp hv with rfl | hv
          · exact ⟨_, rfl, by omega⟩
          · rw [List.mem_singleton.mp hv]
            exact ⟨_, rfl, by omega⟩) ac bc
        have kk : Kp b H5 Hc := ((ka.trans kb).trans kl).trans kc
        refine ⟨l, _, rc, _, rfl, rfl, SqL.of (kc _ _ nlb gl), hv, _, kk _ _ nDb gD, ?_, Bc.off nDb |>.up (by omega), (k5.trans kk).mut hD, ns ++ [x], ?_, by rw [List.length_append, ln]; rfl, fun y hy => ?_⟩
        · rw [List.length_map, ln]
          exact Nat.lt_of_lt_of_le (show j < 4 by omega) (by decide)
        · rw [upd_same, List.map_append]
          rfl
        · rcases List.mem_append.mp hy with hy | hy
          · exact okn y hy
          · rw [List.mem_singleton.mp hy]
            exact okx
      · rintro H5 ⟨B5, k5, ns, gD, ln, okn⟩
        have ln3 : ns.length ≤ 3 := by omega
        have nDb : D ≠ b := B4.ne hD
        have kH4 := k3.trans k4
        have hD0 : H D = none := kp_none kH4 B4 hD
        refine ⟨_, rfl, _, _, rfl, rfl, ⟨by decide, by decide, by decide⟩, b, _, _, rfl, B5, by omega, by decide, by decide, fun r6 H6 a6 b6 k6 B6 => ?_⟩
        refine ⟨_, _, rfl, rfl, ⟨by decide, by decide, by decide⟩, _, _, rfl, rfl, ?_⟩
        have b6' : r6 < 1000000000 := b6
        have gD6 := k6 _ _ nDb gD
        have kH6 := (kH4.trans k5).trans k6
        show gName 4 (V.int (r6 - (10 : Int) ^ (Int.toNat 8))) _ H6 _
        have okW : (r6 - (10 : Int) ^ (Int.toNat 8)).natAbs ≤ 10 ^ 9 := by
          have : (10 : Int) ^ (Int.toNat 8) = 100000000 := by decide
          rw [this]
          omega
        generalize r6 - (10 : Int) ^ (Int.toNat 8) = W at okW ⊢
        have gF6 := k6 _ _ nFb (k5 _ _ nFb (k4 _ _ nFb gF))
        refine ⟨_, rfl, .inl ⟨rfl, _, SqL.of gF6⟩, ?_⟩
        refine ⟨_, rfl, D, ns.map V.int, rfl, .inl ⟨SqL.of gD6, fun l1 hl1 => ?_⟩⟩
        have S7 := same_new (o := .tup (ns.map V.int)) hl1
        have g7 : (upd H6 l1 (.tup (ns.map V.int))) l1 = some (.tup (ns.map V.int)) := upd_same
        generalize upd H6 l1 (.tup (ns.map V.int)) = H7 at S7 g7 ⊢
        refine ⟨_, rfl, (show 2 ≤ sizeLine from by decide), fun l2 hl2 => ?_⟩
        have S8 := same_new (o := .tup [V.ref l1, V.int W]) hl2
        have g8 : (upd H7 l2 (.tup [V.ref l1, V.int W])) l2 = some (.tup [V.ref l1, V.int W]) := upd_same
        generalize upd H7 l2 (.tup [V.ref l1, V.int W]) = H8 at S8 g8 ⊢
        refine ⟨_, rfl, _, rfl, (show 2 ≤ sizeLine from by decide), fun l3 hl3 => ?_⟩
        have S9 := same_new (o := .tup [V.ref D, V.int W]) hl3
        have g9 : (upd H8 l3 (.tup [V.ref D, V.int W])) l3 = some (.tup [V.ref D, V.int W]) := upd_same
        generalize upd H8 l3 (.tup [V.ref D, V.int W]) = H9 at S9 g9 ⊢
        refine ⟨_, rfl, _, rfl, (show 2 ≤ sizeLine from by decide), fun l4 hl4 => ?_⟩
        have S10 := same_new (o := .lst [V.ref D, V.int W]) hl4
        have g10 : (upd H9 l4 (.lst [V.ref D, V.int W])) l4 = some (.lst [V.ref D, V.int W]) := upd_same
        generalize upd H9 l4 (.lst [V.ref D, V.int W]) = H10 at S10 g10 ⊢
        refine ⟨(show 3 ≤ sizeLine from by decide), fun l5 hl5 => ?_⟩
        have S11 := same_new (o := .lst [V.ref l2, V.ref l3, V.ref l4]) hl5
        have g11 : (upd H10 l5 (.lst [V.ref l2, V.ref l3, V.ref l4])) l5 = some (.lst [V.ref l2, V.ref l3, V.ref l4]) := upd_same
        generalize upd H10 l5 (.lst [V.ref l2, V.ref l3, V.ref l4]) = H11 at S11 g11 ⊢
        have S6e : Same H6 H11 := (((S7.trans S8).trans S9).trans S10).trans S11
        have n5b : l5 ≠ b := (B6.same (((S7.trans S8).trans S9).trans S10)).ne hl5
        have n4b : l4 ≠ b := (B6.same ((S7.trans S8).trans S9)).ne hl4
        have n3b : l3 ≠ b := (B6.same (S7.trans S8)).ne hl3
        have n2b : l2 ≠ b := (B6.same S7).ne hl2
        have n1b : l1 ≠ b := B6.ne hl1
        have nF : ∀ {H' : Hp} {z : Addr}, Same H6 H' → H' z = none → z ≠ F := fun {H' z} S h e => by rw [e, S _ _ gF6] at h; cases h
        have f1 := nF (Same.refl _) hl1
        have f2 := nF S7 hl2
        have f3 := nF (S7.trans S8) hl3
        have f4 := nF ((S7.trans S8).trans S9) hl4
        have fD : D ≠ F := fun e => by rw [e, k4 _ _ nFb gF] at hD; cases hD
        have h1 : H l1 = none := kp_none kH6 B6 hl1
        have h2 : H l2 = none := kp_none (kH6.same S7) (B6.same S7) hl2
        have h3 : H l3 = none := kp_none (kH6.same (S7.trans S8)) (B6.same (S7.trans S8)) hl3
        have h4 : H l4 = none := kp_none (kH6.same ((S7.trans S8).trans S9)) (B6.same ((S7.trans S8).trans S9)) hl4
        refine ⟨_, rfl, b, 3, _, rfl, B6.same S6e, by omega, by decide, by decide, fun r7 Hc a7 b7 k7 B7 => ?_⟩
        obtain ⟨v, hv, rf⟩ := at_some (xs := [V.ref l2, V.ref l3, V.ref l4]) (r := r7) (P := fun v => RowF HF Hc (ns, W) v) (fun v hv => by
          have gDc : Hc D = some (seqO false (ns.map V.int)) := k7 _ _ nDb (S6e _ _ gD6)
          simp only [List.mem_cons, List.not_mem_nil, or_false] at hv
          rcases hv with rfl | rfl | rfl
          · exact ⟨l2, l1, true, true, rfl, nHF h2 f2, nHF h1 f1, k7 _ _ n2b (S11 _ _ (S10 _ _ (S9 _ _ g8))), k7 _ _ n1b (S11 _ _ (S10 _ _ (S9 _ _ (S8 _ _ g7))))⟩
          · exact ⟨l3, D, true, false, rfl, nHF h3 f3, nHF hD0 fD, k7 _ _ n3b (S11 _ _ (S10 _ _ g9)), gDc⟩
          · exact ⟨l4, D, false, false, rfl, nHF h4 f4, nHF hD0 fD, k7 _ _ n4b (S11 _ _ g10), gDc⟩) a7 b7
        have kHc : Kp b H Hc := (kH6.same S6e).trans k7
        have gFc := k7 _ _ nFb (S6e _ _ gF6)
        have k3c : Kp b H3 Hc := ((k4.trans k5).trans (k6.same S6e)).trans k7
        refine ⟨l5, _, r7, v, rfl, rfl, SqL.of (k7 _ _ n5b g11), hv, F, _, _, rfl, rfl, gFc, ?_, ⟨kHc.mut hF, (B7.off nFb).up (by omega), R ++ [(ns, W)], _, upd_same, ?_, by rw [List.length_append, lR]; rfl, fun r hr => ?_⟩, _, _, _, _, rfl⟩
        · have := Paired.length pr
          exact Nat.lt_of_lt_of_le (show rs.length < 9 by omega) (by decide)
        · have upF : ∀ {r : List Int × Int} {u : V}, RowF HF Hc r u → RowF HF (upd Hc F (.lst (rs ++ [v]))) r u := fun {r u} h => by
            obtain ⟨p, q, c, c', e, h1, h2, h3, h4⟩ := h
            exact ⟨p, q, c, c', e, h1, h2, by rw [upd_ne (xHF h1).1]; exact h3, by rw [upd_ne (xHF h2).1]; exact h4⟩
          have BF : BoxAt b n HF := by
            rw [eHF]
            exact hB.same (same_new hF)
          exact paired_snoc (paired_imp (fun _ _ h => upF (h.kp BF k3c)) pr) (upF rf)
        · rcases List.mem_append.mp hr with hr | hr
          · exact okR r hr
          · rw [List.mem_singleton.mp hr]
            exact ⟨ln3, okn, okW⟩
    · rintro σ H3 ⟨⟨k3, B3, R, rs, gF, pr, lR, okR⟩, v2, v3, v4, v5, rfl⟩
      exact ⟨_, rfl, q R F rs H3 gF (paired_imp (fun _ _ ⟨p, q, c, c', e, h1, h2, h3, h4⟩ => ⟨p, q, c, c', e, (xHF h1).2, (xHF h2).2, h3, h4⟩) pr) (by omega) okR k3 (B3.up (by omega)) hF⟩
end
end L58
set_option Elab.async false
set_option linter.all false
set_option maxRecDepth 100000
set_option maxHeartbeats 4000000
set_option pp.deepTerms false
set_option pp.deepTerms.threshold 4
set_option pp.maxSteps 1000
namespace L58
open PySem L2 Tp
section
variable {P : Program} {w : World} {K : PySem.W.Frag} {mg : Str → Option Value} {base : Heap} {a : Ad} {d : Fd}
theorem xne (T : Txt K mg a d) {i j : Nat} {x y : Addr} (hi : [a.CInvalidPart, a.CInvalidName, a.CInvalidRow, a.CNetError][i]? = some x) (hj : [a.CInvalidPart, a.CInvalidName, a.CInvalidRow, a.CNetError][j]? = some y) (n : i ≠ j) : x ≠ y := fun e => by
  subst e
  have hl := (List.getElem?_eq_some_iff.mp hi).1
  exact n ((List.getElem?_inj hl T.xnd).mp (hi.trans hj.symm))
theorem exT {b : XB} {C : Addr} {up : List Addr} (c : ClsX b K C up) : PySem.W.exmOne K (.ref C) (.ref C) = some true := by
  rw [exm_X c c, List.contains_cons, beq_self_eq_true]
  rfl
theorem exF {b b2 : XB} {C B D : Addr} {up : List Addr} (c : ClsX b K C [B]) (c2 : ClsX b2 K D up) (n1 : C ≠ D) (n2 : B ≠ D) : PySem.W.exmOne K (.ref C) (.ref D) = some false := by
  rw [exm_X c c2]
  refine congrArg some (Bool.eq_false_iff.mpr fun z => ?_)
  have m := List.contains_iff_mem.mp z
  rcases List.mem_cons.mp m with m | m
  · exact n1 m.symm
  · exact n2 (List.mem_singleton.mp m).symm
theorem exNP (T : Txt K mg a d) : PySem.W.exmOne K (.ref a.CInvalidName) (.ref a.CInvalidPart) = some false := exF T.cx_InvalidName T.cx_InvalidPart (xne T (i := 1) (j := 0) rfl rfl (by decide)) (xne T (i := 3) (j := 0) rfl rfl (by decide))
theorem exRP (T : Txt K mg a d) : PySem.W.exmOne K (.ref a.CInvalidRow) (.ref a.CInvalidPart) = some false := exF T.cx_InvalidRow T.cx_InvalidPart (xne T (i := 2) (j := 0) rfl rfl (by decide)) (xne T (i := 3) (j := 0) rfl rfl (by decide))
theorem exRN (T : Txt K mg a d) : PySem.W.exmOne K (.ref a.CInvalidRow) (.ref a.CInvalidName) = some false := exF T.cx_InvalidRow T.cx_InvalidName (xne T (i := 2) (j := 1) rfl rfl (by decide)) (xne T (i := 3) (j := 1) rfl rfl (by decide))
inductive Bad1 (K : PySem.W.Frag) (H : Hp) (k : Key) (u : V) : Str → V → Prop
  | name (h : nmK k = false) : Bad1 K H k u "name" (kV k)
  | part (n : nmK k = true) (e : PyData) (h : Dq K H u e) (l : isLT e = false) : Bad1 K H k u "part" u
  | row (n : nmK k = true) (t : Addr) (c : Bool) (rs : List V) (es : List PyData) (i : Nat) (v : V) (e : PyData) (h1 : u = .ref t) (h2 : SqB c K H t rs) (h3 : DqAll K H rs es) (h4 : rs[i]? = some v) (h5 : es[i]? = some e) (h6 : rowD e = false) (h7 : ∀ j e', j < i → es[j]? = some e' → rowD e' = true) : Bad1 K H k u "row" v
inductive Refuse (K : PySem.W.Frag) (H : Hp) (v : V) : Str → V → Prop
  | part (e : PyData) (h : Dq K H v e) (n : isDc e = false) : Refuse K H v "part" v
  | one (d : Addr) (k : Key) (u : V) (e : v = .ref d) (h : H d = some (.dK [(k, u)])) (hk : ∀ z, k = .inr z → z.length ≤ 10000) {tag : Str} {x : V} (b : Bad1 K H k u tag x) : Refuse K H v tag x
def spTold (K : PySem.W.Frag) : Sp := fun vs H Q _ => ∃ (v : V) (tag : Str) (u : V), vs = [v] ∧ Refuse K H v tag u ∧ ∀ l H', Same H H' → H l = none → H' l = some (.lst [.str tag, u]) → Q (.ref l) H'
theorem ok_told (T : Txt K mg a d) (TB : LamX.TabB base mg a.cFn a.pFn) : FnG P w K mg base CX0 7 a.told d.told ["_law_tables"] (spTold K) := by
  have G_meaning := ok_meaning (P := P) (w := w) (base := base) T TB
  refine okG T.F_told scTold (fun vs H Q E h => ?_) (fun cdv A outer s H vs Q E hr hg h => ?_)
  · obtain ⟨v, tag, u, rfl, _⟩ := h
    rfl
  · obtain ⟨v, tag, u, rfl, h, q⟩ := h
    refine ⟨_, (pss_one (Tp.ps_tryA rfl rfl Tp.takes0 (fun W pn xe tk po => (pss_one (ps_ret (pe_lst (pa_cons pe_str (pa_cons (pe_callB (call_sortedD rfl) (by rfl) T.sorted_ Tp.bt_sorted (pa_cons (pe_callS G_meaning (hr.mono (by decide)) (by rfl) T.mg_meaning T.F_meaning.kp T.b_meaning (fun σ => passAt tk σ) (pa_cons (pv 0) pa_nil)) pa_nil)) pa_nil)))))) (.as_ (i := 1) scTold.nd rfl rfl ⟨rfl, by decide, Or.inl T.mg_InvalidPart⟩ (fun ea oe cls ed pn hz hf => (pss_one (ps_ret (pe_lst (pa_cons pe_str (pa_cons (pe_xf T.cx_InvalidPart.xf (T.xi_InvalidPart.no "value" (by decide)) hz hf (pv 1)) pa_nil)))))) (.as_ (i := 1) scTold.nd rfl rfl ⟨rfl, by decide, Or.inl T.mg_InvalidName⟩ (fun ea oe cls ed pn hz hf => (pss_one (ps_ret (pe_lst (pa_cons pe_str (pa_cons (pe_xf T.cx_InvalidName.xf (T.xi_InvalidName.no "value" (by decide)) hz hf (pv 1)) pa_nil)))))) (.as_ (i := 1) scTold.nd rfl rfl ⟨rfl, by decide, Or.inl T.mg_InvalidRow⟩ (fun ea oe cls ed pn hz hf => (pss_one (ps_ret (pe_lst (pa_cons pe_str (pa_cons (pe_xf T.cx_InvalidRow.xf (T.xi_InvalidRow.no "value" (by decide)) hz hf (pv 1)) pa_nil)))))) .nil))))), ?_⟩
    refine ⟨_, rfl, v, rfl, ?_⟩
    have n0 : ∀ {H1 : Hp} {l : Addr}, Same H H1 → H1 l = none → H l = none := fun {H1 l} S h => by
      cases e : H l with
      | none => rfl
      | some o => rw [S _ _ e] at h; cases h
    cases h with
    | part e h n =>
      exact .inl ⟨e, h, n, fun dz H1 S1 g => ⟨_, exT T.cx_InvalidPart, (fun _ ea hea => ⟨_, rfl, rfl, rfl, dz, _, _, rfl, g, rfl, (show 2 ≤ sizeLine from by decide), fun p hp => q p _ (S1.trans (same_new hp)) (n0 S1 hp) upd_same⟩), (fun z => by cases z)⟩⟩
    | one D k x e h hk b =>
      refine .inr (.inl ⟨D, k, x, e, h, hk, ?_⟩)
      cases b with
      | name h => exact .name h fun dz H1 S1 g => ⟨_, exNP T, (fun z => by cases z), fun _ => ⟨_, exT T.cx_InvalidName, (fun _ ea hea => ⟨_, rfl, rfl, rfl, dz, _, _, rfl, g, rfl, (show 2 ≤ sizeLine from by decide), fun p hp => q p _ (S1.trans (same_new hp)) (n0 S1 hp) upd_same⟩), (fun z => by cases z)⟩⟩
      | part n e h l => exact .part n e h l fun dz H1 S1 g => ⟨_, exT T.cx_InvalidPart, (fun _ ea hea => ⟨_, rfl, rfl, rfl, dz, _, _, rfl, g, rfl, (show 2 ≤ sizeLine from by decide), fun p hp => q p _ (S1.trans (same_new hp)) (n0 S1 hp) upd_same⟩), (fun z => by cases z)⟩
      | row n t c rs es i y e h1 h2 h3 h4 h5 h6 h7 => exact .row n t c rs es i _ e h1 h2 h3 h4 h5 h6 h7 fun dz H1 S1 g => ⟨_, exRP T, (fun z => by cases z), fun _ => ⟨_, exRN T, (fun z => by cases z), fun _ => ⟨_, exT T.cx_InvalidRow, (fun _ ea hea => ⟨_, rfl, rfl, rfl, dz, _, _, rfl, g, rfl, (show 2 ≤ sizeLine from by decide), fun p hp => q p _ (S1.trans (same_new hp)) (n0 S1 hp) upd_same⟩), (fun z => by cases z)⟩⟩⟩
end
end L58
set_option Elab.async false
set_option linter.all false
set_option maxRecDepth 100000
set_option maxHeartbeats 4000000
set_option pp.deepTerms false
set_option pp.deepTerms.threshold 4
set_option pp.maxSteps 1000
namespace L58
open PySem L2 Tp
section
variable {P : Program} {w : World} {K : PySem.W.Frag} {mg : Str → Option Value} {base : Heap} {a : Ad} {d : Fd}
theorem tabsN_kp {L : List NdefX.NTab} {b : Addr} {n : Nat} {H H' : Hp} (t : NdefX.TabsN L H) (B : BoxAt b n H) (k : Kp b H H') : NdefX.TabsN L H' := tabsN_data t fun z o n1 _ h => k z o (fun e => by
  obtain ⟨x, y, z', hb, _⟩ := B
  rw [e, hb] at h
  exact n1 _ (Option.some.inj h).symm) h
theorem dq_ext {K : PySem.W.Frag} {H H' : Hp} (S : LamX.ExtN H H') : (∀ {v : V} {d : PyData}, Dq K H v d → Dq K H' v d) ∧ (∀ {vs : List V} {ds : List PyData}, DqAll K H vs ds → DqAll K H' vs ds) := by
  have R : ∀ {a : Addr} {o : HO}, (∀ ps, o ≠ .tbl ps) → Rd H a o → Rd H' a o := fun {a o} n h => by
    rcases h with h | ⟨o', h⟩
    · exact .inl (S _ _ h n)
    · exact .inr ⟨o', S _ _ h (fun _ z => by cases z)⟩
  constructor
  · intro v d h
    exact Dq.rec (motive_1 := fun v d _ => Dq K H' v d) (motive_2 := fun vs ds _ => DqAll K H' vs ds) .non .bl .int .str (fun s _ ih => .lst (s.imp (R fun _ z => by cases z) id) ih) (fun s _ ih => .tup (s.imp (R fun _ z => by cases z) id) ih) (fun r _ _ i1 i2 => .dic (R (fun _ z => by cases z) r) i1 i2) .nil (fun _ _ a b => .cons a b) h
  · intro vs ds h
    exact DqAll.rec (motive_1 := fun v d _ => Dq K H' v d) (motive_2 := fun vs ds _ => DqAll K H' vs ds) .non .bl .int .str (fun s _ ih => .lst (s.imp (R fun _ z => by cases z) id) ih) (fun s _ ih => .tup (s.imp (R fun _ z => by cases z) id) ih) (fun r _ _ i1 i2 => .dic (R (fun _ z => by cases z) r) i1 i2) .nil (fun _ _ a b => .cons a b) h
theorem fitq_kv {n w v : Nat} : ∀ kvs : List (PyData × PyData), (∀ p ∈ kvs, FitQ n w p.1 ∧ FitQ n v p.2) → PyData.showableKv kvs = true ∧ PyData.depthKv kvs ≤ n ∧ (∀ t ∈ PyData.shownKv kvs, t.length ≤ w + 2 + v) ∧ (PyData.shownKv kvs).length = kvs.length
  | [], _ => ⟨by simp only [PyData.showableKv], by simp only [PyData.depthKv]; omega, (fun t ht => by simp only [PyData.shownKv] at ht; cases ht), by simp only [PyData.shownKv]; rfl⟩
  | (x, y) :: r, h => by
    obtain ⟨⟨a1, a2, a3⟩, ⟨b1, b2, b3⟩⟩ := h (x, y) List.mem_cons_self
    obtain ⟨c1, c2, c3, c4⟩ := fitq_kv r fun p hp => h p (List.mem_cons_of_mem _ hp)
    have a2 : x.depth ≤ n := a2
    have b2 : y.depth ≤ n := b2
    refine ⟨by simp only [PyData.showableKv, a1, b1, c1, Bool.and_self], by simp only [PyData.depthKv]; omega, fun t ht => ?_, by simp only [PyData.shownKv, List.length_cons, c4]⟩
    simp only [PyData.shownKv] at ht
    rcases List.mem_cons.mp ht with rfl | ht
    · show (x.shown.cps ++ (": " : Str).cps ++ y.shown.cps).size ≤ _
      rw [Array.size_append, Array.size_append]
      have e : (": " : Str).cps.size = 2 := by decide
      have a3' : x.shown.cps.size ≤ w := a3
      have b3' : y.shown.cps.size ≤ v := b3
      omega
    · exact c3 t ht
theorem fitq_dict {n w v : Nat} {kvs : List (PyData × PyData)} (h : ∀ p ∈ kvs, FitQ n w p.1 ∧ FitQ n v p.2) : FitQ (n + 1) (kvs.length * (w + 2 + v + 2) + 2) (.dict kvs) := by
  obtain ⟨c1, c2, c3, c4⟩ := fitq_kv kvs h
  refine ⟨by simp only [PyData.showable, c1], by simp only [PyData.depth]; omega, ?_⟩
  simp only [PyData.shown]
  unfold dictText
  have j := join_len (a := ", ") c3
  rw [show Txt.join ", " (PyData.shownKv kvs) = Str.join ", " (PyData.shownKv kvs) from StrLaws.glued_eq_join _ _, c4] at j
  show (("{" : Str).cps ++ (Str.join ", " (PyData.shownKv kvs)).cps ++ ("}" : Str).cps).size ≤ _
  rw [Array.size_append, Array.size_append]
  have e1 : ("{" : Str).cps.size = 1 := by decide
  have e2 : ("}" : Str).cps.size = 1 := by decide
  have e3 : (", " : Str).length = 2 := by decide
  rw [e3] at j
  have j' : (Str.join ", " (PyData.shownKv kvs)).cps.size ≤ kvs.length * (w + 2 + v + 2) := j
  omega
def KT (b : Addr) (H H' : Hp) : Prop := ∀ z o, z ≠ b → (∀ ps, o ≠ .tbl ps) → H z = some o → H' z = some o
def TabF (H H' : Hp) (R : List (List Int × Int)) (v : V) : Prop := ∃ t c rs, v = .ref t ∧ H t = none ∧ H' t = some (seqO c rs) ∧ Paired (RowF H H') R rs
structure EntF (H H' : Hp) (R : List (List Int × Int)) (kv : Key × V) : Prop where
  nm : ∃ z : Str, kv.1 = .inr z ∧ nmB z = true
  tab : TabF H H' R kv.2
  len : R.length ≤ 8
  row : ∀ r ∈ R, RowN r
theorem TabF.kp {b : Addr} {n : Nat} {H H1 H2 : Hp} {R : List (List Int × Int)} {v : V} (h : TabF H H1 R v) (B : BoxAt b n H) (k : Kp b H1 H2) : TabF H H2 R v := by
  obtain ⟨t, c, rs, e, h1, h2, h3⟩ := h
  exact ⟨t, c, rs, e, h1, k _ _ (B.ne h1) h2, paired_imp (fun _ _ x => x.kp B k) h3⟩
theorem TabF.keep {H H1 H2 : Hp} {R : List (List Int × Int)} {v : V} (h : TabF H H1 R v) (k : KeepD H1 H2) : TabF H H2 R v := by
  obtain ⟨t, c, rs, e, h1, h2, h3⟩ := h
  exact ⟨t, c, rs, e, h1, k _ _ dk_seq h2, paired_imp (fun _ _ ⟨p, q, c, c', e, h1, h2, h3, h4⟩ => ⟨p, q, c, c', e, h1, h2, k _ _ dk_seq h3, k _ _ dk_seq h4⟩) h3⟩
theorem TabF.tab {H H' : Hp} {R : List (List Int × Int)} {v : V} (h : TabF H H' R v) : TabH H' R v := by
  obtain ⟨t, c, rs, e, h1, h2, h3⟩ := h
  exact ⟨t, c, rs, e, h2, paired_imp (fun _ _ x => x.row) h3⟩
theorem EntF.kp {b : Addr} {n : Nat} {H H1 H2 : Hp} {R : List (List Int × Int)} {kv : Key × V} (h : EntF H H1 R kv) (B : BoxAt b n H) (k : Kp b H1 H2) : EntF H H2 R kv := ⟨h.nm, h.tab.kp B k, h.len, h.row⟩
theorem EntF.keep {H H1 H2 : Hp} {R : List (List Int × Int)} {kv : Key × V} (h : EntF H H1 R kv) (k : KeepD H1 H2) : EntF H H2 R kv := ⟨h.nm, h.tab.keep k, h.len, h.row⟩
theorem EntF.ok {H H' : Hp} {R : List (List Int × Int)} {kv : Key × V} (h : EntF H H' R kv) : EntOk H' R kv := by
  obtain ⟨z, e, n⟩ := h.nm
  exact ⟨⟨z, e, Nat.le_trans (nm_len n) (by decide), n⟩, h.tab.tab, Nat.le_trans h.len (by decide), fun r hr => (h.row r hr).1⟩
theorem put_ent {H H' : Hp} {k : Key} {u : V} {R : List (List Int × Int)} (e : EntF H H' R (k, u)) : ∀ {kvs : List (Key × V)} {Rs : List (List (List Int × Int))}, Paired (EntF H H') Rs kvs → (kvs.map (·.1)).Nodup → ∃ Rs', Paired (EntF H H') Rs' (putK kvs k u) ∧ ((putK kvs k u).map (·.1)).Nodup := by
  intro kvs Rs p nd
  by_cases h : k ∈ kvs.map (·.1)
  · have ha : (kvs.any fun kv => decide (kv.1 = k)) = true := by
      obtain ⟨x, hx, ex⟩ := List.mem_map.mp h
      exact List.any_eq_true.mpr ⟨x, hx, decide_eq_true ex⟩
    have ep : putK kvs k u = kvs.map fun kv => if kv.1 = k then (kv.1, u) else kv := by
      unfold putK
      rw [ha]
      rfl
    rw [ep]
    constructor
    rotate_left
    · exact Rs.zipWith (fun R0 kv => if kv.1 = k then R else R0) kvs
    · constructor
      · clear ep ha h nd
        induction p with
        | nil => exact .nil
        | cons a t ih =>
          rename_i x y _ _
          refine .cons ?_ ih
          show EntF H H' (if y.1 = k then R else x) (if y.1 = k then (y.1, u) else y)
          by_cases ey : y.1 = k
          · rw [if_pos ey, if_pos ey, ey]
            exact e
          · rw [if_neg ey, if_neg ey]
            exact a
      · have : (kvs.map fun kv => if kv.1 = k then (kv.1, u) else kv).map (·.1) = kvs.map (·.1) := by
          rw [List.map_map]
          refine List.map_congr_left fun x _ => ?_
          show (if x.1 = k then (x.1, u) else x).1 = x.1
          by_cases ex : x.1 = k
          · rw [if_pos ex]
          · rw [if_neg ex]
        rw [this]
        exact nd
  · rw [putK_new _ (valV_none h)]
    refine ⟨Rs ++ [R], paired_snoc p e, ?_⟩
    rw [List.map_append]
    refine List.nodup_append.mpr ⟨nd, by simp, fun x hx y hy => ?_⟩
    rw [List.mem_singleton.mp hy]
    exact fun e => h (by rw [show k = x from e.symm]; exact hx)
theorem keys_of {H H' : Hp} {kvs : List (Key × V)} {Rs : List (List (List Int × Int))} (p : Paired (EntF H H') Rs kvs) : ∃ ks : List Str, kvs.map (·.1) = ks.map Sum.inr ∧ ∀ z ∈ ks, nmB z = true := by
  induction p with
  | nil => exact ⟨[], rfl, (by simp)⟩
  | cons a t ih =>
    obtain ⟨ks, h1, h2⟩ := ih
    obtain ⟨z, e, n⟩ := a.nm
    refine ⟨z :: ks, by rw [List.map_cons, List.map_cons, h1, e], fun y hy => ?_⟩
    rcases List.mem_cons.mp hy with rfl | hy
    · exact n
    · exact h2 y hy
theorem fit_row {H : Hp} {r : List Int × Int} {v : V} (h : RowH H r v) (n : RowN r) : ∃ d, Dq K H v d ∧ FitQ 2 1000 d := by
  obtain ⟨c, c', hd⟩ := row_dq (K := K) h
  refine ⟨_, hd, ?_⟩
  obtain ⟨n1, n2, n3⟩ := n
  have big : ∀ x : Int, x.natAbs ≤ 10 ^ 9 → x.natAbs < 10 ^ 40 := fun x h => Nat.lt_of_le_of_lt h (by decide)
  have f1 : FitQ 1 170 (if c' then PyData.tuple (r.1.map PyData.int) else .list (r.1.map PyData.int)) := by
    have hi : ∀ x ∈ r.1.map PyData.int, FitQ 0 50 x := fun x hx => by
      obtain ⟨i, hi, rfl⟩ := List.mem_map.mp hx
      exact fitq_int (big i (n2 i hi))
    cases c'
    · exact (fitq_list hi).up (Nat.le_refl _) (by rw [List.length_map]; omega)
    · exact (fitq_tuple hi).up (Nat.le_refl _) (by rw [List.length_map]; omega)
  have f2 : ∀ x ∈ [if c' then PyData.tuple (r.1.map PyData.int) else .list (r.1.map PyData.int), PyData.int r.2], FitQ 1 170 x := fun x hx => by
    rcases List.mem_cons.mp hx with rfl | hx
    · exact f1
    · rw [List.mem_singleton.mp hx]
      exact (fitq_int (n := 1) (big _ n3)).up (Nat.le_refl _) (by decide)
  unfold rowE
  cases c
  · exact (fitq_list f2).up (Nat.le_refl _) (by simp)
  · exact (fitq_tuple f2).up (Nat.le_refl _) (by simp)
theorem fit_rows {H : Hp} : ∀ {R : List (List Int × Int)} {rs : List V}, Paired (RowH H) R rs → (∀ r ∈ R, RowN r) → ∃ ds, DqAll K H rs ds ∧ ∀ d ∈ ds, FitQ 2 1000 d
  | _, _, .nil, _ => ⟨[], .nil, (by simp)⟩
  | _, _, .cons a t, n => by
    obtain ⟨ds, h1, h2⟩ := fit_rows t fun r hr => n r (List.mem_cons_of_mem _ hr)
    obtain ⟨d, h3, h4⟩ := fit_row (K := K) a (n _ List.mem_cons_self)
    refine ⟨d :: ds, .cons h3 h1, fun x hx => ?_⟩
    rcases List.mem_cons.mp hx with rfl | hx
    · exact h4
    · exact h2 x hx
theorem fit_tab {H : Hp} {R : List (List Int × Int)} {v : V} (h : TabH H R v) (l : R.length ≤ 8) (n : ∀ r ∈ R, RowN r) : ∃ d, Dq K H v d ∧ FitQ 3 8100 d := by
  obtain ⟨t, c, rs, rfl, ht, pr⟩ := h
  obtain ⟨ds, h1, h2⟩ := fit_rows (K := K) pr n
  have ld : ds.length ≤ 8 := by
    have a := dqAll_len h1
    have b := Paired.length pr
    omega
  refine ⟨_, dq_seqO ht h1, ?_⟩
  cases c
  · exact (fitq_list h2).up (Nat.le_refl _) (by omega)
  · exact (fitq_tuple h2).up (Nat.le_refl _) (by omega)
theorem fit_ents {H0 H : Hp} : ∀ {Rs : List (List (List Int × Int))} {kvs : List (Key × V)}, Paired (EntF H0 H) Rs kvs → ∃ ds : List (PyData × PyData), DqAll K H (kvs.map fun p => kV p.1) (ds.map (·.1)) ∧ DqAll K H (kvs.map (·.2)) (ds.map (·.2)) ∧ ds.length = kvs.length ∧ ∀ p ∈ ds, FitQ 3 100 p.1 ∧ FitQ 3 8100 p.2
  | _, _, .nil => ⟨[], .nil, .nil, rfl, (by simp)⟩
  | _, _, .cons a t => by
    obtain ⟨ds, h1, h2, h3, h4⟩ := fit_ents t
    obtain ⟨d, h5, h6⟩ := fit_tab (K := K) a.tab.tab a.len a.row
    obtain ⟨z, ez, nz⟩ := a.nm
    refine ⟨(.str z, d) :: ds, .cons (show Dq K H (kV _) _ by rw [ez]; exact .str z) h1, .cons h5 h2, by rw [List.length_cons, List.length_cons, h3], fun p hp => ?_⟩
    rcases List.mem_cons.mp hp with rfl | hp
    · exact ⟨(fitq_str (nm_sm nz)).up (Nat.le_refl _) (by decide), h6⟩
    · exact h4 p hp
theorem fit_tabs {H0 H : Hp} {D : Addr} {Rs : List (List (List Int × Int))} {kvs : List (Key × V)} (p : Paired (EntF H0 H) Rs kvs) (h : H D = some (.dK kvs)) (l : kvs.length ≤ 8) : ∃ d, Dq K H (.ref D) d ∧ d.showable = true ∧ d.depth ≤ 60 ∧ d.shown.length ≤ sizeLine := by
  obtain ⟨ds, h1, h2, h3, h4⟩ := fit_ents (K := K) p
  refine ⟨_, .dic (.inl h) h1 h2, ((fitq_dict h4).up (Nat.le_refl _) (show _ ≤ 100000 from ?_)).ok (by decide) (by decide)⟩
  rw [h3]
  have : kvs.length * (100 + 2 + 8100 + 2) ≤ 8 * (100 + 2 + 8100 + 2) := Nat.mul_le_mul_right _ l
  omega
theorem call_mean {H : Hp} {R : List (List Int × Int)} {v : V} (h : MeanAt P w K mg base H R v) : ∃ f F b, v = .ref f ∧ H f = some (FnA f F b) ∧ ∀ (H1 : Hp) (q : Addr) (ns : List Int) (Q : VK), Same H H1 → H1 q = some (.lst (ns.map V.int)) → (∀ H2, Same H1 H2 → Q (.int (look R ns)) H2) →
    ∃ fr ws sp, CloAt H1 f F b fr ws ∧ VOk P w K mg base 2 f F b fr sp ∧ sp (ws.map some) [.ref q] (hidC (csF F.cl) H1) (fun v H' => Q v (bakC (csF F.cl) H1 H')) E0 := by
  obtain ⟨f, D, F, b, kvs, e, x, hD, hl, vo⟩ := h.ex
  refine ⟨f, F, b, e, x.fn, fun H1 q ns Q S hq k => ?_⟩
  have x1 := x.same S
  refine ⟨_, _, _, x1, vo, D, q, kvs, false, ns, rfl, rfl, x1.out (S _ _ hD) (fun ob z => by cases z), x1.out hq (fun ob z => by cases z), fun H' S' => ?_⟩
  rw [hl ns]
  exact k _ (bak_same S')
end
end L58
set_option Elab.async false
set_option linter.all false
set_option maxRecDepth 100000
set_option maxHeartbeats 4000000
set_option pp.deepTerms false
set_option pp.deepTerms.threshold 4
set_option pp.maxSteps 1000
namespace L58
open PySem L2 Tp
section
variable {P : Program} {w : World} {K : PySem.W.Frag} {mg : Str → Option Value} {base : Heap} {a : Ad} {d : Fd}
def spPart (K : PySem.W.Frag) (a : Ad) : Sp := fun vs H Q _ => ∃ (b : Addr) (n : Nat), vs = [.ref b] ∧ BoxAt b n H ∧ n < 500000 ∧ Sys K H ∧ NdefX.TabsN (TT a) H ∧
  ∀ H', KT b H H' → BoxAt b (n + 10000) H' → NdefX.TabsN (TT a) H' → Q (.bl true) H'
def AskL (H : Hp) (ws : List V) : Prop := ∀ x ∈ ws, ∃ p ns, x = .ref p ∧ H p = some (.lst ((ns : List Int).map V.int))
theorem AskL.same {H H' : Hp} {ws : List V} (h : AskL H ws) (S : Same H H') : AskL H' ws := fun x hx => let ⟨p, ns, e, g⟩ := h x hx; ⟨p, ns, e, S _ _ g⟩
theorem AskL.app {H : Hp} {ws us : List V} (h : AskL H ws) (k : AskL H us) : AskL H (ws ++ us) := fun x hx => (List.mem_append.mp hx).elim (h x) (k x)
theorem sys_kp {b : Addr} {n : Nat} {H H' : Hp} (h : Sys K H) (B : BoxAt b n H) (k : Kp b H H') : Sys K H' := h.imp id fun ⟨e, o, φ, g⟩ => ⟨e, o, φ, k _ _ (fun e => by
  obtain ⟨x, y, z, hb, _⟩ := B
  rw [e, hb] at g
  cases g) g⟩
theorem sys_ext {H H' : Hp} (h : Sys K H) (X : LamX.ExtN H H') : Sys K H' := h.imp id fun ⟨e, o, φ, g⟩ => ⟨e, o, φ, X _ _ g (fun _ z => by cases z)⟩
theorem box_ext {b : Addr} {n : Nat} {H H' : Hp} (B : BoxAt b n H) (X : LamX.ExtN H H') : BoxAt b n H' := let ⟨x, y, z, h, r⟩ := B; ⟨x, y, z, X _ _ h (fun _ z => by cases z), r⟩
theorem valV_at {k : Key} {f : V} : ∀ {fs : List (Key × V)} {i : Nat}, (fs.map (·.1)).Nodup → fs[i]? = some (k, f) → valV fs k = some f
  | p :: fs, 0, _, h => by
    cases h
    exact valV_pos rfl
  | p :: fs, i + 1, nd, h => by
    rw [List.map_cons, List.nodup_cons] at nd
    have m : k ∈ fs.map (·.1) := List.mem_map.mpr ⟨(k, f), List.mem_of_getElem? h, rfl⟩
    rw [valV_neg fun e => nd.1 (by rw [e]; exact m)]
    exact valV_at nd.2 h
theorem look_le {R : List (List Int × Int)} {ns : List Int} (h : ∀ r ∈ R, RowN r) : (look R ns).natAbs ≤ 10 ^ 9 := by
  unfold look
  have : ∀ i, lookO R ns = some i → i.natAbs ≤ 10 ^ 9 := by
    induction R with
    | nil => intro i e; cases e
    | cons x R ih =>
      intro i e
      have e : (if x.1 = ns then some x.2 else lookO R ns) = some i := e
      split at e
      · cases e
        exact (h x List.mem_cons_self).2.2
      · exact ih (fun r hr => h r (List.mem_cons_of_mem _ hr)) i e
  cases e : lookO R ns with
  | none => decide
  | some i => exact this i e
theorem ok_tabsR (T : Txt K mg a d) (TB : LamX.TabB base mg a.cFn a.pFn) : FnG P w K mg base CX0 9 a.tabsR d.tabsR ["_law_box_here"] (spPart K a) := by
  have G_take := ok_take (P := P) (w := w) (base := base) T
  have G_labels := ok_labels (P := P) (w := w) (base := base) T
  have G_table := ok_table (P := P) (w := w) (base := base) T
  have G_looked := ok_looked (P := P) (w := w) (base := base) T
  have G_meaning := ok_meaning (P := P) (w := w) (base := base) T TB
  refine okG T.F_tabsR scTabsR (fun vs H Q E h => ?_) (fun cdv A outer s H vs Q E hr hg h => ?_)
  · obtain ⟨b, n, rfl, _⟩ := h
    rfl
  · obtain ⟨b, n, rfl, hB, hn, sy, tn, q⟩ := h
    refine ⟨_, (pss_cons (ps_set (i := 1) scTabsR.nd rfl (Or.inl rfl) pe_dnewK)
      (pss_cons (ps_for PassesOwn.never rfl (pi_list (Tp.pe_callG G_labels (hr.mono (by decide)) hg (by rfl) T.mg_labels T.F_labels.kp T.b_labels .nil pass0 (pa_cons (pv 0) (pa_cons (Tp.pe_callG G_take (hr.mono (by decide)) hg (by rfl) T.mg_take T.F_take.kp T.b_take .nil pass0 (pa_cons (pv 0) (pa_cons pe_int pa_nil))) pa_nil)))) (pg_name (i := 2) scTabsR.nd rfl (Or.inl rfl)) (pss_one (ps_dput (Tp.hu1 hr) (pv 1) (pv 2) (pe_ix ix_list (pe_lst (pa_cons (Tp.pe_callG G_table (hr.mono (by decide)) hg (by rfl) T.mg_table T.F_table.kp T.b_table .nil pass0 (pa_cons (pv 0) pa_nil)) (pa_cons (pe_callTy call_tuple_of (by rfl) T.tuple_ Tp.bt_tuple (pa_cons (Tp.pe_callG G_table (hr.mono (by decide)) hg (by rfl) T.mg_table T.F_table.kp T.b_table .nil pass0 (pa_cons (pv 0) pa_nil)) pa_nil)) pa_nil))) (Tp.pe_callG G_take (hr.mono (by decide)) hg (by rfl) T.mg_take T.F_take.kp T.b_take .nil pass0 (pa_cons (pv 0) (pa_cons pe_int pa_nil))) (fun _ _ => rfl)) rfl)))
      (pss_cons (ps_par (i := 3) (j := 4) (by rfl) scTabsR.nd rfl rfl (by decide) rfl rfl (pa_cons (pe_callB (Tp.call_reprQ hr hg) (by rfl) T.repr_ Tp.bt_repr (pa_cons (pv 1) pa_nil)) (pa_cons (pe_callS G_meaning (hr.mono (by decide)) (by rfl) T.mg_meaning T.F_meaning.kp T.b_meaning (fun σ => Tp.passA0 σ) (pa_cons (pv 1) pa_nil)) pa_nil)) (by rfl))
      (pss_cons (ps_if (PW.pt (pw_or (pt_not (pt_val (pe_callB (Tp.call_isA (K := K) rfl) (by rfl) T.isinstance_ Tp.bt_isinstance (pa_cons (pv 4) (pa_cons (pe_bltn (v := .ty "dict") (by rfl) T.dict_ Tp.bt_dict rfl) pa_nil))))) (pw_or1 (pt_cmpR (op_neD hr.units) (pe_callB (call_sortedD rfl) (by rfl) T.sorted_ Tp.bt_sorted (pa_cons (pv 4) pa_nil)) (pe_callB (call_sortedD rfl) (by rfl) T.sorted_ Tp.bt_sorted (pa_cons (pv 1) pa_nil)) (nomark _))))) (pss_one (ps_ret pe_bl)) pss_nil)
      (pss_cons (ps_lock (ps_for PassesOwn.never rfl (pi_keys (pv 1)) (pg_name (i := 2) scTabsR.nd rfl (Or.inl rfl)) (pss_cons (ps_set (i := 5) scTabsR.nd rfl (Or.inl rfl) (pe_op op_cat (pe_lc (own := [("_law_row", 8)]) (by rfl) scTabsR.nd (Tp.pi_B (K := K) rfl (pe_dget (Tp.hu1 hr) (pv 1) (pv 2) (fun _ _ => rfl))) (blkOk_by (own := [("_law_row", 8)]) (N := scTabsR_N) (sc := defScope scTabsR_st) (by decide +kernel)) (fun _ _ _ _ _ => (pg_name (i := 8) scTabsR.nd rfl (Or.inl rfl))) (fun _ _ _ _ _ => pts_nil) (fun _ _ _ _ _ => (pe_callTy (Tp.call_list_ofK (K := K) rfl) (by rfl) T.list_ Tp.bt_list (pa_cons (pe_ix (Tp.ix_seqK (K := K) rfl) (pv 8) pe_int (fun _ _ => rfl)) pa_nil)))) (pe_lst (pa_cons (pe_lst pa_nil) (pa_cons (pe_lst (pa_cons pe_int pa_nil)) (pa_cons (pe_lst (pa_cons pe_int (pa_cons pe_int (pa_cons pe_int pa_nil)))) (pa_cons (pe_lst (pa_cons (pe_op op_sub pe_int pe_int) pa_nil)) pa_nil)))))))
      (pss_cons (ps_set (i := 6) scTabsR.nd rfl (Or.inl rfl) (pe_dget (Tp.hu1 hr) (pv 4) (pv 2) (fun _ _ => rfl)))
      (pss_one (ps_for PassesOwn.never rfl (pi_list (pe_op op_cat (pv 5) (pv 5))) (pg_name (i := 7) scTabsR.nd rfl (Or.inl rfl)) (pss_one (ps_if (pt_cmpR op_ne (pe_callB (Tp.call_reprQ hr hg) (by rfl) T.repr_ Tp.bt_repr (pa_cons (Tp.pe_callV (i := 6) (j := 2) (hr.mono (by decide)) rfl (Or.inl rfl) (pa_cons (pe_callTy call_list_of (by rfl) T.list_ Tp.bt_list (pa_cons (pv 7) pa_nil)) pa_nil)) pa_nil)) (pe_callB (Tp.call_reprQ hr hg) (by rfl) T.repr_ Tp.bt_repr (pa_cons (Tp.pe_callG G_looked (hr.mono (by decide)) hg (by rfl) T.mg_looked T.F_looked.kp T.b_looked .nil pass0 (pa_cons (pe_dget (Tp.hu1 hr) (pv 1) (pv 2) (fun _ _ => rfl)) (pa_cons (pv 7) pa_nil))) pa_nil)) (nomark _)) (pss_one (ps_ret pe_bl)) pss_nil))))))))
      (pss_one (ps_ret (pe_and (pe_cmpR op_eq (pe_callB (Tp.call_reprQ hr hg) (by rfl) T.repr_ Tp.bt_repr (pa_cons (pv 1) pa_nil)) (pv 3) (nomark _)) (pe_one (pe_cmpR (Tp.op_eqDI (Tp.hu0 hr)) (pe_callS G_meaning (hr.mono (by decide)) (by rfl) T.mg_meaning T.F_meaning.kp T.b_meaning (fun σ => Tp.passA0 σ) (pa_cons pe_dnewK pa_nil)) pe_dnewK (nomark _))))))))))), ?_⟩
    intro D hD
    have nDb : D ≠ b := hB.ne hD
    have S1 : Same H (upd H D (.dK [])) := same_new hD
    have k1 : Kp b H (upd H D (.dK [])) := Kp.new hD
    have g1 : (upd H D (.dK [])) D = some (.dK []) := upd_same
    generalize upd H D (.dK []) = H1 at S1 k1 g1 ⊢
    refine ⟨_, rfl, _, rfl, b, 5, n, rfl, hB.same S1, by omega, by decide, by decide, fun r2 H2 a2 b2 k2 B2 => ?_⟩
    obtain ⟨m, rfl⟩ := Int.eq_ofNat_of_zero_le a2
    refine ⟨b, m, _, rfl, B2, by omega, by omega, fun zs qz H3 lz okz k3 B3 nq gq => ?_⟩
    refine ⟨qz, rfl, ⟨_, SqL.of gq⟩, for_it (walk_list (xs := zs.map V.str)) (fun j σ H' => (Kp b H3 H' ∨ True) ∧ (∀ z o, z ≠ b → z ≠ D → H3 z = some o → H' z = some o) ∧ BoxAt b (n + 20 + 500 * j) H' ∧ (∃ kvs Rs, H' D = some (.dK kvs) ∧ Paired (EntF H H') Rs kvs ∧ (kvs.map (·.1)).Nodup ∧ kvs.length ≤ j) ∧ ∃ v2 v3 v4 v5 v6 v7 v8, σ = [some (.ref b), some (.ref D), v2, v3, v4, v5, v6, v7, v8])
      ⟨.inr trivial, fun _ _ _ _ h => h, B3.up (by omega), ⟨[], [], k3 _ _ nDb (k2 _ _ nDb g1), .nil, .nil, Nat.le_refl _⟩, none, none, none, none, none, none, none, rfl⟩ ?_ ?_ ?_⟩
    · rintro j σ H' _ ⟨_, k, _⟩
      refine SqL.of (k _ _ nq (fun e => ?_) gq)
      rw [e, k3 _ _ nDb (k2 _ _ nDb g1)] at gq
      cases gq
    · rintro j x σ _ H4 hj ⟨_, k4, B4, ⟨kvs, Rs, gD, pe, nd, lk⟩, v2, v3, v4, v5, v6, v7, v8, rfl⟩ ⟨rfl, hx⟩
      have j4 : j < 5 := by rw [List.length_map] at hj; omega
      obtain ⟨z, hz, rfl⟩ : ∃ z, z ∈ zs ∧ x = V.str z := by
        obtain ⟨z, hz, e⟩ := List.mem_map.mp (List.mem_of_getElem? hx)
        exact ⟨z, hz, e.symm⟩
      have kH4 : ∀ {z : Addr}, H4 z = none → H z = none := fun {z} h => by
        cases e : H z with
        | none => rfl
        | some o =>
          have nb : z ≠ b := fun e' => by
            obtain ⟨_, _, _, hb, _⟩ := B4
            rw [e', hb] at h
            cases h
          have nD : z ≠ D := fun e' => by rw [e', hD] at e; cases e
          rw [k4 _ _ nb nD (k3 _ _ nb (k2 _ _ nb (k1 _ _ nb e)))] at h
          cases h
      refine ⟨_, rfl, b, _, rfl, B4, by omega, fun R1 t1 rs1 H5 h1 p1 l1 ok1 k5 B5 n1 => ?_⟩
      have e5 : ∀ {z : Addr}, H5 z = none → H4 z = none := fun h => kp_none k5 B5 h
      refine ⟨_, rfl, b, _, rfl, B5, by omega, fun R2 t2 rs2 H6 h2 p2 l2 ok2 k6 B6 n2 => ?_⟩
      have e6 : ∀ {z : Addr}, H6 z = none → H5 z = none := fun h => kp_none k6 B6 h
      refine ⟨t2, rs2, rfl, .inl ⟨SqL.of h2, fun l hl => ?_⟩⟩
      have S7 := same_new (o := .tup rs2) hl
      have g7 : (upd H6 l (.tup rs2)) l = some (.tup rs2) := upd_same
      generalize upd H6 l (.tup rs2) = H7 at S7 g7 ⊢
      refine ⟨(show 2 ≤ sizeLine from by decide), fun L hL => ?_⟩
      have S8 := same_new (o := .lst [V.ref t1, V.ref l]) hL
      have g8 : (upd H7 L (.lst [V.ref t1, V.ref l])) L = some (.lst [V.ref t1, V.ref l]) := upd_same
      generalize upd H7 L (.lst [V.ref t1, V.ref l]) = H8 at S8 g8 ⊢
      have B8 := (B6.same S7).same S8
      refine ⟨_, rfl, b, 2, _, rfl, B8, by omega, by decide, by decide, fun r9 H9 a9 b9 k9 B9 => ?_⟩
      have k49 : Kp b H4 H9 := ((k5.trans k6).same (S7.trans S8)).trans k9
      have nt1 := B4.ne n1
      have nlb := B6.ne hl
      have nLb := (B6.same S7).ne hL
      obtain ⟨u, hu, R, tf, lR, okR⟩ := at_some (xs := [V.ref t1, V.ref l]) (r := r9) (P := fun v => ∃ R, TabF H H9 R v ∧ R.length ≤ 8 ∧ ∀ r ∈ R, RowN r) (fun v hv => by
        rcases List.mem_cons.mp hv with rfl | hv
        · refine ⟨R1, ⟨t1, false, rs1, rfl, kH4 n1, k9 _ _ nt1 (S8 _ _ (S7 _ _ (k6 _ _ nt1 h1))), paired_imp (fun _ _ ⟨p, q, c, c', e, h1, h2, h3, h4⟩ => ?_) p1⟩, l1, ok1⟩
          exact ⟨p, q, c, c', e, kH4 h1, kH4 h2, k9 _ _ (B4.ne h1) (S8 _ _ (S7 _ _ (k6 _ _ (B4.ne h1) h3))), k9 _ _ (B4.ne h2) (S8 _ _ (S7 _ _ (k6 _ _ (B4.ne h2) h4)))⟩
        · rw [List.mem_singleton.mp hv]
          refine ⟨R2, ⟨l, true, rs2, rfl, kH4 (e5 (e6 hl)), k9 _ _ nlb (S8 _ _ g7), paired_imp (fun _ _ ⟨p, q, c, c', e, h1, h2, h3, h4⟩ => ?_) p2⟩, l2, ok2⟩
          exact ⟨p, q, c, c', e, kH4 (e5 h1), kH4 (e5 h2), k9 _ _ (B5.ne h1) (S8 _ _ (S7 _ _ h3)), k9 _ _ (B5.ne h2) (S8 _ _ (S7 _ _ h4))⟩) a9 b9
      refine ⟨L, _, r9, u, rfl, rfl, SqL.of (k9 _ _ nLb g8), hu, ?_⟩
      have gD9 := k49 _ _ nDb gD
      have en : EntF H H9 R (.inr z, u) := ⟨⟨z, rfl, okz z hz⟩, tf, lR, okR⟩
      obtain ⟨Rs', pe', nd'⟩ := put_ent en (paired_imp (fun _ _ h => h.kp hB k49) pe) nd
      refine ⟨_, rfl, _, rfl, D, _, rfl, DPut.k (k := .inr z) gD9 (Nat.lt_of_lt_of_le (show kvs.length < 9 by omega) (by decide)), .inr trivial, fun y o n1 n2 h => ?_, (B9.off nDb).up (by omega), ⟨_, Rs', upd_same, paired_imp (fun _ _ h => h.keep (KeepD.upd gD9 (.inl ⟨_, rfl⟩))) pe', nd', ?_⟩, _, _, _, _, _, _, _, rfl⟩
      · rw [upd_ne n2]
        exact k49 _ _ n1 (k4 _ _ n1 n2 h)
      · have := length_putK kvs (.inr z : Key) u
        omega
    · rintro σ H4 ⟨_, k4, B4, ⟨kvs, Rs, gD, pe, nd, lk⟩, v2, v3, v4, v5, v6, v7, v8, rfl⟩
      rw [List.length_map, lz] at lk
      have l8 : kvs.length ≤ 8 := by omega
      have lR : Rs.length = kvs.length := Paired.length pe
      obtain ⟨dt, dq, sh1, sh2, sh3⟩ := fit_tabs (K := K) pe gD l8
      obtain ⟨ks, eks, okk⟩ := keys_of pe
      have lks : ks.length = kvs.length := by
        have := congrArg List.length eks
        rw [List.length_map, List.length_map] at this
        exact this.symm
      have g3D := k3 _ _ nDb (k2 _ _ nDb g1)
      have kH3 : Kp b H H3 := (k1.trans k2).trans k3
      have sy4 : Sys K H4 := (sys_kp sy hB kH3).imp id fun ⟨e, o, φ, g⟩ => ⟨e, o, φ, k4 _ _ (fun e => by
        obtain ⟨x, y, z, hb, _⟩ := B3
        rw [e, hb] at g
        cases g) (fun e => by rw [e, g3D] at g; cases g) g⟩
      have tn4 : NdefX.TabsN (TT a) H4 := tabsN_data (tabsN_kp tn hB kH3) fun z o n1 n2 h => k4 _ _ (fun e => by
        obtain ⟨x, y, z', hb, _⟩ := B3
        rw [e, hb] at h
        exact n1 _ (Option.some.inj h).symm) (fun e => by rw [e, g3D] at h; exact n2 _ (Option.some.inj h).symm) h
      have KT4 : KT b H H4 := fun z o n _ h => k4 _ _ n (fun e => by rw [e, hD] at h; cases h) (kH3 _ _ n h)
      refine ⟨_, rfl, .ref D, dt, rfl, sy4, dq, sh1, sh2, sh3, _, rfl, .ref D, rfl, .inr (.inr ⟨D, kvs, Rs, rfl, gD, tn4, paired_imp (fun _ _ h => h.ok) pe, by omega, nd, fun M H5 fs X5 T5 nM gM ef pm => ?_⟩)⟩
      have gD5 := X5 _ _ gD (fun _ z => by cases z)
      refine ⟨_, _, rfl, _, rfl, _, _, _, _, true, rfl, .ty _, .x (.base (.dK gM)), kit_ty (by decide +kernel), _, rfl, iteF ?_⟩
      refine ⟨_, rfl, M, fs, ks, rfl, .inl gM, ef.trans eks, by omega, fun ys p1 py sy1 hp1 => ?_⟩
      have S6 := same_new (o := .lst (ys.map V.str)) hp1
      have g6 : (upd H5 p1 (.lst (ys.map V.str))) p1 = some (.lst (ys.map V.str)) := upd_same
      generalize upd H5 p1 (.lst (ys.map V.str)) = H6 at S6 g6 ⊢
      refine ⟨_, rfl, D, kvs, ks, rfl, .inl (S6 _ _ gD5), eks, by omega, fun us p2 pu su hp2 => ?_⟩
      have S7 := same_new (o := .lst (us.map V.str)) hp2
      have g7 : (upd H6 p2 (.lst (us.map V.str))) p2 = some (.lst (us.map V.str)) := upd_same
      generalize upd H6 p2 (.lst (us.map V.str)) = H7 at S7 g7 ⊢
      have eyu : ys = us := sorted_one sy1 su (py.trans pu.symm)
      subst eyu
      have shL : ShN 1 (.list (ys.map PyData.str)) := ShN.lst (n := 0) fun x hx => by
        obtain ⟨y, hy, rfl⟩ := List.mem_map.mp hx
        exact ShN.nm (okk y (py.mem_iff.mp hy))
      refine ⟨.list (ys.map PyData.str), .list (ys.map PyData.str), .lst (SqL.of (S7 _ _ g6)) (dp_strs ys), .lst (SqL.of g7) (dp_strs ys), shL.shaped (by decide), shL.shaped (by decide), ?_⟩
      rw [shL.eqv]
      refine ⟨_, rfl, iteF ?_⟩
      have S57 := S6.trans S7
      have gD7 := S57 _ _ gD5
      have gM7 := S57 _ _ gM
      have X7 : LamX.ExtN H4 H7 := fun z o h n => S57 _ _ (X5 _ _ h n)
      have T7 : NdefX.TabsN (TT a) H7 := T5.ext fun z o h => S57 _ _ h
      have nMD : M ≠ D := fun e => by rw [e, gD] at nM; cases nM
      clear S6 S7 g6 g7 hp1 hp2
      refine ⟨D, _, gD7, True.intro, fun od => ⟨_, rfl, D, od, rfl, .inl ⟨kvs, upd_same, ?_⟩⟩⟩
      have kL : KeepD H7 (upd H7 D (.frz od (.dK kvs))) := KeepD.upd gD7 (.inl ⟨_, rfl⟩)
      have syL : Sys K (upd H7 D (.frz od (.dK kvs))) := (sys_ext sy4 X7).imp id fun ⟨e, o, φ, g⟩ => ⟨e, o, φ, by rw [upd_ne fun e => by rw [e, gD7] at g; cases g]; exact g⟩
      have gML : (upd H7 D (.frz od (.dK kvs))) M = some (.dK fs) := by rw [upd_ne nMD]; exact gM7
      have gDL : (upd H7 D (.frz od (.dK kvs))) D = some (.frz od (.dK kvs)) := upd_same
      refine for_it walk_keys (fun j σ H' => Same (upd H7 D (.frz od (.dK kvs))) H' ∧ ∃ v2 v5 v6 v7 v8, σ = [some (.ref b), some (.ref D), v2, some (.str dt.shown), some (.ref M), v5, v6, v7, v8]) ⟨Same.refl _, _, _, _, _, _, rfl⟩ ?_ ?_ ?_
      · rintro j σ H' _ ⟨S, _⟩
        exact S _ _ upd_same
      · rintro i x σ _ H8 hi ⟨S8, v2, v5, v6, v7, v8, rfl⟩ ⟨rfl, k, u, hk, rfl⟩
        obtain ⟨R, hR, en⟩ := paired_rev pe hk
        have en := en.keep (((KeepD.ext X7).trans kL).trans (KeepD.ext (LamX.ExtN.of S8)))
        obtain ⟨⟨z, ez, zn⟩, tf, lR8, okR⟩ := en
        cases ez
        have hvk : valV kvs (.inr z) = some u := valV_at nd hk
        obtain ⟨f0, hf0⟩ : ∃ kv, fs[i]? = some kv := by
          have := congrArg List.length ef
          rw [List.length_map, List.length_map] at this
          exact ⟨_, List.getElem?_eq_getElem (by omega)⟩
        have ek : f0.1 = .inr z := by
          have h1 : (fs.map (·.1))[i]? = some f0.1 := by rw [List.getElem?_map, hf0]; rfl
          rw [ef, List.getElem?_map, hk] at h1
          exact (Option.some.inj h1).symm
        obtain ⟨k0, fv⟩ := f0
        cases ek
        have hvf : valV fs (.inr z) = some fv := valV_at (by rw [ef]; exact nd) hf0
        have hfv : (fs.map (·.2))[i]? = some fv := by rw [List.getElem?_map, hf0]; rfl
        obtain ⟨R', hR', mn⟩ := paired_rev pm hfv
        rw [hR] at hR'
        cases hR'
        have mn := mn.keep (((KeepD.ext (LamX.ExtN.of S57)).trans kL).trans (KeepD.ext (LamX.ExtN.of S8)))
        obtain ⟨f, F, bb, rfl, hf, cm⟩ := call_mean mn
        obtain ⟨t, c, rs, rfl, ht, pr⟩ := tf.tab
        have dgD : ∀ {H' : Hp}, Same H8 H' → DGet H' D (.str z) (some (.ref t)) := fun S => .inl ⟨kvs, .inr z, .inr ⟨od, S _ _ (S8 _ _ gDL)⟩, rfl, hvk.symm⟩
        have lrs : rs.length = R.length := (Paired.length pr).symm
        refine ⟨_, rfl, _, rfl, D, _, rfl, dgD (Same.refl _), c, t, rs, rfl, seqO_B ht, fun L hL => lc_it (walk_B (xs := rs)) (fun j H' => Same H8 H' ∧ ∃ ws, H' L = some (.lst ws) ∧ ws.length = j ∧ AskL H' ws) ⟨same_new hL, [], upd_same, rfl, (fun x hx => by cases hx)⟩ ?_ ?_ ?_⟩
        · rintro j H' _ ⟨S, _⟩
          exact seqO_B (S _ _ ht)
        · rintro j x _ H9 hj ⟨S9, ws, gL, lw, ak⟩ ⟨rfl, hx⟩
          obtain ⟨r, hr', y, y2, c1, c2, rfl, hy, hy2⟩ := paired_rev pr hx
          refine ⟨rfl, _, rfl, rIx_seqO (S9 _ _ hy) (u := .ref y2) (atI_nat (j := 0) rfl) ⟨y2, _, rfl, seqO_or (S9 _ _ hy2), fun l hl => ?_⟩⟩
          have nlL : l ≠ L := fun e => by rw [e, gL] at hl; cases hl
          have Sn : Same H9 (upd H9 l (.lst (r.1.map V.int))) := same_new hl
          refine ⟨ws, Sn _ _ gL, Nat.lt_of_lt_of_le (show ws.length < 9 by omega) (by decide), Tp.Same.mut (S9.trans Sn) hL, _, upd_same, by rw [List.length_append, lw]; rfl, fun x hx => ?_⟩
          rcases List.mem_append.mp hx with hx | hx
          · obtain ⟨p, ns, e, g⟩ := ak x hx
            have npL : p ≠ L := fun e' => by
              rw [e', gL] at g
              have g := HO.lst.inj (Option.some.inj g)
              rw [g] at hx
              obtain ⟨i', _, e2⟩ := List.mem_map.mp hx
              rw [e] at e2
              cases e2
            exact ⟨p, ns, e, by rw [upd_ne npL]; exact Sn _ _ g⟩
          · rw [List.mem_singleton.mp hx]
            exact ⟨l, r.1, rfl, by rw [upd_ne nlL]; exact upd_same⟩
        · rintro H9 ⟨S9, ws, gL, lw, ak⟩
          refine ⟨Nat.zero_le _, fun l1 hl1 => ?_⟩
          have S10 := same_new (o := .lst []) hl1
          have g10 : (upd H9 l1 (.lst [])) l1 = some (.lst []) := upd_same
          generalize upd H9 l1 (.lst []) = H10 at S10 g10 ⊢
          refine ⟨(show 1 ≤ sizeLine from by decide), fun l2 hl2 => ?_⟩
          have S11 := same_new (o := .lst [V.int 7]) hl2
          have g11 : (upd H10 l2 (.lst [V.int 7])) l2 = some (.lst [V.int 7]) := upd_same
          generalize upd H10 l2 (.lst [V.int 7]) = H11 at S11 g11 ⊢
          refine ⟨(show 3 ≤ sizeLine from by decide), fun l3 hl3 => ?_⟩
          have S12 := same_new (o := .lst [V.int 7, V.int 7, V.int 7]) hl3
          have g12 : (upd H11 l3 (.lst [V.int 7, V.int 7, V.int 7])) l3 = some (.lst [V.int 7, V.int 7, V.int 7]) := upd_same
          generalize upd H11 l3 (.lst [V.int 7, V.int 7, V.int 7]) = H12 at S12 g12 ⊢
          refine ⟨_, _, rfl, rfl, (show 1 ≤ sizeLine from by decide), fun l4 hl4 => ?_⟩
          have S13 := same_new (o := .lst [V.int (0 - 1)]) hl4
          have g13 : (upd H12 l4 (.lst [V.int (0 - 1)])) l4 = some (.lst [V.int (0 - 1)]) := upd_same
          generalize upd H12 l4 (.lst [V.int (0 - 1)]) = H13 at S13 g13 ⊢
          refine ⟨(show 4 ≤ sizeLine from by decide), fun l5 hl5 => ?_⟩
          have S14 := same_new (o := .lst [V.ref l1, V.ref l2, V.ref l3, V.ref l4]) hl5
          have g14 : (upd H13 l5 (.lst [V.ref l1, V.ref l2, V.ref l3, V.ref l4])) l5 = some (.lst [V.ref l1, V.ref l2, V.ref l3, V.ref l4]) := upd_same
          generalize upd H13 l5 (.lst [V.ref l1, V.ref l2, V.ref l3, V.ref l4]) = H14 at S14 g14 ⊢
          have S9e : Same H9 H14 := (((S10.trans S11).trans S12).trans S13).trans S14
          have ak14 : AskL H14 (ws ++ [V.ref l1, V.ref l2, V.ref l3, V.ref l4]) := (ak.same S9e).app fun x hx => by
            simp only [List.mem_cons, List.not_mem_nil, or_false] at hx
            rcases hx with rfl | rfl | rfl | rfl
            · exact ⟨l1, [], rfl, S14 _ _ (S13 _ _ (S12 _ _ (S11 _ _ g10)))⟩
            · exact ⟨l2, [7], rfl, S14 _ _ (S13 _ _ (S12 _ _ g11))⟩
            · exact ⟨l3, [7, 7, 7], rfl, S14 _ _ (S13 _ _ g12)⟩
            · exact ⟨l4, [0 - 1], rfl, S14 _ _ g13⟩
          refine ⟨L, l5, ws, _, rfl, rfl, S9e _ _ gL, g14, Nat.le_trans (show ws.length + 4 ≤ 13 by omega) (by decide), fun l6 hl6 => ?_⟩
          have lx : (ws ++ [V.ref l1, V.ref l2, V.ref l3, V.ref l4]).length ≤ 13 := by
            rw [List.length_append]
            show ws.length + 4 ≤ 13
            omega
          obtain ⟨xs, exs⟩ : ∃ xs, xs = ws ++ [V.ref l1, V.ref l2, V.ref l3, V.ref l4] := ⟨_, rfl⟩
          rw [← exs] at lx ak14 ⊢
          have S15 := same_new (o := .lst xs) hl6
          have g15 : (upd H14 l6 (.lst xs)) l6 = some (.lst xs) := upd_same
          generalize upd H14 l6 (.lst xs) = H15 at S15 g15 ⊢
          have S8f : Same H8 H15 := (S9.trans S9e).trans S15
          refine ⟨_, rfl, _, rfl, M, _, rfl, DGet.k (k := .inr z) (S8f _ _ (S8 _ _ gML)) |> fun h => by rw [hvf] at h; exact h, ?_⟩
          refine ⟨_, rfl, _, rfl, l6, l6, xs, xs, rfl, rfl, g15, g15, Nat.le_trans (show _ ≤ 26 by omega) (by decide), fun l7 hl7 => ?_⟩
          have S16 := same_new (o := .lst (xs ++ xs)) hl7
          have g16 : (upd H15 l7 (.lst (xs ++ xs))) l7 = some (.lst (xs ++ xs)) := upd_same
          generalize upd H15 l7 (.lst (xs ++ xs)) = H16 at S16 g16 ⊢
          have S8g := S8f.trans S16
          have ak16 : AskL H16 (xs ++ xs) := ((ak14.same S15).app (ak14.same S15)).same S16
          refine ⟨l7, rfl, ⟨_, SqL.of g16⟩, for_it (walk_list (xs := xs ++ xs)) (fun j σ H' => Same H16 H' ∧ ∃ v7 v8, σ = [some (.ref b), some (.ref D), some (.str z), some (.str dt.shown), some (.ref M), some (.ref l6), some (.ref f), v7, v8]) ⟨Same.refl _, _, _, rfl⟩ ?_ ?_ ?_⟩
          · rintro j σ H' _ ⟨S, _⟩
            exact SqL.of (S _ _ g16)
          · rintro j x σ _ H17 hj ⟨S17, v7', v8', rfl⟩ ⟨rfl, hx⟩
            obtain ⟨p, ns, rfl, gp⟩ := ak16 x (List.mem_of_getElem? hx)
            have gp := S17 _ _ gp
            have S8h := S8g.trans S17
            have sy17 : ∀ {H' : Hp}, Same H17 H' → Sys K H' := fun S => syL.same ((S8.trans S8h).trans S)
            have fi := (fitq_int (n := 1) (i := look R ns) (Nat.lt_of_le_of_lt (look_le okR) (by decide))).ok (by decide) (by decide)
            refine ⟨f, F, bb, rfl, S8h _ _ hf, _, rfl, p, ns.map V.int, rfl, .inl (SqL.of gp), fun l8 hl8 => cm _ l8 ns _ (S8h.trans (same_new hl8)) upd_same fun H18 S18 => ?_⟩
            have S17e : Same H17 H18 := (same_new hl8).trans S18
            refine ⟨_, .int (look R ns), rfl, sy17 S17e, .int _, fi.1, fi.2.1, fi.2.2, ?_⟩
            refine ⟨_, rfl, _, rfl, D, _, rfl, dgD (S8h.trans S17e), _, rfl, .ref t, p, R, ns, rfl, ⟨t, c, rs, rfl, S17e _ _ (S8h _ _ ht), paired_imp (fun _ _ h => h.same (S8h.trans S17e)) pr⟩, S17e _ _ gp, fun H19 S19 => ?_⟩
            refine ⟨_, .int (look R ns), rfl, sy17 (S17e.trans S19), .int _, fi.1, fi.2.1, fi.2.2, rfl, _, rfl, ifnY rfl ?_⟩
            exact ⟨(S17.trans S17e).trans S19, _, _, rfl⟩
          · rintro σ H17 ⟨S17, v7', v8', rfl⟩
            exact ⟨(S8.trans S8g).trans S17, _, _, _, _, _, rfl⟩
      · rintro σ H8 ⟨S8, v2, v5, v6, v7, v8, rfl⟩
        refine ⟨S8 _ _ upd_same, ?_⟩
        have S9 := un_lock gD7 S8
        have gD9 : (upd H8 D (.dK kvs)) D = some (.dK kvs) := upd_same
        generalize upd H8 D (.dK kvs) = H9 at S9 gD9 ⊢
        have X9 : LamX.ExtN H4 H9 := fun z o h n => S9 _ _ (X7 _ _ h n)
        have T9 : NdefX.TabsN (TT a) H9 := T7.ext fun z o h => S9 _ _ h
        refine ⟨_, rfl, .ref D, dt, rfl, sys_ext sy4 X9, (dq_ext X9).1 dq, sh1, sh2, sh3, _, rfl, rfl, _, rfl, ?_⟩
        rw [decide_eq_true rfl]
        refine iteT ?_
        intro E0 hE0
        have SE : Same H9 (upd H9 E0 (.dK [])) := same_new hE0
        refine ⟨.ref E0, rfl, .inr (.inr ⟨E0, [], [], rfl, upd_same, T9.ext fun z o h => SE _ _ h, .nil, Nat.zero_le _, .nil, fun M2 H10 fs2 X10 T10 nM2 gM2 ef2 pm2 => ?_⟩)⟩
        have e2 : fs2 = [] := List.map_eq_nil_iff.mp ef2
        subst e2
        intro E1 hE1
        have S11 : Same H10 (upd H10 E1 (.dK [])) := same_new hE1
        refine ⟨M2, E1, [], [], rfl, rfl, S11 _ _ gM2, upd_same, ?_⟩
        have XE : LamX.ExtN H4 (upd H10 E1 (.dK [])) := fun z o h n => S11 _ _ (X10 _ _ (SE _ _ (X9 _ _ h n)) n)
        exact q _ (fun z o n1 n2 h => XE _ _ (KT4 _ _ n1 n2 h) n2) ((box_ext B4 XE).up (by have e : (zs.map V.str).length = zs.length := List.length_map _; omega)) (T10.ext fun z o h => S11 _ _ h)
end
end L58
set_option Elab.async false
set_option linter.all false
set_option maxRecDepth 100000
set_option maxHeartbeats 4000000
set_option pp.deepTerms false
set_option pp.deepTerms.threshold 4
set_option pp.maxSteps 1000
namespace L58
open PySem L2 Tp
section
variable {P : Program} {w : World} {K : PySem.W.Frag} {mg : Str → Option Value} {base : Heap} {a : Ad} {d : Fd}
def oddE : List PyData := [PyData.none, PyData.int 3, PyData.tuple [PyData.tuple [], PyData.bool true], PyData.tuple [PyData.tuple [PyData.int 0]], PyData.tuple [PyData.tuple [PyData.int 0], PyData.int 1, PyData.int 2], PyData.tuple [PyData.int 0, PyData.int 1], PyData.tuple [PyData.tuple [PyData.int 0, PyData.int 0, PyData.int 0, PyData.int 0], PyData.int 1], PyData.tuple [PyData.tuple [PyData.none], PyData.int 1], PyData.tuple [PyData.tuple [PyData.bool true], PyData.int 1], PyData.str "ab", PyData.tuple [PyData.tuple [], PyData.none], PyData.tuple [PyData.tuple [], PyData.str "1"], PyData.tuple [PyData.list [], PyData.list [PyData.int 1]], PyData.dict [], PyData.list []]
theorem odd_ok : ∀ e ∈ oddE, rowD e = false ∧ FitQ 3 400 e := by
  unfold FitQ
  decide +kernel
theorem cutV_pre (xs : List V) (j : Nat) : cutV xs none (some (j : Int)) = xs.take j := by
  unfold cutV
  rw [HT.sIx_nat]
  show (xs.drop 0).take (min j xs.length - 0) = _
  rw [List.drop_zero, Nat.sub_zero]
  by_cases h : j ≤ xs.length
  · rw [Nat.min_eq_left h]
  · rw [Nat.min_eq_right (by omega), List.take_length, List.take_of_length_le (by omega)]
theorem cutV_suf (xs : List V) (j : Nat) : cutV xs (some (j : Int)) none = xs.drop j := by
  unfold cutV
  rw [HT.sIx_nat]
  show (xs.drop (min j xs.length)).take (xs.length - min j xs.length) = _
  rw [List.take_of_length_le (by rw [List.length_drop]; omega)]
  by_cases h : j ≤ xs.length
  · rw [Nat.min_eq_left h]
  · rw [Nat.min_eq_right (by omega), List.drop_length, List.drop_of_length_le (by omega)]
theorem dqAll_take {H : Hp} : ∀ {vs : List V} {ds : List PyData}, DqAll K H vs ds → ∀ j, DqAll K H (vs.take j) (ds.take j)
  | _, _, _, 0 => .nil
  | _, _, .nil, _ + 1 => .nil
  | _, _, .cons a t, j + 1 => .cons a (dqAll_take t j)
theorem dqAll_drop {H : Hp} : ∀ {vs : List V} {ds : List PyData}, DqAll K H vs ds → ∀ j, DqAll K H (vs.drop j) (ds.drop j)
  | _, _, h, 0 => h
  | _, _, .nil, _ + 1 => .nil
  | _, _, .cons _ t, j + 1 => dqAll_drop t j
theorem kp_off {b : Addr} {H H' : Hp} (k : Kp b H H') : Same (offk b H) (offk b H') := fun z o h => by
  by_cases e : z = b
  · rw [e] at h
    unfold offk at h
    rw [if_pos rfl] at h
    cases h
  · exact offk_get e (k _ _ e (offk_to _ _ h))
theorem same_pair {H : Hp} {p : Addr} {x y : HO} (h : H p = none) : Same H (upd (upd H p x) p y) := Tp.Same.mut (same_new h) h
def off2 (F U : Addr) (H : Hp) : Hp := fun z => if z = F ∨ z = U then none else H z
theorem off2_get {F U z : Addr} {H : Hp} {o : HO} (n1 : z ≠ F) (n2 : z ≠ U) (h : H z = some o) : off2 F U H z = some o := by
  unfold off2
  rw [if_neg (fun e => e.elim n1 n2)]
  exact h
theorem off2_to {F U : Addr} {H : Hp} : Same (off2 F U H) H := fun z o h => by
  unfold off2 at h
  split at h
  · cases h
  · exact h
theorem off2_ne {F U z : Addr} {H : Hp} {o : HO} (h : off2 F U H z = some o) : z ≠ F ∧ z ≠ U := by
  unfold off2 at h
  split at h
  · cases h
  · rename_i n
    exact ⟨fun e => n (.inl e), fun e => n (.inr e)⟩
theorem off2_same {F U : Addr} {H H' : Hp} (S : Same H H') : Same (off2 F U H) (off2 F U H') := fun z o h => let ⟨n1, n2⟩ := off2_ne h; off2_get n1 n2 (S _ _ (off2_to _ _ h))
theorem off2_F {F U : Addr} {H : Hp} {x : HO} : Same (off2 F U H) (off2 F U (upd H F x)) := fun z o h => let ⟨n1, n2⟩ := off2_ne h; off2_get n1 n2 (by rw [upd_ne n1]; exact off2_to _ _ h)
theorem off2_U {F U : Addr} {H : Hp} {x : HO} : Same (off2 F U H) (off2 F U (upd H U x)) := fun z o h => let ⟨n1, n2⟩ := off2_ne h; off2_get n1 n2 (by rw [upd_ne n2]; exact off2_to _ _ h)
theorem off2_new {F U : Addr} {H H' : Hp} (S : Same H H') (n1 : H F = none) (n2 : H U = none) : Same H (off2 F U H') := fun z o h => off2_get (fun e => by rw [e, n1] at h; cases h) (fun e => by rw [e, n2] at h; cases h) (S _ _ h)
theorem dq_pair {H : Hp} {l : Addr} {z : Str} {v : V} {e : PyData} (g : H l = some (.lst [.str z, v])) (h : Dq K H v e) : Dq K H (.ref l) (.list [.str z, e]) := .lst (SqL.of g) (.cons (.str z) (.cons h .nil))
theorem fit_pair {z : Str} {e : PyData} (h : Sm 10 z) (f : FitQ 3 400 e) : FitQ 4 1000 (.list [.str z, e]) := (fitq_list (n := 3) (w := 400) fun x hx => by
  rcases List.mem_cons.mp hx with rfl | hx
  · exact (fitq_str h).up (Nat.le_refl _) (by decide)
  · rw [List.mem_singleton.mp hx]
    exact f).up (Nat.le_refl _) (by simp)
theorem sm_tags : ∀ z ∈ [("row" : Str), "name", "part"], Sm 10 z := by
  unfold Sm
  decide +kernel
theorem fit_small : ∀ e ∈ [PyData.none, .int 3, .list [], .str "f", .tuple [.tuple [.str "f", .list []]], .bool true, .str "A", .int 7, .dict []], FitQ 3 400 e := by
  unfold FitQ
  decide +kernel
theorem things_ok : ∀ e ∈ [PyData.none, .int 3, .list [], .str "f", .tuple [.tuple [.str "f", .list []]], .bool true], isDc e = false ∧ FitQ 3 400 e := by
  unfold FitQ
  decide +kernel
theorem ok_refused (T : Txt K mg a d) (TB : LamX.TabB base mg a.cFn a.pFn) : FnG P w K mg base CX0 9 a.refused d.refused ["_law_box_here"] (spPart K a) := by
  have G_take := ok_take (P := P) (w := w) (base := base) T
  have G_table := ok_table (P := P) (w := w) (base := base) T
  have G_told := ok_told (P := P) (w := w) (base := base) T TB
  refine okG T.F_refused scRefused (fun vs H Q E h => ?_) (fun cdv A outer s H vs Q E hr hg h => ?_)
  · obtain ⟨b, n, rfl, _⟩ := h
    rfl
  · obtain ⟨b, n, rfl, hB, hn, sy, tn, q⟩ := h
    refine ⟨_, (pss_cons (ps_set (i := 1) scRefused.nd rfl (Or.inl rfl) (Tp.pe_callG G_table (hr.mono (by decide)) hg (by rfl) T.mg_table T.F_table.kp T.b_table .nil pass0 (pa_cons (pv 0) pa_nil)))
      (pss_cons (ps_set (i := 2) scRefused.nd rfl (Or.inl rfl) (pe_lst (pa_cons pe_non (pa_cons pe_int (pa_cons (pe_tup (pa_cons (pe_tup pa_nil) (pa_cons pe_bl pa_nil))) (pa_cons (pe_tup (pa_cons (pe_tup (pa_cons pe_int pa_nil)) pa_nil)) (pa_cons (pe_tup (pa_cons (pe_tup (pa_cons pe_int pa_nil)) (pa_cons pe_int (pa_cons pe_int pa_nil)))) (pa_cons (pe_tup (pa_cons pe_int (pa_cons pe_int pa_nil))) (pa_cons (pe_tup (pa_cons (pe_tup (pa_cons pe_int (pa_cons pe_int (pa_cons pe_int (pa_cons pe_int pa_nil))))) (pa_cons pe_int pa_nil))) (pa_cons (pe_tup (pa_cons (pe_tup (pa_cons pe_non pa_nil)) (pa_cons pe_int pa_nil))) (pa_cons (pe_tup (pa_cons (pe_tup (pa_cons pe_bl pa_nil)) (pa_cons pe_int pa_nil))) (pa_cons pe_str pa_nil))))))))))))
      (pss_cons (ps_set (i := 2) scRefused.nd rfl (Or.inl rfl) (pe_op op_cat (pv 2) (pe_lst (pa_cons (pe_tup (pa_cons (pe_tup pa_nil) (pa_cons pe_non pa_nil))) (pa_cons (pe_tup (pa_cons (pe_tup pa_nil) (pa_cons pe_str pa_nil))) (pa_cons (pe_tup (pa_cons (pe_lst pa_nil) (pa_cons (pe_lst (pa_cons pe_int pa_nil)) pa_nil))) (pa_cons pe_dnewK (pa_cons (pe_lst pa_nil) pa_nil))))))))
      (pss_cons (ps_par (i := 3) (j := 4) (by rfl) scRefused.nd rfl rfl (by decide) rfl rfl (pa_cons (pe_ix ix_list (pv 2) (Tp.pe_callG G_take (hr.mono (by decide)) hg (by rfl) T.mg_take T.F_take.kp T.b_take .nil pass0 (pa_cons (pv 0) (pa_cons pe_int pa_nil))) (fun _ _ => rfl)) (pa_cons (Tp.pe_callG G_take (hr.mono (by decide)) hg (by rfl) T.mg_take T.F_take.kp T.b_take .nil pass0 (pa_cons (pv 0) (pa_cons (pe_op op_add (pe_callB call_len_seq (by rfl) T.len_ Tp.bt_len (pa_cons (pv 1) pa_nil)) pe_int) pa_nil))) pa_nil)) (by rfl))
      (pss_cons (ps_set (i := 5) scRefused.nd rfl (Or.inl rfl) (pe_op op_cat (pe_op op_cat (pe_op op_cat (pe_slice sl_list (pv 1) po_none (po_some (pv 4))) (pe_lst (pa_cons (pv 3) pa_nil))) (pe_slice sl_list (pv 1) (po_some (pv 4)) po_none)) (pe_lst (pa_cons (pe_ix ix_list (pv 2) (Tp.pe_callG G_take (hr.mono (by decide)) hg (by rfl) T.mg_take T.F_take.kp T.b_take .nil pass0 (pa_cons (pv 0) (pa_cons pe_int pa_nil))) (fun _ _ => rfl)) pa_nil))))
      (pss_cons (ps_set (i := 6) scRefused.nd rfl (Or.inl rfl) (pe_lst (pa_cons (Tp.pe_callG G_told (hr.mono (by decide)) hg (by rfl) T.mg_told T.F_told.kp T.b_told .nil pass0 (pa_cons (pe_disp (pps_cons pe_str (pv 5) pps_nil) (by rfl) (by rfl) (fun z => by cases z) (by decide)) pa_nil)) (pa_cons (Tp.pe_callG G_told (hr.mono (by decide)) hg (by rfl) T.mg_told T.F_told.kp T.b_told .nil pass0 (pa_cons (pe_disp (pps_cons pe_str (pe_callTy call_tuple_of (by rfl) T.tuple_ Tp.bt_tuple (pa_cons (pv 5) pa_nil)) pps_nil) (by rfl) (by rfl) (fun z => by cases z) (by decide)) pa_nil)) (pa_cons (Tp.pe_callG G_told (hr.mono (by decide)) hg (by rfl) T.mg_told T.F_told.kp T.b_told .nil pass0 (pa_cons (pe_disp (pps_cons pe_str (pv 5) pps_nil) (by rfl) (by rfl) (fun z => by cases z) (by decide)) pa_nil)) (pa_cons (Tp.pe_callG G_told (hr.mono (by decide)) hg (by rfl) T.mg_told T.F_told.kp T.b_told .nil pass0 (pa_cons (pe_disp (pps_cons pe_str pe_int pps_nil) (by rfl) (by rfl) (fun z => by cases z) (by decide)) pa_nil)) pa_nil))))))
      (pss_cons (ps_set (i := 7) scRefused.nd rfl (Or.inl rfl) (pe_lst (pa_cons (pe_lst (pa_cons pe_str (pa_cons (pv 3) pa_nil))) (pa_cons (pe_lst (pa_cons pe_str (pa_cons (pv 3) pa_nil))) (pa_cons (pe_lst (pa_cons pe_str (pa_cons pe_str pa_nil))) (pa_cons (pe_lst (pa_cons pe_str (pa_cons pe_int pa_nil))) pa_nil))))))
      (pss_cons (ps_for PassesOwn.never rfl (pi_list (pe_lst (pa_cons pe_non (pa_cons pe_int (pa_cons (pe_lst pa_nil) (pa_cons pe_str (pa_cons (pe_tup (pa_cons (pe_tup (pa_cons pe_str (pa_cons (pe_lst pa_nil) pa_nil))) pa_nil)) (pa_cons pe_bl pa_nil)))))))) (pg_name (i := 8) scRefused.nd rfl (Or.inl rfl)) (pss_cons (ps_expr (pe_bm PySem.F.plainAttrs_list PySem.F.slot_list_append PySem.F.type_list_append mt_append (pv 6) (pa_cons (Tp.pe_callG G_told (hr.mono (by decide)) hg (by rfl) T.mg_told T.F_told.kp T.b_told .nil pass0 (pa_cons (pv 8) pa_nil)) pa_nil)))
      (pss_one (ps_expr (pe_bm PySem.F.plainAttrs_list PySem.F.slot_list_append PySem.F.type_list_append mt_append (pv 7) (pa_cons (pe_lst (pa_cons pe_str (pa_cons (pv 8) pa_nil))) pa_nil))))))
      (pss_cons (ps_set (i := 6) scRefused.nd rfl (Or.inl rfl) (pe_op op_cat (pv 6) (pe_lst (pa_cons (Tp.pe_callG G_told (hr.mono (by decide)) hg (by rfl) T.mg_told T.F_told.kp T.b_told .nil pass0 (pa_cons (pe_disp (pps_cons pe_int (pv 5) pps_nil) (by rfl) (by rfl) (fun z => by cases z) (by decide)) pa_nil)) (pa_cons (Tp.pe_callG G_told (hr.mono (by decide)) hg (by rfl) T.mg_told T.F_told.kp T.b_told .nil pass0 (pa_cons (pe_disp (pps_cons pe_str pe_dnewK pps_nil) (by rfl) (by rfl) (fun z => by cases z) (by decide)) pa_nil)) (pa_cons (Tp.pe_callG G_told (hr.mono (by decide)) hg (by rfl) T.mg_told T.F_told.kp T.b_told .nil pass0 (pa_cons (pe_disp (pps_cons pe_str pe_non pps_nil) (by rfl) (by rfl) (fun z => by cases z) (by decide)) pa_nil)) pa_nil))))))
      (pss_one (ps_ret (pe_cmpR op_eq (pe_callB (Tp.call_reprQ hr hg) (by rfl) T.repr_ Tp.bt_repr (pa_cons (pv 6) pa_nil)) (pe_callB (Tp.call_reprQ hr hg) (by rfl) T.repr_ Tp.bt_repr (pa_cons (pe_op op_cat (pv 7) (pe_lst (pa_cons (pe_lst (pa_cons pe_str (pa_cons pe_int pa_nil))) (pa_cons (pe_lst (pa_cons pe_str (pa_cons pe_dnewK pa_nil))) (pa_cons (pe_lst (pa_cons pe_str (pa_cons pe_non pa_nil))) pa_nil))))) pa_nil)) (nomark _))))))))))))), ?_⟩
    refine ⟨_, rfl, b, n, rfl, hB, by omega, fun R t rs H1 gt pr lR okR k1 B1 nt => ?_⟩
    have U1 : Same H1 H1 := Same.refl _
    refine ⟨(show 0 ≤ sizeLine from by decide), fun p2 hp2 => ?_⟩
    have S2 := same_new (o := .tup []) hp2
    have g2 : (upd H1 p2 (.tup [])) p2 = some (.tup []) := upd_same
    generalize upd H1 p2 (.tup []) = H2 at S2 g2 ⊢
    have U2 := U1.trans S2
    refine ⟨(show 2 ≤ sizeLine from by decide), fun p3 hp3 => ?_⟩
    have S3 := same_new (o := .tup [V.ref p2, V.bl true]) hp3
    have g3 : (upd H2 p3 (.tup [V.ref p2, V.bl true])) p3 = some (.tup [V.ref p2, V.bl true]) := upd_same
    generalize upd H2 p3 (.tup [V.ref p2, V.bl true]) = H3 at S3 g3 ⊢
    have U3 := U2.trans S3
    refine ⟨(show 1 ≤ sizeLine from by decide), fun p4 hp4 => ?_⟩
    have S4 := same_new (o := .tup [V.int 0]) hp4
    have g4 : (upd H3 p4 (.tup [V.int 0])) p4 = some (.tup [V.int 0]) := upd_same
    generalize upd H3 p4 (.tup [V.int 0]) = H4 at S4 g4 ⊢
    have U4 := U3.trans S4
    refine ⟨(show 1 ≤ sizeLine from by decide), fun p5 hp5 => ?_⟩
    have S5 := same_new (o := .tup [V.ref p4]) hp5
    have g5 : (upd H4 p5 (.tup [V.ref p4])) p5 = some (.tup [V.ref p4]) := upd_same
    generalize upd H4 p5 (.tup [V.ref p4]) = H5 at S5 g5 ⊢
    have U5 := U4.trans S5
    refine ⟨(show 1 ≤ sizeLine from by decide), fun p6 hp6 => ?_⟩
    have S6 := same_new (o := .tup [V.int 0]) hp6
    have g6 : (upd H5 p6 (.tup [V.int 0])) p6 = some (.tup [V.int 0]) := upd_same
    generalize upd H5 p6 (.tup [V.int 0]) = H6 at S6 g6 ⊢
    have U6 := U5.trans S6
    refine ⟨(show 3 ≤ sizeLine from by decide), fun p7 hp7 => ?_⟩
    have S7 := same_new (o := .tup [V.ref p6, V.int 1, V.int 2]) hp7
    have g7 : (upd H6 p7 (.tup [V.ref p6, V.int 1, V.int 2])) p7 = some (.tup [V.ref p6, V.int 1, V.int 2]) := upd_same
    generalize upd H6 p7 (.tup [V.ref p6, V.int 1, V.int 2]) = H7 at S7 g7 ⊢
    have U7 := U6.trans S7
    refine ⟨(show 2 ≤ sizeLine from by decide), fun p8 hp8 => ?_⟩
    have S8 := same_new (o := .tup [V.int 0, V.int 1]) hp8
    have g8 : (upd H7 p8 (.tup [V.int 0, V.int 1])) p8 = some (.tup [V.int 0, V.int 1]) := upd_same
    generalize upd H7 p8 (.tup [V.int 0, V.int 1]) = H8 at S8 g8 ⊢
    have U8 := U7.trans S8
    refine ⟨(show 4 ≤ sizeLine from by decide), fun p9 hp9 => ?_⟩
    have S9 := same_new (o := .tup [V.int 0, V.int 0, V.int 0, V.int 0]) hp9
    have g9 : (upd H8 p9 (.tup [V.int 0, V.int 0, V.int 0, V.int 0])) p9 = some (.tup [V.int 0, V.int 0, V.int 0, V.int 0]) := upd_same
    generalize upd H8 p9 (.tup [V.int 0, V.int 0, V.int 0, V.int 0]) = H9 at S9 g9 ⊢
    have U9 := U8.trans S9
    refine ⟨(show 2 ≤ sizeLine from by decide), fun p10 hp10 => ?_⟩
    have S10 := same_new (o := .tup [V.ref p9, V.int 1]) hp10
    have g10 : (upd H9 p10 (.tup [V.ref p9, V.int 1])) p10 = some (.tup [V.ref p9, V.int 1]) := upd_same
    generalize upd H9 p10 (.tup [V.ref p9, V.int 1]) = H10 at S10 g10 ⊢
    have U10 := U9.trans S10
    refine ⟨(show 1 ≤ sizeLine from by decide), fun p11 hp11 => ?_⟩
    have S11 := same_new (o := .tup [V.non]) hp11
    have g11 : (upd H10 p11 (.tup [V.non])) p11 = some (.tup [V.non]) := upd_same
    generalize upd H10 p11 (.tup [V.non]) = H11 at S11 g11 ⊢
    have U11 := U10.trans S11
    refine ⟨(show 2 ≤ sizeLine from by decide), fun p12 hp12 => ?_⟩
    have S12 := same_new (o := .tup [V.ref p11, V.int 1]) hp12
    have g12 : (upd H11 p12 (.tup [V.ref p11, V.int 1])) p12 = some (.tup [V.ref p11, V.int 1]) := upd_same
    generalize upd H11 p12 (.tup [V.ref p11, V.int 1]) = H12 at S12 g12 ⊢
    have U12 := U11.trans S12
    refine ⟨(show 1 ≤ sizeLine from by decide), fun p13 hp13 => ?_⟩
    have S13 := same_new (o := .tup [V.bl true]) hp13
    have g13 : (upd H12 p13 (.tup [V.bl true])) p13 = some (.tup [V.bl true]) := upd_same
    generalize upd H12 p13 (.tup [V.bl true]) = H13 at S13 g13 ⊢
    have U13 := U12.trans S13
    refine ⟨(show 2 ≤ sizeLine from by decide), fun p14 hp14 => ?_⟩
    have S14 := same_new (o := .tup [V.ref p13, V.int 1]) hp14
    have g14 : (upd H13 p14 (.tup [V.ref p13, V.int 1])) p14 = some (.tup [V.ref p13, V.int 1]) := upd_same
    generalize upd H13 p14 (.tup [V.ref p13, V.int 1]) = H14 at S14 g14 ⊢
    have U14 := U13.trans S14
    refine ⟨(show 10 ≤ sizeLine from by decide), fun p15 hp15 => ?_⟩
    have S15 := same_new (o := .lst [V.non, V.int 3, V.ref p3, V.ref p5, V.ref p7, V.ref p8, V.ref p10, V.ref p12, V.ref p14, V.str "ab"]) hp15
    have g15 : (upd H14 p15 (.lst [V.non, V.int 3, V.ref p3, V.ref p5, V.ref p7, V.ref p8, V.ref p10, V.ref p12, V.ref p14, V.str "ab"])) p15 = some (.lst [V.non, V.int 3, V.ref p3, V.ref p5, V.ref p7, V.ref p8, V.ref p10, V.ref p12, V.ref p14, V.str "ab"]) := upd_same
    generalize upd H14 p15 (.lst [V.non, V.int 3, V.ref p3, V.ref p5, V.ref p7, V.ref p8, V.ref p10, V.ref p12, V.ref p14, V.str "ab"]) = H15 at S15 g15 ⊢
    have U15 := U14.trans S15
    refine ⟨_, rfl, ?_⟩
    refine ⟨(show 0 ≤ sizeLine from by decide), fun p16 hp16 => ?_⟩
    have S16 := same_new (o := .tup []) hp16
    have g16 : (upd H15 p16 (.tup [])) p16 = some (.tup []) := upd_same
    generalize upd H15 p16 (.tup []) = H16 at S16 g16 ⊢
    have U16 := U15.trans S16
    refine ⟨(show 2 ≤ sizeLine from by decide), fun p17 hp17 => ?_⟩
    have S17 := same_new (o := .tup [V.ref p16, V.non]) hp17
    have g17 : (upd H16 p17 (.tup [V.ref p16, V.non])) p17 = some (.tup [V.ref p16, V.non]) := upd_same
    generalize upd H16 p17 (.tup [V.ref p16, V.non]) = H17 at S17 g17 ⊢
    have U17 := U16.trans S17
    refine ⟨(show 0 ≤ sizeLine from by decide), fun p18 hp18 => ?_⟩
    have S18 := same_new (o := .tup []) hp18
    have g18 : (upd H17 p18 (.tup [])) p18 = some (.tup []) := upd_same
    generalize upd H17 p18 (.tup []) = H18 at S18 g18 ⊢
    have U18 := U17.trans S18
    refine ⟨(show 2 ≤ sizeLine from by decide), fun p19 hp19 => ?_⟩
    have S19 := same_new (o := .tup [V.ref p18, V.str "1"]) hp19
    have g19 : (upd H18 p19 (.tup [V.ref p18, V.str "1"])) p19 = some (.tup [V.ref p18, V.str "1"]) := upd_same
    generalize upd H18 p19 (.tup [V.ref p18, V.str "1"]) = H19 at S19 g19 ⊢
    have U19 := U18.trans S19
    refine ⟨(show 0 ≤ sizeLine from by decide), fun p20 hp20 => ?_⟩
    have S20 := same_new (o := .lst []) hp20
    have g20 : (upd H19 p20 (.lst [])) p20 = some (.lst []) := upd_same
    generalize upd H19 p20 (.lst []) = H20 at S20 g20 ⊢
    have U20 := U19.trans S20
    refine ⟨(show 1 ≤ sizeLine from by decide), fun p21 hp21 => ?_⟩
    have S21 := same_new (o := .lst [V.int 1]) hp21
    have g21 : (upd H20 p21 (.lst [V.int 1])) p21 = some (.lst [V.int 1]) := upd_same
    generalize upd H20 p21 (.lst [V.int 1]) = H21 at S21 g21 ⊢
    have U21 := U20.trans S21
    refine ⟨(show 2 ≤ sizeLine from by decide), fun p22 hp22 => ?_⟩
    have S22 := same_new (o := .tup [V.ref p20, V.ref p21]) hp22
    have g22 : (upd H21 p22 (.tup [V.ref p20, V.ref p21])) p22 = some (.tup [V.ref p20, V.ref p21]) := upd_same
    generalize upd H21 p22 (.tup [V.ref p20, V.ref p21]) = H22 at S22 g22 ⊢
    have U22 := U21.trans S22
    intro p23 hp23
    have S23 := same_new (o := .dK []) hp23
    have g23 : (upd H22 p23 (.dK [])) p23 = some (.dK []) := upd_same
    generalize upd H22 p23 (.dK []) = H23 at S23 g23 ⊢
    have U23 := U22.trans S23
    refine ⟨(show 0 ≤ sizeLine from by decide), fun p24 hp24 => ?_⟩
    have S24 := same_new (o := .lst []) hp24
    have g24 : (upd H23 p24 (.lst [])) p24 = some (.lst []) := upd_same
    generalize upd H23 p24 (.lst []) = H24 at S24 g24 ⊢
    have U24 := U23.trans S24
    refine ⟨(show 5 ≤ sizeLine from by decide), fun p25 hp25 => ?_⟩
    have S25 := same_new (o := .lst [V.ref p17, V.ref p19, V.ref p22, V.ref p23, V.ref p24]) hp25
    have g25 : (upd H24 p25 (.lst [V.ref p17, V.ref p19, V.ref p22, V.ref p23, V.ref p24])) p25 = some (.lst [V.ref p17, V.ref p19, V.ref p22, V.ref p23, V.ref p24]) := upd_same
    generalize upd H24 p25 (.lst [V.ref p17, V.ref p19, V.ref p22, V.ref p23, V.ref p24]) = H25 at S25 g25 ⊢
    have U25 := U24.trans S25
    refine ⟨p15, p25, _, _, rfl, rfl, (S25 _ _ (S24 _ _ (S23 _ _ (S22 _ _ (S21 _ _ (S20 _ _ (S19 _ _ (S18 _ _ (S17 _ _ (S16 _ _ (g15))))))))))), g25, (show 15 ≤ sizeLine from by decide), fun p26 hp26 => ?_⟩
    have pne : p26 ≠ b := (B1.same U25).ne hp26
    show gName 2 _ _ (upd H25 p26 (.lst [V.non, V.int 3, V.ref p3, V.ref p5, V.ref p7, V.ref p8, V.ref p10, V.ref p12, V.ref p14, V.str "ab", V.ref p17, V.ref p19, V.ref p22, V.ref p23, V.ref p24])) _
    have S26 := same_new (o := .lst [V.non, V.int 3, V.ref p3, V.ref p5, V.ref p7, V.ref p8, V.ref p10, V.ref p12, V.ref p14, V.str "ab", V.ref p17, V.ref p19, V.ref p22, V.ref p23, V.ref p24]) hp26
    have g26 : (upd H25 p26 (.lst [V.non, V.int 3, V.ref p3, V.ref p5, V.ref p7, V.ref p8, V.ref p10, V.ref p12, V.ref p14, V.str "ab", V.ref p17, V.ref p19, V.ref p22, V.ref p23, V.ref p24])) p26 = some (.lst [V.non, V.int 3, V.ref p3, V.ref p5, V.ref p7, V.ref p8, V.ref p10, V.ref p12, V.ref p14, V.str "ab", V.ref p17, V.ref p19, V.ref p22, V.ref p23, V.ref p24]) := upd_same
    generalize upd H25 p26 (.lst [V.non, V.int 3, V.ref p3, V.ref p5, V.ref p7, V.ref p8, V.ref p10, V.ref p12, V.ref p14, V.str "ab", V.ref p17, V.ref p19, V.ref p22, V.ref p23, V.ref p24]) = H26 at S26 g26 ⊢
    have T26 : Same H26 H26 := Same.refl _
    have T25 : Same H25 H26 := S26.trans T26
    have T24 : Same H24 H26 := S25.trans T25
    have T23 : Same H23 H26 := S24.trans T24
    have T22 : Same H22 H26 := S23.trans T23
    have T21 : Same H21 H26 := S22.trans T22
    have T20 : Same H20 H26 := S21.trans T21
    have T19 : Same H19 H26 := S20.trans T20
    have T18 : Same H18 H26 := S19.trans T19
    have T17 : Same H17 H26 := S18.trans T18
    have T16 : Same H16 H26 := S17.trans T17
    have T15 : Same H15 H26 := S16.trans T16
    have T14 : Same H14 H26 := S15.trans T15
    have T13 : Same H13 H26 := S14.trans T14
    have T12 : Same H12 H26 := S13.trans T13
    have T11 : Same H11 H26 := S12.trans T12
    have T10 : Same H10 H26 := S11.trans T11
    have T9 : Same H9 H26 := S10.trans T10
    have T8 : Same H8 H26 := S9.trans T9
    have T7 : Same H7 H26 := S8.trans T8
    have T6 : Same H6 H26 := S7.trans T7
    have T5 : Same H5 H26 := S6.trans T6
    have T4 : Same H4 H26 := S5.trans T5
    have T3 : Same H3 H26 := S4.trans T4
    have T2 : Same H2 H26 := S3.trans T3
    have T1 : Same H1 H26 := S2.trans T2
    have BN := B1.same T1
    have f2 := offk_get ((B1.same U1).ne hp2) (T2 _ _ g2)
    have f3 := offk_get ((B1.same U2).ne hp3) (T3 _ _ g3)
    have f4 := offk_get ((B1.same U3).ne hp4) (T4 _ _ g4)
    have f5 := offk_get ((B1.same U4).ne hp5) (T5 _ _ g5)
    have f6 := offk_get ((B1.same U5).ne hp6) (T6 _ _ g6)
    have f7 := offk_get ((B1.same U6).ne hp7) (T7 _ _ g7)
    have f8 := offk_get ((B1.same U7).ne hp8) (T8 _ _ g8)
    have f9 := offk_get ((B1.same U8).ne hp9) (T9 _ _ g9)
    have f10 := offk_get ((B1.same U9).ne hp10) (T10 _ _ g10)
    have f11 := offk_get ((B1.same U10).ne hp11) (T11 _ _ g11)
    have f12 := offk_get ((B1.same U11).ne hp12) (T12 _ _ g12)
    have f13 := offk_get ((B1.same U12).ne hp13) (T13 _ _ g13)
    have f14 := offk_get ((B1.same U13).ne hp14) (T14 _ _ g14)
    have f15 := offk_get ((B1.same U14).ne hp15) (T15 _ _ g15)
    have f16 := offk_get ((B1.same U15).ne hp16) (T16 _ _ g16)
    have f17 := offk_get ((B1.same U16).ne hp17) (T17 _ _ g17)
    have f18 := offk_get ((B1.same U17).ne hp18) (T18 _ _ g18)
    have f19 := offk_get ((B1.same U18).ne hp19) (T19 _ _ g19)
    have f20 := offk_get ((B1.same U19).ne hp20) (T20 _ _ g20)
    have f21 := offk_get ((B1.same U20).ne hp21) (T21 _ _ g21)
    have f22 := offk_get ((B1.same U21).ne hp22) (T22 _ _ g22)
    have f23 := offk_get ((B1.same U22).ne hp23) (T23 _ _ g23)
    have f24 := offk_get ((B1.same U23).ne hp24) (T24 _ _ g24)
    have f25 := offk_get ((B1.same U24).ne hp25) (T25 _ _ g25)
    have f26 := offk_get ((B1.same U25).ne hp26) (T26 _ _ g26)
    have dqO : DqAll K (offk b H26) [V.non, V.int 3, V.ref p3, V.ref p5, V.ref p7, V.ref p8, V.ref p10, V.ref p12, V.ref p14, V.str "ab", V.ref p17, V.ref p19, V.ref p22, V.ref p23, V.ref p24] oddE := (.cons (.non) (.cons (.int 3) (.cons ((.tup (SqT.of f3) (.cons ((.tup (SqT.of f2) .nil)) (.cons (.bl true) .nil)))) (.cons ((.tup (SqT.of f5) (.cons ((.tup (SqT.of f4) (.cons (.int 0) .nil))) .nil))) (.cons ((.tup (SqT.of f7) (.cons ((.tup (SqT.of f6) (.cons (.int 0) .nil))) (.cons (.int 1) (.cons (.int 2) .nil))))) (.cons ((.tup (SqT.of f8) (.cons (.int 0) (.cons (.int 1) .nil)))) (.cons ((.tup (SqT.of f10) (.cons ((.tup (SqT.of f9) (.cons (.int 0) (.cons (.int 0) (.cons (.int 0) (.cons (.int 0) .nil)))))) (.cons (.int 1) .nil)))) (.cons ((.tup (SqT.of f12) (.cons ((.tup (SqT.of f11) (.cons (.non) .nil))) (.cons (.int 1) .nil)))) (.cons ((.tup (SqT.of f14) (.cons ((.tup (SqT.of f13) (.cons (.bl true) .nil))) (.cons (.int 1) .nil)))) (.cons (.str "ab") (.cons ((.tup (SqT.of f17) (.cons ((.tup (SqT.of f16) .nil)) (.cons (.non) .nil)))) (.cons ((.tup (SqT.of f19) (.cons ((.tup (SqT.of f18) .nil)) (.cons (.str "1") .nil)))) (.cons ((.tup (SqT.of f22) (.cons ((.lst (SqL.of f20) .nil)) (.cons ((.lst (SqL.of f21) (.cons (.int 1) .nil))) .nil)))) (.cons ((.dic (.inl f23) .nil .nil)) (.cons ((.lst (SqL.of f24) .nil)) .nil)))))))))))))))
    have lo : ([V.non, V.int 3, V.ref p3, V.ref p5, V.ref p7, V.ref p8, V.ref p10, V.ref p12, V.ref p14, V.str "ab", V.ref p17, V.ref p19, V.ref p22, V.ref p23, V.ref p24] : List V).length = 15 := rfl
    generalize [V.non, V.int 3, V.ref p3, V.ref p5, V.ref p7, V.ref p8, V.ref p10, V.ref p12, V.ref p14, V.str "ab", V.ref p17, V.ref p19, V.ref p22, V.ref p23, V.ref p24] = ov at g26 dqO lo
    have ntb := hB.ne nt
    have gtN := T1 _ _ gt
    have prN := paired_imp (fun _ _ h => (RowF.row h).same T1) pr
    have kN : Kp b H H26 := k1.same T1
    have pick : ∀ {i : Nat}, i < 15 → ∃ v e, ov[i]? = some v ∧ e ∈ oddE ∧ Dq K (offk b H26) v e := fun {i} h => by
      obtain ⟨e, he, de⟩ := dqAll_get dqO (List.getElem?_eq_getElem (by omega : i < ov.length))
      exact ⟨_, e, List.getElem?_eq_getElem (by omega), List.mem_of_getElem? he, de⟩
    refine ⟨_, rfl, _, rfl, b, 15, _, rfl, BN, by omega, by decide, by decide, fun r1 Ha a1 b1 ka Ba => ?_⟩
    obtain ⟨i1, rfl⟩ := Int.eq_ofNat_of_zero_le a1
    obtain ⟨v1, e1, hv1, he1, dv1⟩ := pick (i := i1) (by omega)
    refine ⟨p26, _, _, v1, rfl, rfl, SqL.of (ka _ _ pne g26), atI_nat hv1, ?_⟩
    refine ⟨_, rfl, _, rfl, t, rs, rfl, .inl (SqL.of (ka _ _ ntb gtN)), _, _, rfl, rfl, b, _, _, rfl, Ba, by omega, by omega, by have := Paired.length pr; omega, fun r2 Hb a2 b2 kb Bb => ?_⟩
    obtain ⟨j, rfl⟩ := Int.eq_ofNat_of_zero_le a2
    refine ⟨_, _, rfl, ?_⟩
    have kb' := ka.trans kb
    have gtb := kb' _ _ ntb gtN
    have lrs : rs.length ≤ 8 := by have := Paired.length pr; omega
    refine ⟨_, rfl, _, rfl, j, rfl, t, rs, rfl, SqL.of gtb, fun q1 hq1 => ?_⟩
    rw [cutV_pre]
    have S31 := same_new (o := .lst (rs.take j)) hq1
    have g31 : (upd Hb q1 (.lst (rs.take j))) q1 = some (.lst (rs.take j)) := upd_same
    generalize upd Hb q1 (.lst (rs.take j)) = H31 at S31 g31 ⊢
    refine ⟨_, rfl, (show 1 ≤ sizeLine from by decide), fun q2 hq2 => ?_⟩
    have S32 := same_new (o := .lst [v1]) hq2
    have g32 : (upd H31 q2 (.lst [v1])) q2 = some (.lst [v1]) := upd_same
    generalize upd H31 q2 (.lst [v1]) = H32 at S32 g32 ⊢
    refine ⟨q1, q2, _, _, rfl, rfl, S32 _ _ g31, g32, Nat.le_trans (show (rs.take j).length + 1 ≤ 9 by rw [List.length_take]; omega) (by decide), fun q3 hq3 => ?_⟩
    have S33 := same_new (o := .lst (rs.take j ++ [v1])) hq3
    have g33 : (upd H32 q3 (.lst (rs.take j ++ [v1]))) q3 = some (.lst (rs.take j ++ [v1])) := upd_same
    generalize upd H32 q3 (.lst (rs.take j ++ [v1])) = H33 at S33 g33 ⊢
    refine ⟨_, rfl, _, rfl, j, rfl, t, rs, rfl, SqL.of (((S31.trans S32).trans S33) _ _ gtb), fun q4 hq4 => ?_⟩
    rw [cutV_suf]
    have S34 := same_new (o := .lst (rs.drop j)) hq4
    have g34 : (upd H33 q4 (.lst (rs.drop j))) q4 = some (.lst (rs.drop j)) := upd_same
    generalize upd H33 q4 (.lst (rs.drop j)) = H34 at S34 g34 ⊢
    refine ⟨q3, q4, _, _, rfl, rfl, S34 _ _ g33, g34, Nat.le_trans (show (rs.take j ++ [v1]).length + (rs.drop j).length ≤ 30 by rw [List.length_append, List.length_take, List.length_drop]; show _ + 1 + _ ≤ 30; omega) (by decide), fun q5 hq5 => ?_⟩
    have S35 := same_new (o := .lst (rs.take j ++ [v1] ++ rs.drop j)) hq5
    have g35 : (upd H34 q5 (.lst (rs.take j ++ [v1] ++ rs.drop j))) q5 = some (.lst (rs.take j ++ [v1] ++ rs.drop j)) := upd_same
    generalize upd H34 q5 (.lst (rs.take j ++ [v1] ++ rs.drop j)) = H35 at S35 g35 ⊢
    have Sb5 : Same Hb H35 := (((S31.trans S32).trans S33).trans S34).trans S35
    have n5 : q5 ≠ b := (Bb.same (((S31.trans S32).trans S33).trans S34)).ne hq5
    refine ⟨_, rfl, _, rfl, b, 15, _, rfl, Bb.same Sb5, by omega, by decide, by decide, fun r3 Hc a3 b3 kc Bc => ?_⟩
    obtain ⟨i3, rfl⟩ := Int.eq_ofNat_of_zero_le a3
    obtain ⟨v3, e3, hv3, he3, dv3⟩ := pick (i := i3) (by omega)
    have kNc : Kp b H26 Hc := ((kb'.same Sb5)).trans kc
    refine ⟨p26, _, _, v3, rfl, rfl, SqL.of (kNc _ _ pne g26), atI_nat hv3, (show 1 ≤ sizeLine from by decide), fun q6 hq6 => ?_⟩
    have S36 := same_new (o := .lst [v3]) hq6
    have g36 : (upd Hc q6 (.lst [v3])) q6 = some (.lst [v3]) := upd_same
    generalize upd Hc q6 (.lst [v3]) = H36 at S36 g36 ⊢
    have gq5 := S36 _ _ (kc _ _ n5 g35)
    refine ⟨q5, q6, _, _, rfl, rfl, gq5, g36, Nat.le_trans (show (rs.take j ++ [v1] ++ rs.drop j).length + 1 ≤ 40 by rw [List.length_append, List.length_append, List.length_take, List.length_drop]; show _ + 1 + _ + 1 ≤ 40; omega) (by decide), fun q7 hq7 => ?_⟩
    have S37 := same_new (o := .lst (rs.take j ++ [v1] ++ rs.drop j ++ [v3])) hq7
    have g37 : (upd H36 q7 (.lst (rs.take j ++ [v1] ++ rs.drop j ++ [v3]))) q7 = some (.lst (rs.take j ++ [v1] ++ rs.drop j ++ [v3])) := upd_same
    generalize upd H36 q7 (.lst (rs.take j ++ [v1] ++ rs.drop j ++ [v3])) = H37 at S37 g37 ⊢
    have prO : Paired (RowH (offk b H26)) R rs := paired_imp (fun _ _ ⟨p, q, c, c', e, h1, h2, h3, h4⟩ => ⟨p, q, c, c', e, offk_get (hB.ne h1) (T1 _ _ h3), offk_get (hB.ne h2) (T1 _ _ h4)⟩) pr
    obtain ⟨es, dqR, okE⟩ := rows_dq (K := K) prO fun r hr => (okR r hr).1
    have kX : Kp b H26 H37 := (kNc.same S36).same S37
    have SX : Same (offk b H26) H37 := (kp_off kX).trans offk_to
    have BX := (Bc.same S36).same S37
    have dv1 := (dq_same SX).1 dv1
    have dvr := dqAll_app (dqAll_app (dqAll_app ((dq_same SX).2 (dqAll_take dqR j)) (.cons dv1 .nil)) ((dq_same SX).2 (dqAll_drop dqR j))) (.cons ((dq_same SX).1 dv3) .nil)
    have ltj : (rs.take j).length = j := by have := Paired.length pr; rw [List.length_take]; omega
    have lte : (es.take j).length = j := by rw [← dqAll_len (dqAll_take dqR j)]; exact ltj
    have bad : ∀ {H' : Hp} {t : Addr} {c : Bool}, Same H37 H' → SqB c K H' t (rs.take j ++ [v1] ++ rs.drop j ++ [v3]) → Bad1 K H' (.inr "a") (.ref t) "row" v1 := fun {H' t c} S sq => by
      refine .row (by decide +kernel) t c _ _ j v1 e1 rfl sq ((dq_same S).2 dvr) ?_ ?_ (odd_ok e1 he1).1 fun i e' hi he => ?_
      · rw [List.append_assoc, List.append_assoc, List.getElem?_append_right (by omega), ltj, Nat.sub_self]
        rfl
      · rw [List.append_assoc, List.append_assoc, List.getElem?_append_right (by omega), lte, Nat.sub_self]
        rfl
      · rw [List.append_assoc, List.append_assoc, List.getElem?_append_left (by omega)] at he
        exact okE e' (List.mem_of_mem_take (List.mem_of_getElem? he))
    intro d1 hd1
    refine ⟨_, rfl, upd_same, [((Sum.inr "a" : Key), V.ref q7)], rfl, (Nat.le_of_ble_eq_true rfl), ?_⟩
    have SA1 : Same H37 (upd (upd H37 d1 (.dK [])) d1 (.dK (mergeK [] [((Sum.inr "a" : Key), V.ref q7)]))) := same_pair hd1
    have gA1 : (upd (upd H37 d1 (.dK [])) d1 (.dK (mergeK [] [((Sum.inr "a" : Key), V.ref q7)]))) d1 = some (.dK [((Sum.inr "a" : Key), V.ref q7)]) := upd_same
    generalize upd (upd H37 d1 (.dK [])) d1 (.dK (mergeK [] [((Sum.inr "a" : Key), V.ref q7)])) = A1 at SA1 gA1 ⊢
    refine ⟨.ref d1, "row", v1, rfl, .one d1 (Sum.inr "a" : Key) (V.ref q7) rfl gA1 (fun z e => by cases e; decide) (bad ((Same.refl H37).trans SA1) (c := false) (SqL.of (((Same.refl H37).trans SA1) _ _ g37))), fun l1 C1 Sl1 nl1 gl1 => ?_⟩
    have Z1 : Same H37 C1 := ((Same.refl H37).trans SA1).trans Sl1
    intro d2 hd2
    refine ⟨_, rfl, q7, rs.take j ++ [v1] ++ rs.drop j ++ [v3], rfl, .inl ⟨SqL.of (same_new hd2 _ _ (Z1 _ _ g37)), fun tq2 htq2 => ?_⟩⟩
    refine ⟨same_new htq2 _ _ upd_same, [((Sum.inr "a" : Key), V.ref tq2)], rfl, (Nat.le_of_ble_eq_true rfl), ?_⟩
    have nt2 : tq2 ≠ d2 := fun e => by rw [e, upd_same] at htq2; cases htq2
    have SA2 : Same C1 (upd (upd (upd C1 d2 (.dK [])) tq2 (.tup (rs.take j ++ [v1] ++ rs.drop j ++ [v3]))) d2 (.dK (mergeK [] [((Sum.inr "a" : Key), V.ref tq2)]))) := Tp.Same.mut ((same_new hd2).trans (same_new htq2)) hd2
    have gT2 : (upd (upd (upd C1 d2 (.dK [])) tq2 (.tup (rs.take j ++ [v1] ++ rs.drop j ++ [v3]))) d2 (.dK (mergeK [] [((Sum.inr "a" : Key), V.ref tq2)]))) tq2 = some (.tup (rs.take j ++ [v1] ++ rs.drop j ++ [v3])) := by rw [upd_ne nt2]; exact upd_same
    have gA2 : (upd (upd (upd C1 d2 (.dK [])) tq2 (.tup (rs.take j ++ [v1] ++ rs.drop j ++ [v3]))) d2 (.dK (mergeK [] [((Sum.inr "a" : Key), V.ref tq2)]))) d2 = some (.dK [((Sum.inr "a" : Key), V.ref tq2)]) := upd_same
    generalize upd (upd (upd C1 d2 (.dK [])) tq2 (.tup (rs.take j ++ [v1] ++ rs.drop j ++ [v3]))) d2 (.dK (mergeK [] [((Sum.inr "a" : Key), V.ref tq2)])) = A2 at SA2 gA2 gT2 ⊢
    refine ⟨.ref d2, "row", v1, rfl, .one d2 (Sum.inr "a" : Key) (V.ref tq2) rfl gA2 (fun z e => by cases e; decide) (bad (Z1.trans SA2) (c := true) (SqT.of gT2)), fun l2 C2 Sl2 nl2 gl2 => ?_⟩
    have Z2 : Same H37 C2 := (Z1.trans SA2).trans Sl2
    intro d3 hd3
    refine ⟨_, rfl, upd_same, [((Sum.inr "A" : Key), V.ref q7)], rfl, (Nat.le_of_ble_eq_true rfl), ?_⟩
    have SA3 : Same C2 (upd (upd C2 d3 (.dK [])) d3 (.dK (mergeK [] [((Sum.inr "A" : Key), V.ref q7)]))) := same_pair hd3
    have gA3 : (upd (upd C2 d3 (.dK [])) d3 (.dK (mergeK [] [((Sum.inr "A" : Key), V.ref q7)]))) d3 = some (.dK [((Sum.inr "A" : Key), V.ref q7)]) := upd_same
    generalize upd (upd C2 d3 (.dK [])) d3 (.dK (mergeK [] [((Sum.inr "A" : Key), V.ref q7)])) = A3 at SA3 gA3 ⊢
    refine ⟨.ref d3, "name", .str "A", rfl, .one d3 (Sum.inr "A" : Key) (V.ref q7) rfl gA3 (fun z e => by cases e; decide) (.name (by decide +kernel)), fun l3 C3 Sl3 nl3 gl3 => ?_⟩
    have Z3 : Same H37 C3 := (Z2.trans SA3).trans Sl3
    intro d4 hd4
    refine ⟨upd_same, [((Sum.inr "f" : Key), V.int 7)], rfl, (Nat.le_of_ble_eq_true rfl), ?_⟩
    have SA4 : Same C3 (upd (upd C3 d4 (.dK [])) d4 (.dK (mergeK [] [((Sum.inr "f" : Key), V.int 7)]))) := same_pair hd4
    have gA4 : (upd (upd C3 d4 (.dK [])) d4 (.dK (mergeK [] [((Sum.inr "f" : Key), V.int 7)]))) d4 = some (.dK [((Sum.inr "f" : Key), V.int 7)]) := upd_same
    generalize upd (upd C3 d4 (.dK [])) d4 (.dK (mergeK [] [((Sum.inr "f" : Key), V.int 7)])) = A4 at SA4 gA4 ⊢
    refine ⟨.ref d4, "part", .int 7, rfl, .one d4 (Sum.inr "f" : Key) (V.int 7) rfl gA4 (fun z e => by cases e; decide) (.part (by decide +kernel) (.int 7) (.int 7) rfl), fun l4 C4 Sl4 nl4 gl4 => ?_⟩
    have Z4 : Same H37 C4 := (Z3.trans SA4).trans Sl4
    obtain ⟨H39, e39⟩ : ∃ H39, H39 = C4 := ⟨_, rfl⟩
    rw [← e39] at Z4 gl4 Sl4 ⊢
    refine ⟨(show 4 ≤ sizeLine from by decide), fun F hF => ?_⟩
    have S40 := same_new (o := .lst [V.ref l1, V.ref l2, V.ref l3, V.ref l4]) hF
    have g40 : (upd H39 F (.lst [V.ref l1, V.ref l2, V.ref l3, V.ref l4])) F = some (.lst [V.ref l1, V.ref l2, V.ref l3, V.ref l4]) := upd_same
    generalize upd H39 F (.lst [V.ref l1, V.ref l2, V.ref l3, V.ref l4]) = H40 at S40 g40 ⊢
    refine ⟨_, rfl, (show 2 ≤ sizeLine from by decide), fun u1 hu1 => ?_⟩
    have S41 := same_new (o := .lst [V.str "row", v1]) hu1
    have g41 : (upd H40 u1 (.lst [V.str "row", v1])) u1 = some (.lst [V.str "row", v1]) := upd_same
    generalize upd H40 u1 (.lst [V.str "row", v1]) = H41 at S41 g41 ⊢
    refine ⟨_, rfl, (show 2 ≤ sizeLine from by decide), fun u2 hu2 => ?_⟩
    have S42 := same_new (o := .lst [V.str "row", v1]) hu2
    have g42 : (upd H41 u2 (.lst [V.str "row", v1])) u2 = some (.lst [V.str "row", v1]) := upd_same
    generalize upd H41 u2 (.lst [V.str "row", v1]) = H42 at S42 g42 ⊢
    refine ⟨(show 2 ≤ sizeLine from by decide), fun u3 hu3 => ?_⟩
    have S43 := same_new (o := .lst [V.str "name", V.str "A"]) hu3
    have g43 : (upd H42 u3 (.lst [V.str "name", V.str "A"])) u3 = some (.lst [V.str "name", V.str "A"]) := upd_same
    generalize upd H42 u3 (.lst [V.str "name", V.str "A"]) = H43 at S43 g43 ⊢
    refine ⟨(show 2 ≤ sizeLine from by decide), fun u4 hu4 => ?_⟩
    have S44 := same_new (o := .lst [V.str "part", V.int 7]) hu4
    have g44 : (upd H43 u4 (.lst [V.str "part", V.int 7])) u4 = some (.lst [V.str "part", V.int 7]) := upd_same
    generalize upd H43 u4 (.lst [V.str "part", V.int 7]) = H44 at S44 g44 ⊢
    refine ⟨(show 4 ≤ sizeLine from by decide), fun U hU => ?_⟩
    have S45 := same_new (o := .lst [V.ref u1, V.ref u2, V.ref u3, V.ref u4]) hU
    have g45 : (upd H44 U (.lst [V.ref u1, V.ref u2, V.ref u3, V.ref u4])) U = some (.lst [V.ref u1, V.ref u2, V.ref u3, V.ref u4]) := upd_same
    generalize upd H44 U (.lst [V.ref u1, V.ref u2, V.ref u3, V.ref u4]) = H45 at S45 g45 ⊢
    refine ⟨Nat.zero_le _, fun t1 ht1 => ?_⟩
    have S46 := same_new (o := .lst []) ht1
    have g46 : (upd H45 t1 (.lst [])) t1 = some (.lst []) := upd_same
    generalize upd H45 t1 (.lst []) = H46 at S46 g46 ⊢
    refine ⟨Nat.zero_le _, fun t2 ht2 => ?_⟩
    have S47 := same_new (o := .lst []) ht2
    have g47 : (upd H46 t2 (.lst [])) t2 = some (.lst []) := upd_same
    generalize upd H46 t2 (.lst []) = H47 at S47 g47 ⊢
    refine ⟨(show 2 ≤ sizeLine from by decide), fun t3 ht3 => ?_⟩
    have S48 := same_new (o := .tup [V.str "f", V.ref t2]) ht3
    have g48 : (upd H47 t3 (.tup [V.str "f", V.ref t2])) t3 = some (.tup [V.str "f", V.ref t2]) := upd_same
    generalize upd H47 t3 (.tup [V.str "f", V.ref t2]) = H48 at S48 g48 ⊢
    refine ⟨(show 1 ≤ sizeLine from by decide), fun t4 ht4 => ?_⟩
    have S49 := same_new (o := .tup [V.ref t3]) ht4
    have g49 : (upd H48 t4 (.tup [V.ref t3])) t4 = some (.tup [V.ref t3]) := upd_same
    generalize upd H48 t4 (.tup [V.ref t3]) = H49 at S49 g49 ⊢
    refine ⟨(show 6 ≤ sizeLine from by decide), fun t5 ht5 => ?_⟩
    have S50 := same_new (o := .lst [V.non, V.int 3, V.ref t1, V.str "f", V.ref t4, V.bl true]) ht5
    have g50 : (upd H49 t5 (.lst [V.non, V.int 3, V.ref t1, V.str "f", V.ref t4, V.bl true])) t5 = some (.lst [V.non, V.int 3, V.ref t1, V.str "f", V.ref t4, V.bl true]) := upd_same
    generalize upd H49 t5 (.lst [V.non, V.int 3, V.ref t1, V.str "f", V.ref t4, V.bl true]) = H50 at S50 g50 ⊢
    have Z45 : Same H39 H45 := ((((S40.trans S41).trans S42).trans S43).trans S44).trans S45
    have Z50 : Same H45 H50 := (((S46.trans S47).trans S48).trans S49).trans S50
    have smR := sm_tags "row" (by simp)
    have smN := sm_tags "name" (by simp)
    have smP := sm_tags "part" (by simp)
    have nU39 : H39 U = none := by
      cases e : H39 U with
      | none => rfl
      | some o => rw [((((S40.trans S41).trans S42).trans S43).trans S44) _ _ e] at hU; cases hU
    have nFU : F ≠ U := fun e => by
      rw [← e, ((((S41.trans S42).trans S43).trans S44)) _ _ g40] at hU
      cases hU
    have off39 : ∀ {H' : Hp}, Same H39 H' → Same H39 (off2 F U H') := fun S => off2_new S hF nU39
    have dv1' : Dq K (off2 F U H50) v1 e1 := (dq_same (Z4.trans (off39 (Z45.trans Z50)))).1 dv1
    have W3 : Same C3 H39 := SA4.trans Sl4
    have W2 : Same C2 H39 := (SA3.trans Sl3).trans W3
    have W1 : Same C1 H39 := (SA2.trans Sl2).trans W2
    have O39 := off39 (Z45.trans Z50)
    have fU : ∀ {H' : Hp} {z : Addr}, Same H45 H' → H' z = none → z ≠ F ∧ z ≠ U := fun S h => ⟨(fun e => by rw [e, S _ _ ((((((S41.trans S42).trans S43).trans S44).trans S45)) _ _ g40)] at h; cases h), (fun e => by rw [e, S _ _ g45] at h; cases h)⟩
    have fu : ∀ {H' : Hp} {z : Addr} {o : HO}, Same H' H44 → H' z = some o → z ≠ U := fun S h e => by rw [e] at h; rw [S _ _ h] at hU; cases hU
    have nuF : ∀ {H' : Hp} {z : Addr}, Same H40 H' → H' z = none → z ≠ F := fun S h e => by rw [e, S _ _ g40] at h; cases h
    have ou1 : off2 F U H50 u1 = _ := off2_get (nuF (Same.refl _) hu1) (fu ((S42.trans S43).trans S44) g41) (Z50 _ _ ((((S42.trans S43).trans S44).trans S45) _ _ g41))
    have ou2 : off2 F U H50 u2 = _ := off2_get (nuF S41 hu2) (fu (S43.trans S44) g42) (Z50 _ _ (((S43.trans S44).trans S45) _ _ g42))
    have ou3 : off2 F U H50 u3 = _ := off2_get (nuF (S41.trans S42) hu3) (fu S44 g43) (Z50 _ _ ((S44.trans S45) _ _ g43))
    have ou4 : off2 F U H50 u4 = _ := off2_get (nuF ((S41.trans S42).trans S43) hu4) (fu (Same.refl _) g44) (Z50 _ _ (S45 _ _ g44))
    have dF : DqAll K (off2 F U H50) [V.ref l1, V.ref l2, V.ref l3, V.ref l4] [.list [.str "row", e1], .list [.str "row", e1], .list [.str "name", .str "A"], .list [.str "part", .int 7]] := .cons (dq_pair (O39 _ _ (W1 _ _ gl1)) dv1') (.cons (dq_pair (O39 _ _ (W2 _ _ gl2)) dv1') (.cons (dq_pair (O39 _ _ (W3 _ _ gl3)) (.str "A")) (.cons (dq_pair (O39 _ _ gl4) (.int 7)) .nil)))
    have dU : DqAll K (off2 F U H50) [V.ref u1, V.ref u2, V.ref u3, V.ref u4] [.list [.str "row", e1], .list [.str "row", e1], .list [.str "name", .str "A"], .list [.str "part", .int 7]] := .cons (dq_pair ou1 dv1') (.cons (dq_pair ou2 dv1') (.cons (dq_pair ou3 (.str "A")) (.cons (dq_pair ou4 (.int 7)) .nil)))
    have fD : ∀ x ∈ [PyData.list [.str "row", e1], .list [.str "row", e1], .list [.str "name", .str "A"], .list [.str "part", .int 7]], FitQ 4 1000 x := fun x hx => by
      simp only [List.mem_cons, List.not_mem_nil, or_false] at hx
      rcases hx with rfl | rfl | rfl | rfl
      · exact fit_pair smR (odd_ok e1 he1).2
      · exact fit_pair smR (odd_ok e1 he1).2
      · exact fit_pair smN (fit_small _ (by simp))
      · exact fit_pair smP (fit_small _ (by simp))
    have ft1 := fU (Same.refl _) ht1
    have ft2 := fU S46 ht2
    have ft3 := fU (S46.trans S47) ht3
    have ft4 := fU ((S46.trans S47).trans S48) ht4
    have ft5 := fU (((S46.trans S47).trans S48).trans S49) ht5
    have dT : DqAll K (off2 F U H50) [V.non, V.int 3, V.ref t1, V.str "f", V.ref t4, V.bl true] [.none, .int 3, .list [], .str "f", .tuple [.tuple [.str "f", .list []]], .bool true] := .cons .non (.cons (.int 3) (.cons (.lst (SqL.of (off2_get ft1.1 ft1.2 ((((S47.trans S48).trans S49).trans S50) _ _ g46))) .nil) (.cons (.str "f") (.cons (.tup (SqT.of (off2_get ft4.1 ft4.2 (S50 _ _ g49))) (.cons (.tup (SqT.of (off2_get ft3.1 ft3.2 ((S49.trans S50) _ _ g48))) (.cons (.str "f") (.cons (.lst (SqL.of (off2_get ft2.1 ft2.2 (((S48.trans S49).trans S50) _ _ g47))) .nil) .nil))) .nil)) (.cons (.bl true) .nil)))))
    have g5o := off2_get ft5.1 ft5.2 g50
    have lth : [V.non, V.int 3, V.ref t1, V.str "f", V.ref t4, V.bl true].length = 6 := rfl
    generalize [V.non, V.int 3, V.ref t1, V.str "f", V.ref t4, V.bl true] = thv at g50 g5o dT lth ⊢
    have gF50 := (Z50 _ _ (((((S41.trans S42).trans S43).trans S44).trans S45) _ _ g40))
    have gU50 := Z50 _ _ g45
    refine ⟨t5, rfl, ⟨_, SqL.of g50⟩, for_it (walk_list (xs := thv)) (fun j0 σ H' => Same (off2 F U H50) (off2 F U H') ∧ (∃ fv uv ds, H' F = some (.lst fv) ∧ H' U = some (.lst uv) ∧ DqAll K (off2 F U H') fv ds ∧ DqAll K (off2 F U H') uv ds ∧ ds.length = 4 + j0 ∧ ∀ x ∈ ds, FitQ 4 1000 x) ∧ ∃ v8, σ = [some (.ref b), some (.ref t), some (.ref p26), some v1, some (.int (j : Nat)), some (.ref q7), some (.ref F), some (.ref U), v8])
      ⟨Same.refl _, ⟨_, _, _, gF50, gU50, dF, dU, rfl, fD⟩, none, rfl⟩ ?_ ?_ ?_⟩
    · rintro j0 σ H' _ ⟨S, _⟩
      exact SqL.of (off2_to _ _ (S _ _ g5o))
    · rintro j0 x σ _ H' hj ⟨S, ⟨fv, uv, ds, gF, gU, dfv, duv, ld, fds⟩, v8, rfl⟩ ⟨rfl, hx⟩
      obtain ⟨e, he, de⟩ := dqAll_get dT hx
      obtain ⟨ok1, ok2⟩ := things_ok e (List.mem_of_getElem? he)
      have de' := (dq_same (S.trans off2_to)).1 de
      refine ⟨_, rfl, .inl ⟨rfl, _, SqL.of gF⟩, _, rfl, x, "part", x, rfl, .part e de' ok1, fun l G Sl nl gl => ?_⟩
      have nlF : l ≠ F := fun e => by rw [e, gF] at nl; cases nl
      have nlU : l ≠ U := fun e => by rw [e, gU] at nl; cases nl
      have lfv := dqAll_len dfv
      have luv := dqAll_len duv
      refine ⟨F, _, _, rfl, rfl, Sl _ _ gF, Nat.lt_of_lt_of_le (show fv.length < 20 by omega) (by decide), ?_⟩
      have gU1 : (upd G F (.lst (fv ++ [.ref l]))) U = some (.lst uv) := by rw [upd_ne (Ne.symm nFU)]; exact Sl _ _ gU
      have gF1 : (upd G F (.lst (fv ++ [.ref l]))) F = some (.lst (fv ++ [.ref l])) := upd_same
      have So : Same (off2 F U H') (off2 F U (upd G F (.lst (fv ++ [.ref l])))) := (off2_same Sl).trans off2_F
      have ol : off2 F U (upd G F (.lst (fv ++ [.ref l]))) l = some (.lst [.str "part", x]) := off2_get nlF nlU (by rw [upd_ne nlF]; exact gl)
      generalize upd G F (.lst (fv ++ [.ref l])) = G1 at gU1 gF1 So ol ⊢
      refine ⟨_, rfl, .inl ⟨rfl, _, SqL.of gU1⟩, _, rfl, (show 2 ≤ sizeLine from by decide), fun m hm => ?_⟩
      have nmF : m ≠ F := fun e => by rw [e, gF1] at hm; cases hm
      have nmU : m ≠ U := fun e => by rw [e, gU1] at hm; cases hm
      have Sm1 : Same G1 (upd G1 m (.lst [.str "part", x])) := same_new hm
      have So2 : Same (off2 F U G1) (off2 F U (upd (upd G1 m (.lst [.str "part", x])) U (.lst (uv ++ [.ref m])))) := (off2_same Sm1).trans off2_U
      have om : off2 F U (upd (upd G1 m (.lst [.str "part", x])) U (.lst (uv ++ [.ref m]))) m = some (.lst [.str "part", x]) := off2_get nmF nmU (by rw [upd_ne nmU]; exact upd_same)
      have de2 := (dq_same ((S.trans So).trans So2)).1 de
      refine ⟨U, _, _, rfl, rfl, Sm1 _ _ gU1, Nat.lt_of_lt_of_le (show uv.length < 20 by omega) (by decide), (S.trans So).trans So2, ⟨_, _, ds ++ [.list [.str "part", e]], ?_, upd_same, dqAll_app ((dq_same (So.trans So2)).2 dfv) (.cons (dq_pair (So2 _ _ ol) de2) .nil), dqAll_app ((dq_same (So.trans So2)).2 duv) (.cons (dq_pair om de2) .nil), by rw [List.length_append, ld]; rfl, fun y hy => ?_⟩, _, rfl⟩
      · rw [upd_ne nFU]
        exact Sm1 _ _ gF1
      · rcases List.mem_append.mp hy with hy | hy
        · exact fds y hy
        · rw [List.mem_singleton.mp hy]
          exact fit_pair smP ok2
    · rintro σ HL ⟨S, ⟨fv, uv, ds, gF, gU, dfv, duv, ld, fds⟩, v8, rfl⟩
      have ZL : Same H37 HL := fun z o h => off2_to _ _ (S _ _ (O39 _ _ (Z4 _ _ h)))
      have kL : Kp b H HL := ((k1.same T1).trans kX).same ZL
      have B37 := BX
      have BL := BX.same ZL
      have tL : NdefX.TabsN (TT a) HL := (tabsN_kp tn hB ((k1.same T1).trans kX)).ext fun z o h => ZL _ _ h
      have sL : Sys K HL := (sys_kp sy hB ((k1.same T1).trans kX)).same ZL
      have dfL := (dq_same (off2_to (F := F) (U := U) (H := HL))).2 dfv
      have duL := (dq_same (off2_to (F := F) (U := U) (H := HL))).2 duv
      have lfv := dqAll_len dfv
      have luv := dqAll_len duv
      rw [lth] at ld
      refine ⟨_, rfl, ?_⟩
      intro d5 hd5
      refine ⟨_, rfl, upd_same, [((Sum.inl 3 : Key), V.ref q7)], rfl, (Nat.le_of_ble_eq_true rfl), ?_⟩
      have SA5 : Same HL (upd (upd HL d5 (.dK [])) d5 (.dK (mergeK [] [((Sum.inl 3 : Key), V.ref q7)]))) := same_pair hd5
      have gA5 : (upd (upd HL d5 (.dK [])) d5 (.dK (mergeK [] [((Sum.inl 3 : Key), V.ref q7)]))) d5 = some (.dK [((Sum.inl 3 : Key), V.ref q7)]) := upd_same
      generalize upd (upd HL d5 (.dK [])) d5 (.dK (mergeK [] [((Sum.inl 3 : Key), V.ref q7)])) = A5 at SA5 gA5 ⊢
      refine ⟨.ref d5, "name", .int 3, rfl, .one d5 (Sum.inl 3 : Key) (V.ref q7) rfl gA5 (fun z e => by cases e) (.name rfl), fun l5 C5 Sl5 nl5 gl5 => ?_⟩
      have Z5 : Same H37 C5 := (ZL.trans SA5).trans Sl5
      intro d6 hd6
      intro tq6 htq6
      refine ⟨same_new htq6 _ _ upd_same, [((Sum.inr "f" : Key), V.ref tq6)], rfl, (Nat.le_of_ble_eq_true rfl), ?_⟩
      have nt6 : tq6 ≠ d6 := fun e => by rw [e, upd_same] at htq6; cases htq6
      have SA6 : Same C5 (upd (upd (upd C5 d6 (.dK [])) tq6 (.dK [])) d6 (.dK (mergeK [] [((Sum.inr "f" : Key), V.ref tq6)]))) := Tp.Same.mut ((same_new hd6).trans (same_new htq6)) hd6
      have gT6 : (upd (upd (upd C5 d6 (.dK [])) tq6 (.dK [])) d6 (.dK (mergeK [] [((Sum.inr "f" : Key), V.ref tq6)]))) tq6 = some (.dK []) := by rw [upd_ne nt6]; exact upd_same
      have gA6 : (upd (upd (upd C5 d6 (.dK [])) tq6 (.dK [])) d6 (.dK (mergeK [] [((Sum.inr "f" : Key), V.ref tq6)]))) d6 = some (.dK [((Sum.inr "f" : Key), V.ref tq6)]) := upd_same
      generalize upd (upd (upd C5 d6 (.dK [])) tq6 (.dK [])) d6 (.dK (mergeK [] [((Sum.inr "f" : Key), V.ref tq6)])) = A6 at SA6 gA6 gT6 ⊢
      refine ⟨.ref d6, "part", .ref tq6, rfl, .one d6 (Sum.inr "f" : Key) (V.ref tq6) rfl gA6 (fun z e => by cases e; decide) (.part (by decide +kernel) (.dict []) (.dic (.inl gT6) .nil .nil) rfl), fun l6 C6 Sl6 nl6 gl6 => ?_⟩
      have Z6 : Same H37 C6 := (Z5.trans SA6).trans Sl6
      intro d7 hd7
      refine ⟨upd_same, [((Sum.inr "f" : Key), V.non)], rfl, (Nat.le_of_ble_eq_true rfl), ?_⟩
      have SA7 : Same C6 (upd (upd C6 d7 (.dK [])) d7 (.dK (mergeK [] [((Sum.inr "f" : Key), V.non)]))) := same_pair hd7
      have gA7 : (upd (upd C6 d7 (.dK [])) d7 (.dK (mergeK [] [((Sum.inr "f" : Key), V.non)]))) d7 = some (.dK [((Sum.inr "f" : Key), V.non)]) := upd_same
      generalize upd (upd C6 d7 (.dK [])) d7 (.dK (mergeK [] [((Sum.inr "f" : Key), V.non)])) = A7 at SA7 gA7 ⊢
      refine ⟨.ref d7, "part", .non, rfl, .one d7 (Sum.inr "f" : Key) (V.non) rfl gA7 (fun z e => by cases e; decide) (.part (by decide +kernel) .none .non rfl), fun l7 C7 Sl7 nl7 gl7 => ?_⟩
      have Z7 : Same H37 C7 := (Z6.trans SA7).trans Sl7
      obtain ⟨H59, e59⟩ : ∃ H59, H59 = C7 := ⟨_, rfl⟩
      rw [← e59] at Z7 gl7 Sl7 ⊢
      have Y6 : Same C6 H59 := SA7.trans Sl7
      have Y5 : Same C5 H59 := (SA6.trans Sl6).trans Y6
      have YA6 : Same A6 H59 := Sl6.trans Y6
      have YL : Same HL H59 := (SA5.trans Sl5).trans Y5
      refine ⟨(show 3 ≤ sizeLine from by decide), fun m0 hm0 => ?_⟩
      have S60 := same_new (o := .lst [V.ref l5, V.ref l6, V.ref l7]) hm0
      have g60 : (upd H59 m0 (.lst [V.ref l5, V.ref l6, V.ref l7])) m0 = some (.lst [V.ref l5, V.ref l6, V.ref l7]) := upd_same
      generalize upd H59 m0 (.lst [V.ref l5, V.ref l6, V.ref l7]) = H60 at S60 g60 ⊢
      refine ⟨F, m0, fv, _, rfl, rfl, S60 _ _ (YL _ _ gF), g60, Nat.le_trans (show fv.length + 3 ≤ 20 by omega) (by decide), fun F2 hF2 => ?_⟩
      have S61 := same_new (o := .lst (fv ++ [V.ref l5, V.ref l6, V.ref l7])) hF2
      have g61 : (upd H60 F2 (.lst (fv ++ [V.ref l5, V.ref l6, V.ref l7]))) F2 = some (.lst (fv ++ [V.ref l5, V.ref l6, V.ref l7])) := upd_same
      generalize upd H60 F2 (.lst (fv ++ [V.ref l5, V.ref l6, V.ref l7])) = H61 at S61 g61 ⊢
      have Y61 : Same H59 H61 := S60.trans S61
      have fit13 : ∀ x ∈ ds ++ [PyData.list [.str "name", .int 3], .list [.str "part", .dict []], .list [.str "part", .none]], FitQ 4 1000 x := fun x hx => by
        rcases List.mem_append.mp hx with hx | hx
        · exact fds x hx
        · simp only [List.mem_cons, List.not_mem_nil, or_false] at hx
          rcases hx with rfl | rfl | rfl
          · exact fit_pair smN (fit_small _ (by simp))
          · exact fit_pair smP (fit_small _ (by simp))
          · exact fit_pair smP (fit_small _ (by simp))
      have fi := ((fitq_list fit13).up (Nat.le_refl _) (show _ ≤ 20000 by rw [List.length_append, ld]; decide)).ok (by decide) (by decide)
      have dF2 : Dq K H61 (.ref F2) (.list (ds ++ [PyData.list [.str "name", .int 3], .list [.str "part", .dict []], .list [.str "part", .none]])) := .lst (SqL.of g61) (dqAll_app ((dq_same (YL.trans Y61)).2 dfL) (.cons (dq_pair (Y61 _ _ (Y5 _ _ gl5)) (.int 3)) (.cons (dq_pair (Y61 _ _ (Y6 _ _ gl6)) (.dic (.inl (Y61 _ _ (YA6 _ _ gT6))) .nil .nil)) (.cons (dq_pair (Y61 _ _ gl7) .non) .nil))))
      refine ⟨_, rfl, .ref F2, _, rfl, sL.same (YL.trans Y61), dF2, fi.1, fi.2.1, fi.2.2, ?_⟩
      refine ⟨_, rfl, (show 2 ≤ sizeLine from by decide), fun m1 hm1 => ?_⟩
      have S62 := same_new (o := .lst [V.str "name", V.int 3]) hm1
      have g62 : (upd H61 m1 (.lst [V.str "name", V.int 3])) m1 = some (.lst [V.str "name", V.int 3]) := upd_same
      generalize upd H61 m1 (.lst [V.str "name", V.int 3]) = H62 at S62 g62 ⊢
      intro m2 hm2
      have S63 := same_new (o := .dK []) hm2
      have g63 : (upd H62 m2 (.dK [])) m2 = some (.dK []) := upd_same
      generalize upd H62 m2 (.dK []) = H63 at S63 g63 ⊢
      refine ⟨(show 2 ≤ sizeLine from by decide), fun m3 hm3 => ?_⟩
      have S64 := same_new (o := .lst [V.str "part", V.ref m2]) hm3
      have g64 : (upd H63 m3 (.lst [V.str "part", V.ref m2])) m3 = some (.lst [V.str "part", V.ref m2]) := upd_same
      generalize upd H63 m3 (.lst [V.str "part", V.ref m2]) = H64 at S64 g64 ⊢
      refine ⟨(show 2 ≤ sizeLine from by decide), fun m4 hm4 => ?_⟩
      have S65 := same_new (o := .lst [V.str "part", V.non]) hm4
      have g65 : (upd H64 m4 (.lst [V.str "part", V.non])) m4 = some (.lst [V.str "part", V.non]) := upd_same
      generalize upd H64 m4 (.lst [V.str "part", V.non]) = H65 at S65 g65 ⊢
      refine ⟨(show 3 ≤ sizeLine from by decide), fun m5 hm5 => ?_⟩
      have S66 := same_new (o := .lst [V.ref m1, V.ref m3, V.ref m4]) hm5
      have g66 : (upd H65 m5 (.lst [V.ref m1, V.ref m3, V.ref m4])) m5 = some (.lst [V.ref m1, V.ref m3, V.ref m4]) := upd_same
      generalize upd H65 m5 (.lst [V.ref m1, V.ref m3, V.ref m4]) = H66 at S66 g66 ⊢
      have Y66 : Same H61 H66 := (((S62.trans S63).trans S64).trans S65).trans S66
      refine ⟨U, m5, uv, _, rfl, rfl, Y66 _ _ (Y61 _ _ (YL _ _ gU)), g66, Nat.le_trans (show uv.length + 3 ≤ 20 by omega) (by decide), fun U2 hU2 => ?_⟩
      have S67 := same_new (o := .lst (uv ++ [V.ref m1, V.ref m3, V.ref m4])) hU2
      have g67 : (upd H66 U2 (.lst (uv ++ [V.ref m1, V.ref m3, V.ref m4]))) U2 = some (.lst (uv ++ [V.ref m1, V.ref m3, V.ref m4])) := upd_same
      generalize upd H66 U2 (.lst (uv ++ [V.ref m1, V.ref m3, V.ref m4])) = H67 at S67 g67 ⊢
      have YF : Same HL H67 := ((YL.trans Y61).trans Y66).trans S67
      have dU2 : Dq K H67 (.ref U2) (.list (ds ++ [PyData.list [.str "name", .int 3], .list [.str "part", .dict []], .list [.str "part", .none]])) := .lst (SqL.of g67) (dqAll_app ((dq_same YF).2 duL) (.cons (dq_pair (((((S63.trans S64).trans S65).trans S66).trans S67) _ _ g62) (.int 3)) (.cons (dq_pair (((S65.trans S66).trans S67) _ _ g64) (.dic (.inl ((((S64.trans S65).trans S66).trans S67) _ _ g63)) .nil .nil)) (.cons (dq_pair ((S66.trans S67) _ _ g65) .non) .nil))))
      refine ⟨.ref U2, _, rfl, sL.same YF, dU2, fi.1, fi.2.1, fi.2.2, rfl, ?_⟩
      rw [decide_eq_true rfl]
      exact q _ (fun z o n1 _ h => YF _ _ (kL _ _ n1 h)) ((BL.same YF).up (by omega)) (tL.ext fun z o h => YF _ _ h)
end
end L58
set_option Elab.async false
set_option linter.all false
set_option maxRecDepth 100000
set_option maxHeartbeats 4000000
set_option pp.deepTerms false
set_option pp.deepTerms.threshold 4
set_option pp.maxSteps 1000
namespace L58
open PySem L2 Tp
section
variable {P : Program} {w : World} {K : PySem.W.Frag} {mg : Str → Option Value} {base : Heap} {a : Ad} {d : Fd}
def Outs (H H' : Hp) (p q : Addr) : Prop := ∀ z o, H z = some o → (∀ xs, o ≠ .lst xs) ∨ (z ≠ p ∧ z ≠ q) → H' z = some o
def spSpoiled : Sp := fun vs H Q _ => ∃ (p q : Addr) (c c' : Bool) (x : Int) (ns : List Int), vs = [.ref p] ∧ H p = some (seqO c [.ref q, .int x]) ∧ H q = some (seqO c' (ns.map V.int)) ∧ ns.length ≤ 1000 ∧
  ∀ H' x' ns', Outs H H' p q → H' p = some (seqO c [.ref q, .int x']) → H' q = some (seqO c' ((ns' : List Int).map V.int)) → ns'.length ≤ ns.length + 1 → Q (.ref p) H'
theorem ty_seqO {H : Hp} {c : Bool} {p : Addr} {xs : List V} (h : H p = some (seqO c xs)) : ∃ t, TyX K H (.ref p) t ∧ PySem.W.kitOne K t (.type "list") = some (!c) := by
  cases c
  · exact ⟨_, ty_sqL (SqL.of h), kit_ty (by decide +kernel)⟩
  · exact ⟨_, ty_sqT (SqT.of h), kit_ty (by decide +kernel)⟩
theorem ok_spoiled (T : Txt K mg a d) : FnG P w K mg base CX0 1 a.spoiled d.spoiled ["_law_row"] spSpoiled := by
  refine okG T.F_spoiled scSpoiled (fun vs H Q E h => ?_) (fun cdv A outer s H vs Q E hr hg h => ?_)
  · obtain ⟨p, q, c, c', x, ns, rfl, _⟩ := h
    rfl
  · obtain ⟨p, q, c, c', x, ns, rfl, hp, hq, l, k⟩ := h
    refine ⟨_, (Evl.pss_cut (ps_if (pt_val (pe_callB (Tp.call_isA (K := K) rfl) (by rfl) T.isinstance_ Tp.bt_isinstance (pa_cons (pe_ix ix_seq (pv 0) pe_int (fun _ _ => rfl)) (pa_cons (pe_bltn (v := .ty "list") (by rfl) T.list_ Tp.bt_list rfl) pa_nil)))) (pss_one (ps_expr (pe_bm PySem.F.plainAttrs_list PySem.F.slot_list_append PySem.F.type_list_append mt_append (pe_ix ix_seq (pv 0) pe_int (fun _ _ => rfl)) (pa_cons pe_int pa_nil)))) pss_nil)
      (pss_cons (ps_if (pt_val (pe_callB (Tp.call_isA (K := K) rfl) (by rfl) T.isinstance_ Tp.bt_isinstance (pa_cons (pv 0) (pa_cons (pe_bltn (v := .ty "list") (by rfl) T.list_ Tp.bt_list rfl) pa_nil)))) (pss_one (ps_asg pe_int (pg_sub (pv 0) pe_int set_list))) pss_nil)
      (pss_one (ps_ret (pv 0))))), ?_⟩
    have npq : p ≠ q := fun e => by
      rw [e, hq] at hp
      have hp := Option.some.inj hp
      cases c <;> cases c'
      · have h := HO.lst.inj hp
        cases ns with
        | nil => cases h
        | cons n ns => injection h with h1 h2; cases h1
      · cases hp
      · cases hp
      · have h := HO.tup.inj hp
        cases ns with
        | nil => cases h
        | cons n ns => injection h with h1 h2; cases h1
    obtain ⟨t1, ty1, kt1⟩ := ty_seqO (K := K) hq
    refine ⟨fun σ H1 => σ = [some (.ref p)] ∧ ∃ ns1 : List Int, Outs H H1 p q ∧ H1 p = some (seqO c [.ref q, .int x]) ∧ H1 q = some (seqO c' (ns1.map V.int)) ∧ ns1.length ≤ ns.length + 1, ?_, ?_⟩
    · refine ⟨_, rfl, rIx_seqO hp (u := .ref q) (atI_nat (j := 0) rfl) ⟨_, _, _, _, (!c'), rfl, .ty _, .x ty1, kt1, _, rfl, ?_⟩⟩
      cases c' with
      | true => exact iteF ⟨rfl, ns, (fun _ _ h _ => h), hp, hq, Nat.le_succ _⟩
      | false =>
        refine iteT ⟨_, rfl, rIx_seqO hp (u := .ref q) (atI_nat (j := 0) rfl) ⟨.inl ⟨rfl, _, SqL.of hq⟩, q, _, _, rfl, rfl, hq, ?_, rfl, ns ++ [1], ?_, ?_, ?_, ?_⟩⟩
        · rw [List.length_map]
          exact Nat.lt_of_le_of_lt l (by decide)
        · rintro z o h (n | ⟨_, n⟩)
          · rw [upd_ne fun e => n (ns.map V.int) (by rw [e, hq] at h; exact (Option.some.inj h).symm)]
            exact h
          · rw [upd_ne n]
            exact h
        · rw [upd_ne npq]
          exact hp
        · rw [upd_same, List.map_append]
          rfl
        · rw [List.length_append]
          exact Nat.le_refl _
    · rintro σ H1 ⟨rfl, ns1, o1, hp1, hq1, l1⟩
      obtain ⟨t2, ty2, kt2⟩ := ty_seqO (K := K) hp1
      refine ⟨_, rfl, _, _, _, _, (!c), rfl, .ty _, .x ty2, kt2, _, rfl, ?_⟩
      cases c with
      | true => exact iteF ⟨_, rfl, k H1 x ns1 o1 hp1 hq1 l1⟩
      | false =>
        refine iteT ⟨_, rfl, p, _, _, _, rfl, rfl, hp1, rfl, _, rfl, k _ 77 ns1 (fun z o h n => ?_) upd_same ?_ l1⟩
        · have h1 := o1 z o h n
          rcases n with n | ⟨n, _⟩
          · rw [upd_ne fun e => n [.ref q, .int x] (by rw [e, hp1] at h1; exact (Option.some.inj h1).symm)]
            exact h1
          · rw [upd_ne n]
            exact h1
        · rw [upd_ne (Ne.symm npq)]
          exact hq1
theorem seqO_ref {c c' : Bool} {q : Addr} {x : Int} {ns : List Int} (h : seqO c [.ref q, .int x] = seqO c' (ns.map V.int)) : False := by
  have key : [V.ref q, V.int x] = ns.map V.int → False := fun h => by
    cases ns with
    | nil => cases h
    | cons n ns => injection h with h1 h2; cases h1
  cases c <;> cases c'
  · exact key (HO.lst.inj h)
  · cases h
  · cases h
  · exact key (HO.tup.inj h)
theorem seqO_inj {c c' : Bool} {xs ys : List V} (h : seqO c xs = seqO c' ys) : c = c' ∧ xs = ys := by
  cases c <;> cases c'
  · exact ⟨rfl, HO.lst.inj h⟩
  · cases h
  · cases h
  · exact ⟨rfl, HO.tup.inj h⟩
def Loose (H0 H : Hp) (k : Nat) (v : V) : Prop := ∃ p q c c' x0 x ns, v = .ref p ∧ H0 p = some (seqO c [.ref q, .int x0]) ∧ H p = some (seqO c [.ref q, .int x]) ∧ H q = some (seqO c' ((ns : List Int).map V.int)) ∧ ns.length ≤ k
theorem Loose.step {H0 H H' : Hp} {k : Nat} {v : V} (h : Loose H0 H k v) {p q : Addr} {c c' : Bool} {x x' : Int} {ns ns' : List Int} (hp : H p = some (seqO c [.ref q, .int x])) (hq : H q = some (seqO c' (ns.map V.int))) (ln : ns'.length ≤ k + 1) (o : Outs H H' p q) (hp' : H' p = some (seqO c [.ref q, .int x'])) (hq' : H' q = some (seqO c' (ns'.map V.int))) : Loose H0 H' (k + 1) v := by
  obtain ⟨p1, q1, c1, c1', x0, x1, ns1, e, h0, h1, h2, l⟩ := h
  have np1q : p1 ≠ q := fun e => by
    rw [e, hq] at h1
    exact seqO_ref (Option.some.inj h1).symm
  have nq1p : q1 ≠ p := fun e => by
    rw [e, hp] at h2
    exact seqO_ref (Option.some.inj h2)
  have hq1 : ∃ ns2 : List Int, H' q1 = some (seqO c1' (ns2.map V.int)) ∧ ns2.length ≤ k + 1 := by
    by_cases e : q1 = q
    · rw [e, hq] at h2
      obtain ⟨e1, _⟩ := seqO_inj (Option.some.inj h2)
      rw [e, ← e1]
      exact ⟨ns', hq', ln⟩
    · exact ⟨ns1, o _ _ h2 (.inr ⟨nq1p, e⟩), by omega⟩
  obtain ⟨ns2, h5, l5⟩ := hq1
  by_cases ep : p1 = p
  · rw [ep, hp] at h1
    obtain ⟨e1, e2⟩ := seqO_inj (Option.some.inj h1)
    injection e2 with e3 _
    cases e3
    subst e1
    subst ep
    exact ⟨p1, q, c, c1', x0, x', ns2, e, h0, hp', h5, l5⟩
  · exact ⟨p1, q1, c1, c1', x0, x1, ns2, e, h0, o _ _ h1 (.inr ⟨ep, np1q⟩), h5, l5⟩
def NR (H0 : Hp) (rs : List V) (z : Addr) : Prop := ∀ v ∈ rs, ∀ p q c x, v = .ref p → H0 p = some (seqO c [.ref q, .int x]) → z ≠ p ∧ z ≠ q
def Keep (H0 : Hp) (rs : List V) (H' : Hp) : Prop := ∀ z o, H0 z = some o → (∀ xs, o ≠ .lst xs) ∨ NR H0 rs z → H' z = some o
def RowT (H : Hp) (r : List Int × Int) (v : V) : Prop := ∃ p q, v = .ref p ∧ H p = some (.tup [.ref q, .int r.2]) ∧ H q = some (.tup (r.1.map V.int))
theorem RowT.same {H H' : Hp} {r : List Int × Int} {v : V} (h : RowT H r v) (S : Same H H') : RowT H' r v := let ⟨p, q, e, h1, h2⟩ := h; ⟨p, q, e, S _ _ h1, S _ _ h2⟩
theorem RowT.row {H : Hp} {r : List Int × Int} {v : V} (h : RowT H r v) : RowH H r v := let ⟨p, q, e, h1, h2⟩ := h; ⟨p, q, true, true, e, h1, h2⟩
theorem refs_of {H H' : Hp} {R : List (List Int × Int)} {rs : List V} (p : Paired (RowF H H') R rs) : ∀ v ∈ rs, ∃ r, RowF H H' r v := fun v hv => by
  obtain ⟨i, hi⟩ := List.mem_iff_getElem?.mp hv
  obtain ⟨r, _, h⟩ := paired_rev p hi
  exact ⟨r, h⟩
theorem rows_ne {H H' : Hp} {R : List (List Int × Int)} {rs : List V} {t : Addr} (p : Paired (RowF H H') R rs) (ht : H' t = some (.lst rs)) : ∀ {r : List Int × Int} {v : V} {a q : Addr} {c c' : Bool}, v ∈ rs → v = .ref a → H' a = some (seqO c [.ref q, .int r.2]) → H' q = some (seqO c' (r.1.map V.int)) → a ≠ t ∧ q ≠ t := by
  intro r v a q c c' hv e h1 h2
  constructor
  · intro et
    rw [et, ht] at h1
    obtain ⟨_, e2⟩ := seqO_inj (show seqO false rs = _ from Option.some.inj h1)
    have : V.int r.2 ∈ rs := by rw [e2]; simp
    obtain ⟨_, p1, _, _, _, e3, _⟩ := refs_of p _ this
    cases e3
  · intro et
    rw [et, ht] at h2
    obtain ⟨_, e2⟩ := seqO_inj (show seqO false rs = _ from Option.some.inj h2)
    rw [e2] at hv
    obtain ⟨i, _, e3⟩ := List.mem_map.mp hv
    rw [e] at e3
    cases e3
theorem MeanAt.keepN {H H' : Hp} {R : List (List Int × Int)} {v : V} (h : MeanAt P w K mg base H R v) (S : ∀ z o, ¬ Dk o → (∀ xs, o ≠ .lst xs) → H z = some o → H' z = some o) : MeanAt P w K mg base H' R v := by
  obtain ⟨f, D, F, b, kvs, e, x, hD, hl, vo⟩ := h.ex
  refine ⟨f, D, F, b, kvs, e, ⟨S _ _ dk_fn (fun _ z => by cases z) x.fn, S _ _ dk_code (fun _ z => by cases z) x.code, x.len, x.inj, fun y c e => ?_, fun i y v e1 e2 => ?_⟩, S _ _ dk_dT (fun _ z => by cases z) hD, hl, vo⟩
  · obtain ⟨ob, v, h1, h2⟩ := x.all y c e
    exact ⟨ob, v, S _ _ dk_cell (fun _ z => by cases z) h1, h2⟩
  · obtain ⟨c, ob, u, h1, h2, h3⟩ := x.has i y v e1 e2
    exact ⟨c, ob, u, h1, S _ _ dk_cell (fun _ z => by cases z) h2, h3⟩
theorem nr_mk {H H6 H7 : Hp} {R : List (List Int × Int)} {rs : List V} {z : Addr} (p : Paired (RowF H H6) R rs) (S : Same H6 H7) (h : ∀ p q, H p = none → H q = none → H6 p ≠ none → H6 q ≠ none → z ≠ p ∧ z ≠ q) : NR H7 rs z := by
  intro v hv a q c x e hx
  obtain ⟨r, p1, q1, c1, c1', e1, n1, n2, h3, h4⟩ := refs_of p v hv
  rw [e] at e1
  cases e1
  rw [S _ _ h3] at hx
  obtain ⟨_, e2⟩ := seqO_inj (Option.some.inj hx)
  injection e2 with e3 _
  cases e3
  exact h _ _ n1 n2 (by rw [h3]; simp) (by rw [h4]; simp)
theorem nr_t {H H6 H7 : Hp} {R : List (List Int × Int)} {rs : List V} {t : Addr} (p : Paired (RowF H H6) R rs) (S : Same H6 H7) (ht : H6 t = some (.lst rs)) : NR H7 rs t := by
  intro v hv a q c x e hx
  obtain ⟨r, p1, q1, c1, c1', e1, n1, n2, h3, h4⟩ := refs_of p v hv
  rw [e] at e1
  cases e1
  rw [S _ _ h3] at hx
  obtain ⟨_, e2⟩ := seqO_inj (Option.some.inj hx)
  injection e2 with e3 _
  cases e3
  obtain ⟨x1, x2⟩ := rows_ne p ht hv e h3 h4
  exact ⟨Ne.symm x1, Ne.symm x2⟩
theorem paired_imp_mem {α β : Type} {F G : α → β → Prop} : ∀ {l : List α} {m : List β}, (∀ a b, b ∈ m → F a b → G a b) → Paired F l m → Paired G l m
  | _, _, _, .nil => .nil
  | _, _, h, .cons a t => .cons (h _ _ List.mem_cons_self a) (paired_imp_mem (fun x y m => h x y (List.mem_cons_of_mem _ m)) t)
theorem ok_kept (T : Txt K mg a d) (TB : LamX.TabB base mg a.cFn a.pFn) : FnG P w K mg base CX0 9 a.kept d.kept ["_law_box_here"] (spPart K a) := by
  have G_table := ok_table (P := P) (w := w) (base := base) T
  have G_looked := ok_looked (P := P) (w := w) (base := base) T
  have G_spoiled := ok_spoiled (P := P) (w := w) (base := base) T
  have G_meaning := ok_meaning (P := P) (w := w) (base := base) T TB
  refine okG T.F_kept scKept (fun vs H Q E h => ?_) (fun cdv A outer s H vs Q E hr hg h => ?_)
  · obtain ⟨b, n, rfl, _⟩ := h
    rfl
  · obtain ⟨b, n, rfl, hB, hn, sy, tn, q⟩ := h
    refine ⟨_, (pss_cons (ps_set (i := 1) scKept.nd rfl (Or.inl rfl) (Tp.pe_callG G_table (hr.mono (by decide)) hg (by rfl) T.mg_table T.F_table.kp T.b_table .nil pass0 (pa_cons (pv 0) pa_nil)))
      (pss_cons (ps_set (i := 2) scKept.nd rfl (Or.inl rfl) (pe_disp (pps_cons pe_str (pv 1) pps_nil) (by rfl) (by rfl) (fun z => by cases z) (by decide)))
      (pss_cons (ps_expr (pe_bm PySem.F.plainAttrs_list PySem.F.slot_list_append PySem.F.type_list_append mt_append (pv 1) (pa_cons (pe_lst (pa_cons (pe_lst (pa_cons pe_int (pa_cons pe_int pa_nil))) (pa_cons pe_int pa_nil))) pa_nil)))
      (pss_cons (ps_par (i := 3) (j := 4) (by rfl) scKept.nd rfl rfl (by decide) rfl rfl (pa_cons (pe_callS G_meaning (hr.mono (by decide)) (by rfl) T.mg_meaning T.F_meaning.kp T.b_meaning (fun σ => Tp.passA0 σ) (pa_cons (pv 2) pa_nil)) (pa_cons (pe_lc (own := [("_law_row", 5)]) (by rfl) scKept.nd (pi_list (pv 1)) (blkOk_by (own := [("_law_row", 5)]) (N := scKept_N) (sc := defScope scKept_st) (by decide +kernel)) (fun _ _ _ _ _ => (pg_name (i := 5) scKept.nd rfl (Or.inl rfl))) (fun _ _ _ _ _ => pts_nil) (fun _ _ _ _ _ => (pe_tup (pa_cons (pe_callTy (Tp.call_tuple_ofK (K := K) rfl) (by rfl) T.tuple_ Tp.bt_tuple (pa_cons (pe_ix (Tp.ix_seqK (K := K) rfl) (pv 5) pe_int (fun _ _ => rfl)) pa_nil)) (pa_cons (pe_ix (Tp.ix_seqK (K := K) rfl) (pv 5) pe_int (fun _ _ => rfl)) pa_nil))))) pa_nil)) (by rfl))
      (pss_cons (ps_for PassesOwn.never rfl (pi_list (pv 1)) (pg_name (i := 5) scKept.nd rfl (Or.inl rfl)) (pss_one (ps_expr (Tp.pe_callG G_spoiled (hr.mono (by decide)) hg (by rfl) T.mg_spoiled T.F_spoiled.kp T.b_spoiled .nil pass0 (pa_cons (pv 5) pa_nil)))))
      (pss_cons (ps_expr (pe_bm PySem.F.plainAttrs_list PySem.F.slot_list_insert PySem.F.type_list_insert mt_insert (pv 1) (pa_cons pe_int (pa_cons (pe_tup (pa_cons (pe_tup (pa_cons pe_int (pa_cons pe_int pa_nil))) (pa_cons pe_int pa_nil))) pa_nil))))
      (pss_cons (ps_dput (Tp.hu1 hr) (pv 2) pe_str (pe_lst pa_nil) rfl)
      (pss_cons (ps_set (i := 6) scKept.nd rfl (Or.inl rfl) (pe_dget (Tp.hu1 hr) (pv 3) pe_str (fun _ _ => rfl)))
      (pss_cons (ps_for PassesOwn.never rfl (pi_list (pe_op op_cat (pe_lc (own := [("_law_row", 5)]) (by rfl) scKept.nd (pi_list (pv 4)) (blkOk_by (own := [("_law_row", 5)]) (N := scKept_N) (sc := defScope scKept_st) (by decide +kernel)) (fun _ _ _ _ _ => (pg_name (i := 5) scKept.nd rfl (Or.inl rfl))) (fun _ _ _ _ _ => pts_nil) (fun _ _ _ _ _ => (pe_callTy (Tp.call_list_ofK (K := K) rfl) (by rfl) T.list_ Tp.bt_list (pa_cons (pe_ix (Tp.ix_seqK (K := K) rfl) (pv 5) pe_int (fun _ _ => rfl)) pa_nil)))) (pe_lst (pa_cons (pe_lst (pa_cons pe_int (pa_cons pe_int pa_nil))) (pa_cons (pe_lst (pa_cons pe_int (pa_cons pe_int (pa_cons pe_int pa_nil)))) pa_nil))))) (pg_name (i := 7) scKept.nd rfl (Or.inl rfl)) (pss_one (ps_if (pt_cmpR op_ne (Tp.pe_callV (i := 6) (j := 2) (hr.mono (by decide)) rfl (Or.inl rfl) (pa_cons (pv 7) pa_nil)) (Tp.pe_callG G_looked (hr.mono (by decide)) hg (by rfl) T.mg_looked T.F_looked.kp T.b_looked .nil pass0 (pa_cons (pv 4) (pa_cons (pv 7) pa_nil))) (nomark _)) (pss_one (ps_ret pe_bl)) pss_nil)))
      (pss_one (ps_ret (pe_cmpR (op_eqD hr.units) (pe_callB (call_sortedD rfl) (by rfl) T.sorted_ Tp.bt_sorted (pa_cons (pv 3) pa_nil)) (pe_lst (pa_cons pe_str pa_nil)) (nomark _))))))))))))), ?_⟩
    refine ⟨_, rfl, b, n, rfl, hB, by omega, fun R t rs H1 gt pr lR okR k1 B1 nt => ?_⟩
    intro D hD
    refine ⟨_, rfl, upd_same, [((Sum.inr "f" : Key), V.ref t)], rfl, (Nat.le_of_ble_eq_true rfl), ?_⟩
    have S2 : Same H1 (upd (upd H1 D (.dK [])) D (.dK (mergeK [] [((Sum.inr "f" : Key), V.ref t)]))) := Tp.Same.mut (same_new hD) hD
    have gD : (upd (upd H1 D (.dK [])) D (.dK (mergeK [] [((Sum.inr "f" : Key), V.ref t)]))) D = some (.dK [((Sum.inr "f" : Key), V.ref t)]) := upd_same
    generalize upd (upd H1 D (.dK [])) D (.dK (mergeK [] [((Sum.inr "f" : Key), V.ref t)])) = H2 at S2 gD ⊢
    refine ⟨_, rfl, .inl ⟨rfl, _, SqL.of (S2 _ _ gt)⟩, ?_⟩
    refine ⟨(show 2 ≤ sizeLine from by decide), fun e1 he1 => ?_⟩
    have S3 := same_new (o := .lst [V.int 8, V.int 8]) he1
    have g3 : (upd H2 e1 (.lst [V.int 8, V.int 8])) e1 = some (.lst [V.int 8, V.int 8]) := upd_same
    generalize upd H2 e1 (.lst [V.int 8, V.int 8]) = H3 at S3 g3 ⊢
    refine ⟨(show 2 ≤ sizeLine from by decide), fun e2 he2 => ?_⟩
    have S4 := same_new (o := .lst [V.ref e1, V.int 11]) he2
    have g4 : (upd H3 e2 (.lst [V.ref e1, V.int 11])) e2 = some (.lst [V.ref e1, V.int 11]) := upd_same
    generalize upd H3 e2 (.lst [V.ref e1, V.int 11]) = H4 at S4 g4 ⊢
    have lrs : rs.length ≤ 8 := by have := Paired.length pr; omega
    have S14 : Same H1 H4 := (S2.trans S3).trans S4
    refine ⟨t, rs, _, rfl, rfl, S14 _ _ gt, Nat.lt_of_lt_of_le (show rs.length < 9 by omega) (by decide), ?_⟩
    have ntb : t ≠ b := hB.ne nt
    have nDt : D ≠ t := fun e => by rw [e, gt] at hD; cases hD
    have k4 : Kp b H H4 := k1.same S14
    have B4 := B1.same S14
    have he1' : H e1 = none := kp_none (k1.same S2) (B1.same S2) he1
    have he2' : H e2 = none := kp_none ((k1.same S2).same S3) ((B1.same S2).same S3) he2
    have ne1 : e1 ≠ t := fun e => by rw [e, S2 _ _ gt] at he1; cases he1
    have ne2 : e2 ≠ t := fun e => by rw [e, (S2.trans S3) _ _ gt] at he2; cases he2
    have pr5 : Paired (RowF H (upd H4 t (.lst (rs ++ [.ref e2])))) (R ++ [([8, 8], 11)]) (rs ++ [.ref e2]) := by
      refine paired_snoc (paired_imp_mem (fun r v hv h => ?_) pr) ⟨e2, e1, false, false, rfl, he2', he1', by rw [upd_ne ne2]; exact g4, by rw [upd_ne ne1]; exact S4 _ _ g3⟩
      obtain ⟨p, qq, c, c', e, h1, h2, h3, h4⟩ := h
      obtain ⟨n1, n2⟩ := rows_ne pr gt hv e h3 h4
      exact ⟨p, qq, c, c', e, h1, h2, by rw [upd_ne n1]; exact S14 _ _ h3, by rw [upd_ne n2]; exact S14 _ _ h4⟩
    have gt5 : (upd H4 t (.lst (rs ++ [.ref e2]))) t = some (.lst (rs ++ [.ref e2])) := upd_same
    have gD5 : (upd H4 t (.lst (rs ++ [.ref e2]))) D = some (.dK [((Sum.inr "f" : Key), V.ref t)]) := by rw [upd_ne nDt]; exact S4 _ _ (S3 _ _ gD)
    have k5 : Kp b H (upd H4 t (.lst (rs ++ [.ref e2]))) := k4.mut nt
    have B5 : BoxAt b _ (upd H4 t (.lst (rs ++ [.ref e2]))) := B4.off ntb
    have ok5 : ∀ r ∈ R ++ [([8, 8], 11)], RowN r := fun r hr => by
      rcases List.mem_append.mp hr with hr | hr
      · exact okR r hr
      · rw [List.mem_singleton.mp hr]
        exact ⟨by decide, by decide, by decide⟩
    have l5 : (R ++ [([8, 8], 11)] : List (List Int × Int)).length ≤ 9 := by rw [List.length_append]; show R.length + 1 ≤ 9; omega
    generalize hR2 : (R ++ [([8, 8], 11)] : List (List Int × Int)) = R2 at pr5 ok5 l5
    generalize hr2 : rs ++ [V.ref e2] = rs2 at pr5 gt5 gD5 k5 B5 ⊢
    generalize upd H4 t (.lst rs2) = H5 at pr5 gt5 gD5 k5 B5 ⊢
    have tn5 := tabsN_kp tn hB k5
    have sy5 := sys_kp sy hB k5
    refine ⟨_, rfl, .ref D, rfl, .inr (.inr ⟨D, _, [R2], rfl, gD5, tn5, .cons ⟨⟨"f", rfl, by decide, by decide +kernel⟩, ⟨t, false, rs2, rfl, gt5, paired_imp (fun _ _ h => h.row) pr5⟩, by omega, fun r hr => (ok5 r hr).1⟩ .nil, (Nat.le_of_ble_eq_true rfl), by simp, fun M H6 fs X6 T6 nM gM ef pm => ?_⟩)⟩
    have gt6 := X6 _ _ gt5 (fun _ z => by cases z)
    have pr6 : Paired (RowF H H6) R2 rs2 := paired_imp (fun _ _ ⟨p, q, c, c', e, h1, h2, h3, h4⟩ => ⟨p, q, c, c', e, h1, h2, X6 _ _ h3 (fun _ z => by cases c <;> cases z), X6 _ _ h4 (fun _ z => by cases c' <;> cases z)⟩) pr5
    have k6 : KT b H H6 := fun z o n1 n2 h => X6 _ _ (k5 _ _ n1 h) n2
    have B6 := box_ext B5 X6
    have sy6 := sys_ext sy5 X6
    have lr2 : rs2.length = R2.length := (Paired.length pr6).symm
    have ekf : ∃ f, fs = [((Sum.inr "f" : Key), f)] := by
      match fs, ef with
      | [(k, f)], ef =>
        injection ef with h1 _
        cases h1
        exact ⟨f, rfl⟩
    obtain ⟨fv, efs⟩ := ekf
    subst efs
    have mn : MeanAt P w K mg base H6 R2 fv := by
      cases pm with
      | cons h _ => exact h
    have nM5 := nM
    refine ⟨_, rfl, t, rfl, ⟨_, SqL.of gt6⟩, fun L hL => lc_it (walk_list (xs := rs2)) (fun j H' => Same H6 H' ∧ ∃ hs, H' L = some (.lst hs) ∧ Paired (RowT H') (R2.take j) hs) ⟨same_new hL, [], upd_same, .nil⟩ ?_ ?_ ?_⟩
    · rintro j H' _ ⟨S, _⟩
      exact SqL.of (S _ _ gt6)
    · rintro j x _ H7 hj ⟨S7, hs, gL, ph⟩ ⟨rfl, hx⟩
      obtain ⟨r, hr', p, qq, c, c', rfl, _, _, h3, h4⟩ := paired_rev pr6 hx
      have lhs : hs.length < 10 := by
        have := Paired.length ph
        rw [List.length_take] at this
        omega
      have key : ∀ (y : Addr) (H8 : Hp), Same H7 H8 → H8 y = some (.tup (r.1.map V.int)) → ∃ v, some (some (V.ref p)) = some (some v) ∧ rIx K v (.int 1) H8 fun v2 H9 => 2 ≤ sizeLine ∧ ∀ m, H9 m = none → ∃ acc, (upd H9 m (.tup [.ref y, v2])) L = some (.lst acc) ∧ acc.length < sizeLine ∧ Same H6 (upd (upd H9 m (.tup [.ref y, v2])) L (.lst (acc ++ [.ref m]))) ∧ ∃ hs, (upd (upd H9 m (.tup [.ref y, v2])) L (.lst (acc ++ [.ref m]))) L = some (.lst hs) ∧ Paired (RowT (upd (upd H9 m (.tup [.ref y, v2])) L (.lst (acc ++ [.ref m])))) (R2.take (j + 1)) hs := by
        intro y H8 S8 hy
        refine ⟨_, rfl, rIx_seqO ((S7.trans S8) _ _ h3) (u := .int r.2) (atI_nat (j := 1) rfl) ⟨by decide, fun m hm => ?_⟩⟩
        have Sm : Same H8 (upd H8 m (.tup [.ref y, .int r.2])) := same_new hm
        have gL8 := S8 _ _ gL
        have nmL : m ≠ L := fun e => by rw [e, gL8] at hm; cases hm
        have nyL : y ≠ L := fun e => by rw [e, gL8] at hy; cases hy
        refine ⟨hs, Sm _ _ gL8, Nat.lt_of_lt_of_le lhs (by decide), Tp.Same.mut ((S7.trans S8).trans Sm) hL, _, upd_same, ?_⟩
        rw [List.take_add_one, hr']
        have up : ∀ {r : List Int × Int} {v : V}, RowT H7 r v → RowT (upd (upd H8 m (.tup [.ref y, .int r.2])) L (.lst (hs ++ [.ref m]))) r v → True := fun _ _ => trivial
        have tl : ∀ {z : Addr} {xs : List V}, H7 z = some (.tup xs) → (upd (upd H8 m (.tup [.ref y, .int r.2])) L (.lst (hs ++ [.ref m]))) z = some (.tup xs) := fun {z xs} h => by
          rw [upd_ne fun e => by rw [e, gL] at h; cases h]
          exact Sm _ _ (S8 _ _ h)
        exact paired_snoc (paired_imp (fun _ _ ⟨p, q, e, h1, h2⟩ => ⟨p, q, e, tl h1, tl h2⟩) ph) ⟨m, y, rfl, by rw [upd_ne nmL]; exact upd_same, by rw [upd_ne nyL]; exact Sm _ _ hy⟩
      refine ⟨rfl, _, rfl, rIx_seqO (S7 _ _ h3) (u := .ref qq) (atI_nat (j := 0) rfl) ⟨qq, r.1.map V.int, rfl, ?_⟩⟩
      have h47 := S7 _ _ h4
      cases c' with
      | true => exact .inr ⟨SqT.of h47, key qq _ (Same.refl _) h47⟩
      | false => exact .inl ⟨SqL.of h47, fun l hl => key l _ (same_new hl) upd_same⟩
    · rintro H7 ⟨S7, hs, gL, ph⟩
      rw [lr2, List.take_length] at ph
      refine ⟨_, _, rfl, ?_⟩
      have gt7 := S7 _ _ gt6
      have tNR : NR H7 rs2 t := nr_t pr6 S7 gt6
      have bNR : NR H7 rs2 b := nr_mk pr6 S7 fun p q n1 n2 _ _ => ⟨(fun e => hB.ne n1 e.symm), (fun e => hB.ne n2 e.symm)⟩
      have LNR : NR H7 rs2 L := nr_mk pr6 S7 fun p q _ _ n1 n2 => ⟨(fun e => n1 (by rw [← e]; exact hL)), (fun e => n2 (by rw [← e]; exact hL))⟩
      refine ⟨_, rfl, t, rfl, ⟨_, SqL.of gt7⟩, for_it (walk_list (xs := rs2)) (fun j σ H' => (∀ v ∈ rs2, Loose H7 H' (5 + j) v) ∧ Keep H7 rs2 H' ∧ ∃ v5 v6 v7, σ = [some (.ref b), some (.ref t), some (.ref D), some (.ref M), some (.ref L), v5, v6, v7]) ⟨fun v hv => ?_, fun _ _ h _ => h, none, none, none, rfl⟩ ?_ ?_ ?_⟩
      · obtain ⟨i, hi⟩ := List.mem_iff_getElem?.mp hv
        obtain ⟨r, hr', p, qq, c, c', e, _, _, h3, h4⟩ := paired_rev pr6 hi
        exact ⟨p, qq, c, c', r.2, r.2, r.1, e, S7 _ _ h3, S7 _ _ h3, S7 _ _ h4, Nat.le_trans (ok5 r (List.mem_of_getElem? hr')).1 (by omega)⟩
      · rintro j σ H' _ ⟨_, k, _⟩
        exact SqL.of (k _ _ gt7 (.inr tNR))
      · rintro j x σ _ H8 hj ⟨lo, k, v5, v6, v7, rfl⟩ ⟨rfl, hx⟩
        have hxm := List.mem_of_getElem? hx
        obtain ⟨p, qq, c, c', x0, x1, ns, rfl, h0, h1, h2, ln⟩ := lo x hxm
        refine ⟨_, rfl, p, qq, c, c', x1, ns, rfl, h1, h2, by omega, fun H9 x' ns' o h3 h4 l => ⟨fun v hv => ?_, fun z oz hz nz => ?_, _, _, _, rfl⟩⟩
        · exact (lo v hv).step h1 h2 (by omega) o h3 h4
        · refine o _ _ (k _ _ hz nz) (nz.imp id fun nr => nr _ hxm _ _ _ _ rfl h0)
      · rintro σ H8 ⟨_, k8, v5, v6, v7, rfl⟩
        have gt8 := k8 _ _ gt7 (.inr tNR)
        refine ⟨_, rfl, .inl ⟨rfl, _, SqL.of gt8⟩, (show 2 ≤ sizeLine from by decide), fun a1 ha1 => ?_⟩
        have S9 := same_new (o := .tup [V.int 8, V.int 8]) ha1
        have g9 : (upd H8 a1 (.tup [V.int 8, V.int 8])) a1 = some (.tup [V.int 8, V.int 8]) := upd_same
        generalize upd H8 a1 (.tup [V.int 8, V.int 8]) = H9 at S9 g9 ⊢
        refine ⟨(show 2 ≤ sizeLine from by decide), fun a2 ha2 => ?_⟩
        have S10 := same_new (o := .tup [V.ref a1, V.int 9]) ha2
        have g10 : (upd H9 a2 (.tup [V.ref a1, V.int 9])) a2 = some (.tup [V.ref a1, V.int 9]) := upd_same
        generalize upd H9 a2 (.tup [V.ref a1, V.int 9]) = H10 at S10 g10 ⊢
        have S8a : Same H8 H10 := S9.trans S10
        refine ⟨t, rs2, 0, _, rfl, rfl, S8a _ _ gt8, Nat.lt_of_lt_of_le (show rs2.length < 10 by omega) (by decide), by decide, by decide, ?_⟩
        have gD7 := S7 _ _ (X6 _ _ gD5 (fun _ z => by cases z))
        have gD10 := S8a _ _ (k8 _ _ gD7 (.inl fun _ z => by cases z))
        have kT : ∀ z o, z ≠ t → H10 z = some o → (upd H10 t (.lst (rs2.take (0 : Int).toNat ++ [.ref a2] ++ rs2.drop (0 : Int).toNat))) z = some o := fun z o n h => by rw [upd_ne n]; exact h
        generalize upd H10 t (.lst (rs2.take (0 : Int).toNat ++ [.ref a2] ++ rs2.drop (0 : Int).toNat)) = H11 at kT ⊢
        have gD11 := kT _ _ nDt gD10
        refine ⟨Nat.zero_le _, fun a3 ha3 => ?_⟩
        have S12 := same_new (o := .lst []) ha3
        have g12 : (upd H11 a3 (.lst [])) a3 = some (.lst []) := upd_same
        generalize upd H11 a3 (.lst []) = H12 at S12 g12 ⊢
        refine ⟨_, rfl, D, _, rfl, DPut.k (k := (.inr "g" : Key)) (S12 _ _ gD11) (show 1 < sizeLine from by decide), ?_⟩
        have kD : ∀ z o, z ≠ D → H12 z = some o → (upd H12 D (.dK (putK [((Sum.inr "f" : Key), V.ref t)] (.inr "g") (.ref a3)))) z = some o := fun z o n h => by rw [upd_ne n]; exact h
        generalize upd H12 D (.dK (putK [((Sum.inr "f" : Key), V.ref t)] (.inr "g") (.ref a3))) = HZ at kD ⊢
        have kZ : ∀ z o, H7 z = some o → z ≠ t → z ≠ D → (∀ xs, o ≠ .lst xs) ∨ NR H7 rs2 z → HZ z = some o := fun z o h n1 n2 n => kD _ _ n2 (S12 _ _ (kT _ _ n1 (S8a _ _ (k8 _ _ h n))))
        have nLt : L ≠ t := fun e => by rw [e, gt6] at hL; cases hL
        have nLD : L ≠ D := fun e => by rw [e, X6 _ _ gD5 (fun _ z => by cases z)] at hL; cases hL
        have gLZ := kZ _ _ gL nLt nLD (.inr LNR)
        have nMt : M ≠ t := fun e => by rw [e, gt5] at nM; cases nM
        have nMD : M ≠ D := fun e => by rw [e, gD5] at nM; cases nM
        have gMZ := kZ _ _ (S7 _ _ gM) nMt nMD (.inl fun _ z => by cases z)
        have tup : ∀ {z : Addr} {xs : List V}, H7 z = some (.tup xs) → HZ z = some (.tup xs) := fun {z xs} h => kZ _ _ h (fun e => by rw [e, gt7] at h; cases h) (fun e => by rw [e, gD7] at h; cases h) (.inl fun _ z => by cases z)
        have phZ : Paired (RowT HZ) R2 hs := paired_imp (fun _ _ ⟨p, q, e, h1, h2⟩ => ⟨p, q, e, tup h1, tup h2⟩) ph
        have mnZ : MeanAt P w K mg base HZ R2 fv := (mn.keep (KeepD.ext (LamX.ExtN.of S7))).keepN fun z o n1 n2 h => kZ _ _ h (fun e => by rw [e, gt7] at h; cases h; exact n2 _ rfl) (fun e => by rw [e, gD7] at h; cases h; exact n1 (.inl ⟨_, rfl⟩)) (.inl n2)
        have xZ : ∀ z o, (∀ xs, o ≠ .lst xs) → (∀ ks, o ≠ .dK ks) → H7 z = some o → HZ z = some o := fun z o n1 n2 h => kZ _ _ h (fun e => by rw [e, gt7] at h; exact n1 _ (Option.some.inj h).symm) (fun e => by rw [e, gD7] at h; exact n2 _ (Option.some.inj h).symm) (.inl n1)
        have tnZ : NdefX.TabsN (TT a) HZ := tabsN_data (T6.ext fun z o h => S7 _ _ h) xZ
        have nbD : b ≠ D := fun e => hB.ne (kp_none k1 B1 hD) e.symm
        have BZ : BoxAt b (n + 200) HZ := by
          obtain ⟨x, y, z, hb, r⟩ := B6
          exact ⟨x, y, z, kZ _ _ (S7 _ _ hb) (Ne.symm ntb) nbD (.inr bNR), r⟩
        have KZ : KT b H HZ := fun z o n1 n2 h => by
          refine kZ _ _ (S7 _ _ (k6 _ _ n1 n2 h)) (fun e => by rw [e, nt] at h; cases h) (fun e => by rw [e, kp_none k1 B1 hD] at h; cases h) (.inr (nr_mk pr6 S7 fun p q m1 m2 _ _ => ⟨(fun e => ?_), (fun e => ?_)⟩))
          · rw [e, m1] at h; cases h
          · rw [e, m2] at h; cases h
        clear kD kT kZ xZ tup
        obtain ⟨f, Dv, F, bb, kvs, rfl, xc, hDv, hlk, vo⟩ := mnZ.ex
        have hf := xc.fn
        refine ⟨_, rfl, M, _, rfl, (DGet.k (k := (.inr "f" : Key)) gMZ : DGet HZ M (.str "f") (some (.ref f))), ?_⟩
        have lhs : hs.length = R2.length := (Paired.length phZ).symm
        refine ⟨_, rfl, L, rfl, ⟨_, SqL.of gLZ⟩, fun X hX => lc_it (walk_list (xs := hs)) (fun j H' => Same HZ H' ∧ ∃ ws, H' X = some (.lst ws) ∧ ws.length = j ∧ AskL H' ws) ⟨same_new hX, [], upd_same, rfl, (fun x hx => by cases hx)⟩ ?_ ?_ ?_⟩
        · rintro j H' _ ⟨S, _⟩
          exact SqL.of (S _ _ gLZ)
        · rintro j x _ H14 hj ⟨S14, ws, gX, lw, ak⟩ ⟨rfl, hx⟩
          obtain ⟨r, hr', y, y2, rfl, hy, hy2⟩ := paired_rev phZ hx
          refine ⟨rfl, _, rfl, rIx_seqO (c := true) (S14 _ _ hy) (u := .ref y2) (atI_nat (j := 0) rfl) ⟨y2, _, rfl, seqO_or (c := true) (S14 _ _ hy2), fun l hl => ?_⟩⟩
          have nlX : l ≠ X := fun e => by rw [e, gX] at hl; cases hl
          have Sn : Same H14 (upd H14 l (.lst (r.1.map V.int))) := same_new hl
          refine ⟨ws, Sn _ _ gX, Nat.lt_of_lt_of_le (show ws.length < 10 by omega) (by decide), Tp.Same.mut (S14.trans Sn) hX, _, upd_same, by rw [List.length_append, lw]; rfl, fun x hx => ?_⟩
          rcases List.mem_append.mp hx with hx | hx
          · obtain ⟨p, ns, e, g⟩ := ak x hx
            have npX : p ≠ X := fun e' => by
              rw [e', gX] at g
              have g := HO.lst.inj (Option.some.inj g)
              rw [g] at hx
              obtain ⟨i', _, e2⟩ := List.mem_map.mp hx
              rw [e] at e2
              cases e2
            exact ⟨p, ns, e, by rw [upd_ne npX]; exact Sn _ _ g⟩
          · rw [List.mem_singleton.mp hx]
            exact ⟨l, r.1, rfl, by rw [upd_ne nlX]; exact upd_same⟩
        · rintro H14 ⟨S14, ws, gX, lw, ak⟩
          refine ⟨(show 2 ≤ sizeLine from by decide), fun l1 hl1 => ?_⟩
          have S15 := same_new (o := .lst [V.int 8, V.int 8]) hl1
          have g15 : (upd H14 l1 (.lst [V.int 8, V.int 8])) l1 = some (.lst [V.int 8, V.int 8]) := upd_same
          generalize upd H14 l1 (.lst [V.int 8, V.int 8]) = H15 at S15 g15 ⊢
          refine ⟨(show 3 ≤ sizeLine from by decide), fun l2 hl2 => ?_⟩
          have S16 := same_new (o := .lst [V.int 8, V.int 8, V.int 8]) hl2
          have g16 : (upd H15 l2 (.lst [V.int 8, V.int 8, V.int 8])) l2 = some (.lst [V.int 8, V.int 8, V.int 8]) := upd_same
          generalize upd H15 l2 (.lst [V.int 8, V.int 8, V.int 8]) = H16 at S16 g16 ⊢
          refine ⟨(show 2 ≤ sizeLine from by decide), fun l3 hl3 => ?_⟩
          have S17 := same_new (o := .lst [V.ref l1, V.ref l2]) hl3
          have g17 : (upd H16 l3 (.lst [V.ref l1, V.ref l2])) l3 = some (.lst [V.ref l1, V.ref l2]) := upd_same
          generalize upd H16 l3 (.lst [V.ref l1, V.ref l2]) = H17 at S17 g17 ⊢
          have S17e : Same H14 H17 := (S15.trans S16).trans S17
          have ak17 : AskL H17 (ws ++ [V.ref l1, V.ref l2]) := (ak.same S17e).app fun x hx => by
            simp only [List.mem_cons, List.not_mem_nil, or_false] at hx
            rcases hx with rfl | rfl
            · exact ⟨l1, [8, 8], rfl, S17 _ _ (S16 _ _ g15)⟩
            · exact ⟨l2, [8, 8, 8], rfl, S17 _ _ g16⟩
          refine ⟨X, l3, ws, _, rfl, rfl, S17e _ _ gX, g17, Nat.le_trans (show ws.length + 2 ≤ 13 by omega) (by decide), fun l4 hl4 => ?_⟩
          obtain ⟨xs, exs⟩ : ∃ xs, xs = ws ++ [V.ref l1, V.ref l2] := ⟨_, rfl⟩
          rw [← exs] at ak17 ⊢
          have S18 := same_new (o := .lst xs) hl4
          have g18 : (upd H17 l4 (.lst xs)) l4 = some (.lst xs) := upd_same
          generalize upd H17 l4 (.lst xs) = H18 at S18 g18 ⊢
          have SZ : Same HZ H18 := (S14.trans S17e).trans S18
          have ak18 := ak17.same S18
          refine ⟨l4, rfl, ⟨_, SqL.of g18⟩, for_it (walk_list (xs := xs)) (fun j σ H' => Same H18 H' ∧ ∃ v5 v7, σ = [some (.ref b), some (.ref t), some (.ref D), some (.ref M), some (.ref L), v5, some (.ref f), v7]) ⟨Same.refl _, _, _, rfl⟩ ?_ ?_ ?_⟩
          · rintro j σ H' _ ⟨S, _⟩
            exact SqL.of (S _ _ g18)
          · rintro j x σ _ H19 hj ⟨S19, v5', v7', rfl⟩ ⟨rfl, hx⟩
            obtain ⟨p, ns, rfl, gp⟩ := ak18 x (List.mem_of_getElem? hx)
            have gp := S19 _ _ gp
            have S9 := SZ.trans S19
            refine ⟨f, F, bb, rfl, S9 _ _ hf, _, rfl, ?_⟩
            have x1 := xc.same S9
            refine ⟨_, _, _, x1, vo, Dv, p, kvs, false, ns, rfl, rfl, x1.out (S9 _ _ hDv) (fun ob z => by cases z), x1.out gp (fun ob z => by cases z), fun H20' S20' => ?_⟩
            have S20 := bak_same S20'
            rw [hlk ns]
            refine ⟨_, rfl, _, rfl, .ref L, p, R2, ns, rfl, ⟨L, false, hs, rfl, S20 _ _ (S9 _ _ gLZ), paired_imp (fun _ _ h => (h.same (S9.trans S20)).row) phZ⟩, S20 _ _ gp, fun H21 S21 => ⟨rfl, _, rfl, ifnY rfl ?_⟩⟩
            exact ⟨(S19.trans S20).trans S21, _, _, rfl⟩
          · rintro σ H19 ⟨S19, v5', v7', rfl⟩
            have S9 := SZ.trans S19
            refine ⟨_, rfl, M, _, [("f" : Str)], rfl, .inl (S9 _ _ gMZ), rfl, (show 1 < 64 from by decide), fun ys p1 py sy1 hp1 => ?_⟩
            have eys : ys = [("f" : Str)] := List.perm_singleton.mp py
            subst eys
            have S20 : Same H19 (upd H19 p1 (.lst [V.str "f"])) := same_new hp1
            have g20 : (upd H19 p1 (.lst [V.str "f"])) p1 = some (.lst [V.str "f"]) := upd_same
            refine ⟨(show 1 ≤ sizeLine from by decide), fun p2 hp2 => ?_⟩
            have S21 := same_new (o := .lst [V.str "f"]) hp2
            have shL : ShN 1 (.list [PyData.str "f"]) := ShN.lst (n := 0) fun x hx => by
              rw [List.mem_singleton.mp hx]
              exact ShN.nm (by decide +kernel)
            refine ⟨.list [.str "f"], .list [.str "f"], .lst (SqL.of (S21 _ _ g20)) (.cons (.str "f") .nil), .lst (SqL.of upd_same) (.cons (.str "f") .nil), shL.shaped (by decide), shL.shaped (by decide), ?_⟩
            rw [shL.eqv]
            have SF := (S9.trans S20).trans S21
            exact q _ (fun z o n1 n2 h => SF _ _ (KZ _ _ n1 n2 h)) ((BZ.same SF).up (by omega)) (tnZ.ext fun z o h => SF _ _ h)
end
end L58
set_option Elab.async false
set_option linter.all false
set_option maxRecDepth 100000
set_option maxHeartbeats 4000000
set_option pp.deepTerms false
set_option pp.deepTerms.threshold 4
set_option pp.maxSteps 1000
namespace L58
open PySem L2 Tp
section
variable {P : Program} {w : World} {K : PySem.W.Frag} {mg : Str → Option Value} {base : Heap} {a : Ad} {d : Fd}
def unT (H : Hp) : Hp := fun z => match H z with
  | some (.tbl _) => none
  | o => o
theorem unT_inv {H : Hp} {z : Addr} {o : HO} (h : unT H z = some o) : H z = some o ∧ ∀ ps, o ≠ .tbl ps := by
  unfold unT at h
  split at h
  · cases h
  · rename_i n
    exact ⟨h, fun ps e => n ps (by rw [h, e])⟩
theorem unT_get {H : Hp} {z : Addr} {o : HO} (h : H z = some o) (n : ∀ ps, o ≠ .tbl ps) : unT H z = some o := by
  unfold unT
  rw [h]
  cases o with
  | tbl ps => exact absurd rfl (n ps)
  | _ => rfl
theorem unT_to {H : Hp} : Same (unT H) H := fun z o h => (unT_inv h).1
theorem sqL_un {H : Hp} {x : Addr} {xs : List V} (h : SqL K H x xs) : SqL K (unT H) x xs := by
  rcases h with (h | ⟨o, h⟩) | h
  · exact .inl (.inl (unT_get h (fun _ e => by cases e)))
  · exact .inl (.inr ⟨o, unT_get h (fun _ e => by cases e)⟩)
  · exact .inr h
def spLaw (K : PySem.W.Frag) (a : Ad) : Sp := fun vs H Q _ => ∃ (s : Addr) (ns : List Int), vs = [.ref s] ∧ Sys K H ∧ SqL K H s (ns.map V.int) ∧ ns.length ≤ 63 ∧ NdefX.TabsN (TT a) H ∧ ∀ H', Q (.bl true) H'
theorem ok_law (T : Txt K mg a d) (TB : LamX.TabB base mg a.cFn a.pFn) : FnG P w K mg base CX0 30 a.law d.law ["_law_script"] (spLaw K a) := by
  have G_cell := ok_cell (P := P) (w := w) (base := base) T
  have G_box := ok_box (P := P) (w := w) (base := base) T
  have G_tabsR := ok_tabsR (P := P) (w := w) (base := base) T TB
  have G_refused := ok_refused (P := P) (w := w) (base := base) T TB
  have G_kept := ok_kept (P := P) (w := w) (base := base) T TB
  refine okG T.F_law scLaw (fun vs H Q E h => ?_) (fun cdv A outer s H vs Q E hr hg h => ?_)
  · obtain ⟨s, ns, rfl, _⟩ := h
    rfl
  · obtain ⟨s, ns, rfl, sy, hS, h63, tb, q⟩ := h
    refine ⟨_, (pss_cons (ps_for PassesOwn.never rfl (pi_range1 (by rfl) T.range_ (pa_cons (pe_callB (call_max2 rfl) (by rfl) T.max_ Tp.bt_max (pa_cons pe_int (pa_cons (pe_callB (call_min2 rfl) (by rfl) T.min_ Tp.bt_min (pa_cons pe_int (pa_cons (pe_callB call_len_seq (by rfl) T.len_ Tp.bt_len (pa_cons (pv 0) pa_nil)) pa_nil))) pa_nil))) pa_nil)) (pg_name (i := 1) scLaw.nd rfl (Or.inl rfl)) (pss_cons (ps_set (i := 2) scLaw.nd rfl (Or.inl rfl) (Tp.pe_callG G_box (hr.mono (by decide)) hg (by rfl) T.mg_box T.F_box.kp T.b_box .nil pass0 (pa_cons (Tp.pe_callG G_cell (hr.mono (by decide)) hg (by rfl) T.mg_cell T.F_cell.kp T.b_cell .nil pass0 (pa_cons (pv 0) (pa_cons (pv 1) pa_nil))) pa_nil)))
      (pss_one (ps_if (PW.pt (pw_or (pt_not (pt_val (Tp.pe_callG G_tabsR (hr.mono (by decide)) hg (by rfl) T.mg_tabsR T.F_tabsR.kp T.b_tabsR .nil pass0 (pa_cons (pv 2) pa_nil)))) (pw_or (pt_not (pt_val (Tp.pe_callG G_refused (hr.mono (by decide)) hg (by rfl) T.mg_refused T.F_refused.kp T.b_refused .nil pass0 (pa_cons (pv 2) pa_nil)))) (pw_or1 (pt_not (pt_val (Tp.pe_callG G_kept (hr.mono (by decide)) hg (by rfl) T.mg_kept T.F_kept.kp T.b_kept .nil pass0 (pa_cons (pv 2) pa_nil)))))))) (pss_one (ps_ret pe_bl)) pss_nil))))
      (pss_one (ps_ret pe_bl))), ?_⟩
    refine ⟨_, rfl, s, _, rfl, .inl hS, _, _, rfl, _, _, rfl, ?_⟩
    generalize hm : (if _ > (2 : Int) then _ else (2 : Int)) = m
    have m1 : 0 ≤ m ∧ m ≤ 8 := by
      rw [← hm]
      rw [List.length_map]
      repeat' split
      all_goals omega
    have hSu := sqL_un hS
    have syU : Sys K (unT H) := sy.imp id fun h => ⟨h.1, let ⟨o, φ, e⟩ := h.2; ⟨o, φ, unT_get e fun _ z => by cases z⟩⟩
    refine ⟨_, rfl, by omega, by omega, for_range (lo := 0) (n := m.toNat) (fun i σ H' => Same (unT H) H' ∧ NdefX.TabsN (TT a) H' ∧ ∃ v1 v2, σ = [some (.ref s), v1, v2]) ⟨unT_to, tb, _, _, rfl⟩ ?_ ?_⟩
    · rintro i σ H0 hi ⟨S0, tb0, v1, v2, rfl⟩
      refine ⟨_, rfl, _, rfl, s, ns, _, rfl, S0.seq hSu, by omega, by omega, fun c => ⟨_, rfl, fun b x0 y0 hb p1 p2 p3 => ?_⟩⟩
      have S1 : Same H0 (upd H0 b (.lst [.int x0, .int y0, .int 0])) := same_new hb
      have bx : BoxAt b 0 (upd H0 b (.lst [.int x0, .int y0, .int 0])) := ⟨x0, y0, 0, upd_same, p1, p2, p3, by decide, by decide⟩
      generalize upd H0 b (.lst [.int x0, .int y0, .int 0]) = H1 at S1 bx ⊢
      have go : ∀ {H1 H2 : Hp}, Same (unT H) H1 → KT b H1 H2 → Same (unT H) H2 := fun S k z o h => k z o (fun e => by
        rw [e] at h
        rw [S0 _ _ h] at hb
        cases hb) (unT_inv h).2 (S _ _ h)
      have SU1 := S0.trans S1
      refine ⟨_, rfl, b, 0, rfl, bx, by decide, syU.same SU1, tb0.ext S1, fun H2 k2 B2 t2 => ⟨_, rfl, iteF ?_⟩⟩
      have SU2 := go SU1 k2
      refine ⟨_, rfl, b, _, rfl, B2, by omega, syU.same SU2, t2, fun H3 k3 B3 t3 => ⟨_, rfl, iteF ?_⟩⟩
      have SU3 := go SU2 k3
      refine ⟨_, rfl, b, _, rfl, B3, by omega, syU.same SU3, t3, fun H4 k4 B4 t4 => ⟨_, rfl, iteF ?_⟩⟩
      exact ⟨go SU3 k4, t4, _, _, rfl⟩
    · rintro σ H0 ⟨S0, tb0, v1, v2, rfl⟩
      exact q _
end
end L58
set_option Elab.async false
set_option linter.all false
set_option maxRecDepth 100000
set_option maxHeartbeats 4000000
set_option pp.deepTerms false
set_option pp.deepTerms.threshold 4
set_option pp.maxSteps 300
namespace L58
open PySem L2 Tp
def hd0 : He.DefD := ⟨("InvalidPart", some "__init__"), "__init__", "InvalidPart.__init__", defArgs scInvalidPart_st, defBody scInvalidPart_st, defScope scInvalidPart_st, [], []⟩
def hd1 : He.DefD := ⟨("InvalidName", some "__init__"), "__init__", "InvalidName.__init__", defArgs scInvalidName_st, defBody scInvalidName_st, defScope scInvalidName_st, [], []⟩
def hd2 : He.DefD := ⟨("InvalidRow", some "__init__"), "__init__", "InvalidRow.__init__", defArgs scInvalidRow_st, defBody scInvalidRow_st, defScope scInvalidRow_st, [], []⟩
def hd3 : He.DefD := ⟨("is_name", none), "is_name", "is_name", defArgs scIsName_st, defBody scIsName_st, defScope scIsName_st, [], []⟩
def hd4 : He.DefD := ⟨("is_list", none), "is_list", "is_list", defArgs scIsList_st, defBody scIsList_st, defScope scIsList_st, [], []⟩
def hd5 : He.DefD := ⟨("is_pair", none), "is_pair", "is_pair", defArgs scIsPair_st, defBody scIsPair_st, defScope scIsPair_st, [], []⟩
def hd6 : He.DefD := ⟨("is_table_row", none), "is_table_row", "is_table_row", defArgs scIsRow_st, defBody scIsRow_st, defScope scIsRow_st, [], []⟩
def hd7 : He.DefD := ⟨("function_of", none), "function_of", "function_of", defArgs scFunOf_st, defBody scFunOf_st, defScope scFunOf_st, [], []⟩
def hd8 : He.DefD := ⟨("meaning_of", none), "meaning_of", "meaning_of", defArgs scMeaning_st, defBody scMeaning_st, defScope scMeaning_st, [], []⟩
def hd9 : He.DefD := ⟨("_law_cell", none), "_law_cell", "_law_cell", defArgs scCell_st, defBody scCell_st, defScope scCell_st, [], []⟩
def hd10 : He.DefD := ⟨("_law_box", none), "_law_box", "_law_box", defArgs scBox_st, defBody scBox_st, defScope scBox_st, [], []⟩
def hd11 : He.DefD := ⟨("_law_take", none), "_law_take", "_law_take", defArgs scTake_st, defBody scTake_st, defScope scTake_st, [], []⟩
def hd12 : He.DefD := ⟨("_law_labels", none), "_law_labels", "_law_labels", defArgs scLabels_st, defBody scLabels_st, defScope scLabels_st, [], []⟩
def hd13 : He.DefD := ⟨("_law_looked", none), "_law_looked", "_law_looked", defArgs scLooked_st, defBody scLooked_st, defScope scLooked_st, [], []⟩
def hd14 : He.DefD := ⟨("_law_table", none), "_law_table", "_law_table", defArgs scTable_st, defBody scTable_st, defScope scTable_st, [], []⟩
def hd15 : He.DefD := ⟨("_law_tables_right", none), "_law_tables_right", "_law_tables_right", defArgs scTabsR_st, defBody scTabsR_st, defScope scTabsR_st, [], []⟩
def hd16 : He.DefD := ⟨("_law_told", none), "_law_told", "_law_told", defArgs scTold_st, defBody scTold_st, defScope scTold_st, [], []⟩
def hd17 : He.DefD := ⟨("_law_refused", none), "_law_refused", "_law_refused", defArgs scRefused_st, defBody scRefused_st, defScope scRefused_st, [], []⟩
def hd18 : He.DefD := ⟨("_law_spoiled", none), "_law_spoiled", "_law_spoiled", defArgs scSpoiled_st, defBody scSpoiled_st, defScope scSpoiled_st, [], []⟩
def hd19 : He.DefD := ⟨("_law_kept", none), "_law_kept", "_law_kept", defArgs scKept_st, defBody scKept_st, defScope scKept_st, [], []⟩
def hd20 : He.DefD := ⟨("law", none), "law", "law", defArgs scLaw_st, defBody scLaw_st, defScope scLaw_st, [], []⟩
def hfn : List He.DefD := [hd0, hd1, hd2, hd3, hd4, hd5, hd6, hd7, hd8, hd9, hd10, hd11, hd12, hd13, hd14, hd15, hd16, hd17, hd18, hd19, hd20]
def hex0 : List (PySem.W.Frag → Bool) := [fun K => decide (PySem.W.findIn K (.ref (He.ga K "InvalidPart")) "__init__" = some (some (.ref (He.ma K (He.ga K "InvalidPart") "__init__")))),
  fun K => PySem.W.isFn K (.ref (He.fAd K ("InvalidPart", some "__init__"))),
  fun K => decide (PySem.W.findIn K (.ref (He.ga K "InvalidName")) "__init__" = some (some (.ref (He.ma K (He.ga K "InvalidName") "__init__")))),
  fun K => PySem.W.isFn K (.ref (He.fAd K ("InvalidName", some "__init__"))),
  fun K => decide (PySem.W.findIn K (.ref (He.ga K "InvalidRow")) "__init__" = some (some (.ref (He.ma K (He.ga K "InvalidRow") "__init__")))),
  fun K => PySem.W.isFn K (.ref (He.fAd K ("InvalidRow", some "__init__"))),
  fun K => (He.Fa.glo "is_name").ok K,
  fun K => (He.Fa.glo "is_list").ok K,
  fun K => (He.Fa.glo "is_pair").ok K,
  fun K => (He.Fa.glo "is_table_row").ok K,
  fun K => (He.Fa.glo "function_of").ok K,
  fun K => (He.Fa.glo "meaning_of").ok K,
  fun K => (He.Fa.glo "_law_cell").ok K,
  fun K => (He.Fa.glo "_law_box").ok K,
  fun K => (He.Fa.glo "_law_take").ok K,
  fun K => (He.Fa.glo "_law_labels").ok K,
  fun K => (He.Fa.glo "_law_looked").ok K,
  fun K => (He.Fa.glo "_law_table").ok K,
  fun K => (He.Fa.glo "_law_tables_right").ok K,
  fun K => (He.Fa.glo "_law_told").ok K,
  fun K => (He.Fa.glo "_law_refused").ok K,
  fun K => (He.Fa.glo "_law_spoiled").ok K,
  fun K => (He.Fa.glo "_law_kept").ok K,
  fun K => (He.Fa.glo "law").ok K,
  fun K => (He.Fa.str "LETTERS" "abcdefghijklmnopqrstuvwxyz").ok K,
  fun K => (He.Fa.str "DIGITS" "0123456789").ok K,
  fun K => (He.Fa.int "LONGEST_NAME" (8)).ok K,
  fun K => (He.Fa.int "MOST_ARGUMENTS" (3)).ok K,
  fun K => (He.Fa.free "len").ok K,
  fun K => (He.Fa.free "max").ok K,
  fun K => (He.Fa.free "min").ok K,
  fun K => (He.Fa.free "isinstance").ok K,
  fun K => (He.Fa.free "str").ok K,
  fun K => (He.Fa.free "int").ok K,
  fun K => (He.Fa.free "all").ok K,
  fun K => (He.Fa.free "range").ok K,
  fun K => (He.Fa.free "repr").ok K,
  fun K => (He.Fa.free "list").ok K,
  fun K => (He.Fa.free "tuple").ok K,
  fun K => (He.Fa.free "bool").ok K,
  fun K => (He.Fa.free "dict").ok K,
  fun K => (He.Fa.free "sorted").ok K,
  fun K => (He.Fa.glo "NetError").ok K,
  fun K => Tp.clsXB .ve K (He.ga K "NetError") [],
  fun K => decide (PySem.W.specialIn K (.ref (He.ga K "NetError")) "__getattribute__" = some (some (.builtin "type.__getattribute__"))),
  fun K => PySem.W.readsIn K (He.ga K "NetError") (.type "type"),
  fun K => Tp.clsB K (He.ga K "NetError") "__init__" (Tp.XB.initId .ve),
  fun K => (He.Fa.glo "InvalidPart").ok K,
  fun K => Tp.clsXB .ve K (He.ga K "InvalidPart") [(He.ga K "NetError")],
  fun K => Tp.initXB K (He.ga K "InvalidPart") (He.fAd K ("InvalidPart", some "__init__")) ["value"],
  fun K => (He.Fa.glo "InvalidName").ok K,
  fun K => Tp.clsXB .ve K (He.ga K "InvalidName") [(He.ga K "NetError")],
  fun K => Tp.initXB K (He.ga K "InvalidName") (He.fAd K ("InvalidName", some "__init__")) ["value"],
  fun K => (He.Fa.glo "InvalidRow").ok K,
  fun K => Tp.clsXB .ve K (He.ga K "InvalidRow") [(He.ga K "NetError")],
  fun K => Tp.initXB K (He.ga K "InvalidRow") (He.fAd K ("InvalidRow", some "__init__")) ["value"],
  fun K => decide (PySem.W.specialIn K (.builtin "object.__class__") "__get__" = some (some (.builtin "getset_descriptor.__get__"))),
  fun K => decide (PySem.W.takesIn K (.builtin "object.__class__") = some true),
  fun K => decide ([(He.ga K "InvalidPart"), (He.ga K "InvalidName"), (He.ga K "InvalidRow"), (He.ga K "NetError")].Nodup)]
def hexs : List (List (PySem.W.Frag → Bool)) := [hex0]
def htf : List He.Defn := [("function_of", none)]
def adK (K : PySem.W.Frag) : Ad := ⟨He.fAd K ("InvalidPart", some "__init__"), He.fAd K ("InvalidName", some "__init__"), He.fAd K ("InvalidRow", some "__init__"), He.fAd K ("is_name", none), He.fAd K ("is_list", none), He.fAd K ("is_pair", none), He.fAd K ("is_table_row", none), He.fAd K ("function_of", none), He.fAd K ("meaning_of", none), He.fAd K ("_law_cell", none), He.fAd K ("_law_box", none), He.fAd K ("_law_take", none), He.fAd K ("_law_labels", none), He.fAd K ("_law_looked", none), He.fAd K ("_law_table", none), He.fAd K ("_law_tables_right", none), He.fAd K ("_law_told", none), He.fAd K ("_law_refused", none), He.fAd K ("_law_spoiled", none), He.fAd K ("_law_kept", none), He.fAd K ("law", none), He.ga K "NetError", He.ga K "InvalidPart", He.ga K "InvalidName", He.ga K "InvalidRow", (He.cT K ("function_of", none)).1, (He.cT K ("function_of", none)).2⟩
def hln0 : List Str := ["__name__", "NetError", "InvalidPart", "InvalidName", "InvalidRow", "LETTERS", "DIGITS", "LONGEST_NAME", "MOST_ARGUMENTS", "is_name", "is_list", "is_pair", "is_table_row", "function_of", "meaning_of", "_law_cell", "_law_box", "_law_take", "_law_labels", "_law_looked", "_law_table", "_law_tables_right", "_law_told", "_law_refused", "_law_spoiled", "_law_kept"]
def hln : List Str := hln0
abbrev HR : PySem.W.OpenRow := PySem.W.OpenLaw.row PySem.Challenge.rw_toldpast_k58_meanings_of_tables
abbrev hq : Program := PySem.W.view HR.prog [29]
def hcs : List Str := [("NetError" : Str), ("InvalidPart" : Str), ("InvalidName" : Str), ("InvalidRow" : Str)]
abbrev hk : PySem.W.Hook := Tp.hookBT hcs hfn hexs.flatten htf
def hob (s : PySem.W.SharedT) : Tp.AlBT := Tp.obsBT hcs hfn hexs.flatten htf (HandSHeadRun.getT s)
theorem hob_eq (s : PySem.W.SharedT) : hob s = hk.obs s.abs := Tp.obsBT_eq (HandSHeadRun.getT_eq s)
noncomputable abbrev hx (w : World) (os : OsState) : Option PySem.W.SharedT := HandSHeadRun.endF (HandSHeadRun.stepQ (HandSHeadRun.denQ HandSHeadRun.tabQ) HR.prog w) 20000 HR.prog w os
end L58
set_option Elab.async false
set_option linter.all false
set_option maxRecDepth 100000
set_option maxHeartbeats 4000000
set_option pp.deepTerms false
set_option pp.deepTerms.threshold 4
set_option pp.maxSteps 300
namespace L58
open PySem PySem.W PySem.Calls PyProof.Rows L2 Tp
theorem hr_looks (w : World) (os : OsState) : (hx w os).map (fun s => HandSHeadRun.looksF HR.prog (boot_heap w.params) s.abs) = some true := by kernel_rfl
theorem hr_seen (w : World) (os : OsState) : (hx w os).map (fun s => HandSHeadRun.seenQ hq hln (importedModules HR.prog.main.body) (fun s => PySem.W.xlAt hq [] s && PySem.W.recOk HR.toRowW.records s) s.abs) = some (PySem.W.openGood hq hln) := by kernel_rfl
theorem hr_e0 (w : World) (os : OsState) : (hx w os).map (fun s => Tp.withKT (HandSHeadRun.getT s) hcs (hfn.map He.DefD.at_) fun K => hex0.all fun f => f K) = some true := by kernel_rfl
theorem hr_ok (w : World) (os : OsState) : (hx w os).map (fun s => Tp.withKT (HandSHeadRun.getT s) hcs (hfn.map He.DefD.at_) fun K => hfn.all fun d => d.ok K) = some true := by kernel_rfl
theorem hr_v (w : World) (os : OsState) : (hx w os).map (fun s => Tp.withKT (HandSHeadRun.getT s) hcs (hfn.map He.DefD.at_) fun K => hfn.map fun d => He.fnW K d.at_) = some (hfn.map He.DefD.val) := by kernel_rfl
theorem hr_t (w : World) (os : OsState) : (hx w os).map (fun s => Tp.withKT (HandSHeadRun.getT s) hcs (hfn.map He.DefD.at_) fun K => He.tabsB (HandSHeadRun.getT s) htf K) = some true := by kernel_rfl
end L58
set_option Elab.async false
set_option linter.all false
set_option maxRecDepth 100000
set_option maxHeartbeats 4000000
set_option pp.deepTerms false
set_option pp.deepTerms.threshold 4
set_option pp.maxSteps 300
namespace L58
open PySem L2 Tp
theorem tabs_mk {K : PySem.W.Frag} {H : Hp} (hT : ∀ p ∈ htf.map (He.cT K), H p.2 = some (.tbl #[])) : NdefX.TabsN (TT (adK K)) H := fun p hp => by
  simp only [TT, List.mem_cons, List.not_mem_nil, or_false] at hp
  subst hp
  exact NdefX.TabN.nil (hT _ (List.mem_map.mpr ⟨_, List.mem_singleton.mpr rfl, rfl⟩))
theorem all_mk {l : PySem.W.OpenLaw} {w : World} {K : PySem.W.Frag} {h : Heap} {mg : Str → Option Value} {fa : Addr} (X : K.In h) (G : h.Ns mainGlobals mg) (hfa : mg "law" = some (.ref fa)) (c : Tp.SaysB hfn hexs.flatten K)
    : ∃ fd : FuncData, (∀ (s : Shared) (v : Value), BindsTo s fd ⟨[v], []⟩ [("_law_script", v)]) ∧ ∀ base : Heap, K.In base → base.Ns mainGlobals mg → (∀ p ∈ htf.map (He.cT K), LamX.TabB base mg p.1 p.2) → Tp.FnG l.prog w K mg base CX0 30 fa fd ["_law_script"] (spLaw K (adK K)) := by
  have a0 : PySem.W.findIn K (.ref (He.ga K "InvalidPart")) "__init__" = some (some (.ref (He.ma K (He.ga K "InvalidPart") "__init__"))) := of_decide_eq_true (c.factP 0 0 rfl rfl)
  have fn0 : PySem.W.isFn K (.ref (He.fAd K ("InvalidPart", some "__init__"))) = true := (c.factP 0 1 rfl rfl)
  have a1 : PySem.W.findIn K (.ref (He.ga K "InvalidName")) "__init__" = some (some (.ref (He.ma K (He.ga K "InvalidName") "__init__"))) := of_decide_eq_true (c.factP 0 2 rfl rfl)
  have fn1 : PySem.W.isFn K (.ref (He.fAd K ("InvalidName", some "__init__"))) = true := (c.factP 0 3 rfl rfl)
  have a2 : PySem.W.findIn K (.ref (He.ga K "InvalidRow")) "__init__" = some (some (.ref (He.ma K (He.ga K "InvalidRow") "__init__"))) := of_decide_eq_true (c.factP 0 4 rfl rfl)
  have fn2 : PySem.W.isFn K (.ref (He.fAd K ("InvalidRow", some "__init__"))) = true := (c.factP 0 5 rfl rfl)
  have g3 := He.glo_ok X G (c.factP 0 6 rfl rfl)
  have g4 := He.glo_ok X G (c.factP 0 7 rfl rfl)
  have g5 := He.glo_ok X G (c.factP 0 8 rfl rfl)
  have g6 := He.glo_ok X G (c.factP 0 9 rfl rfl)
  have g7 := He.glo_ok X G (c.factP 0 10 rfl rfl)
  have g8 := He.glo_ok X G (c.factP 0 11 rfl rfl)
  have g9 := He.glo_ok X G (c.factP 0 12 rfl rfl)
  have g10 := He.glo_ok X G (c.factP 0 13 rfl rfl)
  have g11 := He.glo_ok X G (c.factP 0 14 rfl rfl)
  have g12 := He.glo_ok X G (c.factP 0 15 rfl rfl)
  have g13 := He.glo_ok X G (c.factP 0 16 rfl rfl)
  have g14 := He.glo_ok X G (c.factP 0 17 rfl rfl)
  have g15 := He.glo_ok X G (c.factP 0 18 rfl rfl)
  have g16 := He.glo_ok X G (c.factP 0 19 rfl rfl)
  have g17 := He.glo_ok X G (c.factP 0 20 rfl rfl)
  have g18 := He.glo_ok X G (c.factP 0 21 rfl rfl)
  have g19 := He.glo_ok X G (c.factP 0 22 rfl rfl)
  have g20 := He.glo_ok X G (c.factP 0 23 rfl rfl)
  have m_LETTERS := He.str_ok X G (c.factP 0 24 rfl rfl)
  have m_DIGITS := He.str_ok X G (c.factP 0 25 rfl rfl)
  have m_LONGEST_NAME := He.int_ok X G (c.factP 0 26 rfl rfl)
  have m_MOST_ARGUMENTS := He.int_ok X G (c.factP 0 27 rfl rfl)
  have z_len := He.free_ok X G (c.factP 0 28 rfl rfl)
  have z_max := He.free_ok X G (c.factP 0 29 rfl rfl)
  have z_min := He.free_ok X G (c.factP 0 30 rfl rfl)
  have z_isinstance := He.free_ok X G (c.factP 0 31 rfl rfl)
  have z_str := He.free_ok X G (c.factP 0 32 rfl rfl)
  have z_int := He.free_ok X G (c.factP 0 33 rfl rfl)
  have z_all := He.free_ok X G (c.factP 0 34 rfl rfl)
  have z_range := He.free_ok X G (c.factP 0 35 rfl rfl)
  have z_repr := He.free_ok X G (c.factP 0 36 rfl rfl)
  have z_list := He.free_ok X G (c.factP 0 37 rfl rfl)
  have z_tuple := He.free_ok X G (c.factP 0 38 rfl rfl)
  have z_bool := He.free_ok X G (c.factP 0 39 rfl rfl)
  have z_dict := He.free_ok X G (c.factP 0 40 rfl rfl)
  have z_sorted := He.free_ok X G (c.factP 0 41 rfl rfl)
  have aCNetError := He.glo_ok X G (c.factP 0 42 rfl rfl)
  have cxNetError := Tp.clsXB_ok (c.factP 0 43 rfl rfl)
  have bgNetError : PySem.W.specialIn K (.ref (He.ga K "NetError")) "__getattribute__" = some (some (.builtin "type.__getattribute__")) := of_decide_eq_true (c.factP 0 44 rfl rfl)
  have brNetError : PySem.W.readsIn K (He.ga K "NetError") (.type "type") = true := (c.factP 0 45 rfl rfl)
  have bfNetError := Tp.clsB_ok (c.factP 0 46 rfl rfl)
  have aCInvalidPart := He.glo_ok X G (c.factP 0 47 rfl rfl)
  have cxInvalidPart := Tp.clsXB_ok (c.factP 0 48 rfl rfl)
  have xiInvalidPart := Tp.initXB_ok (c.factP 0 49 rfl rfl)
  have aCInvalidName := He.glo_ok X G (c.factP 0 50 rfl rfl)
  have cxInvalidName := Tp.clsXB_ok (c.factP 0 51 rfl rfl)
  have xiInvalidName := Tp.initXB_ok (c.factP 0 52 rfl rfl)
  have aCInvalidRow := He.glo_ok X G (c.factP 0 53 rfl rfl)
  have cxInvalidRow := Tp.clsXB_ok (c.factP 0 54 rfl rfl)
  have xiInvalidRow := Tp.initXB_ok (c.factP 0 55 rfl rfl)
  have ccn : PySem.W.specialIn K (.builtin "object.__class__") "__get__" = some (some (.builtin "getset_descriptor.__get__")) := of_decide_eq_true (c.factP 0 56 rfl rfl)
  have cct : PySem.W.takesIn K (.builtin "object.__class__") = some true := of_decide_eq_true (c.factP 0 57 rfl rfl)
  have xnd : [(He.ga K "InvalidPart"), (He.ga K "InvalidName"), (He.ga K "InvalidRow"), (He.ga K "NetError")].Nodup := of_decide_eq_true (c.factP 0 58 rfl rfl)
  have e := hfa.symm.trans g20
  cases e
  obtain ⟨fd0, G0⟩ := c.def_ 0 (d := hd0) rfl
  have F0 : Fun K "__init__" "InvalidPart.__init__" scInvalidPart_st (He.fAd K ("InvalidPart", some "__init__")) fd0 := Tp.fun_of G0
  have b0 := F0.binds (ps := ["self", "value"]) fun _ _ _ _ _ _ us hl => match us, hl with | [_, _], _ => rfl
  have k0 := F0.kp
  obtain ⟨fd1, G1⟩ := c.def_ 1 (d := hd1) rfl
  have F1 : Fun K "__init__" "InvalidName.__init__" scInvalidName_st (He.fAd K ("InvalidName", some "__init__")) fd1 := Tp.fun_of G1
  have b1 := F1.binds (ps := ["self", "value"]) fun _ _ _ _ _ _ us hl => match us, hl with | [_, _], _ => rfl
  have k1 := F1.kp
  obtain ⟨fd2, G2⟩ := c.def_ 2 (d := hd2) rfl
  have F2 : Fun K "__init__" "InvalidRow.__init__" scInvalidRow_st (He.fAd K ("InvalidRow", some "__init__")) fd2 := Tp.fun_of G2
  have b2 := F2.binds (ps := ["self", "value"]) fun _ _ _ _ _ _ us hl => match us, hl with | [_, _], _ => rfl
  have k2 := F2.kp
  obtain ⟨fd3, G3⟩ := c.def_ 3 (d := hd3) rfl
  have F3 : Fun K "is_name" "is_name" scIsName_st (He.fAd K ("is_name", none)) fd3 := Tp.fun_of G3
  have b3 := F3.binds (ps := ["value"]) fun _ _ _ _ _ _ us hl => match us, hl with | [_], _ => rfl
  have k3 := F3.kp
  obtain ⟨fd4, G4⟩ := c.def_ 4 (d := hd4) rfl
  have F4 : Fun K "is_list" "is_list" scIsList_st (He.fAd K ("is_list", none)) fd4 := Tp.fun_of G4
  have b4 := F4.binds (ps := ["value"]) fun _ _ _ _ _ _ us hl => match us, hl with | [_], _ => rfl
  have k4 := F4.kp
  obtain ⟨fd5, G5⟩ := c.def_ 5 (d := hd5) rfl
  have F5 : Fun K "is_pair" "is_pair" scIsPair_st (He.fAd K ("is_pair", none)) fd5 := Tp.fun_of G5
  have b5 := F5.binds (ps := ["value"]) fun _ _ _ _ _ _ us hl => match us, hl with | [_], _ => rfl
  have k5 := F5.kp
  obtain ⟨fd6, G6⟩ := c.def_ 6 (d := hd6) rfl
  have F6 : Fun K "is_table_row" "is_table_row" scIsRow_st (He.fAd K ("is_table_row", none)) fd6 := Tp.fun_of G6
  have b6 := F6.binds (ps := ["value"]) fun _ _ _ _ _ _ us hl => match us, hl with | [_], _ => rfl
  have k6 := F6.kp
  obtain ⟨fd7, G7⟩ := c.def_ 7 (d := hd7) rfl
  have F7 : Fun K "function_of" "function_of" scFunOf_st (He.fAd K ("function_of", none)) fd7 := Tp.fun_of G7
  have b7 := F7.binds (ps := ["rows"]) fun _ _ _ _ _ _ us hl => match us, hl with | [_], _ => rfl
  have k7 := F7.kp
  obtain ⟨fd8, G8⟩ := c.def_ 8 (d := hd8) rfl
  have F8 : Fun K "meaning_of" "meaning_of" scMeaning_st (He.fAd K ("meaning_of", none)) fd8 := Tp.fun_of G8
  have b8 := F8.binds (ps := ["tables"]) fun _ _ _ _ _ _ us hl => match us, hl with | [_], _ => rfl
  have k8 := F8.kp
  obtain ⟨fd9, G9⟩ := c.def_ 9 (d := hd9) rfl
  have F9 : Fun K "_law_cell" "_law_cell" scCell_st (He.fAd K ("_law_cell", none)) fd9 := Tp.fun_of G9
  have b9 := F9.binds (ps := ["_law_script", "_law_k"]) fun _ _ _ _ _ _ us hl => match us, hl with | [_, _], _ => rfl
  have k9 := F9.kp
  obtain ⟨fd10, G10⟩ := c.def_ 10 (d := hd10) rfl
  have F10 : Fun K "_law_box" "_law_box" scBox_st (He.fAd K ("_law_box", none)) fd10 := Tp.fun_of G10
  have b10 := F10.binds (ps := ["_law_cell_here"]) fun _ _ _ _ _ _ us hl => match us, hl with | [_], _ => rfl
  have k10 := F10.kp
  obtain ⟨fd11, G11⟩ := c.def_ 11 (d := hd11) rfl
  have F11 : Fun K "_law_take" "_law_take" scTake_st (He.fAd K ("_law_take", none)) fd11 := Tp.fun_of G11
  have b11 := F11.binds (ps := ["_law_box_here", "_law_many"]) fun _ _ _ _ _ _ us hl => match us, hl with | [_, _], _ => rfl
  have k11 := F11.kp
  obtain ⟨fd12, G12⟩ := c.def_ 12 (d := hd12) rfl
  have F12 : Fun K "_law_labels" "_law_labels" scLabels_st (He.fAd K ("_law_labels", none)) fd12 := Tp.fun_of G12
  have b12 := F12.binds (ps := ["_law_box_here", "_law_many"]) fun _ _ _ _ _ _ us hl => match us, hl with | [_, _], _ => rfl
  have k12 := F12.kp
  obtain ⟨fd13, G13⟩ := c.def_ 13 (d := hd13) rfl
  have F13 : Fun K "_law_looked" "_law_looked" scLooked_st (He.fAd K ("_law_looked", none)) fd13 := Tp.fun_of G13
  have b13 := F13.binds (ps := ["_law_table_here", "_law_items"]) fun _ _ _ _ _ _ us hl => match us, hl with | [_, _], _ => rfl
  have k13 := F13.kp
  obtain ⟨fd14, G14⟩ := c.def_ 14 (d := hd14) rfl
  have F14 : Fun K "_law_table" "_law_table" scTable_st (He.fAd K ("_law_table", none)) fd14 := Tp.fun_of G14
  have b14 := F14.binds (ps := ["_law_box_here"]) fun _ _ _ _ _ _ us hl => match us, hl with | [_], _ => rfl
  have k14 := F14.kp
  obtain ⟨fd15, G15⟩ := c.def_ 15 (d := hd15) rfl
  have F15 : Fun K "_law_tables_right" "_law_tables_right" scTabsR_st (He.fAd K ("_law_tables_right", none)) fd15 := Tp.fun_of G15
  have b15 := F15.binds (ps := ["_law_box_here"]) fun _ _ _ _ _ _ us hl => match us, hl with | [_], _ => rfl
  have k15 := F15.kp
  obtain ⟨fd16, G16⟩ := c.def_ 16 (d := hd16) rfl
  have F16 : Fun K "_law_told" "_law_told" scTold_st (He.fAd K ("_law_told", none)) fd16 := Tp.fun_of G16
  have b16 := F16.binds (ps := ["_law_tables"]) fun _ _ _ _ _ _ us hl => match us, hl with | [_], _ => rfl
  have k16 := F16.kp
  obtain ⟨fd17, G17⟩ := c.def_ 17 (d := hd17) rfl
  have F17 : Fun K "_law_refused" "_law_refused" scRefused_st (He.fAd K ("_law_refused", none)) fd17 := Tp.fun_of G17
  have b17 := F17.binds (ps := ["_law_box_here"]) fun _ _ _ _ _ _ us hl => match us, hl with | [_], _ => rfl
  have k17 := F17.kp
  obtain ⟨fd18, G18⟩ := c.def_ 18 (d := hd18) rfl
  have F18 : Fun K "_law_spoiled" "_law_spoiled" scSpoiled_st (He.fAd K ("_law_spoiled", none)) fd18 := Tp.fun_of G18
  have b18 := F18.binds (ps := ["_law_row"]) fun _ _ _ _ _ _ us hl => match us, hl with | [_], _ => rfl
  have k18 := F18.kp
  obtain ⟨fd19, G19⟩ := c.def_ 19 (d := hd19) rfl
  have F19 : Fun K "_law_kept" "_law_kept" scKept_st (He.fAd K ("_law_kept", none)) fd19 := Tp.fun_of G19
  have b19 := F19.binds (ps := ["_law_box_here"]) fun _ _ _ _ _ _ us hl => match us, hl with | [_], _ => rfl
  have k19 := F19.kp
  obtain ⟨fd20, G20⟩ := c.def_ 20 (d := hd20) rfl
  have F20 : Fun K "law" "law" scLaw_st (He.fAd K ("law", none)) fd20 := Tp.fun_of G20
  have b20 := F20.binds (ps := ["_law_script"]) fun _ _ _ _ _ _ us hl => match us, hl with | [_], _ => rfl
  have k20 := F20.kp
  have T : Txt K mg (adK K) ⟨fd0, fd1, fd2, fd3, fd4, fd5, fd6, fd7, fd8, fd9, fd10, fd11, fd12, fd13, fd14, fd15, fd16, fd17, fd18, fd19, fd20⟩ := ⟨F0, b0, F1, b1, F2, b2, F3, b3, g3, F4, b4, g4, F5, b5, g5, F6, b6, g6, F7, b7, g7, F8, b8, g8, F9, b9, g9, F10, b10, g10, F11, b11, g11, F12, b12, g12, F13, b13, g13, F14, b14, g14, F15, b15, g15, F16, b16, g16, F17, b17, g17, F18, b18, g18, F19, b19, g19, F20, b20, g20, m_LETTERS, m_DIGITS, m_LONGEST_NAME, m_MOST_ARGUMENTS, z_len, z_max, z_min, z_isinstance, z_str, z_int, z_all, z_range, z_repr, z_list, z_tuple, z_bool, z_dict, z_sorted, aCNetError, cxNetError, ⟨bgNetError, brNetError, bfNetError⟩, aCInvalidPart, cxInvalidPart, xiInvalidPart, aCInvalidName, cxInvalidName, xiInvalidName, aCInvalidRow, cxInvalidRow, xiInvalidRow, ccn, cct, xnd, (Tp.code_of (p := ("function_of", none)) G7)⟩
  have bl := FunD.bindsA (ps := ["_law_script"]) G20 fun _ _ _ _ _ _ us hl => match us, hl with | [_], _ => rfl
  exact ⟨fd20, fun s v => bl s [v] rfl, fun base _ _ hT => ok_law T (hT _ (List.mem_map.mpr ⟨("function_of", none), by simp [htf], rfl⟩))⟩
theorem hrun (w : World) : HandSHeadRun.RunEq HR hq hk hob 20000 hln w := fun os => Tp.run_joinT (hr_looks w os) (hr_seen w os) ⟨hr_e0 w os, trivial⟩ (hr_ok w os) (hr_v w os) (hr_t w os)
end L58
open PySem PySem.W PySem.Calls PyProof.Rows in
set_option maxRecDepth 100000 in
set_option maxHeartbeats 0 in
theorem PySem.Challenge.cw_toldpast_k58_meanings_of_tables_holds : PySem.Challenge.rw_toldpast_k58_meanings_of_tables.Holds := by
  w_on; o_law
  refine HandSHeadRun.head_any (r := OpenLaw.row PySem.Challenge.rw_toldpast_k58_meanings_of_tables) (q := L58.hq) (H := L58.hk) (ob := L58.hob) (M := 20000) (loose := L58.hln) (d := HandSHeadRun.topDef (OpenLaw.row PySem.Challenge.rw_toldpast_k58_meanings_of_tables).prog 29) (kwd := []) L58.hob_eq
    (by kernel_rfl) (fun s => by kernel_rfl) L58.hrun (by kernel_rfl) (by kernel_rfl) (by kernel_rfl) (by rfl) (by first | assumption | decide +kernel) (by decide +kernel) ⟨rfl, rfl, rfl, rfl, rfl, by decide +kernel⟩ ?hw ?hc
  case hw => w_witness2
  case hc =>
    refine Tp.walkST (l := PySem.Challenge.rw_toldpast_k58_meanings_of_tables) (n := 63) (k := 30) (x := "_law_script") (sp := fun K => L58.spLaw K (L58.adK K)) (tf := fun K => L58.htf.map (He.cT K)) rfl (by decide) (by kernel_rfl) (by decide +kernel) ⟨rfl, by decide, by decide⟩ ?F (fun K H a ns hl hs hT hS => ⟨a, ns, rfl, hs, hS, hl, L58.tabs_mk hT, fun _ => rfl⟩)
    intro w mg fa h Y G hmg0
    obtain ⟨K, KX, c⟩ := Y
    have hmg : mg ("law" : PySem.Str) = some (.ref fa) := by
      have e : (HandSHeadRun.topDef (OpenLaw.row PySem.Challenge.rw_toldpast_k58_meanings_of_tables).prog 29).name = ("law" : PySem.Str) := by kernel_rfl
      rw [← e]
      exact hmg0
    obtain ⟨fd, hb, hF⟩ := L58.all_mk (l := PySem.Challenge.rw_toldpast_k58_meanings_of_tables) (w := w) KX G hmg c.b
    have key : ∀ p ∈ L58.htf.map (He.cT K), ∃ q ∈ L58.htf, He.cT K q = p := fun p hp => List.mem_map.mp hp
    exact ⟨K, fd, KX, fun p hp => (key p hp).elim fun q e => e.2 ▸ c.empty q e.1, fun p hp => (key p hp).elim fun q e => e.2 ▸ c.out q e.1, fun p hp => (key p hp).elim fun q e => e.2 ▸ c.hd q e.1, hb, hF⟩
