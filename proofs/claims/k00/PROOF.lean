import PyProof.Rows.All
import Wide.All
import OpenK.AllK
import Wide.FinOn
import HandS.ForMost
import HandS.Wide
import HandS.Walk
import HandS.IsInst
import PyProof.ReprRoads
import HandS.Lambda
import HandS.Deep
import HandS.TupAny
import HandS.Style
import HandS.Conv
import HandS.TupMul
import HandS.SortInts
import HandS.Strs
import HandS.Dict
import HandS.Zip
import HandS.Iter
import KE.LtSeq
import HandS.ExcInit
import HandS.ExcSuper
import HandS.ExcField
import HandS.TryOnly
import HandS.Nested
import KE.KExcSuper
import KE.KSuper
import HandS.Star
import HandS.SetFor
import HandS.Small
import HandS.EndOwn
import KE.KDictSum
import KE.KNestM
import HandS.ExcIs
import KE.GoesEnum
import PyProof.Rows.SortShellAny
import HandS.ExcInitHot
import PySem.Challenge.RW_lookanyhow_k00_errors_and_what_they_keep
set_option autoImplicit false
set_option Elab.async false
set_option linter.all false
set_option maxRecDepth 100000
/-! LyA: defs that are called where nothing is being shown (no repr under way): GOk, its body's rule, calls. -/
namespace Ly
open PySem PySem.Spec PyProof.Rows L2

/-- a promise of a def, for calls around which no repr is under way -/
structure GOk (P : Program) (w : World) (K : PySem.W.Frag) (mg : Str → Option Value) (base : Heap) (CX : CXT) (k : Nat) (f : Addr) (fd : FuncData) (ps : List Str) (sp : Sp) : Prop where
  size : ∀ {vs : List V} {H : Hp} {Q : VK} {E : XK}, sp vs H Q E → vs.length = ps.length
  does : ∀ {A : Around} {outer : List Env} {s : Shared} {H : Hp} {args : Args} {us : List Value} {vs : List V} {Q : VK} {E : XK}, A.guards = some [] → Room k A →
    Env0 P w K mg base A outer s H → BindsTo s fd args (ps.zip us) → Vals vs us → sp vs H Q E → codeAny (model P w) A (.call (.ref f) args) (CR CX outer P w H s Q E) s

theorem deeper_guards {A : Around} {e : Env} (h : A.guards = some []) : (A.deeper e).guards = some [] := by
  first | exact h | simpa [Around.deeper] using h

section
variable {P : Program} {w : World} {K : PySem.W.Frag} {mg : Str → Option Value} {base : Heap} {CX : CXT} {k : Nat} {f : Addr} {fd : FuncData} {ps : List Str} {sp : Sp}
theorem GOk.up {j : Nat} (F : GOk P w K mg base CX j f fd ps sp) (h : j ≤ k) : GOk P w K mg base CX k f fd ps sp :=
  ⟨F.size, fun g r => F.does g (r.mono h)⟩
theorem GOk.of (F : FnOk P w K mg base CX k f fd ps sp) : GOk P w K mg base CX k f fd ps sp :=
  ⟨fun q => F.len _ _ _ _ q, fun _ r e0 b rv q => F.run _ _ _ _ _ _ _ _ _ r e0 b rv q⟩
theorem GOk.weaker {sp' : Sp} (F : GOk P w K mg base CX k f fd ps sp) (h : ∀ vs H Q E, sp' vs H Q E → sp vs H Q E) : GOk P w K mg base CX k f fd ps sp' :=
  ⟨fun q => F.size (h _ _ _ _ q), fun g r e0 b rv q => F.does g r e0 b rv (h _ _ _ _ q)⟩

/-- the rule for a def of the text: its body as a term of rules, its reading; around it no repr is under way -/
theorem gok_ofC {x qual : Str} {st : Stmt} {N : List Str} (F : Fun K x qual st f fd) (S : FnScope N ps (defScope st)) (len : ∀ {vs H Q E}, sp vs H Q E → vs.length = ps.length)
    (body : ∀ (cdv : Value) (A : Around) (outer : List Env) (s : Shared) (H : Hp) (vs : List V) (Q : VK) (E : XK), fd.code = cdv →
      (A.deeper (envOfC qual (defScope st) s.heap.objs.size f cdv)).guards = some [] → Room k (A.deeper (envOfC qual (defScope st) s.heap.objs.size f cdv)) → sp vs H Q E →
      ∃ t, PSs (cxOf CX P w K mg base N qual (defScope st) f cdv A outer s H E) (defBody st) t ∧ t { nx := fun _ H' => Q .non H', rt := Q } (start N vs) H) :
    GOk P w K mg base CX (k + 1) f fd ps sp := by
  obtain ⟨oc, od, kV, doc, pm, an, cdv, ct, osl, rfl, lk, hcd⟩ := F.ex
  constructor
  · exact len
  · intro A outer s H args us vs Q E hg hr e0 hb rv hq
    have n1 := len hq
    have kin : K.In s.heap := PySem.W.Frag.In.keeps e0.mod.kin fun b o e => And.left (e0.bs b o e)
    have nol : s.heap.NoLimit := Heap.NoLimit.keeps e0.mod.nolimit fun b o e => And.left (e0.bs b o e)
    have kinds : ∀ y ∈ ps.zip us, (defScope st).names.lookup y.1 = some .local ∨
        ((defScope st).names.lookup y.1 = some .cell ∧ ((cellsFrom (s.heap.objs.size + 1) (defScope st).names []).lookup y.1).isSome = true) := by
      rintro ⟨n, v⟩ hy
      have hn : n ∈ ps := (List.of_mem_zip hy).1
      cases S.par n hn with
      | inl q => exact Or.inl q
      | inr q => exact Or.inr ⟨q, PySem.W.cellsFrom_some _ _ _ (Or.inl q)⟩
    apply codeAny_call_function hr.depth (kin _ _ lk) rfl S.co S.gen rfl (PySem.W.codeRec_of kin hcd)
    apply hb
    apply wpAny_newFunctionEnv_cells S.kind kinds
    rintro env rfl s1 x
    refine ⟨Heap.NoLimit.keeps nol x.toInCall.keep, codeAny_func ?_⟩
    obtain ⟨t, ht, tq⟩ := body cdv A outer s H vs Q E rfl (deeper_guards hg) (hr.deeper _) hq
    have J := inv_start (CX := CX) (E := E) S hr.hd e0 n1 rv x
    apply wpAny_mono (ht.run [] s1 (start N vs) H _ J tq)
    · intro fl s' hs
      cases fl with
      | ret u =>
        obtain ⟨v, σ', H', J', r', q'⟩ := hs
        exact ⟨v, H', J'.os, J'.bare, J'.base, J'.hok, r', q'⟩
      | next =>
        obtain ⟨σ', H', J', q'⟩ := hs
        exact ⟨V.non, H', J'.os, J'.bare, J'.base, J'.hok, rfl, q'⟩
      | brk =>
        obtain ⟨_, _, _, q'⟩ := hs
        exact q'.elim
      | cont =>
        obtain ⟨_, _, _, q'⟩ := hs
        exact q'.elim
    · intro e s' hs
      exact hs
theorem gok_of {x qual : Str} {st : Stmt} {N : List Str} (F : Fun K x qual st f fd) (S : FnScope N ps (defScope st)) (len : ∀ {vs H Q E}, sp vs H Q E → vs.length = ps.length)
    (body : ∀ (cdv : Value) (A : Around) (outer : List Env) (s : Shared) (H : Hp) (vs : List V) (Q : VK) (E : XK),
      (A.deeper (envOfC qual (defScope st) s.heap.objs.size f cdv)).guards = some [] → Room k (A.deeper (envOfC qual (defScope st) s.heap.objs.size f cdv)) → sp vs H Q E →
      ∃ t, PSs (cxOf CX P w K mg base N qual (defScope st) f cdv A outer s H E) (defBody st) t ∧ t { nx := fun _ H' => Q .non H', rt := Q } (start N vs) H) :
    GOk P w K mg base CX (k + 1) f fd ps sp := gok_ofC F S len fun cdv A outer s H vs Q E _ => body cdv A outer s H vs Q E
end

/-! ### calls -/
section
variable {X : Cx} {CX : CXT} {k : Nat} {f : Addr} {fd : FuncData} {ps ks : List Str} {sp : Sp} {E : XK} {x : Str} {p pos : Pos} {e : Expr} {es : List Expr} {kws : List Keyword} {t tk : TA}
  {g : List Value → List Value → List Value} {gV : List V → List V → List V}
/-- the callee runs, arguments by place and by name -/
theorem run_g {pins : List (Addr × Obj)} {σ : L2.St} {H : Hp} {s : Shared} {Q : VK} {us ws : List Value} {vs zs : List V} (F : GOk X.prog X.w X.K X.mg X.base CX k f fd ps sp) (hA : X.A.guards = some []) (hr : Room k X.A)
    (hb : KBinds X.K fd ps ks g gV) (hx : Passes CX X E) (I : Inv X pins σ H s) (r : Vals vs us) (rz : Vals zs ws) (h : sp (gV vs zs) H Q E) :
    wpAny (model X.prog X.w) X.A (call (.ref f) us (ks.zip ws)) (EP X pins σ Q) X.xe s := by
  have rr := hb.rel r rz
  have n1 : (g us ws).length = ps.length := rr.length ▸ F.size h
  apply wpAny_call
  apply codeAny_mono (F.does hA hr I.env0 (hb.to s us ws I.kIn n1) rr h)
  intro o s' q
  rcases o with e | fl
  · exact hx pins σ H s e s' I q
  · cases fl with
    | ret u => exact Inv.after I q
    | next => exact q.elim
    | brk => exact q.elim
    | cont => exact q.elim
/-- f(e, ..) -/
theorem pe_g (F : GOk X.prog X.w X.K X.mg X.base CX k f fd ps sp) (hA : X.A.guards = some []) (hr : Room k X.A) (hg : Gl X x) (hm : X.mg x = some (.ref f)) (hk : PySem.W.keepIn X.K (.ref f) = true)
    (hb : KBinds X.K fd ps [] g gV) (hx : Passes CX X E) (ha : PA X (e :: es) t)
    (hdb : (x == ("__debug__" : Str)) = false := by decide) (he : starEach (e :: es) X.env = (false, eval e X.env) :: starEach es X.env := by rfl) (hpl : (backTo pos (starEach es X.env)).any (·.1) = false := by rfl) :
    PE X (.Call (.Name x p) (e :: es) [] pos) (tCallK sp gV E t tNil) := by
  constructor
  intro pins s σ H Q I h
  apply wpAny_Call_Name_kw
  refine ld_glob I hg hm ?_ hdb
  refine PySem.W.callWith_K (h₀ := X.base) I.ok.mod.kin hk ?_ he hpl
  refine thn (ha.run pos pins s σ H _ I h) ?_
  rintro us s1 ⟨vs, H1, I1, r, q⟩
  exact ⟨I1.kIn, run_g (ws := []) F hA hr hb hx I1 r .nil q⟩
/-- f() -/
theorem pe_g0 (F : GOk X.prog X.w X.K X.mg X.base CX k f fd ps sp) (hA : X.A.guards = some []) (hr : Room k X.A) (hg : Gl X x) (hm : X.mg x = some (.ref f)) (hk : PySem.W.keepIn X.K (.ref f) = true)
    (hb : KBinds X.K fd ps [] g gV) (hx : Passes CX X E) (hdb : (x == ("__debug__" : Str)) = false := by decide) :
    PE X (.Call (.Name x p) [] [] pos) (tCallK sp gV E tNil tNil) := by
  constructor
  intro pins s σ H Q I h
  apply wpAny_Call_Name_kw
  refine ld_glob I hg hm ?_ hdb
  exact PySem.W.callWith_K0 I.kIn hk (run_g (us := []) (ws := []) F hA hr hb hx I .nil .nil h)
/-- f(e, .., k = v, ..) -/
theorem pe_gk (F : GOk X.prog X.w X.K X.mg X.base CX k f fd ps sp) (hA : X.A.guards = some []) (hr : Room k X.A) (hg : Gl X x) (hm : X.mg x = some (.ref f)) (hk : PySem.W.keepIn X.K (.ref f) = true)
    (hb : KBinds X.K fd ps ks g gV) (hx : Passes CX X E) (ha : PA X (e :: es) t) (hw : PK X kws tk)
    (hall : (backToKw pos (keywordEach kws X.env)).all (·.1.isSome) = true := by rfl) (hks : (backToKw pos (keywordEach kws X.env)).filterMap (·.1) = ks := by rfl)
    (hdb : (x == ("__debug__" : Str)) = false := by decide) (he : starEach (e :: es) X.env = (false, eval e X.env) :: starEach es X.env := by rfl)
    (hpl : ((backTo pos (starEach (e :: es) X.env)).any (·.1) || (backToKw pos (keywordEach kws X.env)).any (·.1.isNone)) = false := by rfl) :
    PE X (.Call (.Name x p) (e :: es) kws pos) (tCallK sp gV E t tk) := by
  constructor
  intro pins s σ H Q I h
  apply wpAny_Call_Name_kw
  refine ld_glob I hg hm ?_ hdb
  refine PySem.W.callWith_KW (h₀ := X.base) I.ok.mod.kin hk hall ?_ hpl he
  refine thn (ha.run pos pins s σ H _ I h) ?_
  rintro us s1 ⟨vs, H1, I1, r, q⟩
  refine thn (hw.run pos pins s1 σ H1 _ I1 q) ?_
  rintro ws s2 ⟨zs, H2, I2, rz, q2⟩
  subst hks
  exact ⟨I2.kIn, run_g F hA hr hb hx I2 r rz q2⟩
/-- f(k = v, ..) -/
theorem pe_gk0 (F : GOk X.prog X.w X.K X.mg X.base CX k f fd ps sp) (hA : X.A.guards = some []) (hr : Room k X.A) (hg : Gl X x) (hm : X.mg x = some (.ref f)) (hk : PySem.W.keepIn X.K (.ref f) = true)
    (hb : KBinds X.K fd ps ks g gV) (hx : Passes CX X E) (hw : PK X kws tk)
    (hall : (backToKw pos (keywordEach kws X.env)).all (·.1.isSome) = true := by rfl) (hks : (backToKw pos (keywordEach kws X.env)).filterMap (·.1) = ks := by rfl)
    (hdb : (x == ("__debug__" : Str)) = false := by decide)
    (hpl : ((backTo pos (starEach [] X.env)).any (·.1) || (backToKw pos (keywordEach kws X.env)).any (·.1.isNone)) = false := by rfl) :
    PE X (.Call (.Name x p) [] kws pos) (tCallK sp gV E tNil tk) := by
  constructor
  intro pins s σ H Q I h
  apply wpAny_Call_Name_kw
  refine ld_glob I hg hm ?_ hdb
  refine PySem.W.callWith_KW0 (h₀ := X.base) I.ok.mod.kin hk hall ?_ hpl
  refine thn (hw.run pos pins s σ H _ I h) ?_
  rintro ws s2 ⟨zs, H2, I2, rz, q2⟩
  subst hks
  exact ⟨I2.kIn, run_g (us := []) F hA hr hb hx I2 .nil rz q2⟩
end

/-! ### how arguments bind -/
section
variable {K : PySem.W.Frag} {x qual : Str} {st : Stmt} {f : Addr} {fd : FuncData} {ps : List Str}
/-- by place alone -/
theorem binds_pos (F : Fun K x qual st f fd) (h : ∀ (kV doc pm : Value) (an : Option Addr) (cdv ct : Value) (us : List Value), us.length = ps.length →
      bindArgs (PySem.W.fnOf x qual (defArgs st) (defBody st) (defScope st) .none kV doc pm an cdv ct) ⟨us, []⟩ = pure (ps.zip us)) : KBinds K fd ps [] (fun us _ => us) (fun vs _ => vs) := by
  obtain ⟨oc, od, kV, doc, pm, an, cdv, ct, osl, rfl, lk, hcd⟩ := F.ex
  exact ⟨fun s us ws _ n => .of_eq (by simpa using h kV doc pm an cdv ct us n), fun r _ => r⟩
/-- n by place, the rest by names; g puts them in the parameters' order -/
theorem binds_kw (F : Fun K x qual st f fd) (ks : List Str) (g : {α : Type} → List α → List α → List α) (hrel : ∀ {vs zs : List V} {us ws : List Value}, Vals vs us → Vals zs ws → Vals (g vs zs) (g us ws))
    (h : ∀ (kV doc pm : Value) (an : Option Addr) (cdv ct : Value) (us ws : List Value), (g us ws).length = ps.length →
      bindArgs (PySem.W.fnOf x qual (defArgs st) (defBody st) (defScope st) .none kV doc pm an cdv ct) ⟨us, ks.zip ws⟩ = pure (ps.zip (g us ws))) : KBinds K fd ps ks (fun us ws => g us ws) (fun vs zs => g vs zs) := by
  obtain ⟨oc, od, kV, doc, pm, an, cdv, ct, osl, rfl, lk, hcd⟩ := F.ex
  exact ⟨fun s us ws _ n => .of_eq (h kV doc pm an cdv ct us ws n), hrel⟩
end
end Ly

/-! LyB: data of any depth in the heap, frames of data (Sl, Fm), what a reading gives as data (VE, VT, VA, VL, VV, VI, VG, VS). -/
namespace Ly
open PySem PySem.Spec PyProof.Rows L2

abbrev D := PyData
/-- a key as data -/
def kD : Key → D
  | .inl i => .int i
  | .inr x => .str x

mutual
/-- a value stands for data in the heap: lists are tracked (or known to the object), tuples may be of the written part too -/
inductive Dq (K : PySem.W.Frag) (H : Hp) : V → D → Prop where
  | non : Dq K H .non .none
  | bl (b : Bool) : Dq K H (.bl b) (.bool b)
  | int (i : Int) : Dq K H (.int i) (.int i)
  | str (x : Str) : Dq K H (.str x) (.str x)
  | lst {a : Addr} {xs : List V} {ds : List D} (h : Rd H a (.lst xs)) (k : DqAll K H xs ds) : Dq K H (.ref a) (.list ds)
  | tup {a : Addr} {xs : List V} {ds : List D} (h : SqT K H a xs) (k : DqAll K H xs ds) : Dq K H (.ref a) (.tuple ds)
  | dct {a : Addr} {ws : List (Key × V)} {kvs : List (Key × D)} (h : Rd H a (.dK ws)) (e : ws.map Prod.fst = kvs.map Prod.fst) (k : DqAll K H (ws.map Prod.snd) (kvs.map Prod.snd)) : Dq K H (.ref a) (.dict (kvs.map fun p => (kD p.1, p.2)))
inductive DqAll (K : PySem.W.Frag) (H : Hp) : List V → List D → Prop where
  | nil : DqAll K H [] []
  | cons {v : V} {vs : List V} {d : D} {ds : List D} (h : Dq K H v d) (k : DqAll K H vs ds) : DqAll K H (v :: vs) (d :: ds)
end
mutual
theorem Dq.dpN {K : PySem.W.Frag} {H : Hp} : ∀ {v : V} {d : D}, Dq K H v d → d.hasDict = false → Dp K H v d
  | _, _, .non, _ => .non
  | _, _, .bl b, _ => .bl b
  | _, _, .int i, _ => .int i
  | _, _, .str x, _ => .str x
  | _, _, .lst h k, n => .lst (Or.inl h) (DqAll.dpN k (by simpa [PyData.hasDict] using n))
  | _, _, .tup h k, n => .tup h (DqAll.dpN k (by simpa [PyData.hasDict] using n))
  | _, _, .dct _ _ _, n => by simp [PyData.hasDict] at n
theorem DqAll.dpN {K : PySem.W.Frag} {H : Hp} : ∀ {vs : List V} {ds : List D}, DqAll K H vs ds → PyData.hasDictAll ds = false → DpAll K H vs ds
  | _, _, .nil, _ => .nil
  | _, _, .cons h k, n => by
    simp only [PyData.hasDictAll, Bool.or_eq_false_iff] at n
    exact .cons (Dq.dpN h n.1) (DqAll.dpN k n.2)
end
theorem Dq.dp {K : PySem.W.Frag} {H : Hp} {v : V} {d : D} (h : Dq K H v d) (s : SeqAt.shaped d = true) : Dp K H v d := h.dpN (PyData.hasDict_of_canLay d (SeqAt.canLay_of_shaped s))

/-! ### data stays where the heap grows -/
theorem same_rd {H H' : Hp} {a : Addr} {u : HO} (e : Same H H') (h : Rd H a u) : Rd H' a u := by
  cases h with
  | inl h => exact Or.inl (e _ _ h)
  | inr h =>
    obtain ⟨o, h⟩ := h
    exact Or.inr ⟨o, e _ _ h⟩
theorem same_t {K : PySem.W.Frag} {H H' : Hp} {a : Addr} {xs : List V} (e : Same H H') (h : SqT K H a xs) : SqT K H' a xs := by
  cases h with
  | inl h => exact Or.inl (same_rd e h)
  | inr h => exact Or.inr h
theorem same_l {K : PySem.W.Frag} {H H' : Hp} {a : Addr} {xs : List V} (e : Same H H') (h : SqL K H a xs) : SqL K H' a xs := by
  cases h with
  | inl h => exact Or.inl (same_rd e h)
  | inr h => exact Or.inr h
mutual
theorem dp_mono {K : PySem.W.Frag} {H H' : Hp} (e : Same H H') : ∀ {v : V} {d : D}, Dq K H v d → Dq K H' v d
  | _, _, .non => .non
  | _, _, .bl b => .bl b
  | _, _, .int i => .int i
  | _, _, .str x => .str x
  | _, _, .lst h1 h2 => .lst (same_rd e h1) (dpall_mono e h2)
  | _, _, .tup h1 h2 => .tup (same_t e h1) (dpall_mono e h2)
  | _, _, .dct h1 e1 h2 => .dct (same_rd e h1) e1 (dpall_mono e h2)
theorem dpall_mono {K : PySem.W.Frag} {H H' : Hp} (e : Same H H') : ∀ {vs : List V} {ds : List D}, DqAll K H vs ds → DqAll K H' vs ds
  | _, _, .nil => .nil
  | _, _, .cons h1 h2 => .cons (dp_mono e h1) (dpall_mono e h2)
end
section
variable {K : PySem.W.Frag} {H : Hp}
theorem dpall_len : ∀ {vs : List V} {ds : List D}, DqAll K H vs ds → vs.length = ds.length
  | _, _, .nil => rfl
  | _, _, .cons _ h => congrArg (· + 1) (dpall_len h)
theorem dpall_get : ∀ {vs : List V} {ds : List D} {i : Nat} {d : D}, DqAll K H vs ds → ds[i]? = some d → ∃ v, vs[i]? = some v ∧ Dq K H v d
  | _, _, _, _, .nil, e => by simp at e
  | _, _, 0, _, .cons h _, e => by
    simp at e
    subst e
    exact ⟨_, rfl, h⟩
  | _, _, i + 1, _, .cons _ h, e => by
    obtain ⟨v, e1, e2⟩ := dpall_get (i := i) h (by simpa using e)
    exact ⟨v, by simpa using e1, e2⟩
theorem dpall_getV : ∀ {vs : List V} {ds : List D} {i : Nat} {v : V}, DqAll K H vs ds → vs[i]? = some v → ∃ d, ds[i]? = some d ∧ Dq K H v d
  | _, _, _, _, .nil, e => by simp at e
  | _, _, 0, _, .cons h _, e => by
    simp at e
    subst e
    exact ⟨_, rfl, h⟩
  | _, _, i + 1, _, .cons _ h, e => by
    obtain ⟨d, e1, e2⟩ := dpall_getV (i := i) h (by simpa using e)
    exact ⟨d, by simpa using e1, e2⟩
theorem dpall_app : ∀ {vs us : List V} {ds es : List D}, DqAll K H vs ds → DqAll K H us es → DqAll K H (vs ++ us) (ds ++ es)
  | _, _, _, _, .nil, h => h
  | _, _, _, _, .cons h1 h2, h => .cons h1 (dpall_app h2 h)
theorem dpall_take : ∀ {vs : List V} {ds : List D} (n : Nat), DqAll K H vs ds → DqAll K H (vs.take n) (ds.take n)
  | _, _, 0, _ => .nil
  | _, _, _ + 1, .nil => .nil
  | _, _, n + 1, .cons h1 h2 => .cons h1 (dpall_take n h2)
theorem dpall_drop : ∀ {vs : List V} {ds : List D} (n : Nat), DqAll K H vs ds → DqAll K H (vs.drop n) (ds.drop n)
  | _, _, 0, h => h
  | _, _, _ + 1, .nil => .nil
  | _, _, n + 1, .cons _ h2 => dpall_drop n h2
theorem dpall_rev : ∀ {vs : List V} {ds : List D}, DqAll K H vs ds → DqAll K H vs.reverse ds.reverse
  | _, _, .nil => .nil
  | _, _, .cons h1 h2 => by
    rw [List.reverse_cons, List.reverse_cons]
    exact dpall_app (dpall_rev h2) (.cons h1 .nil)
theorem dpall_set {v : V} {d : D} (h : Dq K H v d) : ∀ {vs : List V} {ds : List D} (i : Nat), DqAll K H vs ds → DqAll K H (vs.set i v) (ds.set i d)
  | _, _, _, .nil => .nil
  | _, _, 0, .cons _ h2 => .cons h h2
  | _, _, i + 1, .cons h1 h2 => .cons h1 (dpall_set h i h2)
theorem dpall_one {v : V} {d : D} (h : Dq K H v d) : DqAll K H [v] [d] := .cons h .nil
theorem dpall_map {α : Type} (f : α → V) (g : α → D) (h : ∀ x, Dq K H (f x) (g x)) : ∀ xs : List α, DqAll K H (xs.map f) (xs.map g)
  | [] => .nil
  | x :: xs => .cons (h x) (dpall_map f g h xs)
theorem dp_int {v : V} {i : Int} (h : Dq K H v (.int i)) : v = .int i := by cases h; rfl
theorem dp_bl {v : V} {b : Bool} (h : Dq K H v (.bool b)) : v = .bl b := by cases h; rfl
theorem dp_str {v : V} {x : Str} (h : Dq K H v (.str x)) : v = .str x := by cases h; rfl
theorem dp_non {v : V} (h : Dq K H v .none) : v = .non := by cases h; rfl
theorem dp_lst {v : V} {ds : List D} (h : Dq K H v (.list ds)) : ∃ a xs, v = .ref a ∧ SqL K H a xs ∧ DqAll K H xs ds := by
  cases h with
  | lst h1 h2 => exact ⟨_, _, rfl, Or.inl h1, h2⟩
theorem dp_lstR {v : V} {ds : List D} (h : Dq K H v (.list ds)) : ∃ a xs, v = .ref a ∧ Rd H a (.lst xs) ∧ DqAll K H xs ds := by
  cases h with
  | lst h1 h2 => exact ⟨_, _, rfl, h1, h2⟩
theorem dp_tup {v : V} {ds : List D} (h : Dq K H v (.tuple ds)) : ∃ a xs, v = .ref a ∧ SqT K H a xs ∧ DqAll K H xs ds := by
  cases h with
  | tup h1 h2 => exact ⟨_, _, rfl, h1, h2⟩
theorem dpall_ints : ∀ {vs : List V} {ns : List Int}, DqAll K H vs (ns.map PyData.int) → vs = ns.map V.int
  | _, [], .nil => rfl
  | _, n :: ns, .cons h1 h2 => by
    rw [dp_int h1, dpall_ints h2]
    rfl
theorem dpall_strs : ∀ {vs : List V} {ns : List Str}, DqAll K H vs (ns.map PyData.str) → vs = ns.map V.str
  | _, [], .nil => rfl
  | _, n :: ns, .cons h1 h2 => by
    rw [dp_str h1, dpall_strs h2]
    rfl
theorem dpall_bls : ∀ {vs : List V} {ns : List Bool}, DqAll K H vs (ns.map PyData.bool) → vs = ns.map V.bl
  | _, [], .nil => rfl
  | _, n :: ns, .cons h1 h2 => by
    rw [dp_bl h1, dpall_bls h2]
    rfl
end

/-! ### the source of draws: a list of a list of ints and an int -/
def DealAt (H : Hp) (p q : Addr) : Prop := p ≠ q ∧ ∃ (ns : List Int) (b : Int), H p = some (.lst [.ref q, .int b]) ∧ H q = some (.lst (ns.map V.int)) ∧ ns.length ≤ 64 ∧ 0 ≤ b ∧ b < 2147483648
def Md (dl : Option (Addr × Addr)) (a : Addr) : Prop := ∃ p q, dl = some (p, q) ∧ (a = p ∨ a = q)

/-- the name of a law's own lambdas -/
def qLam : Str := "law.<locals>.<lambda>"
/-- from one moment to a later one: B is what stands for good, H all; what is not of the source stays -/
structure Stp (dl : Option (Addr × Addr)) (B H B' H' : Hp) : Prop where
  ext : Same B B'
  sub : Same B' H'
  keepN : ∀ a o, H a = some o → ¬ Md dl a → (∀ ps, o ≠ .tbl ps) → H' a = some o
  out : ∀ a, H a ≠ none → B a = none → B' a = none
  deal : ∀ p q, dl = some (p, q) → DealAt H p q → DealAt H' p q
  stay : ∀ a, H a ≠ none → H' a ≠ none
  tab : ∀ P, LamX.TabS H P qLam → LamX.TabS H' P qLam
  bt : (∀ a ps, B a ≠ some (.tbl ps)) → ∀ a ps, B' a ≠ some (.tbl ps)
theorem Stp.keep {dl : Option (Addr × Addr)} {B H B' H' : Hp} (s : Stp dl B H B' H') (a : Addr) (o : HO) (e : H a = some o) (m : ¬ Md dl a) (n : ∀ ps, o ≠ .tbl ps := by intro ps h; cases h) : H' a = some o := s.keepN a o e m n
/-- neither a table nor a code object -/
def NoTab (o : HO) : Prop := (∀ ps, o ≠ .tbl ps) ∧ ∀ c q, o ≠ LamX.CodeO c q
theorem notab_lst (xs : List V) : NoTab (.lst xs) := ⟨fun ps h => (by cases h), fun c q h => (by unfold LamX.CodeO at h; cases h)⟩
theorem notab_dk (xs) : NoTab (.dK xs) := ⟨fun ps h => (by cases h), fun c q h => (by unfold LamX.CodeO at h; cases h)⟩
theorem np_none {H : Hp} {p : Addr} (h : H p = none) : ∀ o', H p = some o' → NoTab o' := fun o' e => by rw [h] at e; cases e
theorem np_lst {H : Hp} {p : Addr} {xs : List V} (h : H p = some (.lst xs)) : ∀ o', H p = some o' → NoTab o' := fun o' e => by rw [h] at e; cases e; exact notab_lst _
theorem np_dk {H : Hp} {p : Addr} {xs} (h : H p = some (.dK xs)) : ∀ o', H p = some o' → NoTab o' := fun o' e => by rw [h] at e; cases e; exact notab_dk _
theorem bt_upd {B : Hp} {p : Addr} {o : HO} (nt : ∀ ps, o ≠ .tbl ps) (h : ∀ a ps, B a ≠ some (.tbl ps)) : ∀ a ps, upd B p o a ≠ some (.tbl ps) := fun a ps e => by
  by_cases ha : a = p
  · rw [ha, upd_same] at e
    exact nt ps (Option.some.inj e)
  · rw [upd_ne ha] at e
    exact h a ps e
theorem tabs_upd {P : Addr} {q : Str} {H : Hp} {p : Addr} {o : HO} (t : LamX.TabS H P q) (n : ∀ o', H p = some o' → NoTab o') : LamX.TabS (upd H p o) P q := by
  obtain ⟨ps, h1, h2, h3⟩ := t
  have np : P ≠ p := fun z => (n _ (by rw [← z]; exact h1)).1 ps rfl
  refine ⟨ps, by rw [upd_ne np]; exact h1, h2, fun pos cv hc => ?_⟩
  obtain ⟨c, e1, e2⟩ := h3 pos cv hc
  have nc : c ≠ p := fun z => (n _ (by rw [← z]; exact e2)).2 _ _ rfl
  exact ⟨c, e1, by rw [upd_ne nc]; exact e2⟩
theorem stay_upd {H H' : Hp} {p : Addr} {o : HO} (h : ∀ a, H a ≠ none → H' a ≠ none) : ∀ a, H a ≠ none → upd H' p o a ≠ none := fun a n => by
  by_cases ha : a = p
  · rw [ha, upd_same]
    simp
  · rw [upd_ne ha]
    exact h a n

section
variable {dl : Option (Addr × Addr)} {B H B' H' B2 H2 : Hp} {p : Addr} {o : HO}
theorem Stp.refl (s : Same B H) : Stp dl B H B H := ⟨Same.refl B, s, fun _ _ h _ _ => h, fun _ _ h => h, fun _ _ _ h => h, fun _ h => h, fun _ h => h, fun h => h⟩
theorem DealAt.there {q : Addr} (h : DealAt H p q) {a : Addr} (ha : a = p ∨ a = q) : H a ≠ none := by
  obtain ⟨_, ns, b, h1, h2, _⟩ := h
  rcases ha with rfl | rfl
  · rw [h1]
    simp
  · rw [h2]
    simp
/-- what stood still stands, changed or not -/
theorem Stp.there (s : Stp dl B H B' H') (hd : ∀ p q, dl = some (p, q) → DealAt H p q) {a : Addr} (h : H a ≠ none) : H' a ≠ none := by
  exact s.stay a h
theorem Stp.trans (hd : ∀ p q, dl = some (p, q) → DealAt H p q) (s : Stp dl B H B' H') (t : Stp dl B' H' B2 H2) : Stp dl B H B2 H2 :=
  ⟨s.ext.trans t.ext, t.sub, fun a o h m n => t.keepN a o (s.keepN a o h m n) m n, fun a h n => t.out a (s.there hd h) (s.out a h n), fun p q e h => t.deal p q e (s.deal p q e h), fun a h => t.stay a (s.stay a h), fun T h => t.tab T (s.tab T h), fun h => t.bt (s.bt h)⟩
/-- nothing of the source was touched -/
theorem Stp.any (s : Stp none B H B' H') : Stp dl B H B' H' :=
  have k : ∀ a o, H a = some o → (∀ ps, o ≠ .tbl ps) → H' a = some o := fun a o h n => s.keepN a o h (fun ⟨_, _, e, _⟩ => nomatch e) n
  ⟨s.ext, s.sub, fun a o h _ n => k a o h n, s.out, fun p q _ h => by
    obtain ⟨ne, ns, b, h1, h2, r⟩ := h
    exact ⟨ne, ns, b, k _ _ h1 (fun ps h => by cases h), k _ _ h2 (fun ps h => by cases h), r⟩, s.stay, s.tab, s.bt⟩
/-- a new object, for good -/
theorem Stp.new (s : Same B H) (h : H p = none) (nt : ∀ ps, o ≠ .tbl ps := by intro ps h; cases h) : Stp dl B H (upd B p o) (upd H p o) := by
  have hB : B p = none := s.free h
  have k : ∀ a u, H a = some u → upd H p o a = some u := fun a u e => by
    rw [upd_ne (ne_of_none e h)]
    exact e
  refine ⟨fun a u e => ?_, fun a u e => ?_, fun a u e _ _ => k a u e, fun a n e => ?_, fun p q _ d => ?_, stay_upd fun _ n => n, fun T t => tabs_upd t fun o' e => (by rw [h] at e; cases e), bt_upd nt⟩
  · rw [upd_ne (ne_of_none e hB)]
    exact e
  · by_cases ha : a = p
    · subst ha
      rw [upd_same] at e ⊢
      exact e
    · rw [upd_ne ha] at e ⊢
      exact s a u e
  · have ha : a ≠ p := fun z => n (z ▸ h)
    rw [upd_ne ha]
    exact e
  · obtain ⟨ne, ns, b, h1, h2, r⟩ := d
    exact ⟨ne, ns, b, k _ _ h1, k _ _ h2, r⟩
/-- a new object that may still change -/
theorem Stp.newM (s : Same B H) (h : H p = none) : Stp dl B H B (upd H p o) := by
  have k : ∀ a u, H a = some u → upd H p o a = some u := fun a u e => by
    rw [upd_ne (ne_of_none e h)]
    exact e
  refine ⟨Same.refl B, fun a u e => k a u (s a u e), fun a u e _ _ => k a u e, fun a _ e => e, fun p q _ d => ?_, stay_upd fun _ n => n, fun T t => tabs_upd t fun o' e => (by rw [h] at e; cases e), fun h => h⟩
  obtain ⟨ne, ns, b, h1, h2, r⟩ := d
  exact ⟨ne, ns, b, k _ _ h1, k _ _ h2, r⟩
/-- an object that was new behind H stands for good from now on -/
theorem Stp.fix (s : Stp dl B H B' H') (h : H p = none) (hp : H' p = some o) (hB : B' p = none) (nt : ∀ ps, o ≠ .tbl ps := by intro ps h; cases h) : Stp dl B H (upd B' p o) H' := by
  refine ⟨fun a u e => ?_, fun a u e => ?_, s.keepN, fun a n e => ?_, s.deal, s.stay, s.tab, fun h => bt_upd nt (s.bt h)⟩
  · have e' := s.ext a u e
    rw [upd_ne (ne_of_none e' hB)]
    exact e'
  · by_cases ha : a = p
    · subst ha
      rw [upd_same] at e
      rw [hp]
      exact e
    · rw [upd_ne ha] at e
      exact s.sub a u e
  · have ha : a ≠ p := fun z => n (z ▸ h)
    rw [upd_ne ha]
    exact s.out a n e
end

/-! ### slots -/
/-- what a name holds: nothing told | data | a list of one's own, which may still change | the source of draws | a list that is read alone | a dict of one's own -/
inductive Sl where
  | no | dat (d : D) | own (ds : List D) | deal | rd (vs : List V) | odk (kvs : List (Key × D)) | exr (a : Addr)

structure Cn where
  K : PySem.W.Frag
  B : Hp
  H : Hp
  dl : Option (Addr × Addr)

def SlOk (C : Cn) (B H : Hp) (o : Option (Option V)) : Sl → Prop
  | .no => True
  | .dat d => ∃ v, o = some (some v) ∧ Dq C.K B v d
  | .own ds => ∃ p vs, o = some (some (.ref p)) ∧ C.H p = none ∧ B p = none ∧ H p = some (.lst vs) ∧ DqAll C.K B vs ds
  | .deal => ∃ p q, C.dl = some (p, q) ∧ o = some (some (.ref p))
  | .rd vs => ∃ a, o = some (some (.ref a)) ∧ SqL C.K B a vs
  | .exr a => o = some (some (.ref a))
  | .odk kvs => ∃ p ws, o = some (some (.ref p)) ∧ C.H p = none ∧ B p = none ∧ H p = some (.dK ws) ∧ ws.map Prod.fst = kvs.map Prod.fst ∧ DqAll C.K B (ws.map Prod.snd) (kvs.map Prod.snd)

structure Fm (C : Cn) (B H : Hp) (σ : L2.St) (Γ : List Sl) : Prop where
  st : Stp C.dl C.B C.H B H
  dl : ∀ p q, C.dl = some (p, q) → DealAt C.H p q ∧ C.B p = none ∧ C.B q = none
  len : σ.length = Γ.length
  slot : ∀ (i : Nat) (s : Sl), Γ[i]? = some s → SlOk C B H (σ[i]?) s
  inj : ∀ (i j : Nat) (p : Addr) (ds es : List D), Γ[i]? = some (.own ds) → Γ[j]? = some (.own es) → σ[i]? = some (some (.ref p)) → σ[j]? = some (some (.ref p)) → i = j

section
variable {C : Cn} {B H B' H' : Hp} {σ σ' : L2.St} {Γ Γ' : List Sl} {p q : Addr} {i j : Nat} {d : D} {ds es : List D} {v : V}
theorem Fm.sub (F : Fm C B H σ Γ) : Same B H := F.st.sub
theorem Fm.dlNow (F : Fm C B H σ Γ) : ∀ p q, C.dl = some (p, q) → DealAt H p q := fun p q e => F.st.deal p q e (F.dl p q e).1
theorem Fm.dlOut (F : Fm C B H σ Γ) (e : C.dl = some (p, q)) : B p = none ∧ B q = none := by
  obtain ⟨h1, h2, h3⟩ := F.dl p q e
  exact ⟨F.st.out p (h1.there (Or.inl rfl)) h2, F.st.out q (h1.there (Or.inr rfl)) h3⟩
theorem Fm.newC (F : Fm C B H σ Γ) {a : Addr} (h : H a = none) : C.H a = none := by
  cases e : C.H a with
  | none => rfl
  | some o => exact absurd h (F.st.there (fun p q e => (F.dl p q e).1) (by rw [e]; simp))
theorem Fm.notMd (F : Fm C B H σ Γ) {a : Addr} (h : C.H a = none) : ¬ Md C.dl a := by
  rintro ⟨p, q, e, m⟩
  exact (F.dl p q e).1.there m h
theorem Fm.step (F : Fm C B H σ Γ) (s : Stp C.dl B H B' H') : Fm C B' H' σ Γ := by
  refine ⟨F.st.trans (fun p q e => (F.dl p q e).1) s, F.dl, F.len, fun i sl h => ?_, F.inj⟩
  have k := F.slot i sl h
  cases sl with
  | no => trivial
  | dat d =>
    obtain ⟨v, e, h1⟩ := k
    exact ⟨v, e, dp_mono s.ext h1⟩
  | own ds =>
    obtain ⟨p, vs, e, h1, h2, h3, h4⟩ := k
    exact ⟨p, vs, e, h1, s.out p (by rw [h3]; simp) h2, s.keep p _ h3 (F.notMd h1), dpall_mono s.ext h4⟩
  | deal => exact k
  | rd vs =>
    obtain ⟨a, e, h⟩ := k
    exact ⟨a, e, same_l s.ext h⟩
  | exr a => exact k
  | odk kvs =>
    obtain ⟨p, ws, e, h1, h2, h3, h4, h5⟩ := k
    exact ⟨p, ws, e, h1, s.out p (by rw [h3]; simp) h2, s.keep p _ h3 (F.notMd h1), h4, dpall_mono s.ext h5⟩
theorem Fm.has (F : Fm C B H σ Γ) (h : Γ[i]? = some (.dat d)) : ∃ v, σ[i]? = some (some v) ∧ Dq C.K B v d := F.slot i _ h
theorem Fm.hasOwn (F : Fm C B H σ Γ) (h : Γ[i]? = some (.own ds)) : ∃ p vs, σ[i]? = some (some (.ref p)) ∧ C.H p = none ∧ B p = none ∧ H p = some (.lst vs) ∧ DqAll C.K B vs ds := F.slot i _ h
theorem Fm.noOwn (F : Fm C B H σ Γ) (hp : H p = none) (h : Γ[i]? = some (.own ds)) : σ[i]? ≠ some (some (.ref p)) := fun e => by
  obtain ⟨p', vs, e', _, _, h3, _⟩ := F.hasOwn h
  rw [e] at e'
  injection e' with e'
  injection e' with e'
  injection e' with e'
  subst e'
  rw [hp] at h3
  cases h3
theorem Fm.hasDk {kvs : List (Key × D)} (F : Fm C B H σ Γ) (h : Γ[i]? = some (.odk kvs)) : ∃ p ws, σ[i]? = some (some (.ref p)) ∧ C.H p = none ∧ B p = none ∧ H p = some (.dK ws) ∧ ws.map Prod.fst = kvs.map Prod.fst ∧ DqAll C.K B (ws.map Prod.snd) (kvs.map Prod.snd) := F.slot i _ h
theorem Fm.noDk {kvs : List (Key × D)} (F : Fm C B H σ Γ) (hp : ∀ ws, H p ≠ some (.dK ws)) (h : Γ[i]? = some (.odk kvs)) : σ[i]? ≠ some (some (.ref p)) := fun e => by
  obtain ⟨p', vs, e', _, _, h3, _⟩ := F.hasDk h
  rw [e] at e'
  injection e' with e'
  injection e' with e'
  injection e' with e'
  subst e'
  exact hp _ h3
/-- a name gets data -/
theorem Fm.set (F : Fm C B H σ Γ) (h : Dq C.K B v d) : Fm C B H (σ.set i (some v)) (Γ.set i (.dat d)) := by
  refine ⟨F.st, F.dl, by rw [List.length_set, List.length_set]; exact F.len, fun j sl e => ?_, fun a b p ds es h1 h2 h3 h4 => ?_⟩
  · by_cases hj : i = j
    · subst hj
      have hl : i < Γ.length := by
        have := (List.getElem?_eq_some_iff.mp e).1
        rw [List.length_set] at this
        exact this
      rw [List.getElem?_set_self hl] at e
      cases e
      exact ⟨v, List.getElem?_set_self (by rw [F.len]; exact hl), h⟩
    · rw [List.getElem?_set_ne hj] at e
      rw [List.getElem?_set_ne hj]
      exact F.slot j sl e
  · have na : i ≠ a := fun z => by
      subst z
      have hl : i < Γ.length := by
        have := (List.getElem?_eq_some_iff.mp h1).1
        rw [List.length_set] at this
        exact this
      rw [List.getElem?_set_self hl] at h1
      cases h1
    have nb : i ≠ b := fun z => by
      subst z
      have hl : i < Γ.length := by
        have := (List.getElem?_eq_some_iff.mp h2).1
        rw [List.length_set] at this
        exact this
      rw [List.getElem?_set_self hl] at h2
      cases h2
    rw [List.getElem?_set_ne na] at h1 h3
    rw [List.getElem?_set_ne nb] at h2 h4
    exact F.inj a b p ds es h1 h2 h3 h4
/-- nothing is told of a name any longer -/
theorem Fm.drop (F : Fm C B H σ Γ) (o : Option V) : Fm C B H (σ.set i o) (Γ.set i .no) := by
  refine ⟨F.st, F.dl, by rw [List.length_set, List.length_set]; exact F.len, fun j sl e => ?_, fun a b p ds es h1 h2 h3 h4 => ?_⟩
  · by_cases hj : i = j
    · subst hj
      have hl : i < Γ.length := by
        have := (List.getElem?_eq_some_iff.mp e).1
        rw [List.length_set] at this
        exact this
      rw [List.getElem?_set_self hl] at e
      cases e
      trivial
    · rw [List.getElem?_set_ne hj] at e
      rw [List.getElem?_set_ne hj]
      exact F.slot j sl e
  · have na : i ≠ a := fun z => by
      subst z
      have hl : i < Γ.length := by
        have := (List.getElem?_eq_some_iff.mp h1).1
        rw [List.length_set] at this
        exact this
      rw [List.getElem?_set_self hl] at h1
      cases h1
    have nb : i ≠ b := fun z => by
      subst z
      have hl : i < Γ.length := by
        have := (List.getElem?_eq_some_iff.mp h2).1
        rw [List.length_set] at this
        exact this
      rw [List.getElem?_set_self hl] at h2
      cases h2
    rw [List.getElem?_set_ne na] at h1 h3
    rw [List.getElem?_set_ne nb] at h2 h4
    exact F.inj a b p ds es h1 h2 h3 h4
/-- a name gets a new list of its own -/
theorem Fm.setOwn {vs : List V} (F : Fm C B H σ Γ) (hC : C.H p = none) (hB : B p = none) (hp : H p = some (.lst vs)) (hd : DqAll C.K B vs ds) (hn : ∀ (j : Nat) es, j ≠ i → Γ[j]? = some (.own es) → σ[j]? ≠ some (some (.ref p))) :
    Fm C B H (σ.set i (some (.ref p))) (Γ.set i (.own ds)) := by
  have key : ∀ (j : Nat) es, i ≠ j → (Γ.set i (.own ds))[j]? = some (.own es) → (σ.set i (some (.ref p)))[j]? = some (some (.ref p)) → False := fun j es nj h1 h2 => by
    rw [List.getElem?_set_ne nj] at h1 h2
    exact hn j es (Ne.symm nj) h1 h2
  refine ⟨F.st, F.dl, by rw [List.length_set, List.length_set]; exact F.len, fun j sl e => ?_, fun a b r xs ys h1 h2 h3 h4 => ?_⟩
  · by_cases hj : i = j
    · subst hj
      have hl : i < Γ.length := by
        have := (List.getElem?_eq_some_iff.mp e).1
        rw [List.length_set] at this
        exact this
      rw [List.getElem?_set_self hl] at e
      cases e
      exact ⟨p, vs, List.getElem?_set_self (by rw [F.len]; exact hl), hC, hB, hp, hd⟩
    · rw [List.getElem?_set_ne hj] at e
      rw [List.getElem?_set_ne hj]
      exact F.slot j sl e
  · by_cases ha : i = a
    · by_cases hb : i = b
      · exact ha.symm.trans hb
      · subst ha
        have hl : i < σ.length := by
          have := (List.getElem?_eq_some_iff.mp h3).1
          rw [List.length_set] at this
          exact this
        rw [List.getElem?_set_self hl] at h3
        injection h3 with h3
        injection h3 with h3
        injection h3 with h3
        subst h3
        exact (key b ys hb h2 h4).elim
    · by_cases hb : i = b
      · subst hb
        have hl : i < σ.length := by
          have := (List.getElem?_eq_some_iff.mp h4).1
          rw [List.length_set] at this
          exact this
        rw [List.getElem?_set_self hl] at h4
        injection h4 with h4
        injection h4 with h4
        injection h4 with h4
        subst h4
        exact (key a xs ha h1 h3).elim
      · rw [List.getElem?_set_ne ha] at h1 h3
        rw [List.getElem?_set_ne hb] at h2 h4
        exact F.inj a b r xs ys h1 h2 h3 h4
/-- one's own list changes -/
theorem Fm.mutOwn {us : List V} (F : Fm C B H σ Γ) (hi : Γ[i]? = some (.own ds)) (hs : σ[i]? = some (some (.ref p))) (hd : DqAll C.K B us es) :
    Fm C B (upd H p (.lst us)) σ (Γ.set i (.own es)) := by
  obtain ⟨p', ws, e', hC, hB, hp, hw⟩ := F.hasOwn hi
  rw [hs] at e'
  injection e' with e'
  injection e' with e'
  injection e' with e'
  subst e'
  have hM : ¬ Md C.dl p := F.notMd hC
  have st : Stp C.dl C.B C.H B (upd H p (.lst us)) := by
    refine ⟨F.st.ext, fun a o e => ?_, fun a o e m n => ?_, F.st.out, fun r q e dd => ?_, stay_upd F.st.stay, fun T t => tabs_upd (F.st.tab T t) fun o' e => (by rw [hp] at e; cases e; exact notab_lst _), F.st.bt⟩
    · rw [upd_ne (ne_of_none e hB)]
      exact F.st.sub a o e
    · rw [upd_ne (ne_of_none e hC)]
      exact F.st.keepN a o e m n
    · obtain ⟨ne, ns, b, h1, h2, rest⟩ := F.st.deal r q e dd
      have n1 : r ≠ p := fun z => hM ⟨r, q, e, Or.inl z.symm⟩
      have n2 : q ≠ p := fun z => hM ⟨r, q, e, Or.inr z.symm⟩
      exact ⟨ne, ns, b, by rw [upd_ne n1]; exact h1, by rw [upd_ne n2]; exact h2, rest⟩
  refine ⟨st, F.dl, by rw [List.length_set]; exact F.len, fun j sl e => ?_, fun a b r xs ys h1 h2 h3 h4 => ?_⟩
  · by_cases hj : i = j
    · subst hj
      have hl : i < Γ.length := (List.getElem?_eq_some_iff.mp hi).1
      rw [List.getElem?_set_self hl] at e
      cases e
      exact ⟨p, us, hs, hC, hB, upd_same, hd⟩
    · rw [List.getElem?_set_ne hj] at e
      have k := F.slot j sl e
      cases sl with
      | no => trivial
      | dat d => exact k
      | own xs =>
        obtain ⟨r, zs, k1, k2, k3, k4, k5⟩ := k
        have nr : r ≠ p := fun z => by
          subst z
          exact hj (F.inj i j r _ _ hi e hs k1)
        exact ⟨r, zs, k1, k2, k3, by rw [upd_ne nr]; exact k4, k5⟩
      | deal => exact k
      | rd vs => exact k
      | exr a => exact k
      | odk kvs =>
        obtain ⟨r, zs, k1, k2, k3, k4, k5⟩ := k
        have nr : r ≠ p := fun z => by
          subst z
          rw [hp] at k4
          cases k4
        exact ⟨r, zs, k1, k2, k3, by rw [upd_ne nr]; exact k4, k5⟩
  · have own : ∀ (c : Nat) zs, (Γ.set i (.own es))[c]? = some (.own zs) → ∃ zs', Γ[c]? = some (.own zs') := fun c zs h => by
      by_cases hc : i = c
      · subst hc
        exact ⟨ds, hi⟩
      · rw [List.getElem?_set_ne hc] at h
        exact ⟨zs, h⟩
    obtain ⟨x1, g1⟩ := own a xs h1
    obtain ⟨x2, g2⟩ := own b ys h2
    exact F.inj a b r x1 x2 g1 g2 h3 h4
/-- one's own list stands for good from now on -/
theorem Fm.freeze (F : Fm C B H σ Γ) (hi : Γ[i]? = some (.own ds)) : ∃ B', Stp C.dl C.B C.H B' H ∧ Same B B' ∧ Fm C B' H σ (Γ.set i (.dat (.list ds))) := by
  obtain ⟨p, vs, hs, hC, hB, hp, hd⟩ := F.hasOwn hi
  have sm : Same B (upd B p (.lst vs)) := fun a o e => by
    rw [upd_ne (ne_of_none e hB)]
    exact e
  have st := F.st.fix hC hp hB
  refine ⟨upd B p (.lst vs), st, sm, st, F.dl, by rw [List.length_set]; exact F.len, fun j sl e => ?_, fun a b r xs ys h1 h2 h3 h4 => ?_⟩
  · by_cases hj : i = j
    · subst hj
      have hl : i < Γ.length := (List.getElem?_eq_some_iff.mp hi).1
      rw [List.getElem?_set_self hl] at e
      cases e
      exact ⟨.ref p, hs, .lst (Or.inl upd_same) (dpall_mono sm hd)⟩
    · rw [List.getElem?_set_ne hj] at e
      have k := F.slot j sl e
      cases sl with
      | no => trivial
      | dat d =>
        obtain ⟨v, k1, k2⟩ := k
        exact ⟨v, k1, dp_mono sm k2⟩
      | own xs =>
        obtain ⟨r, zs, k1, k2, k3, k4, k5⟩ := k
        have nr : r ≠ p := fun z => by
          subst z
          exact hj (F.inj i j r _ _ hi e hs k1)
        exact ⟨r, zs, k1, k2, by rw [upd_ne nr]; exact k3, k4, dpall_mono sm k5⟩
      | deal => exact k
      | rd vs =>
        obtain ⟨a, k1, k2⟩ := k
        exact ⟨a, k1, same_l sm k2⟩
      | exr a => exact k
      | odk kvs =>
        obtain ⟨r, zs, k1, k2, k3, k4, k5, k6⟩ := k
        have nr : r ≠ p := fun z => by
          subst z
          rw [hp] at k4
          cases k4
        exact ⟨r, zs, k1, k2, by rw [upd_ne nr]; exact k3, k4, k5, dpall_mono sm k6⟩
  · have na : i ≠ a := fun z => by
      subst z
      have hl : i < Γ.length := (List.getElem?_eq_some_iff.mp hi).1
      rw [List.getElem?_set_self hl] at h1
      cases h1
    have nb : i ≠ b := fun z => by
      subst z
      have hl : i < Γ.length := (List.getElem?_eq_some_iff.mp hi).1
      rw [List.getElem?_set_self hl] at h2
      cases h2
    rw [List.getElem?_set_ne na] at h1
    rw [List.getElem?_set_ne nb] at h2
    exact F.inj a b r xs ys h1 h2 h3 h4
end
end Ly

/-! LyC: what a reading gives as data: VE, VV, VL, VA, VW, VT, VO, VI, VG, VS, and their rules. -/
namespace Ly
open PySem PySem.Spec PyProof.Rows L2

/-- just this one -/
abbrev Is {α : Type} (x : α) : α → Prop := fun y => y = x

/-- a value that stands for data: for good, or a list that may change later -/
def Vw (C : Cn) (B H : Hp) (v : V) (d : D) : Prop :=
  Dq C.K B v d ∨ ∃ p vs ds, v = .ref p ∧ d = .list ds ∧ C.H p = none ∧ H p = some (.lst vs) ∧ DqAll C.K B vs ds
inductive VwAll (C : Cn) (B H : Hp) : List V → List D → Prop where
  | nil : VwAll C B H [] []
  | cons {v : V} {d : D} {vs : List V} {ds : List D} : Vw C B H v d → VwAll C B H vs ds → VwAll C B H (v :: vs) (d :: ds)
section
variable {C : Cn} {B H B' H' : Hp} {σ : L2.St} {Γ : List Sl} {v : V} {d : D}
theorem Vw.step (F : Fm C B H σ Γ) (s : Stp C.dl B H B' H') (h : Vw C B H v d) : Vw C B' H' v d := by
  rcases h with h | ⟨p, vs, ds, rfl, rfl, h1, h2, h3⟩
  · exact Or.inl (dp_mono s.ext h)
  · exact Or.inr ⟨p, vs, ds, rfl, rfl, h1, s.keep p _ h2 (F.notMd h1), dpall_mono s.ext h3⟩
theorem VwAll.step (F : Fm C B H σ Γ) (s : Stp C.dl B H B' H') : ∀ {vs : List V} {ds : List D}, VwAll C B H vs ds → VwAll C B' H' vs ds
  | _, _, .nil => .nil
  | _, _, .cons h t => .cons (h.step F s) (VwAll.step F s t)
theorem Vw.now (e : Same B H) (h : Vw C B H v d) : Dq C.K H v d := by
  rcases h with h | ⟨p, vs, ds, rfl, rfl, h1, h2, h3⟩
  · exact dp_mono e h
  · exact .lst (Or.inl h2) (dpall_mono e h3)
theorem Vw.int {i : Int} (h : Vw C B H v (.int i)) : v = .int i := by
  rcases h with h | ⟨_, _, _, _, e, _⟩
  · exact dp_int h
  · cases e
theorem Vw.str {x : Str} (h : Vw C B H v (.str x)) : v = .str x := by
  rcases h with h | ⟨_, _, _, _, e, _⟩
  · exact dp_str h
  · cases e
theorem Vw.bl {x : Bool} (h : Vw C B H v (.bool x)) : v = .bl x := by
  rcases h with h | ⟨_, _, _, _, e, _⟩
  · exact dp_bl h
  · cases e
theorem Vw.non (h : Vw C B H v .none) : v = .non := by
  rcases h with h | ⟨_, _, _, _, e, _⟩
  · exact dp_non h
  · cases e
theorem Vw.tup {ds : List D} (e : Same B H) (h : Vw C B H v (.tuple ds)) : ∃ a xs, v = .ref a ∧ SqT C.K H a xs ∧ DqAll C.K B xs ds := by
  rcases h with h | ⟨_, _, _, _, z, _⟩
  · obtain ⟨a, xs, h1, h2, h3⟩ := dp_tup h
    exact ⟨a, xs, h1, same_t e h2, h3⟩
  · cases z
theorem Vw.lst {ds : List D} (e : Same B H) (h : Vw C B H v (.list ds)) : ∃ a xs, v = .ref a ∧ SqL C.K H a xs ∧ DqAll C.K B xs ds := by
  rcases h with h | ⟨p, vs, es, h1, z, _, h2, h3⟩
  · obtain ⟨a, xs, h1, h2, h3⟩ := dp_lst h
    exact ⟨a, xs, h1, same_l e h2, h3⟩
  · cases z
    exact ⟨p, vs, h1, Or.inl (Or.inl h2), h3⟩
end

theorem Vw.lstR {C : Cn} {B H : Hp} {v : V} {ds : List D} (e : Same B H) (h : Vw C B H v (.list ds)) : ∃ a xs, v = .ref a ∧ Rd H a (.lst xs) ∧ DqAll C.K B xs ds := by
  rcases h with h | ⟨p, vs, es, h1, z, _, h2, h3⟩
  · obtain ⟨a, xs, h1, h2, h3⟩ := dp_lstR h
    exact ⟨a, xs, h1, same_rd e h2, h3⟩
  · cases z
    exact ⟨p, vs, h1, Or.inl h2, h3⟩

/-! ### what a reading gives -/
def VE (C : Cn) (t : TE) (Γ : List Sl) (R : D → Prop) : Prop := ∀ B H σ, Fm C B H σ Γ → ∀ Q : VK, (∀ d v B' H', R d → Stp C.dl B H B' H' → Dq C.K B' v d → Q v H') → t σ H Q
def VV (C : Cn) (t : TE) (Γ : List Sl) (R : D → Prop) : Prop := ∀ B H σ, Fm C B H σ Γ → ∀ Q : VK, (∀ d v B' H', R d → Stp C.dl B H B' H' → Vw C B' H' v d → Q v H') → t σ H Q
/-- a new list -/
def VL (C : Cn) (t : TE) (Γ : List Sl) (R : List D → Prop) : Prop := ∀ B H σ, Fm C B H σ Γ → ∀ Q : VK,
  (∀ ds p vs B' H', R ds → Stp C.dl B H B' H' → H p = none → B' p = none → H' p = some (.lst vs) → DqAll C.K B' vs ds → Q (.ref p) H') → t σ H Q
def VA (C : Cn) (t : TA) (Γ : List Sl) (R : List D → Prop) : Prop := ∀ B H σ, Fm C B H σ Γ → ∀ Q : List V → Hp → Prop, (∀ ds vs B' H', R ds → Stp C.dl B H B' H' → DqAll C.K B' vs ds → Q vs H') → t σ H Q
def VW (C : Cn) (t : TA) (Γ : List Sl) (R : List D → Prop) : Prop := ∀ B H σ, Fm C B H σ Γ → ∀ Q : List V → Hp → Prop, (∀ ds vs B' H', R ds → Stp C.dl B H B' H' → VwAll C B' H' vs ds → Q vs H') → t σ H Q
def VT (C : Cn) (t : TT) (Γ : List Sl) (R : Bool → Prop) : Prop := ∀ B H σ, Fm C B H σ Γ → ∀ Q : Bool → Hp → Prop, (∀ b B' H', R b → Stp C.dl B H B' H' → Q b H') → t σ H Q
def VO (C : Cn) (t : TO) (Γ : List Sl) (R : Option Int → Prop) : Prop := ∀ B H σ, Fm C B H σ Γ → ∀ Q : Option Int → Hp → Prop, (∀ b B' H', R b → Stp C.dl B H B' H' → Q b H') → t σ H Q

section
variable {C : Cn} {t ta tb te : TE} {tt tu : TT} {A A' : TA} {Γ : List Sl} {R R' Ra Rb : D → Prop} {d x y z : D} {b c : Bool} {ds es : List D}
theorem VE.imp (h : VE C t Γ R) (i : ∀ d, R d → R' d) : VE C t Γ R' := fun B H σ F Q q => h B H σ F Q fun d v B' H' r s k => q d v B' H' (i d r) s k
theorem VE.to (h : VE C t Γ (Is x)) (e : x = y) : VE C t Γ (Is y) := e ▸ h
theorem VL.imp {S S' : List D → Prop} (h : VL C t Γ S) (i : ∀ d, S d → S' d) : VL C t Γ S' := fun B H σ F Q q => h B H σ F Q fun ds p vs B' H' r s k1 k2 k3 k4 => q ds p vs B' H' (i ds r) s k1 k2 k3 k4
theorem VL.to (h : VL C t Γ (Is ds)) (e : ds = es) : VL C t Γ (Is es) := e ▸ h
theorem VT.imp {S S' : Bool → Prop} (h : VT C tt Γ S) (i : ∀ d, S d → S' d) : VT C tt Γ S' := fun B H σ F Q q => h B H σ F Q fun b B' H' r s => q b B' H' (i b r) s
theorem VT.to (h : VT C tt Γ (Is b)) (e : b = c) : VT C tt Γ (Is c) := e ▸ h
theorem VA.imp {S S' : List D → Prop} (h : VA C A Γ S) (i : ∀ d, S d → S' d) : VA C A Γ S' := fun B H σ F Q q => h B H σ F Q fun d v B' H' r s k => q d v B' H' (i d r) s k
theorem VE.v (h : VE C t Γ R) : VV C t Γ R := fun B H σ F Q q => h B H σ F Q fun d v B' H' r s k => q d v B' H' r s (Or.inl k)
theorem VL.v {S : List D → Prop} (h : VL C t Γ S) : VV C t Γ (fun d => ∃ ds, d = .list ds ∧ S ds) := fun B H σ F Q q => h B H σ F Q fun ds p vs B' H' r s k1 k2 k3 k4 =>
  q _ _ B' H' ⟨ds, rfl, r⟩ s (Or.inr ⟨p, vs, ds, rfl, rfl, F.newC k1, k3, k4⟩)
theorem VL.vd (h : VL C t Γ (Is ds)) : VV C t Γ (Is (.list ds)) := fun B H σ F Q q => h.v B H σ F Q fun d v B' H' r s k => by
  obtain ⟨es, rfl, e⟩ := r
  cases e
  exact q _ _ _ _ rfl s k
theorem VL.e {S : List D → Prop} (h : VL C t Γ S) : VE C t Γ (fun d => ∃ ds, d = .list ds ∧ S ds) := fun B H σ F Q q => h B H σ F Q fun ds p vs B' H' r s k1 k2 k3 k4 =>
  q _ _ (upd B' p (.lst vs)) H' ⟨ds, rfl, r⟩ (s.fix k1 k3 k2) (.lst (Or.inl upd_same) (dpall_mono (fun a o e => by rw [upd_ne (ne_of_none e k2)]; exact e) k4))
theorem VL.ed (h : VL C t Γ (Is ds)) : VE C t Γ (Is (.list ds)) := h.e.imp fun d ⟨es, e1, e2⟩ => by
  cases e2
  exact e1
theorem vv_own {i : Nat} (h : Γ[i]? = some (.own ds)) : VV C (tVar i) Γ (Is (.list ds)) := fun B H σ F Q q => by
  obtain ⟨p, vs, e, h1, h2, h3, h4⟩ := F.hasOwn h
  exact ⟨_, e, q _ _ B H rfl (Stp.refl F.sub) (Or.inr ⟨p, vs, ds, rfl, rfl, h1, h3, h4⟩)⟩
theorem ve_var {i : Nat} (h : Γ[i]? = some (.dat d)) : VE C (tVar i) Γ (Is d) := fun B H σ F Q q => by
  obtain ⟨v, e, k⟩ := F.has h
  exact ⟨v, e, q d v B H rfl (Stp.refl F.sub) k⟩
theorem ve_c {v : V} (h : ∀ B, Dq C.K B v d) : VE C (tC v) Γ (Is d) := fun B H σ F Q q => q d v B H rfl (Stp.refl F.sub) (h B)
theorem ve_int {i : Int} : VE C (tC (.int i)) Γ (Is (.int i)) := ve_c fun _ => .int i
theorem ve_bl {i : Bool} : VE C (tC (.bl i)) Γ (Is (.bool i)) := ve_c fun _ => .bl i
theorem ve_str {i : Str} : VE C (tC (.str i)) Γ (Is (.str i)) := ve_c fun _ => .str i
theorem ve_non : VE C (tC .non) Γ (Is .none) := ve_c fun _ => .non
/-! arguments -/
theorem va_nil : VA C tNil Γ (Is []) := fun B H σ F Q q => q [] [] B H rfl (Stp.refl F.sub) .nil
theorem va_cons {S : List D → Prop} (h : VE C te Γ R) (k : VA C A Γ S) : VA C (tCons te A) Γ (fun l => ∃ d ds, l = d :: ds ∧ R d ∧ S ds) := fun B H σ F Q q =>
  h B H σ F _ fun d v B1 H1 r s1 k1 => k B1 H1 σ (F.step s1) _ fun ds vs B2 H2 r2 s2 k2 => q _ _ B2 H2 ⟨d, ds, rfl, r, r2⟩ (s1.trans F.dlNow s2) (.cons (dp_mono s2.ext k1) k2)
theorem va_consD (h : VE C te Γ (Is d)) (k : VA C A Γ (Is ds)) : VA C (tCons te A) Γ (Is (d :: ds)) := (va_cons h k).imp fun l ⟨d', ds', e, e1, e2⟩ => by
  cases e1
  cases e2
  exact e
theorem vw_nil : VW C tNil Γ (Is []) := fun B H σ F Q q => q [] [] B H rfl (Stp.refl F.sub) .nil
theorem vw_cons {S : List D → Prop} (h : VV C te Γ R) (k : VW C A Γ S) : VW C (tCons te A) Γ (fun l => ∃ d ds, l = d :: ds ∧ R d ∧ S ds) := fun B H σ F Q q =>
  h B H σ F _ fun d v B1 H1 r s1 k1 => k B1 H1 σ (F.step s1) _ fun ds vs B2 H2 r2 s2 k2 => q _ _ B2 H2 ⟨d, ds, rfl, r, r2⟩ (s1.trans F.dlNow s2) (.cons (k1.step (F.step s1) s2) k2)
theorem VW.imp {S S' : List D → Prop} (h : VW C A Γ S) (i : ∀ d, S d → S' d) : VW C A Γ S' := fun B H σ F Q q => h B H σ F Q fun d v B' H' r s k => q d v B' H' (i d r) s k
theorem vw_consD (h : VV C te Γ (Is d)) (k : VW C A Γ (Is ds)) : VW C (tCons te A) Γ (Is (d :: ds)) := (vw_cons h k).imp fun l ⟨d', ds', e, e1, e2⟩ => by
  cases e1
  cases e2
  exact e
/-! displays -/
theorem sz5 {n : Nat} (h : n ≤ 100000) : n ≤ sizeLine := Nat.le_trans h (by decide)
theorem ve_tup {S : List D → Prop} (h : VA C A Γ S) (k : ∀ ds, S ds → ds.length ≤ 100000 ∧ R (.tuple ds)) : VE C (tTup A) Γ R := fun B H σ F Q q => h B H σ F _ fun ds vs B1 H1 r s1 k1 =>
  ⟨by rw [dpall_len k1]; exact sz5 (k ds r).1, fun p hp => q _ _ (upd B1 p (.tup vs)) _ (k ds r).2 (s1.trans F.dlNow (Stp.new (F.step s1).sub hp))
    (.tup (Or.inl (Or.inl upd_same)) (dpall_mono (Stp.new (dl := C.dl) (F.step s1).sub hp).ext k1))⟩
theorem ve_tupD (h : VA C A Γ (Is ds)) (k : ds.length ≤ 100000 := by first | decide | exact of_decide_eq_true rfl) : VE C (tTup A) Γ (Is (.tuple ds)) := ve_tup h fun es e => by
  cases e
  exact ⟨k, rfl⟩
theorem vl_lst {S : List D → Prop} (h : VA C A Γ S) (k : ∀ ds, S ds → ds.length ≤ 100000) : VL C (tLst A) Γ S := fun B H σ F Q q => h B H σ F _ fun ds vs B1 H1 r s1 k1 =>
  ⟨by rw [dpall_len k1]; exact sz5 (k ds r), fun p hp => q ds p vs B1 _ r (s1.trans F.dlNow (Stp.newM (F.step s1).sub hp)) (by
    cases e : H p with
    | none => rfl
    | some o => exact absurd hp (s1.there F.dlNow (by rw [e]; simp))) ((F.step s1).sub.free hp) upd_same k1⟩
theorem vl_lstD (h : VA C A Γ (Is ds)) (k : ds.length ≤ 100000 := by first | decide | exact of_decide_eq_true rfl) : VL C (tLst A) Γ (Is ds) := vl_lst h fun es e => by
  cases e
  exact k
/-! choices -/
theorem ve_if {S : Bool → Prop} (h : VT C tt Γ S) (h1 : S true → VE C ta Γ R) (h2 : S false → VE C tb Γ R) : VE C (tIf tt ta tb) Γ R := fun B H σ F Q q => h B H σ F _ fun b B1 H1 r s1 => by
  cases b with
  | true => exact iteT (h1 r B1 H1 σ (F.step s1) Q fun d v B2 H2 r2 s2 k => q d v B2 H2 r2 (s1.trans F.dlNow s2) k)
  | false => exact iteF (h2 r B1 H1 σ (F.step s1) Q fun d v B2 H2 r2 s2 k => q d v B2 H2 r2 (s1.trans F.dlNow s2) k)
theorem vv_if {S : Bool → Prop} (h : VT C tt Γ S) (h1 : S true → VV C ta Γ R) (h2 : S false → VV C tb Γ R) : VV C (tIf tt ta tb) Γ R := fun B H σ F Q q => h B H σ F _ fun b B1 H1 r s1 => by
  cases b with
  | true => exact iteT (h1 r B1 H1 σ (F.step s1) Q fun d v B2 H2 r2 s2 k => q d v B2 H2 r2 (s1.trans F.dlNow s2) k)
  | false => exact iteF (h2 r B1 H1 σ (F.step s1) Q fun d v B2 H2 r2 s2 k => q d v B2 H2 r2 (s1.trans F.dlNow s2) k)
theorem ve_ifD (h : VT C tt Γ (Is b)) (h1 : b = true → VE C ta Γ (Is x)) (h2 : b = false → VE C tb Γ (Is y)) : VE C (tIf tt ta tb) Γ (Is (if b = true then x else y)) :=
  ve_if h (fun e => by subst e; exact (h1 rfl).to (if_pos rfl).symm) (fun e => by subst e; exact (h2 rfl).to (if_neg Bool.false_ne_true).symm)
theorem ve_andV {S S' : Bool → Prop} (h : VE C ta Γ (fun d => ∃ b, d = .bool b ∧ S b)) (k : S true → VE C tb Γ (fun d => ∃ b, d = .bool b ∧ S' b)) (k2 : S false → S' false) :
    VE C (tAndV ta tb) Γ (fun d => ∃ b, d = .bool b ∧ S' b) := fun B H σ F Q q => h B H σ F _ fun d v B1 H1 ⟨b, e, r⟩ s1 k1 => by
  subst e
  obtain rfl := dp_bl k1
  refine ⟨b, rfl, ?_⟩
  cases b with
  | true => exact iteT (k r B1 H1 σ (F.step s1) Q fun d v B2 H2 r2 s2 k => q d v B2 H2 r2 (s1.trans F.dlNow s2) k)
  | false => exact iteF (q _ _ B1 H1 ⟨false, rfl, k2 r⟩ s1 (.bl false))
theorem ve_orV {S S' : Bool → Prop} (h : VE C ta Γ (fun d => ∃ b, d = .bool b ∧ S b)) (k : S false → VE C tb Γ (fun d => ∃ b, d = .bool b ∧ S' b)) (k2 : S true → S' true) :
    VE C (tOrV ta tb) Γ (fun d => ∃ b, d = .bool b ∧ S' b) := fun B H σ F Q q => h B H σ F _ fun d v B1 H1 ⟨b, e, r⟩ s1 k1 => by
  subst e
  obtain rfl := dp_bl k1
  refine ⟨b, rfl, ?_⟩
  cases b with
  | true => exact iteT (q _ _ B1 H1 ⟨true, rfl, k2 r⟩ s1 (.bl true))
  | false => exact iteF (k r B1 H1 σ (F.step s1) Q fun d v B2 H2 r2 s2 k => q d v B2 H2 r2 (s1.trans F.dlNow s2) k)
theorem ve_andD (h : VE C ta Γ (Is (.bool b))) (k : b = true → VE C tb Γ (Is (.bool c))) : VE C (tAndV ta tb) Γ (Is (.bool (b && c))) :=
  (ve_andV (S := Is b) (S' := Is (b && c)) (h.imp fun d e => ⟨b, e, rfl⟩) (fun e => (k e.symm).imp fun d e2 => ⟨c, e2, by rw [← e]; rfl⟩) (fun e => by rw [← e]; rfl)).imp fun d ⟨x, e1, e2⟩ => by
    cases e2
    exact e1
theorem ve_orD (h : VE C ta Γ (Is (.bool b))) (k : b = false → VE C tb Γ (Is (.bool c))) : VE C (tOrV ta tb) Γ (Is (.bool (b || c))) :=
  (ve_orV (S := Is b) (S' := Is (b || c)) (h.imp fun d e => ⟨b, e, rfl⟩) (fun e => (k e.symm).imp fun d e2 => ⟨c, e2, by rw [← e]; rfl⟩) (fun e => by rw [← e]; rfl)).imp fun d ⟨x, e1, e2⟩ => by
    cases e2
    exact e1
theorem ve_notD (h : VE C ta Γ (Is (.bool b))) : VE C (tNotV ta) Γ (Is (.bool (!b))) := fun B H σ F Q q => h B H σ F _ fun d v B1 H1 r s1 k1 => by
  cases r
  obtain rfl := dp_bl k1
  exact ⟨b, rfl, q _ _ B1 H1 rfl s1 (.bl _)⟩
/-! tests -/
theorem vt_test {S : Bool → Prop} (h : VE C te Γ (fun d => ∃ b, d = .bool b ∧ S b)) : VT C (tTest te) Γ S := fun B H σ F Q q => h B H σ F _ fun d v B1 H1 ⟨b, e, r⟩ s1 k1 => by
  subst e
  obtain rfl := dp_bl k1
  exact ⟨b, rfl, q b B1 H1 r s1⟩
theorem vt_testD (h : VE C te Γ (Is (.bool b))) : VT C (tTest te) Γ (Is b) := vt_test (h.imp fun d e => ⟨b, e, rfl⟩)
theorem vt_B {S : Bool → Prop} (h : VE C te Γ (fun d => ∃ b, d = .bool b ∧ S b)) : VT C (tB te) Γ S := fun B H σ F Q q => h B H σ F _ fun d v B1 H1 ⟨b, e, r⟩ s1 k1 => by
  subst e
  obtain rfl := dp_bl k1
  exact ⟨b, rfl, q b B1 H1 r s1⟩
theorem vt_BD (h : VE C te Γ (Is (.bool b))) : VT C (tB te) Γ (Is b) := vt_B (h.imp fun d e => ⟨b, e, rfl⟩)
theorem vt_and {S S' : Bool → Prop} (h : VT C tt Γ S) (k : S true → VT C tu Γ S') (k2 : S false → S' false) : VT C (tAnd tt tu) Γ S' := fun B H σ F Q q => h B H σ F _ fun b B1 H1 r s1 => by
  cases b with
  | true => exact iteT (k r B1 H1 σ (F.step s1) Q fun b B2 H2 r2 s2 => q b B2 H2 r2 (s1.trans F.dlNow s2))
  | false => exact iteF (q false B1 H1 (k2 r) s1)
theorem vt_or {S S' : Bool → Prop} (h : VT C tt Γ S) (k : S false → VT C tu Γ S') (k2 : S true → S' true) : VT C (tOr tt tu) Γ S' := fun B H σ F Q q => h B H σ F _ fun b B1 H1 r s1 => by
  cases b with
  | true => exact iteT (q true B1 H1 (k2 r) s1)
  | false => exact iteF (k r B1 H1 σ (F.step s1) Q fun b B2 H2 r2 s2 => q b B2 H2 r2 (s1.trans F.dlNow s2))
theorem vt_andD (h : VT C tt Γ (Is b)) (k : b = true → VT C tu Γ (Is c)) : VT C (tAnd tt tu) Γ (Is (b && c)) :=
  vt_and h (fun e => (k e.symm).imp fun x e2 => by rw [← e, e2]; rfl) fun e => by rw [← e]; rfl
theorem vt_orD (h : VT C tt Γ (Is b)) (k : b = false → VT C tu Γ (Is c)) : VT C (tOr tt tu) Γ (Is (b || c)) :=
  vt_or h (fun e => (k e.symm).imp fun x e2 => by rw [← e, e2]; rfl) fun e => by rw [← e]; rfl
theorem vt_not {S : Bool → Prop} (h : VT C tt Γ (fun b => S (!b))) : VT C (tNot tt) Γ S := fun B H σ F Q q => h B H σ F _ fun b B1 H1 r s1 => q (!b) B1 H1 r s1
theorem vt_notD (h : VT C tt Γ (Is b)) : VT C (tNot tt) Γ (Is (!b)) := vt_not (h.imp fun x e => congrArg (!·) e)
/-! parts of slices -/
theorem vo_none : VO C tNoPart Γ (Is none) := fun B H σ F Q q => q none B H rfl (Stp.refl F.sub)
theorem vo_some {S : Int → Prop} (h : VE C te Γ (fun d => ∃ i, d = .int i ∧ S i)) : VO C (tPart te) Γ (fun o => ∃ i, o = some i ∧ S i) := fun B H σ F Q q => h B H σ F _ fun d v B1 H1 ⟨i, e, r⟩ s1 k1 => by
  subst e
  obtain rfl := dp_int k1
  exact ⟨i, rfl, q _ B1 H1 ⟨i, rfl, r⟩ s1⟩
theorem vo_someD {i : Int} (h : VE C te Γ (Is (.int i))) : VO C (tPart te) Γ (Is (some i)) := fun B H σ F Q q => vo_some (S := Is i) (h.imp fun d e => ⟨i, e, rfl⟩) B H σ F Q fun o B1 H1 ⟨j, e, r⟩ s1 => by
  cases r
  exact q o B1 H1 e s1

/-! ### operations by data -/
/-- an operation of two values gives data | a new list -/
def OD (C : Cn) (r : R2) (x y : D) (R : D → Prop) : Prop := ∀ B H v u, Same B H → Vw C B H v x → Vw C B H u y → ∀ Q : VK, (∀ d w B' H', R d → Stp C.dl B H B' H' → Dq C.K B' w d → Q w H') → r v u H Q
def OL (C : Cn) (r : R2) (x y : D) (R : List D → Prop) : Prop := ∀ B H v u, Same B H → Vw C B H v x → Vw C B H u y → ∀ Q : VK,
  (∀ ds p vs B' H', R ds → Stp C.dl B H B' H' → H p = none → B' p = none → H' p = some (.lst vs) → DqAll C.K B' vs ds → Q (.ref p) H') → r v u H Q
def UD (C : Cn) (r : V → Hp → VK → Prop) (x : D) (R : D → Prop) : Prop := ∀ B H v, Same B H → Vw C B H v x → ∀ Q : VK, (∀ d w B' H', R d → Stp C.dl B H B' H' → Dq C.K B' w d → Q w H') → r v H Q
/-- a call of a built-in gives data | a new list -/
def CD (C : Cn) (r : List V → Hp → VK → Prop) (xs : List D) (R : D → Prop) : Prop := ∀ B H vs, Same B H → VwAll C B H vs xs → ∀ Q : VK, (∀ d w B' H', R d → Stp C.dl B H B' H' → Dq C.K B' w d → Q w H') → r vs H Q
def CL (C : Cn) (r : List V → Hp → VK → Prop) (xs : List D) (R : List D → Prop) : Prop := ∀ B H vs, Same B H → VwAll C B H vs xs → ∀ Q : VK,
  (∀ ds p us B' H', R ds → Stp C.dl B H B' H' → H p = none → B' p = none → H' p = some (.lst us) → DqAll C.K B' us ds → Q (.ref p) H') → r vs H Q
variable {r : R2} {rc : List V → Hp → VK → Prop} {ru : V → Hp → VK → Prop}
theorem ve_op (h : VV C ta Γ Ra) (k : VV C tb Γ Rb) (o : ∀ x y, Ra x → Rb y → OD C r x y R) : VE C (tOp r ta tb) Γ R := fun B H σ F Q q => h B H σ F _ fun x v B1 H1 r1 s1 k1 =>
  k B1 H1 σ (F.step s1) _ fun y u B2 H2 r2 s2 k2 => o x y r1 r2 B2 H2 v u ((F.step s1).step s2).sub (k1.step (F.step s1) s2) k2 Q fun d w B3 H3 r3 s3 k3 => q d w B3 H3 r3 ((s1.trans F.dlNow s2).trans F.dlNow s3) k3
theorem ve_opD (h : VV C ta Γ (Is x)) (k : VV C tb Γ (Is y)) (o : OD C r x y R) : VE C (tOp r ta tb) Γ R := ve_op h k fun x y e1 e2 => by
  cases e1
  cases e2
  exact o
theorem back_none {B H B' H' : Hp} {σ : L2.St} {p : Addr} (F : Fm C B H σ Γ) (s : Stp C.dl B H B' H') (h : H' p = none) : H p = none := by
  cases e : H p with
  | none => rfl
  | some o => exact absurd h (s.there F.dlNow (by rw [e]; simp))
theorem vl_op {S : List D → Prop} (h : VV C ta Γ Ra) (k : VV C tb Γ Rb) (o : ∀ x y, Ra x → Rb y → OL C r x y S) : VL C (tOp r ta tb) Γ S := fun B H σ F Q q => h B H σ F _ fun x v B1 H1 r1 s1 k1 =>
  k B1 H1 σ (F.step s1) _ fun y u B2 H2 r2 s2 k2 => o x y r1 r2 B2 H2 v u ((F.step s1).step s2).sub (k1.step (F.step s1) s2) k2 Q fun ds p vs B3 H3 r3 s3 e1 e2 e3 e4 =>
    q ds p vs B3 H3 r3 ((s1.trans F.dlNow s2).trans F.dlNow s3) (back_none F (s1.trans F.dlNow s2) e1) e2 e3 e4
theorem vl_opD {S : List D → Prop} (h : VV C ta Γ (Is x)) (k : VV C tb Γ (Is y)) (o : OL C r x y S) : VL C (tOp r ta tb) Γ S := vl_op h k fun x y e1 e2 => by
  cases e1
  cases e2
  exact o
theorem ve_un (h : VV C ta Γ Ra) (o : ∀ x, Ra x → UD C ru x R) : VE C (tUn ru ta) Γ R := fun B H σ F Q q => h B H σ F _ fun x v B1 H1 r1 s1 k1 =>
  o x r1 B1 H1 v (F.step s1).sub k1 Q fun d w B3 H3 r3 s3 k3 => q d w B3 H3 r3 (s1.trans F.dlNow s3) k3
theorem ve_cb {S : List D → Prop} (h : VW C A Γ S) (o : ∀ xs, S xs → CD C rc xs R) : VE C (tCB rc A) Γ R := fun B H σ F Q q => h B H σ F _ fun xs vs B1 H1 r1 s1 k1 =>
  o xs r1 B1 H1 vs (F.step s1).sub k1 Q fun d w B3 H3 r3 s3 k3 => q d w B3 H3 r3 (s1.trans F.dlNow s3) k3
theorem ve_cbD (h : VW C A Γ (Is ds)) (o : CD C rc ds R) : VE C (tCB rc A) Γ R := ve_cb h fun xs e => by
  cases e
  exact o
theorem vl_cb {S S' : List D → Prop} (h : VW C A Γ S) (o : ∀ xs, S xs → CL C rc xs S') : VL C (tCB rc A) Γ S' := fun B H σ F Q q => h B H σ F _ fun xs vs B1 H1 r1 s1 k1 =>
  o xs r1 B1 H1 vs (F.step s1).sub k1 Q fun ds p us B3 H3 r3 s3 e1 e2 e3 e4 => q ds p us B3 H3 r3 (s1.trans F.dlNow s3) (back_none F s1 e1) e2 e3 e4
theorem vl_cbD {S' : List D → Prop} (h : VW C A Γ (Is ds)) (o : CL C rc ds S') : VL C (tCB rc A) Γ S' := vl_cb h fun xs e => by
  cases e
  exact o
end

/-! ### what a loop walks, what takes a value -/
/-- the things that come, one after another; each for good -/
def VI (C : Cn) (wi : TI) (Γ : List Sl) (R : List D → Prop) : Prop := ∀ B H σ, Fm C B H σ Γ → ∀ T : It → Hp → Prop, (∀ ds J B1 H1 G Y, R ds → Stp C.dl B H B1 H1 → Walk J ds.length G Y →
  (∀ B2 H2, Same B1 B2 → Same B2 H2 → G H2) →
  (∀ i x H2 H2', Y i H2 x H2' → ∀ B2 d, Same B1 B2 → Same B2 H2 → ds[i]? = some d → ∃ B2', Stp C.dl B2 H2 B2' H2' ∧ Dq C.K B2' x d) → T J H1) → wi σ H T
/-- a target takes data; only the slots js change -/
structure VG (C : Cn) (g : TG) (d : D) (Γ Γ' : List Sl) (js : List Nat) : Prop where
  run : ∀ {B H σ v}, Fm C B H σ Γ → Dq C.K B v d → ∀ Q : L2.St → Hp → Prop, (∀ σ', σ'.length = σ.length → (∀ i, i ∉ js → σ'[i]? = σ[i]?) → Fm C B H σ' Γ' → Q σ' H) → g v σ H Q
  own : ∀ (j : Nat) es, Γ'[j]? = some (.own es) → Γ[j]? = some (.own es) ∧ j ∉ js
structure VGs (C : Cn) (gs : TGs) (ds : List D) (Γ Γ' : List Sl) (js : List Nat) : Prop where
  run : ∀ {B H σ vs}, Fm C B H σ Γ → DqAll C.K B vs ds → ∀ Q : L2.St → Hp → Prop, (∀ σ', σ'.length = σ.length → (∀ i, i ∉ js → σ'[i]? = σ[i]?) → Fm C B H σ' Γ' → Q σ' H) → gs vs σ H Q
  own : ∀ (j : Nat) es, Γ'[j]? = some (.own es) → Γ[j]? = some (.own es) ∧ j ∉ js
section
variable {C : Cn} {Γ Γ' Γ1 : List Sl} {d e : D} {ds : List D} {i j n : Nat} {g g' : TG} {gs : TGs} {js ks : List Nat}
theorem vg_name : VG C (gName i) d Γ (Γ.set i (.dat d)) [i] := by
  refine ⟨fun F h Q q => q _ (List.length_set ..) (fun j hj => by rw [List.getElem?_set_ne (fun z => hj (by simp [z]))]) (F.set h), fun j es h => ?_⟩
  by_cases hj : i = j
  · subst hj
    have hl : i < Γ.length := by
      have := (List.getElem?_eq_some_iff.mp h).1
      rw [List.length_set] at this
      exact this
    rw [List.getElem?_set_self hl] at h
    cases h
  · rw [List.getElem?_set_ne hj] at h
    exact ⟨h, fun z => hj (List.mem_singleton.mp z).symm⟩
theorem vgs_nil : VGs C gNil [] Γ Γ [] := ⟨fun {B H σ vs} F h Q q => by
  cases h
  exact ⟨rfl, q σ rfl (fun _ _ => rfl) F⟩, fun j es h => ⟨h, fun z => nomatch z⟩⟩
theorem vgs_cons (h : VG C g d Γ Γ1 js) (k : VGs C gs ds Γ1 Γ' ks) : VGs C (gCons g gs) (d :: ds) Γ Γ' (js ++ ks) := by
  refine ⟨fun {B H σ vs} F hd Q q => ?_, fun j es hj => ?_⟩
  · cases hd with
    | cons h1 h2 =>
      refine ⟨_, _, rfl, h.run F h1 _ fun σ1 l1 e1 F1 => k.run F1 h2 _ fun σ2 l2 e2 F2 => q σ2 (l2.trans l1) (fun i hi => ?_) F2⟩
      rw [e2 i (fun z => hi (List.mem_append_right _ z)), e1 i (fun z => hi (List.mem_append_left _ z))]
  · obtain ⟨k1, k2⟩ := k.own j es hj
    obtain ⟨h1, h2⟩ := h.own j es k1
    exact ⟨h1, fun z => (List.mem_append.mp z).elim h2 k2⟩
theorem vg_tup (h : VGs C gs ds Γ Γ' js) (n1 : ds.length = n) : VG C (gTup C.K n gs) (.tuple ds) Γ Γ' js := by
  refine ⟨fun {B H σ v} F hd Q q => ?_, h.own⟩
  obtain ⟨a, xs, rfl, h1, h2⟩ := dp_tup hd
  exact ⟨a, xs, rfl, same_t F.sub h1, (dpall_len h2).trans n1, h.run F h2 Q q⟩
theorem vg_tup2 {g1 g2 : TG} {d1 d2 : D} {Γ1 Γ2 : List Sl} {j1 j2 : List Nat} (h1 : VG C g1 d1 Γ Γ1 j1) (h2 : VG C g2 d2 Γ1 Γ2 j2) : VG C (gTup C.K 2 (gCons g1 (gCons g2 gNil))) (.tuple [d1, d2]) Γ Γ2 (j1 ++ (j2 ++ [])) :=
  vg_tup (vgs_cons h1 (vgs_cons h2 vgs_nil)) rfl
end
end Ly

/-! LyD: statements (VS), loops, comprehensions, what a def promises (Pu, De). -/
namespace Ly
open PySem PySem.Spec PyProof.Rows L2

structure Po where
  nx : List Sl → Prop
  rt : D → Prop
  bk : List Sl → Prop := fun _ => False
  ct : List Sl → Prop := fun _ => False

/-- a statement, from what the names hold -/
def VS (C : Cn) (t : TS) (Γ : List Sl) (P : Po) : Prop := ∀ B H σ (E : Ends), Fm C B H σ Γ →
  (∀ Γ' B' H' σ', P.nx Γ' → Same B B' → Fm C B' H' σ' Γ' → E.nx σ' H') →
  (∀ d v B' H', P.rt d → Stp C.dl C.B C.H B' H' → Dq C.K B' v d → E.rt v H') →
  (∀ Γ' B' H' σ', P.bk Γ' → Same B B' → Fm C B' H' σ' Γ' → E.bk σ' H') →
  (∀ Γ' B' H' σ', P.ct Γ' → Same B B' → Fm C B' H' σ' Γ' → E.ct σ' H') → t E σ H

section
variable {C : Cn} {t u : TS} {te ta tb : TE} {tt : TT} {A : TA} {Γ Γ' : List Sl} {P P' : Po} {R : D → Prop} {S : List D → Prop} {i j : Nat} {d : D} {ds : List D}
theorem VS.imp (h : VS C t Γ P) (h1 : ∀ Γ, P.nx Γ → P'.nx Γ) (h2 : ∀ d, P.rt d → P'.rt d) (h3 : ∀ Γ, P.bk Γ → P'.bk Γ) (h4 : ∀ Γ, P.ct Γ → P'.ct Γ) : VS C t Γ P' := fun B H σ E F n r b c =>
  h B H σ E F (fun Γ' B' H' σ' p => n Γ' B' H' σ' (h1 _ p)) (fun d v B' H' p => r d v B' H' (h2 _ p)) (fun Γ' B' H' σ' p => b Γ' B' H' σ' (h3 _ p)) fun Γ' B' H' σ' p => c Γ' B' H' σ' (h4 _ p)
theorem vs_next (h : P.nx Γ) : VS C tNext Γ P := fun B H σ E F n r b c => n Γ B H σ h (Same.refl B) F
theorem vs_brk (h : P.bk Γ) : VS C tBreak Γ P := fun B H σ E F n r b c => b Γ B H σ h (Same.refl B) F
theorem vs_cont (h : P.ct Γ) : VS C tCont Γ P := fun B H σ E F n r b c => c Γ B H σ h (Same.refl B) F
theorem vs_seq (M : List Sl → Prop) (h : VS C t Γ { P with nx := M }) (k : ∀ Γ', M Γ' → VS C u Γ' P) : VS C (tSeq t u) Γ P := fun B H σ E F n r b c =>
  h B H σ { E with nx := u E } F (fun Γ' B' H' σ' m s F' => k Γ' m B' H' σ' E F' (fun Γ2 B2 H2 σ2 p s2 => n Γ2 B2 H2 σ2 p (s.trans s2)) r (fun Γ2 B2 H2 σ2 p s2 => b Γ2 B2 H2 σ2 p (s.trans s2)) fun Γ2 B2 H2 σ2 p s2 => c Γ2 B2 H2 σ2 p (s.trans s2)) r b c
/-- the next statement is looked at with just these slots -/
theorem vs_then (Γ' : List Sl) (h : VS C t Γ { P with nx := Is Γ' }) (k : VS C u Γ' P) : VS C (tSeq t u) Γ P := vs_seq (Is Γ') h fun _ e => by
  cases e
  exact k
theorem vs_asg (h : VE C te Γ R) (k : ∀ d, R d → P.nx (Γ.set i (.dat d))) : VS C (tAsg te (gName i)) Γ P := fun B H σ E F n r b c => h B H σ F _ fun d v B' H' rd s kd =>
  n _ B' H' _ (k d rd) s.ext ((F.step s).set kd)
theorem vq_asg (h : VE C te Γ R) (k : ∀ d, R d → VS C u (Γ.set i (.dat d)) P) : VS C (tSeq (tAsg te (gName i)) u) Γ P :=
  vs_seq (fun Γ' => ∃ d, R d ∧ Γ' = Γ.set i (.dat d)) (vs_asg h fun d r => ⟨d, r, rfl⟩) fun Γ' ⟨d, r, e⟩ => by
    subst e
    exact k d r
theorem vq_asgD (h : VE C te Γ (Is d)) (k : VS C u (Γ.set i (.dat d)) P) : VS C (tSeq (tAsg te (gName i)) u) Γ P := vq_asg h fun _ e => by
  cases e
  exact k
theorem vs_asgD (h : VE C te Γ (Is d)) (k : P.nx (Γ.set i (.dat d))) : VS C (tAsg te (gName i)) Γ P := vs_asg h fun _ e => by
  cases e
  exact k
/-- a target of any form -/
theorem vs_asgG {g : TG} (h : VE C te Γ R) (k : ∀ d, R d → ∃ Γ' js, VG C g d Γ Γ' js ∧ P.nx Γ') : VS C (tAsg te g) Γ P := fun B H σ E F n r b c => h B H σ F _ fun d v B' H' rd s kd => by
  obtain ⟨Γ', js, hg, p⟩ := k d rd
  exact hg.run (F.step s) kd _ fun σ' _ _ F' => n Γ' B' H' σ' p s.ext F'
/-- a new list of one's own -/
theorem vs_own (h : VL C te Γ S) (k : ∀ ds, S ds → P.nx (Γ.set i (.own ds))) : VS C (tAsg te (gName i)) Γ P := fun B H σ E F n r b c => h B H σ F _ fun ds p vs B' H' rd s k1 k2 k3 k4 =>
  n _ B' H' _ (k ds rd) s.ext ((F.step s).setOwn (F.newC k1) k2 k3 k4 fun j es _ hj => F.noOwn k1 hj)
theorem vq_own (h : VL C te Γ S) (k : ∀ ds, S ds → VS C u (Γ.set i (.own ds)) P) : VS C (tSeq (tAsg te (gName i)) u) Γ P :=
  vs_seq (fun Γ' => ∃ d, S d ∧ Γ' = Γ.set i (.own d)) (vs_own h fun d r => ⟨d, r, rfl⟩) fun Γ' ⟨d, r, e⟩ => by
    subst e
    exact k d r
theorem vq_ownD (h : VL C te Γ (Is ds)) (k : VS C u (Γ.set i (.own ds)) P) : VS C (tSeq (tAsg te (gName i)) u) Γ P := vq_own h fun _ e => by
  cases e
  exact k
theorem vs_ret (h : VE C te Γ P.rt) : VS C (tRet te) Γ P := fun B H σ E F n r b c => h B H σ F _ fun d v B' H' rd s kd => r d v B' H' rd (F.st.trans (fun p q e => (F.dl p q e).1) s) kd
theorem vs_retD (h : VE C te Γ (Is d)) (k : P.rt d) : VS C (tRet te) Γ P := vs_ret (h.imp fun _ e => e ▸ k)
/-- from now on one's own list stands for good -/
theorem vs_freeze (i : Nat) (hi : Γ[i]? = some (.own ds)) (k : VS C t (Γ.set i (.dat (.list ds))) P) : VS C t Γ P := fun B H σ E F n r b c => by
  obtain ⟨B', _, s2, F'⟩ := F.freeze hi
  exact k B' H σ E F' (fun Γ2 B2 H2 σ2 p s => n Γ2 B2 H2 σ2 p (s2.trans s)) r (fun Γ2 B2 H2 σ2 p s => b Γ2 B2 H2 σ2 p (s2.trans s)) fun Γ2 B2 H2 σ2 p s => c Γ2 B2 H2 σ2 p (s2.trans s)
theorem vs_retOwn (i : Nat) (hi : Γ[i]? = some (.own ds)) (k : P.rt (.list ds)) : VS C (tRet (tVar i)) Γ P :=
  vs_freeze i hi (vs_retD (ve_var (List.getElem?_set_self (List.getElem?_eq_some_iff.mp hi).1)) k)
theorem vs_if {Q : Bool → Prop} (h : VT C tt Γ Q) (h1 : Q true → VS C t Γ P) (h2 : Q false → VS C u Γ P) : VS C (tIfS tt t u) Γ P := fun B H σ E F n r b c => h B H σ F _ fun x B' H' q s => by
  cases x with
  | true => exact iteT (h1 q B' H' σ E (F.step s) (fun Γ2 B2 H2 σ2 p s2 => n Γ2 B2 H2 σ2 p (s.ext.trans s2)) r (fun Γ2 B2 H2 σ2 p s2 => b Γ2 B2 H2 σ2 p (s.ext.trans s2)) fun Γ2 B2 H2 σ2 p s2 => c Γ2 B2 H2 σ2 p (s.ext.trans s2))
  | false => exact iteF (h2 q B' H' σ E (F.step s) (fun Γ2 B2 H2 σ2 p s2 => n Γ2 B2 H2 σ2 p (s.ext.trans s2)) r (fun Γ2 B2 H2 σ2 p s2 => b Γ2 B2 H2 σ2 p (s.ext.trans s2)) fun Γ2 B2 H2 σ2 p s2 => c Γ2 B2 H2 σ2 p (s.ext.trans s2))
theorem vs_ifD {x : Bool} (h : VT C tt Γ (Is x)) (h1 : x = true → VS C t Γ P) (h2 : x = false → VS C u Γ P) : VS C (tIfS tt t u) Γ P := vs_if h (fun e => h1 e.symm) fun e => h2 e.symm
/-- an if that leaves or goes on to the rest -/
theorem vq_if {Q : Bool → Prop} {t2 : TS} (h : VT C tt Γ Q) (h1 : Q true → VS C (tSeq t u) Γ P) (h2 : Q false → VS C (tSeq t2 u) Γ P) : VS C (tSeq (tIfS tt t t2) u) Γ P := fun B H σ E F n r b c => h B H σ F _ fun x B' H' q s => by
  cases x with
  | true => exact iteT (h1 q B' H' σ E (F.step s) (fun Γ2 B2 H2 σ2 p s2 => n Γ2 B2 H2 σ2 p (s.ext.trans s2)) r (fun Γ2 B2 H2 σ2 p s2 => b Γ2 B2 H2 σ2 p (s.ext.trans s2)) fun Γ2 B2 H2 σ2 p s2 => c Γ2 B2 H2 σ2 p (s.ext.trans s2))
  | false => exact iteF (h2 q B' H' σ E (F.step s) (fun Γ2 B2 H2 σ2 p s2 => n Γ2 B2 H2 σ2 p (s.ext.trans s2)) r (fun Γ2 B2 H2 σ2 p s2 => b Γ2 B2 H2 σ2 p (s.ext.trans s2)) fun Γ2 B2 H2 σ2 p s2 => c Γ2 B2 H2 σ2 p (s.ext.trans s2))
theorem vq_ifD {x : Bool} {t2 : TS} (h : VT C tt Γ (Is x)) (h1 : x = true → VS C (tSeq t u) Γ P) (h2 : x = false → VS C (tSeq t2 u) Γ P) : VS C (tSeq (tIfS tt t t2) u) Γ P := vq_if h (fun e => h1 e.symm) fun e => h2 e.symm
/-- a statement that leaves: what stands behind it is not come to -/
theorem vq_leave (h : VS C t Γ { P with nx := fun _ => False }) : VS C (tSeq t u) Γ P := vs_seq (fun _ => False) h fun _ e => e.elim
theorem vq_next (h : VS C u Γ P) : VS C (tSeq tNext u) Γ P := vs_then Γ (vs_next rfl) h
theorem vs_drop (h : VV C te Γ R) (k : P.nx Γ) : VS C (tDrop te) Γ P := fun B H σ E F n r b c => h B H σ F _ fun d v B' H' rd s kd => n Γ B' H' σ k s.ext (F.step s)
theorem own_ty {K : PySem.W.Frag} {H : Hp} {p : Addr} {vs : List V} (h : H p = some (.lst vs)) : tyV K "list" (.ref p) H := Or.inl ⟨rfl, vs, Or.inl (Or.inl h)⟩
theorem sz6 {n : Nat} (h : n < 100000) : n < sizeLine := Nat.lt_of_lt_of_le h (by decide)
/-- xs.append(e) -/
theorem vs_app (hi : Γ[i]? = some (.own ds)) (h : VE C te Γ R) (hz : ds.length < 100000) (k : ∀ d, R d → P.nx (Γ.set i (.own (ds ++ [d])))) : VS C (tDrop (tBM C.K "list" rAppend (tVar i) (tCons te tNil))) Γ P := fun B H σ E F n r b c => by
  obtain ⟨p, vs, e, hC, hB, hp, hd⟩ := F.hasOwn hi
  refine ⟨.ref p, e, own_ty hp, h B H σ F _ fun d v B' H' rd s kd => ?_⟩
  have hp' := s.keep p _ hp (F.notMd hC)
  refine ⟨p, vs, v, rfl, rfl, hp', sz6 (by rw [dpall_len hd]; exact hz), ?_⟩
  exact n _ B' _ σ (k d rd) s.ext ((F.step s).mutOwn hi e (dpall_app (dpall_mono s.ext hd) (dpall_one kd)))
theorem vq_app (hi : Γ[i]? = some (.own ds)) (h : VE C te Γ R) (hz : ds.length < 100000) (k : ∀ d, R d → VS C u (Γ.set i (.own (ds ++ [d]))) P) : VS C (tSeq (tDrop (tBM C.K "list" rAppend (tVar i) (tCons te tNil))) u) Γ P :=
  vs_seq (fun Γ' => ∃ d, R d ∧ Γ' = Γ.set i (.own (ds ++ [d]))) (vs_app hi h hz fun d r => ⟨d, r, rfl⟩) fun Γ' ⟨d, r, e⟩ => by
    subst e
    exact k d r
/-- xs[e1] = e2 -/
theorem vs_setAt {k : Nat} {z : Int} (hi : Γ[i]? = some (.own ds)) (h : VE C te Γ R) (hx : VE C ta Γ (Is (.int z))) (hk : ixN ds.length z = some k) (q : ∀ d, R d → P.nx (Γ.set i (.own (ds.set k d)))) :
    VS C (tAsg te (gSub (tVar i) ta rSetL)) Γ P := fun B H σ E F n r b c => h B H σ F _ fun d v B1 H1 rd s kd => by
  obtain ⟨p, vs, e, hC, hB, hp, hd⟩ := F.hasOwn hi
  have F1 := F.step s
  refine ⟨.ref p, e, hx B1 H1 σ F1 _ fun x w B2 H2 ex s2 k2 => ?_⟩
  cases ex
  obtain rfl := dp_int k2
  have hp' := s2.keep p _ (s.keep p _ hp (F.notMd hC)) (F.notMd hC)
  refine ⟨p, vs, z, k, rfl, rfl, hp', by rw [dpall_len hd]; exact hk, ?_⟩
  exact n _ B2 _ σ (q d rd) (s.ext.trans s2.ext) ((F1.step s2).mutOwn hi e (dpall_set (dp_mono s2.ext kd) k (dpall_mono (s.ext.trans s2.ext) hd)))
/-- x += e, of ints -/
theorem vs_aug {ti : TIp} {a : D} (ha : Γ[i]? = some (.dat a)) (h : VE C te Γ R) (hr : ∀ d, R d → ∃ z, OD C ti a d (Is z) ∧ P.nx (Γ.set i (.dat z))) : VS C (tAug i te ti) Γ P := fun B H σ E F n r b c => by
  obtain ⟨v, e, hv⟩ := F.has ha
  refine ⟨v, e, h B H σ F _ fun d w B1 H1 rd s kd => ?_⟩
  obtain ⟨z, ho, hp⟩ := hr d rd
  exact ho B1 H1 v w (F.step s).sub (Or.inl (dp_mono s.ext hv)) (Or.inl kd) _ fun z' w' B2 H2 ez s2 k2 => by
    cases ez
    exact n _ B2 H2 _ hp (s.ext.trans s2.ext) (((F.step s).step s2).set k2)
/-! a, b = e1, e2: data or new lists -/
theorem vs_parEE {R2 : D → Prop} (h1 : VE C ta Γ R) (h2 : VE C tb Γ R2) (k : ∀ x y, R x → R2 y → P.nx ((Γ.set i (.dat x)).set j (.dat y))) : VS C (tPar i j (tCons ta (tCons tb tNil))) Γ P := fun B H σ E F n r b c =>
  h1 B H σ F _ fun x v B1 H1 r1 s1 k1 => h2 B1 H1 σ (F.step s1) _ fun y w B2 H2 r2 s2 k2 => ⟨v, w, rfl, n _ B2 H2 _ (k x y r1 r2) (s1.ext.trans s2.ext) ((((F.step s1).step s2).set (dp_mono s2.ext k1)).set k2)⟩
theorem vs_parLE {R2 : D → Prop} (h1 : VL C ta Γ S) (h2 : VE C tb Γ R2) (k : ∀ x y, S x → R2 y → P.nx ((Γ.set i (.own x)).set j (.dat y))) : VS C (tPar i j (tCons ta (tCons tb tNil))) Γ P := fun B H σ E F n r b c =>
  h1 B H σ F _ fun ds p vs B1 H1 r1 s1 e1 e2 e3 e4 => h2 B1 H1 σ (F.step s1) _ fun y w B2 H2 r2 s2 k2 => ⟨_, w, rfl, n _ B2 H2 _ (k ds y r1 r2) (s1.ext.trans s2.ext) ((((F.step s1).step s2).setOwn (F.newC e1) (s2.out p (by rw [e3]; simp) e2)
    (s2.keep p _ e3 (F.notMd (F.newC e1))) (dpall_mono s2.ext e4) fun j es _ hj => F.noOwn e1 hj).set k2)⟩
theorem vs_parEL {R2 : D → Prop} (h1 : VE C ta Γ R2) (h2 : VL C tb Γ S) (k : ∀ x y, R2 x → S y → P.nx ((Γ.set i (.dat x)).set j (.own y))) : VS C (tPar i j (tCons ta (tCons tb tNil))) Γ P := fun B H σ E F n r b c =>
  h1 B H σ F _ fun x v B1 H1 r1 s1 k1 => h2 B1 H1 σ (F.step s1) _ fun ds p vs B2 H2 r2 s2 e1 e2 e3 e4 => ⟨v, _, rfl, n _ B2 H2 _ (k x ds r1 r2) (s1.ext.trans s2.ext) ((((F.step s1).step s2).set (dp_mono s2.ext k1)).setOwn ((F.step s1).newC e1) e2 e3 e4
    fun j' es nj hj => by
      by_cases hij : i = j'
      · subst hij
        by_cases hl : i < Γ.length
        · rw [List.getElem?_set_self hl] at hj
          cases hj
        · rw [List.getElem?_eq_none_iff.mpr (by rw [List.length_set]; omega)] at hj
          cases hj
      · rw [List.getElem?_set_ne hij] at hj
        rw [List.getElem?_set_ne hij]
        exact (F.step s1).noOwn e1 hj)⟩
theorem vs_parLL {S2 : List D → Prop} (h1 : VL C ta Γ S) (h2 : VL C tb Γ S2) (k : ∀ x y, S x → S2 y → P.nx ((Γ.set i (.own x)).set j (.own y))) : VS C (tPar i j (tCons ta (tCons tb tNil))) Γ P := fun B H σ E F n r b c =>
  h1 B H σ F _ fun ds p vs B1 H1 r1 s1 e1 e2 e3 e4 => h2 B1 H1 σ (F.step s1) _ fun es q us B2 H2 r2 s2 g1 g2 g3 g4 => ⟨_, _, rfl, n _ B2 H2 _ (k ds es r1 r2) (s1.ext.trans s2.ext) ((((F.step s1).step s2).setOwn (F.newC e1) (s2.out p (by rw [e3]; simp) e2)
    (s2.keep p _ e3 (F.notMd (F.newC e1))) (dpall_mono s2.ext e4) fun j es _ hj => F.noOwn e1 hj).setOwn ((F.step s1).newC g1) g2 g3 g4 fun j' xs nj hj => by
      by_cases hij : i = j'
      · subst hij
        by_cases hl : i < σ.length
        · rw [List.getElem?_set_self hl]
          intro z
          injection z with z
          injection z with z
          injection z with z
          subst z
          rw [e3] at g1
          cases g1
        · rw [List.getElem?_eq_none_iff.mpr (by rw [List.length_set]; omega)]
          exact fun z => nomatch z
      · rw [List.getElem?_set_ne hij] at hj
        rw [List.getElem?_set_ne hij]
        exact (F.step s1).noOwn g1 hj)⟩
/-! ### loops -/
/-- while: W by a measure -/
theorem vs_while (W : Nat → List Sl → Prop) (m0 : Nat) (h0 : W m0 Γ) (hs : ∀ m Γ', W m Γ' → ∃ Q : Bool → Prop, VT C tt Γ' Q ∧
    (Q true → VS C t Γ' { nx := fun Γ2 => ∃ m', m' < m ∧ W m' Γ2, rt := P.rt, bk := P.nx, ct := fun Γ2 => ∃ m', m' < m ∧ W m' Γ2 }) ∧ (Q false → P.nx Γ')) : VS C (tWhile tt t) Γ P := fun B H σ E F n r b c => by
  refine ⟨fun m σ' H' => ∃ Γ' B', W m Γ' ∧ Same B B' ∧ Fm C B' H' σ' Γ', ⟨m0, Γ, B, h0, Same.refl B, F⟩, ?_⟩
  rintro m σ1 H1 ⟨Γ1, B1, w, s, F1⟩
  obtain ⟨Q, hq, h1, h2⟩ := hs m Γ1 w
  refine hq B1 H1 σ1 F1 _ fun x B2 H2 q s2 => ?_
  cases x with
  | true =>
    refine iteT ⟨fun σ' H' => ∃ m', m' < m ∧ ∃ Γ' B', W m' Γ' ∧ Same B B' ∧ Fm C B' H' σ' Γ', fun σ' H' h => h, ?_⟩
    have nxt : ∀ Γ' B' H' σ', (∃ m', m' < m ∧ W m' Γ') → Same B2 B' → Fm C B' H' σ' Γ' → ∃ m', m' < m ∧ ∃ Γ' B', W m' Γ' ∧ Same B B' ∧ Fm C B' H' σ' Γ' :=
      fun Γ' B' H' σ' ⟨m', l, w'⟩ s' F' => ⟨m', l, Γ', B', w', (s.trans s2.ext).trans s', F'⟩
    exact h1 q B2 H2 σ1 _ (F1.step s2) nxt r (fun Γ' B' H' σ' p s' F' => n Γ' B' H' σ' p ((s.trans s2.ext).trans s') F') nxt
  | false => exact iteF (n Γ1 B2 H2 σ1 (h2 q) (s.trans s2.ext) (F1.step s2))
/-- for: Inv by the turn -/
theorem vs_for {wi : TI} {g : TG} (h : VI C wi Γ S) (k : ∀ ds, S ds → ∃ Inv : Nat → List Sl → Prop, Inv 0 Γ ∧ (∀ (i : Nat) d Γ', ds[i]? = some d → Inv i Γ' → ∃ Γ1 js, VG C g d Γ' Γ1 js ∧
    VS C t Γ1 { nx := Inv (i + 1), rt := P.rt, bk := P.nx, ct := Inv (i + 1) }) ∧ ∀ Γ', Inv ds.length Γ' → P.nx Γ') : VS C (tFor wi g t) Γ P := fun B H σ E F n r b c =>
  h B H σ F _ fun ds J B1 H1 G Y rd s w hG hY => by
    obtain ⟨Inv, i0, turn, fin⟩ := k ds rd
    refine for_it w (fun i σ' H' => ∃ Γ' B', Inv i Γ' ∧ Same B1 B' ∧ Fm C B' H' σ' Γ') ⟨Γ, B1, i0, Same.refl B1, F.step s⟩ (fun i σ' H' _ ⟨Γ', B', _, s', F'⟩ => hG B' H' s' F'.sub) ?_ ?_
    · rintro i x σ1 H1 H1' hi ⟨Γ', B', iv, s', F'⟩ y
      have hd : ds[i]? = some ds[i] := List.getElem?_eq_getElem hi
      obtain ⟨B2, st, kd⟩ := hY i x H1 H1' y B' ds[i] s' F'.sub hd
      obtain ⟨Γ1, js, hg, hb⟩ := turn i ds[i] Γ' hd iv
      have F2 := F'.step st
      refine hg.run F2 kd _ fun σ2 _ _ F3 => ?_
      have nxt : ∀ Γ'' B'' H'' σ'', Inv (i + 1) Γ'' → Same B2 B'' → Fm C B'' H'' σ'' Γ'' → ∃ Γ' B', Inv (i + 1) Γ' ∧ Same B1 B' ∧ Fm C B' H'' σ'' Γ' := fun Γ'' B'' H'' σ'' iv' s'' F'' => ⟨Γ'', B'', iv', (s'.trans st.ext).trans s'', F''⟩
      exact hb B2 H1' σ2 _ F3 nxt r (fun Γ'' B'' H'' σ'' p s'' F'' => n Γ'' B'' H'' σ'' p (((s.ext.trans s').trans st.ext).trans s'') F'') nxt
    · rintro σ1 H1 ⟨Γ', B', iv, s', F'⟩
      exact n Γ' B' H1 σ1 (fin Γ' iv) (s.ext.trans s') F'
end
end Ly

/-! LyE: comprehensions; what loops walk (list, tuple, text, range, enumerate of a text); what a def promises (Pu, De) and its call. -/
namespace Ly
open PySem PySem.Spec PyProof.Rows L2

/-! ### an object of one's own that no name tells -/
section
variable {dl : Option (Addr × Addr)} {B H B' H' : Hp} {p : Addr} {o : HO} {C : Cn} {σ : L2.St} {Γ : List Sl} {vs : List Nat}
theorem Stp.poke (hd : ∀ p q, dl = some (p, q) → DealAt H p q) (s : Stp dl B H B' H') (h : H p = none) (hB : B' p = none) (np : ∀ o', H' p = some o' → NoTab o') : Stp dl B H B' (upd H' p o) := by
  refine ⟨s.ext, fun a u e => ?_, fun a u e m n => ?_, s.out, fun r q e d => ?_, stay_upd s.stay, fun T t => tabs_upd (s.tab T t) np, s.bt⟩
  · rw [upd_ne (ne_of_none e hB)]
    exact s.sub a u e
  · rw [upd_ne (ne_of_none e h)]
    exact s.keepN a u e m n
  · obtain ⟨ne, ns, b, h1, h2, rest⟩ := s.deal r q e d
    have d0 := hd r q e
    have n1 : r ≠ p := fun z => d0.there (Or.inl rfl) (z ▸ h)
    have n2 : q ≠ p := fun z => d0.there (Or.inr rfl) (z ▸ h)
    exact ⟨ne, ns, b, by rw [upd_ne n1]; exact h1, by rw [upd_ne n2]; exact h2, rest⟩
theorem Fm.poke (F : Fm C B H σ Γ) (hC : C.H p = none) (hB : B p = none) (np : ∀ o', H p = some o' → NoTab o') (hn : ∀ (j : Nat) es, Γ[j]? = some (.own es) → σ[j]? ≠ some (some (.ref p))) (hd : ∀ (j : Nat) es, Γ[j]? = some (.odk es) → σ[j]? ≠ some (some (.ref p))) : Fm C B (upd H p o) σ Γ := by
  refine ⟨F.st.poke (fun p q e => (F.dl p q e).1) hC hB np, F.dl, F.len, fun i sl e => ?_, F.inj⟩
  have k := F.slot i sl e
  cases sl with
  | no => trivial
  | dat d => exact k
  | own ds =>
    obtain ⟨r, zs, k1, k2, k3, k4, k5⟩ := k
    have nr : r ≠ p := fun z => hn i ds e (z ▸ k1)
    exact ⟨r, zs, k1, k2, k3, by rw [upd_ne nr]; exact k4, k5⟩
  | deal => exact k
  | rd vs => exact k
  | exr a => exact k
  | odk kvs =>
    obtain ⟨r, zs, k1, k2, k3, k4, k5⟩ := k
    have nr : r ≠ p := fun z => hd i kvs e (z ▸ k1)
    exact ⟨r, zs, k1, k2, k3, by rw [upd_ne nr]; exact k4, k5⟩
/-- the names of a comprehension are taken away -/
def wipeS (Γ : List Sl) : List Nat → List Sl
  | [] => Γ
  | v :: vs => (wipeS Γ vs).set v .no
theorem Fm.wipe (F : Fm C B H σ Γ) : ∀ vs : List Nat, Fm C B H (wipe σ vs) (wipeS Γ vs)
  | [] => F
  | v :: vs => (Fm.wipe F vs).drop none
theorem wipe_get {a b : L2.St} (hl : a.length = b.length) : ∀ vs : List Nat, (∀ i, i ∉ vs → a[i]? = b[i]?) → wipe a vs = wipe b vs := by
  intro vs h
  apply List.ext_getElem?
  intro i
  have key : ∀ (ws : List Nat) (x y : L2.St), x.length = y.length → (i ∈ ws ∨ x[i]? = y[i]?) → (wipe x ws)[i]? = (wipe y ws)[i]? := by
    intro ws
    induction ws with
    | nil =>
      intro x y _ k
      rcases k with k | k
      · cases k
      · exact k
    | cons w ws ih =>
      intro x y e k
      show ((wipe x ws).set w none)[i]? = ((wipe y ws).set w none)[i]?
      by_cases hw : w = i
      · subst hw
        by_cases hlt : w < x.length
        · rw [List.getElem?_set_self (by rw [wipe_length]; exact hlt), List.getElem?_set_self (by rw [wipe_length]; omega)]
        · rw [List.getElem?_eq_none_iff.mpr (by rw [List.length_set, wipe_length]; omega), List.getElem?_eq_none_iff.mpr (by rw [List.length_set, wipe_length]; omega)]
      · rw [List.getElem?_set_ne hw, List.getElem?_set_ne hw]
        refine ih x y e ?_
        rcases k with k | k
        · rcases List.mem_cons.mp k with z | z
          · exact absurd z.symm hw
          · exact Or.inl z
        · exact Or.inr k
  by_cases hi : i ∈ vs
  · exact key vs a b hl (Or.inl hi)
  · exact key vs a b hl (Or.inr (h i hi))
end

theorem wipe_ne {σ : L2.St} {i : Nat} : ∀ {vs : List Nat}, i ∉ vs → (wipe σ vs)[i]? = σ[i]?
  | [], _ => rfl
  | v :: vs, h => by
    show ((wipe σ vs).set v none)[i]? = σ[i]?
    rw [List.getElem?_set_ne (fun z => h (by simp [z])), wipe_ne fun z => h (List.mem_cons_of_mem _ z)]

/-! ### comprehensions -/
section
variable {C : Cn} {Γ : List Sl} {wi : TI} {g : TG} {tt : TT} {te : TE} {vs : List Nat} {S S' : List D → Prop}
/-- [e for x in xs if t]: Inv by the turn and what is made so far -/
theorem vl_lc (h : VI C wi Γ S) (k : ∀ ds, S ds → ds.length ≤ 100000 ∧ ∃ Inv : Nat → List D → Prop, Inv 0 [] ∧
    (∀ (i : Nat) d acc, ds[i]? = some d → Inv i acc → ∃ Γ1 js, VG C g d (wipeS Γ vs) Γ1 js ∧ (∀ j ∈ js, j ∈ vs) ∧
      ∃ T : Bool → Prop, VT C tt Γ1 T ∧ (T true → VE C te Γ1 (fun y => Inv (i + 1) (acc ++ [y]))) ∧ (T false → Inv (i + 1) acc)) ∧ ∀ acc, Inv ds.length acc → S' acc) : VL C (tLc wi g tt te vs) Γ S' := fun B H σ F Q q =>
  h B H σ F _ fun ds J B1 H1 G Y rd s w hG hY A hA => by
    obtain ⟨hz, Inv, i0, turn, fin⟩ := k ds rd
    have F1 := F.step s
    have hAC : C.H A = none := F1.newC hA
    have hAB : B1 A = none := F1.sub.free hA
    have hA0 : H A = none := back_none F s hA
    have nM : ¬ Md C.dl A := F.notMd hAC
    have own1 : ∀ (j : Nat) es, (wipeS Γ vs)[j]? = some (.own es) → (wipe σ vs)[j]? ≠ some (some (.ref A)) := fun j es hj => (F1.wipe vs).noOwn hA hj
    have ownD : ∀ (j : Nat) es, Γ[j]? = some (.odk es) → σ[j]? ≠ some (some (.ref A)) := fun j es hj => F1.noDk (fun ws z => by rw [hA] at z; cases z) hj
    have own0 : ∀ (j : Nat) es, Γ[j]? = some (.own es) → σ[j]? ≠ some (some (.ref A)) := fun j es hj => F1.noOwn hA hj
    refine lc_it w (fun i H' => ∃ B' acc us, Inv i acc ∧ acc.length ≤ i ∧ Same B1 B' ∧ Stp C.dl B H B' H' ∧ Fm C B' H' σ Γ ∧ B' A = none ∧ H' A = some (.lst us) ∧ DqAll C.K B' us acc) ?_ ?_ ?_ ?_
    · exact ⟨B1, [], [], i0, Nat.le_refl _, Same.refl _, s.poke F.dlNow hA0 hAB (np_none hA), F1.poke hAC hAB (np_none hA) own0 ownD, hAB, upd_same, .nil⟩
    · rintro i H' _ ⟨B', acc, us, _, _, s', _, F', _⟩
      exact hG B' H' s' F'.sub
    · rintro i x H2 H2' hi ⟨B', acc, us, iv, la, s', st', F', oB, oA, da⟩ y
      have hd : ds[i]? = some ds[i] := List.getElem?_eq_getElem hi
      obtain ⟨B2, st, kd⟩ := hY i x H2 H2' y B' ds[i] s' F'.sub hd
      obtain ⟨Γ1, js, hg, hjs, T, ht, hy, hn⟩ := turn i ds[i] acc hd iv
      have F2 : Fm C B2 H2' σ Γ := F'.step st
      have st2 : Stp C.dl B H B2 H2' := st'.trans F.dlNow st
      have oA2 : H2' A = some (.lst us) := st.keep A _ oA nM
      have oB2 : B2 A = none := st.out A (by rw [oA]; simp) oB
      refine hg.run (F2.wipe vs) kd _ fun σ2 l2 e2 F3 => ⟨?_, ?_⟩
      · refine wipe_get (l2.trans (wipe_length σ vs)) vs fun j hj => ?_
        rw [e2 j (fun z => hj (hjs j z)), wipe_ne hj]
      · refine ht B2 H2' σ2 F3 _ fun b B3 H3 rb s3 => ?_
        have oA3 : H3 A = some (.lst us) := s3.keep A _ oA2 nM
        have oB3 : B3 A = none := s3.out A (by rw [oA2]; simp) oB2
        have st3 : Stp C.dl B H B3 H3 := st2.trans F.dlNow s3
        cases b with
        | false => exact iteF ⟨B3, acc, us, hn rb, Nat.le_succ_of_le la, (s'.trans st.ext).trans s3.ext, st3, F2.step s3, oB3, oA3, dpall_mono (st.ext.trans s3.ext) da⟩
        | true =>
          refine iteT (hy rb B3 H3 σ2 (F3.step s3) _ fun d' v' B4 H4 ry s4 kd4 => ?_)
          have oA4 : H4 A = some (.lst us) := s4.keep A _ oA3 nM
          have oB4 : B4 A = none := s4.out A (by rw [oA3]; simp) oB3
          have st4 : Stp C.dl B H B4 H4 := st3.trans F.dlNow s4
          have hda : DqAll C.K B4 us acc := dpall_mono ((st.ext.trans s3.ext).trans s4.ext) da
          refine ⟨us, oA4, sz6 (by rw [dpall_len hda]; omega), B4, acc ++ [d'], us ++ [v'], ry, by rw [List.length_append]; exact Nat.succ_le_succ la, ((s'.trans st.ext).trans s3.ext).trans s4.ext, ?_, ?_, oB4, upd_same, dpall_app hda (dpall_one kd4)⟩
          · exact st4.poke F.dlNow hA0 oB4 (np_lst oA4)
          · exact ((F2.step s3).step s4).poke hAC oB4 (np_lst oA4) own0 ownD
    · rintro H' ⟨B', acc, us, iv, _, s', st', F', oB, oA, da⟩
      exact q acc A us B' H' (fin acc iv) st' hA0 oB oA da
/-- one after another, told by functions -/
theorem vl_lcD {ds : List D} (f : D → Bool) (v : D → D) (h : VI C wi Γ (Is ds)) (hz : ds.length ≤ 100000) (k : ∀ d ∈ ds, ∃ Γ1 js, VG C g d (wipeS Γ vs) Γ1 js ∧ (∀ j ∈ js, j ∈ vs) ∧ VT C tt Γ1 (Is (f d)) ∧ (f d = true → VE C te Γ1 (Is (v d)))) :
    VL C (tLc wi g tt te vs) Γ (Is ((ds.filter f).map v)) := vl_lc h fun xs e => by
  cases e
  refine ⟨hz, fun i acc => acc = ((ds.take i).filter f).map v, rfl, fun i d acc hd iv => ?_, fun acc iv => by rw [iv, List.take_length]⟩
  obtain ⟨Γ1, js, hg, hjs, ht, he⟩ := k d (List.mem_of_getElem? hd)
  refine ⟨Γ1, js, hg, hjs, Is (f d), ht, fun e => (he e.symm).imp fun y ey => ?_, fun e => ?_⟩
  · subst ey iv
    rw [List.take_add_one, hd, List.filter_append, List.map_append]
    show _ = _ ++ List.map v (List.filter f [d])
    rw [List.filter_cons, if_pos e.symm] <;> rfl
  · subst iv
    rw [List.take_add_one, hd, List.filter_append, List.map_append]
    show _ = _ ++ List.map v (List.filter f [d])
    rw [List.filter_cons, if_neg (by rw [← e]; decide)]
    exact (List.append_nil _).symm
/-- without a test -/
theorem vl_map {ds : List D} (v : D → D) (h : VI C wi Γ (Is ds)) (hz : ds.length ≤ 100000) (k : ∀ d ∈ ds, ∃ Γ1 js, VG C g d (wipeS Γ vs) Γ1 js ∧ (∀ j ∈ js, j ∈ vs) ∧ VE C te Γ1 (Is (v d))) :
    VL C (tLc wi g tYes te vs) Γ (Is (ds.map v)) := (vl_lcD (fun _ => true) v h hz fun d hd => by
  obtain ⟨Γ1, js, hg, hjs, he⟩ := k d hd
  exact ⟨Γ1, js, hg, hjs, fun B H σ F Q q => q true B H rfl (Stp.refl F.sub), fun _ => he⟩).to (by rw [List.filter_eq_self.mpr fun _ _ => rfl])
theorem vt_yes : VT C tYes Γ (Is true) := fun B H σ F Q q => q true B H rfl (Stp.refl F.sub)
end

/-! ### what is walked -/
section
variable {C : Cn} {Γ : List Sl} {t te : TE} {ta : TA} {ds : List D} {R : D → Prop} {S : List D → Prop} {X : Cx}
theorem vi_list (h : VE C t Γ (fun d => ∃ ds, d = .list ds ∧ S ds)) : VI C (iList C.K t) Γ S := fun B H σ F T q => h B H σ F _ fun d v B1 H1 ⟨ds, e, r⟩ s k => by
  subst e
  obtain ⟨a, xs, rfl, h1, h2⟩ := dp_lst k
  refine ⟨a, rfl, ⟨xs, same_l (F.step s).sub h1⟩, q ds _ B1 H1 _ _ r s (dpall_len h2 ▸ walk_list) (fun B2 H2 e1 e2 => same_l e2 (same_l e1 h1)) ?_⟩
  rintro i x H2 H2' ⟨rfl, hx⟩ B2 d e1 e2 hd
  obtain ⟨v, hv, k2⟩ := dpall_get h2 hd
  rw [hx] at hv
  cases hv
  exact ⟨B2, Stp.refl e2, dp_mono e1 k2⟩
theorem vi_listD (h : VE C t Γ (Is (.list ds))) : VI C (iList C.K t) Γ (Is ds) := vi_list (h.imp fun d e => ⟨ds, e, rfl⟩)
theorem vi_tup (h : VE C t Γ (fun d => ∃ ds, d = .tuple ds ∧ S ds)) : VI C (iTup C.K t) Γ S := fun B H σ F T q => h B H σ F _ fun d v B1 H1 ⟨ds, e, r⟩ s k => by
  subst e
  obtain ⟨a, xs, rfl, h1, h2⟩ := dp_tup k
  refine ⟨a, rfl, ⟨xs, same_t (F.step s).sub h1⟩, q ds _ B1 H1 _ _ r s (dpall_len h2 ▸ walk_tup) (fun B2 H2 e1 e2 => same_t e2 (same_t e1 h1)) ?_⟩
  rintro i x H2 H2' ⟨rfl, hx⟩ B2 d e1 e2 hd
  obtain ⟨v, hv, k2⟩ := dpall_get h2 hd
  rw [hx] at hv
  cases hv
  exact ⟨B2, Stp.refl e2, dp_mono e1 k2⟩
theorem vi_tupD (h : VE C t Γ (Is (.tuple ds))) : VI C (iTup C.K t) Γ (Is ds) := vi_tup (h.imp fun d e => ⟨ds, e, rfl⟩)
/-- the signs of a text, each a text -/
def signs (z : Str) : List D := z.cps.toList.map fun c => .str ⟨#[c]⟩
theorem signs_len (z : Str) : (signs z).length = z.cps.size := by simp [signs]
theorem vi_str {z : Str} (h : VE C t Γ (Is (.str z))) : VI C (iStr t) Γ (Is (signs z)) := fun B H σ F T q => h B H σ F _ fun d v B1 H1 r s k => by
  cases r
  obtain rfl := dp_str k
  refine ⟨z, rfl, q _ _ B1 H1 _ _ rfl s (signs_len z ▸ walk_str) (fun _ _ _ _ => trivial) ?_⟩
  rintro i x H2 H2' ⟨rfl, c, hc, rfl⟩ B2 d e1 e2 hd
  have hd' : (signs z)[i]? = some (.str ⟨#[c]⟩) := by
    unfold signs
    rw [List.getElem?_map, Array.getElem?_toList, hc]
    rfl
  rw [hd'] at hd
  cases hd
  exact ⟨B2, Stp.refl e2, .str _⟩
/-- the ints of a range -/
def upTo (lo : Int) (n : Nat) : List D := (List.range n).map fun i => .int (lo + (i : Nat))
theorem upTo_len (lo : Int) (n : Nat) : (upTo lo n).length = n := by simp [upTo]
theorem upTo_get {lo : Int} {n i : Nat} {d : D} (h : (upTo lo n)[i]? = some d) : i < n ∧ d = .int (lo + (i : Nat)) := by
  unfold upTo at h
  rw [List.getElem?_map] at h
  by_cases hi : i < n
  · rw [List.getElem?_range hi] at h
    cases h
    exact ⟨hi, rfl⟩
  · rw [List.getElem?_eq_none_iff.mpr (by simpa using hi)] at h
    cases h
theorem upTo_mem {lo : Int} {n : Nat} {d : D} (h : d ∈ upTo lo n) : ∃ i, i < n ∧ d = .int (lo + (i : Nat)) := by
  obtain ⟨i, hi⟩ := List.getElem?_of_mem h
  exact ⟨i, upTo_get hi⟩
theorem vi_rng1 {S : List D → Prop} {R : Int → Prop} (h : VE C te Γ (fun d => ∃ n, d = .int n ∧ R n)) (k : ∀ n, R n → -(2 ^ 62) ≤ n ∧ n < 2 ^ 62 ∧ S (upTo 0 n.toNat)) : VI C (iRng1 (tCons te tNil)) Γ S := fun B H σ F T q => h B H σ F _ fun d v B1 H1 ⟨n, e, r⟩ s kd => by
  subst e
  obtain rfl := dp_int kd
  obtain ⟨h1, h2, h3⟩ := k n r
  refine ⟨n, rfl, h1, h2, q _ _ B1 H1 (fun _ => True) (YFn fun i => .int (0 + (i : Nat))) h3 s (by rw [upTo_len]; exact walk_range) (fun _ _ _ _ => trivial) ?_⟩
  rintro i x H2 H2' ⟨rfl, rfl⟩ B2 d e1 e2 hd
  obtain ⟨_, rfl⟩ := upTo_get hd
  exact ⟨B2, Stp.refl e2, .int _⟩
theorem vi_rng1D {n : Int} (h : VE C te Γ (Is (.int n))) (hn : n ≤ 1000000000000 := by omega) (hm : -1000000000000 ≤ n := by omega) : VI C (iRng1 (tCons te tNil)) Γ (Is (upTo 0 n.toNat)) := vi_rng1 (R := Is n) (h.imp fun d e => ⟨n, e, rfl⟩) fun m e => by
  cases e
  exact ⟨by omega, by omega, rfl⟩
theorem vi_rng2D {t2 : TE} {m n : Int} (h : VE C te Γ (Is (.int m))) (h2 : VE C t2 Γ (Is (.int n))) (b : -1000000000000 ≤ m ∧ m ≤ 1000000000000 ∧ -1000000000000 ≤ n ∧ n ≤ 1000000000000) : VI C (iRng2 (tCons te (tCons t2 tNil))) Γ (Is (upTo m (n - m).toNat)) := fun B H σ F T q =>
  h B H σ F _ fun d v B1 H1 e s kd => h2 B1 H1 σ (F.step s) _ fun d2 v2 B2 H2 e2 s2 kd2 => by
    cases e
    cases e2
    obtain rfl := dp_int kd
    obtain rfl := dp_int kd2
    refine ⟨m, n, rfl, ⟨by omega, by omega, by omega, by omega⟩, q _ _ B2 H2 (fun _ => True) (YFn fun i => .int (m + (i : Nat))) rfl (s.trans F.dlNow s2) (by rw [upTo_len]; exact walk_range) (fun _ _ _ _ => trivial) ?_⟩
    rintro i x H3 H3' ⟨rfl, rfl⟩ B3 d e1 e2 hd
    obtain ⟨_, rfl⟩ := upTo_get hd
    exact ⟨B3, Stp.refl e2, .int _⟩
end
end Ly

/-! LyF: what a def promises by data: Pu (data in, data out), De (a source of draws first), their bodies, their calls. -/
namespace Ly
open PySem PySem.Spec PyProof.Rows L2

/-- data in, data out; nothing that stands is changed -/
def Pu (K : PySem.W.Frag) (P : List D → Prop) (R : List D → D → Prop) : Sp := fun vs H Q _ => ∃ B ds, Same B H ∧ DqAll K B vs ds ∧ P ds ∧
  ∀ d v B' H', R ds d → Stp none B H B' H' → Dq K B' v d → Q v H'
/-- the source of draws first, then data -/
def De (K : PySem.W.Frag) (P : List D → Prop) (R : List D → D → Prop) : Sp := fun vs H Q _ => ∃ B p q us ds, vs = .ref p :: us ∧ Same B H ∧ DealAt H p q ∧ B p = none ∧ B q = none ∧ DqAll K B us ds ∧ P ds ∧
  ∀ d v B' H', R ds d → Stp (some (p, q)) B H B' H' → Dq K B' v d → Q v H'

/-- n names more, of which nothing is told -/
def slots (ds : List D) (n : Nat) : List Sl := ds.map Sl.dat ++ List.replicate n Sl.no

theorem start_len {N : List Str} {vs : List V} (h : vs.length ≤ N.length) : (start N vs).length = N.length := by
  unfold L2.start
  rw [List.length_append, List.length_map, List.length_replicate]
  omega
theorem fm_start {K : PySem.W.Frag} {B H : Hp} {vs : List V} {ds : List D} {N : List Str} {n : Nat} (s : Same B H) (hd : DqAll K B vs ds) (hn : ds.length + n = N.length) : Fm ⟨K, B, H, none⟩ B H (start N vs) (slots ds n) := by
  have hl := dpall_len hd
  refine ⟨Stp.refl s, (fun p q e => nomatch e), ?_, fun i sl h => ?_, fun i j p xs ys h => ?_⟩
  · rw [start_len (by omega)]
    simp [slots]
    omega
  · unfold slots at h
    by_cases hi : i < ds.length
    · rw [List.getElem?_append_left (by simpa using hi), List.getElem?_map, List.getElem?_eq_getElem hi] at h
      cases h
      obtain ⟨v, hv, k⟩ := dpall_get hd (List.getElem?_eq_getElem hi)
      refine ⟨v, ?_, k⟩
      unfold L2.start
      rw [List.getElem?_append_left (by simpa using (by omega : i < vs.length)), List.getElem?_map, hv]
      rfl
    · rw [List.getElem?_append_right (by simpa using Nat.le_of_not_lt hi), List.getElem?_replicate] at h
      split at h
      · cases h
        trivial
      · cases h
  · exfalso
    unfold slots at h
    by_cases hi : i < ds.length
    · rw [List.getElem?_append_left (by simpa using hi), List.getElem?_map, List.getElem?_eq_getElem hi] at h
      cases h
    · rw [List.getElem?_append_right (by simpa using Nat.le_of_not_lt hi), List.getElem?_replicate] at h
      split at h <;> cases h
theorem fm_startD {K : PySem.W.Frag} {B H : Hp} {vs : List V} {ds : List D} {N : List Str} {n : Nat} {p q : Addr} (s : Same B H) (hq : DealAt H p q) (h1 : B p = none) (h2 : B q = none) (hd : DqAll K B vs ds) (hn : ds.length + 1 + n = N.length) :
    Fm ⟨K, B, H, some (p, q)⟩ B H (start N (.ref p :: vs)) (.deal :: slots ds n) := by
  have hl := dpall_len hd
  have hst : ∀ i, (start N (.ref p :: vs))[i + 1]? = (vs.map some ++ List.replicate (N.length - (vs.length + 1)) none)[i]? := fun i => rfl
  refine ⟨Stp.refl s, fun p' q' e => ?_, ?_, fun i sl h => ?_, fun i j r xs ys h => ?_⟩
  · cases e
    exact ⟨hq, h1, h2⟩
  · rw [start_len (by rw [List.length_cons]; omega)]
    simp [slots]
    omega
  · cases i with
    | zero =>
      cases h
      exact ⟨p, q, rfl, rfl⟩
    | succ i =>
      rw [hst i]
      have h : (slots ds n)[i]? = some sl := h
      unfold slots at h
      by_cases hi : i < ds.length
      · rw [List.getElem?_append_left (by simpa using hi), List.getElem?_map, List.getElem?_eq_getElem hi] at h
        cases h
        obtain ⟨v, hv, k⟩ := dpall_get hd (List.getElem?_eq_getElem hi)
        refine ⟨v, ?_, k⟩
        rw [List.getElem?_append_left (by simpa using (by omega : i < vs.length)), List.getElem?_map, hv]
        rfl
      · rw [List.getElem?_append_right (by simpa using Nat.le_of_not_lt hi), List.getElem?_replicate] at h
        split at h
        · cases h
          trivial
        · cases h
  · exfalso
    cases i with
    | zero => cases h
    | succ i =>
      have h : (slots ds n)[i]? = some (.own xs) := h
      unfold slots at h
      by_cases hi : i < ds.length
      · rw [List.getElem?_append_left (by simpa using hi), List.getElem?_map, List.getElem?_eq_getElem hi] at h
        cases h
      · rw [List.getElem?_append_right (by simpa using Nat.le_of_not_lt hi), List.getElem?_replicate] at h
        split at h <;> cases h

section
variable {P0 : Program} {w : World} {K : PySem.W.Frag} {mg : Str → Option Value} {base : Heap} {k : Nat} {f : Addr} {fd : FuncData} {ps N : List Str} {x qual : Str} {st : Stmt} {P : List D → Prop} {R : List D → D → Prop} {n : Nat}
/-- a def of data, by its body -/
theorem pu_ok (n : Nat) (F : Fun K x qual st f fd) (S : FnScope N ps (defScope st)) (hl : ∀ ds, P ds → ds.length = ps.length) (hn : ps.length + n = N.length)
    (body : ∀ (cdv : Value) (A : Around) (outer : List Env) (s : Shared) (H : Hp) (E : XK), (cxOf CX0 P0 w K mg base N qual (defScope st) f cdv A outer s H E).A.guards = some [] → Room k (cxOf CX0 P0 w K mg base N qual (defScope st) f cdv A outer s H E).A →
      ∃ t, PSs (cxOf CX0 P0 w K mg base N qual (defScope st) f cdv A outer s H E).nox (defBody st) t ∧ ∀ B H ds, P ds → VS ⟨K, B, H, none⟩ t (slots ds n) { nx := fun _ => R ds .none, rt := R ds }) :
    GOk P0 w K mg base CX0 (k + 1) f fd ps (Pu K P R) := by
  refine gok_of F S (fun {vs H Q E} ⟨B, ds, _, h1, h2, _⟩ => (dpall_len h1).trans (hl ds h2)) fun cdv A outer s H vs Q E hg hr ⟨B, ds, hs, h1, h2, hq⟩ => ?_
  obtain ⟨t, ht, hv⟩ := body cdv A outer s H E hg hr
  refine ⟨t, ht.nox, hv B H ds h2 B H (L2.start N vs) _ (fm_start hs h1 (by rw [hl ds h2]; exact hn)) ?_ ?_ (fun _ _ _ _ e => e.elim) fun _ _ _ _ e => e.elim⟩
  · exact fun Γ' B' H' σ' r _ F' => hq _ _ B' H' r F'.st .non
  · exact fun d v B' H' r s' kd => hq d v B' H' r s' kd
/-- a def that draws, by its body -/
theorem de_ok (n : Nat) (F : Fun K x qual st f fd) (S : FnScope N ps (defScope st)) (hl : ∀ ds, P ds → ds.length + 1 = ps.length) (hn : ps.length + n = N.length)
    (body : ∀ (cdv : Value) (A : Around) (outer : List Env) (s : Shared) (H : Hp) (E : XK), (cxOf CX0 P0 w K mg base N qual (defScope st) f cdv A outer s H E).A.guards = some [] → Room k (cxOf CX0 P0 w K mg base N qual (defScope st) f cdv A outer s H E).A →
      ∃ t, PSs (cxOf CX0 P0 w K mg base N qual (defScope st) f cdv A outer s H E).nox (defBody st) t ∧ ∀ B H p q ds, P ds → VS ⟨K, B, H, some (p, q)⟩ t (.deal :: slots ds n) { nx := fun _ => R ds .none, rt := R ds }) :
    GOk P0 w K mg base CX0 (k + 1) f fd ps (De K P R) := by
  refine gok_of F S (fun {vs H Q E} ⟨B, p, q, us, ds, e, _, _, _, _, h1, h2, _⟩ => by rw [e, List.length_cons, dpall_len h1]; exact hl ds h2) fun cdv A outer s H vs Q E hg hr ⟨B, p, q, us, ds, e, hs, hd, hB1, hB2, h1, h2, hq⟩ => ?_
  subst e
  obtain ⟨t, ht, hv⟩ := body cdv A outer s H E hg hr
  refine ⟨t, ht.nox, hv B H p q ds h2 B H (L2.start N (.ref p :: us)) _ (fm_startD hs hd hB1 hB2 h1 (by rw [hl ds h2]; exact hn)) ?_ ?_ (fun _ _ _ _ e => e.elim) fun _ _ _ _ e => e.elim⟩
  · exact fun Γ' B' H' σ' r _ F' => hq _ _ B' H' r F'.st .non
  · exact fun d v B' H' r s' kd => hq d v B' H' r s' kd
end

/-! ### calls by data -/
section
variable {C : Cn} {A A' : TA} {Γ : List Sl} {S S' : List D → Prop} {R : D → Prop} {P : List D → Prop} {R' : List D → D → Prop} {E : XK} {gV : List V → List V → List V} {i : Nat} {ds es : List D} {d : D}
theorem ve_pu (gD : List D → List D → List D) (h : VA C A Γ S) (h' : VA C A' Γ S') (hg : ∀ B vs zs ds es, DqAll C.K B vs ds → DqAll C.K B zs es → DqAll C.K B (gV vs zs) (gD ds es))
    (k : ∀ ds es, S ds → S' es → P (gD ds es) ∧ ∀ d, R' (gD ds es) d → R d) : VE C (tCallK (Pu C.K P R') gV E A A') Γ R := fun B H σ F Q q =>
  h B H σ F _ fun ds vs B1 H1 r1 s1 k1 => h' B1 H1 σ (F.step s1) _ fun es zs B2 H2 r2 s2 k2 => by
    obtain ⟨hP, hR⟩ := k ds es r1 r2
    refine ⟨B2, gD ds es, ((F.step s1).step s2).sub, hg B2 vs zs ds es (dpall_mono s2.ext k1) k2, hP, fun d v B3 H3 r3 s3 k3 => ?_⟩
    exact q d v B3 H3 (hR d r3) ((s1.trans F.dlNow s2).trans F.dlNow s3.any) k3
/-- by place -/
theorem ve_call (h : VA C A Γ S) (k : ∀ ds, S ds → P ds ∧ ∀ d, R' ds d → R d) : VE C (tCallK (Pu C.K P R') (fun vs _ => vs) E A tNil) Γ R :=
  ve_pu (fun ds _ => ds) h va_nil (fun _ _ _ _ _ k1 _ => k1) fun ds es r _ => k ds r
theorem ve_callD (h : VA C A Γ (Is ds)) (hP : P ds) : VE C (tCallK (Pu C.K P R') (fun vs _ => vs) E A tNil) Γ (R' ds) := ve_call h fun xs e => by
  cases e
  exact ⟨hP, fun _ r => r⟩
theorem ve_de (hi : Γ[i]? = some .deal) (h : VA C A Γ S) (k : ∀ ds, S ds → P ds ∧ ∀ d, R' ds d → R d) : VE C (tCallK (De C.K P R') (fun vs _ => vs) E (tCons (tVar i) A) tNil) Γ R := fun B H σ F Q q => by
  obtain ⟨p, r, e, hs⟩ := F.slot i _ hi
  refine ⟨.ref p, hs, h B H σ F _ fun ds vs B1 H1 r1 s1 k1 => ?_⟩
  obtain ⟨hP, hR⟩ := k ds r1
  have F1 := F.step s1
  obtain ⟨n1, n2⟩ := F1.dlOut e
  refine ⟨B1, p, r, vs, ds, rfl, F1.sub, F1.dlNow p r e, n1, n2, k1, hP, fun d v B3 H3 r3 s3 k3 => ?_⟩
  rw [← e] at s3
  exact q d v B3 H3 (hR d r3) (s1.trans F.dlNow s3) k3
theorem ve_deD (hi : Γ[i]? = some .deal) (h : VA C A Γ (Is ds)) (hP : P ds) : VE C (tCallK (De C.K P R') (fun vs _ => vs) E (tCons (tVar i) A) tNil) Γ (R' ds) := ve_de hi h fun xs e => by
  cases e
  exact ⟨hP, fun _ r => r⟩
end
end Ly

/-! LyG: operations, subscripts, slices, built-ins by data. -/
namespace Ly
open PySem PySem.Spec PyProof.Rows L2

/-! ### rules for every kind of operand -/
section
variable {X : Cx}
/-- list + list, tracked or known to the object -/
def rCatR : R2 := fun x y H Q => ∃ l b xs zs, x = .ref l ∧ y = .ref b ∧ Rd H l (.lst xs) ∧ Rd H b (.lst zs) ∧ xs.length + zs.length ≤ sizeLine ∧ ∀ p, H p = none → Q (.ref p) (upd H p (.lst (xs ++ zs)))
theorem rd_lst {pins : List (Addr × Obj)} {s : Shared} {σ : L2.St} {H : Hp} {a : Addr} {xs : List V} (I : Inv X pins σ H s) (h : Rd H a (.lst xs)) : ∃ (its : List Value) (n : Nat), Vals xs its ∧ s.heap.get? a = some { cls := .type "list", data := .seq its.toArray n } := by
  obtain ⟨_, its, n, r, e⟩ := h.ok I.hok
  exact ⟨its, n, r, e⟩
theorem op_catR : OpR X (binaryOp .Add) rCatR := by
  intro pins s σ H x y v u Q I rx ry h
  obtain ⟨l, b, xs, zs, rfl, rfl, hl, hb, hz, q⟩ := h
  cases rx
  cases ry
  obtain ⟨its, n, r, e⟩ := rd_lst I hl
  obtain ⟨its2, n2, r2, e2⟩ := rd_lst I hb
  have l1 := r.length
  have l2 := r2.length
  apply PySem.P.add_list e e2 _ (by rw [List.size_toArray, List.size_toArray]; omega)
  have J := I.lnew (t' := s.toks) (r.append r2) (by rw [List.length_append]; omega)
  rw [show its.toArray ++ its2.toArray = (its ++ its2).toArray by simp]
  exact ⟨V.ref s.heap.objs.size, _, J, rfl, q _ I.fresh⟩
def rAddS : R2 := fun x y H Q => ∃ i j, x = .str i ∧ y = .str j ∧ i.length + j.length ≤ sizeLine ∧ Q (.str (i ++ j)) H
def rAddA (K : PySem.W.Frag) : R2 := fun x y H Q => rI0 (fun i j => .int (i + j)) x y H Q ∨ (rAddS x y H Q ∨ (rCatR x y H Q ∨ rCatA K x y H Q))
theorem oq_add : OpR X (binaryOp .Add) (rAddA X.K) := OpR.or op_add (OpR.or op_add_str (OpR.or op_catR op_catA))
def rEqA (K : PySem.W.Frag) : R2 := fun x y H Q => rEq x y H Q ∨ rEqD K x y H Q
def rNeA (K : PySem.W.Frag) : R2 := fun x y H Q => rNe x y H Q ∨ rNeD K x y H Q
theorem oq_eq {k : Nat} (hr : Room k X.A) : OpR X (compareOp .Eq) (rEqA X.K) := OpR.or op_eq (op_eqD hr.units)
theorem oq_ne {k : Nat} (hr : Room k X.A) : OpR X (compareOp .NotEq) (rNeA X.K) := OpR.or op_ne (op_neD hr.units)
def rLtS : R2 := fun x y H Q => ∃ i j, x = .str i ∧ y = .str j ∧ Q (.bl (decide (i.cps.toList < j.cps.toList))) H
def rLeS : R2 := fun x y H Q => ∃ i j, x = .str i ∧ y = .str j ∧ Q (.bl (!decide (j.cps.toList < i.cps.toList))) H
def rLtA : R2 := fun x y H Q => rI0 (fun i j => .bl (decide (i < j))) x y H Q ∨ rLtS x y H Q
def rLeA : R2 := fun x y H Q => rI0 (fun i j => .bl (decide (i ≤ j))) x y H Q ∨ rLeS x y H Q
theorem oq_lt : OpR X (compareOp .Lt) rLtA := OpR.or op_lt op_lt_str
theorem oq_le : OpR X (compareOp .LtE) rLeA := OpR.or op_le op_le_str
def rInSg : R2 := fun x y H Q => ∃ (c : Nat) (z : Str), x = .str ⟨#[c]⟩ ∧ y = .str z ∧ Q (.bl (decide (c ∈ z.cps.toList))) H
def rInA (K : PySem.W.Frag) : R2 := fun x y H Q => rInSg x y H Q ∨ (rIn K false x y H Q ∨ rInD K x y H Q)
theorem oq_in {k : Nat} (hr : Room k X.A) : OpR X (compareOp .In) (rInA X.K) := OpR.or op_in_sign (OpR.or op_in_seq (op_inD (by have := hr.un; omega)))
def rNotInSg : R2 := fun x y H Q => ∃ (c : Nat) (z : Str), x = .str ⟨#[c]⟩ ∧ y = .str z ∧ Q (.bl (!decide (c ∈ z.cps.toList))) H
def rNotInA (K : PySem.W.Frag) : R2 := fun x y H Q => rNotInSg x y H Q ∨ (rIn K true x y H Q ∨ rNotInD K x y H Q)
theorem oq_notin {k : Nat} (hr : Room k X.A) : OpR X (compareOp .NotIn) (rNotInA X.K) := OpR.or op_notIn_sign (OpR.or op_notIn_seq (op_notInD (by have := hr.un; omega)))
def rSlany (K : PySem.W.Frag) : V → Option Int → Option Int → Hp → VK → Prop := fun x lo hi H Q => rSlL K x lo hi H Q ∨ (rSlA K x lo hi H Q ∨ rSlS x lo hi H Q)
theorem sq_any : SlR X (rSlany X.K) := SlR.or sl_list (SlR.or sl_tupA sl_str)
/-- repr of data -/
def rRepr (K : PySem.W.Frag) : List V → Hp → VK → Prop := fun xs H Q => ∃ x d, xs = [x] ∧ Dp K H x d ∧ d.showable = true ∧ d.hasDict = false ∧ d.depth ≤ 100 ∧ d.shown.length ≤ sizeLine ∧ Q (.str d.shown) H
theorem cq_repr {k : Nat} (hg : X.A.guards = some []) (hr : Room k X.A) : CallR X (.builtin "repr") (rRepr X.K) := by
  intro pins s σ H xs us Q I r h
  obtain ⟨x, d, rfl, hd, h1, h2, h3, h4, q⟩ := h
  obtain ⟨u, rfl, ru⟩ := vals1 r
  obtain ⟨as, rd⟩ := Dp.reads I d x u hd ru
  have fin : ∀ (h' : Heap) (tk tk2 : Tok), (∀ b o, s.heap.get? b = some o → h'.get? b = some o) → EP X pins σ Q (.str d.shown tk) { s with heap := h', toks := tk2 } := fun h' tk tk2 hk => ⟨V.str d.shown, H, I.kept hk, ⟨tk, rfl⟩, q⟩
  cases rd with
  | none =>
    simp only [PyData.shown] at fin
    exact PySem.P.repr_of_none (fin s.heap s.toks (s.toks + 1) fun _ _ e => e)
  | bool b =>
    simp only [PyData.shown] at fin
    exact PySem.P.repr_of_bool (fin s.heap s.toks (s.toks + 1) fun _ _ e => e)
  | int i t =>
    simp only [PyData.shown] at fin
    exact PySem.P.repr_of_int (by simpa [PyData.showable] using h1) (fin s.heap s.toks (s.toks + 1) fun _ _ e => e)
  | str z t =>
    simp only [PyData.shown] at fin
    exact PySem.P.repr_of_str (fin s.heap s.toks (s.toks + 1) fun _ _ e => e) (by simpa [PyData.shown] using h4)
  | list e1 e2 e3 e4 => exact repr_of_reads' (.list e1 e2 e3 e4) h1 (fun z => by rw [h2] at z; cases z) hg (by have := hr.un; omega) (fun _ _ e => e) (fun h' tk tk2 hk => fin h' tk tk2 hk) h4
  | tuple e1 e2 e3 e4 => exact repr_of_reads' (.tuple e1 e2 e3 e4) h1 (fun z => by rw [h2] at z; cases z) hg (by have := hr.un; omega) (fun _ _ e => e) (fun h' tk tk2 hk => fin h' tk tk2 hk) h4
  | dict e1 e2 e3 e4 e5 => simp [PyData.hasDict] at h2
end

/-! ### by data -/
section
variable {C : Cn} {Γ : List Sl} {x y z : D} {ds es : List D} {i j : Int} {s t : Str} {R : D → Prop}
theorem od_I0 {g : Int → Int → V} {f : D} (h : ∀ B, Dq C.K B (g i j) f) : OD C (rI0 g) (.int i) (.int j) (Is f) := fun B H v u e k1 k2 Q q => by
  obtain rfl := k1.int
  obtain rfl := k2.int
  exact ⟨i, j, rfl, rfl, q _ _ B H rfl (Stp.refl e) (h B)⟩
theorem od_I {c : Int → Int → Prop} {g : Int → Int → V} {f : D} (hc : c i j) (h : ∀ B, Dq C.K B (g i j) f) : OD C (rI c g) (.int i) (.int j) (Is f) := fun B H v u e k1 k2 Q q => by
  obtain rfl := k1.int
  obtain rfl := k2.int
  exact ⟨i, j, rfl, rfl, hc, q _ _ B H rfl (Stp.refl e) (h B)⟩
theorem od_add : OD C (rAddA C.K) (.int i) (.int j) (Is (.int (i + j))) := fun B H v u e k1 k2 Q q => Or.inl (od_I0 (C := C) (g := fun i j => .int (i + j)) (fun _ => .int _) B H v u e k1 k2 Q q)
theorem od_sub : OD C (rI0 fun i j => .int (i - j)) (.int i) (.int j) (Is (.int (i - j))) := od_I0 fun _ => .int _
theorem od_mul (h : CMulW i j) : OD C (rI CMulW fun i j => .int (i * j)) (.int i) (.int j) (Is (.int (i * j))) := od_I h fun _ => .int _
theorem od_fdiv (h : 0 < j) (h2 : j < 2 ^ 64) : OD C (rI CDivW fun i j => .int (i / j)) (.int i) (.int j) (Is (.int (i / j))) := od_I (wide_div (b := 64) h (by omega) (by decide) (by decide)) fun _ => .int _
theorem od_mod (h : 0 < j) : OD C (rI (fun _ j => 0 < j) fun i j => .int (i % j)) (.int i) (.int j) (Is (.int (i % j))) := od_I h fun _ => .int _
theorem od_pow (h : 0 ≤ j ∧ j ≤ 1000000 ∧ i.natAbs < 2 ^ 64) : OD C (rI CPow fun i j => .int (i ^ j.toNat)) (.int i) (.int j) (Is (.int (i ^ j.toNat))) := od_I h fun _ => .int _
theorem od_shl (h : 0 ≤ j ∧ j ≤ 1000000 ∧ i.natAbs < 2 ^ 64) : OD C (rI CPow fun i j => .int (i * 2 ^ j.toNat)) (.int i) (.int j) (Is (.int (i * 2 ^ j.toNat))) := od_I h fun _ => .int _
theorem od_shr (h : 0 ≤ j) : OD C (rI (fun _ j => 0 ≤ j) fun i j => .int (i / 2 ^ j.toNat)) (.int i) (.int j) (Is (.int (i / 2 ^ j.toNat))) := od_I h fun _ => .int _
theorem od_lt : OD C rLtA (.int i) (.int j) (Is (.bool (decide (i < j)))) := fun B H v u e k1 k2 Q q => Or.inl (od_I0 (C := C) (g := fun i j => .bl (decide (i < j))) (fun _ => .bl _) B H v u e k1 k2 Q q)
theorem od_le : OD C rLeA (.int i) (.int j) (Is (.bool (decide (i ≤ j)))) := fun B H v u e k1 k2 Q q => Or.inl (od_I0 (C := C) (g := fun i j => .bl (decide (i ≤ j))) (fun _ => .bl _) B H v u e k1 k2 Q q)
theorem od_gt : OD C (rI0 fun i j => .bl (decide (j < i))) (.int i) (.int j) (Is (.bool (decide (j < i)))) := od_I0 fun _ => .bl _
theorem od_ge : OD C (rI0 fun i j => .bl (decide (j ≤ i))) (.int i) (.int j) (Is (.bool (decide (j ≤ i)))) := od_I0 fun _ => .bl _
theorem od_ltS : OD C rLtA (.str s) (.str t) (Is (.bool (decide (s.cps.toList < t.cps.toList)))) := fun B H v u e k1 k2 Q q => by
  obtain rfl := k1.str
  obtain rfl := k2.str
  exact Or.inr ⟨s, t, rfl, rfl, q _ _ B H rfl (Stp.refl e) (.bl _)⟩
theorem od_leS : OD C rLeA (.str s) (.str t) (Is (.bool (!decide (t.cps.toList < s.cps.toList)))) := fun B H v u e k1 k2 Q q => by
  obtain rfl := k1.str
  obtain rfl := k2.str
  exact Or.inr ⟨s, t, rfl, rfl, q _ _ B H rfl (Stp.refl e) (.bl _)⟩
theorem od_addS (h : s.length + t.length ≤ sizeLine) : OD C (rAddA C.K) (.str s) (.str t) (Is (.str (s ++ t))) := fun B H v u e k1 k2 Q q => by
  obtain rfl := k1.str
  obtain rfl := k2.str
  exact Or.inr (Or.inl ⟨s, t, rfl, rfl, h, q _ _ B H rfl (Stp.refl e) (.str _)⟩)
theorem od_catT (h : ds.length + es.length ≤ 100000) : OD C (rAddA C.K) (.tuple ds) (.tuple es) (Is (.tuple (ds ++ es))) := fun B H v u e k1 k2 Q q => by
  obtain ⟨a, xs, rfl, h1, h2⟩ := k1.tup e
  obtain ⟨b, ys, rfl, g1, g2⟩ := k2.tup e
  have l1 := dpall_len h2
  have l2 := dpall_len g2
  refine Or.inr (Or.inr (Or.inr ⟨a, b, xs, ys, rfl, rfl, h1, g1, by rw [l1, l2]; exact sz5 h, fun z => ?_, fun _ z => ?_, fun _ _ p hp => ?_⟩))
  · subst z
    cases h2
    rcases k2 with k2 | ⟨_, _, _, _, z, _⟩
    · exact q _ _ B H rfl (Stp.refl e) k2
    · cases z
  · subst z
    cases g2
    rcases k1 with k1 | ⟨_, _, _, _, z, _⟩
    · rw [List.append_nil] at q
      exact q _ _ B H rfl (Stp.refl e) k1
    · cases z
  · exact q _ _ _ _ rfl (Stp.new e hp) (.tup (Or.inl (Or.inl upd_same)) (dpall_mono (Stp.new (dl := C.dl) e hp).ext (dpall_app h2 g2)))
theorem ol_cat (h : ds.length + es.length ≤ 100000) : OL C (rAddA C.K) (.list ds) (.list es) (Is (ds ++ es)) := fun B H v u e k1 k2 Q q => by
  obtain ⟨a, xs, rfl, h1, h2⟩ := k1.lstR e
  obtain ⟨b, ys, rfl, g1, g2⟩ := k2.lstR e
  have l1 := dpall_len h2
  have l2 := dpall_len g2
  exact Or.inr (Or.inr (Or.inl ⟨a, b, xs, ys, rfl, rfl, h1, g1, by rw [l1, l2]; exact sz5 h, fun p hp => q _ p (xs ++ ys) B _ rfl (Stp.newM e hp) hp (e.free hp) upd_same (dpall_app h2 g2)⟩))
/-- == of any data -/
theorem od_eq (h1 : SeqAt.shaped x = true) (h2 : SeqAt.shaped y = true) : OD C (rEqA C.K) x y (Is (.bool (PyData.eqv x y))) := fun B H v u e k1 k2 Q q =>
  Or.inr ⟨x, y, (k1.now e).dp h1, (k2.now e).dp h2, h1, h2, q _ _ B H rfl (Stp.refl e) (.bl _)⟩
theorem od_ne (h1 : SeqAt.shaped x = true) (h2 : SeqAt.shaped y = true) : OD C (rNeA C.K) x y (Is (.bool (!PyData.eqv x y))) := fun B H v u e k1 k2 Q q =>
  Or.inr ⟨x, y, (k1.now e).dp h1, (k2.now e).dp h2, h1, h2, q _ _ B H rfl (Stp.refl e) (.bl _)⟩
/-- of ints, of texts -/
theorem od_eqI : OD C (rEqA C.K) (.int i) (.int j) (Is (.bool (decide (i = j)))) := fun B H v u e k1 k2 Q q => by
  obtain rfl := k1.int
  obtain rfl := k2.int
  refine Or.inl ⟨rfl, ?_⟩
  rw [show decide (V.int i = V.int j) = decide (i = j) from decide_eq_decide.mpr ⟨fun h => V.int.inj h, fun h => by rw [h]⟩]
  exact q _ _ B H rfl (Stp.refl e) (.bl _)
theorem od_neI : OD C (rNeA C.K) (.int i) (.int j) (Is (.bool (!decide (i = j)))) := fun B H v u e k1 k2 Q q => by
  obtain rfl := k1.int
  obtain rfl := k2.int
  refine Or.inl ⟨rfl, ?_⟩
  rw [show decide (V.int i = V.int j) = decide (i = j) from decide_eq_decide.mpr ⟨fun h => V.int.inj h, fun h => by rw [h]⟩]
  exact q _ _ B H rfl (Stp.refl e) (.bl _)
theorem od_eqS : OD C (rEqA C.K) (.str s) (.str t) (Is (.bool (decide (s = t)))) := fun B H v u e k1 k2 Q q => by
  obtain rfl := k1.str
  obtain rfl := k2.str
  refine Or.inl ⟨rfl, ?_⟩
  rw [show decide (V.str s = V.str t) = decide (s = t) from decide_eq_decide.mpr ⟨fun h => V.str.inj h, fun h => by rw [h]⟩]
  exact q _ _ B H rfl (Stp.refl e) (.bl _)
theorem od_neS : OD C (rNeA C.K) (.str s) (.str t) (Is (.bool (!decide (s = t)))) := fun B H v u e k1 k2 Q q => by
  obtain rfl := k1.str
  obtain rfl := k2.str
  refine Or.inl ⟨rfl, ?_⟩
  rw [show decide (V.str s = V.str t) = decide (s = t) from decide_eq_decide.mpr ⟨fun h => V.str.inj h, fun h => by rw [h]⟩]
  exact q _ _ B H rfl (Stp.refl e) (.bl _)
/-- x is None -/
def isNone : D → Bool
  | .none => true
  | _ => false
def rIsNo : R2 := fun x y H Q => y = .non ∧ Q (.bl (decide (x = .non))) H
def rNotNo : R2 := fun x y H Q => y = .non ∧ Q (.bl (!decide (x = .non))) H
theorem oq_isN {X : Cx} : OpR X (compareOp .Is) rIsNo := op_isN
theorem oq_notN {X : Cx} : OpR X (compareOp .IsNot) rNotNo := op_notN
theorem vw_none {B H : Hp} {v : V} (k : Vw C B H v x) : decide (v = .non) = isNone x := by
  rcases k with k | ⟨_, _, _, rfl, rfl, _⟩
  · cases k <;> rfl
  · rfl
theorem od_isN : OD C rIsNo x .none (Is (.bool (isNone x))) := fun B H v u e k1 k2 Q q => ⟨k2.non, by rw [vw_none k1]; exact q _ _ B H rfl (Stp.refl e) (.bl _)⟩
theorem od_notN : OD C rNotNo x .none (Is (.bool (!isNone x))) := fun B H v u e k1 k2 Q q => ⟨k2.non, by rw [vw_none k1]; exact q _ _ B H rfl (Stp.refl e) (.bl _)⟩
/-- a sign in a text -/
theorem od_inSg {c : Nat} : OD C (rInA C.K) (.str ⟨#[c]⟩) (.str s) (Is (.bool (decide (c ∈ s.cps.toList)))) := fun B H v u e k1 k2 Q q => by
  obtain rfl := k1.str
  obtain rfl := k2.str
  exact Or.inl ⟨c, s, rfl, rfl, q _ _ B H rfl (Stp.refl e) (.bl _)⟩
/-- in a list of any data -/
theorem od_inL (h1 : SeqAt.shaped x = true) (h2 : SeqAt.shaped (.list ds) = true) : OD C (rInA C.K) x (.list ds) (Is (.bool (ds.any fun z => PyData.eqv z x))) := fun B H v u e k1 k2 Q q =>
  Or.inr (Or.inr ⟨x, ds, (k1.now e).dp h1, (k2.now e).dp h2, h1, h2, q _ _ B H rfl (Stp.refl e) (.bl _)⟩)
theorem od_notinL (h1 : SeqAt.shaped x = true) (h2 : SeqAt.shaped (.list ds) = true) : OD C (rNotInA C.K) x (.list ds) (Is (.bool (!ds.any fun z => PyData.eqv z x))) := fun B H v u e k1 k2 Q q =>
  Or.inr (Or.inr ⟨x, ds, (k1.now e).dp h1, (k2.now e).dp h2, h1, h2, q _ _ B H rfl (Stp.refl e) (.bl _)⟩)
/-! flat things in a list or tuple -/
def flatD : D → Bool
  | .none | .bool _ | .int _ | .str _ => true
  | _ => false
theorem flat_v {K : PySem.W.Frag} {H : Hp} {v : V} (h : flatD x = true) (k : Dq K H v x) : flatV v = true := by
  cases k <;> first | rfl | cases h
theorem flat_all {K : PySem.W.Frag} {H : Hp} : ∀ {vs : List V} {ds : List D}, ds.all flatD = true → DqAll K H vs ds → vs.all flatV = true
  | _, _, _, .nil => rfl
  | _, _, h, .cons h1 h2 => by
    rw [List.all_cons, Bool.and_eq_true] at h
    rw [List.all_cons, flat_v h.1 h1, flat_all h.2 h2]
    rfl
theorem flat_eqv {K : PySem.W.Frag} {H : Hp} {v u : V} (hx : flatD x = true) (hy : flatD y = true) (k1 : Dq K H v x) (k2 : Dq K H u y) : eqV v u = PyData.eqv x y := by
  cases k1 <;> cases k2 <;> simp_all [flatD, eqV, PyData.eqv]
theorem flat_any {K : PySem.W.Frag} {H : Hp} {v : V} (hx : flatD x = true) (k : Dq K H v x) : ∀ {vs : List V} {ds : List D}, ds.all flatD = true → DqAll K H vs ds → inV v vs = ds.any fun z => PyData.eqv z x
  | _, _, _, .nil => rfl
  | _, _, h, .cons h1 h2 => by
    rw [List.all_cons, Bool.and_eq_true] at h
    show (eqV _ v || inV v _) = _
    rw [flat_eqv h.1 hx h1 k, flat_any hx k h.2 h2]
    rfl
theorem vw_flat {B H : Hp} {v : V} (hx : flatD x = true) (k : Vw C B H v x) : Dq C.K B v x := by
  rcases k with k | ⟨_, _, _, _, rfl, _⟩
  · exact k
  · cases hx
theorem od_inT (h1 : flatD x = true) (h2 : ds.all flatD = true) : OD C (rInA C.K) x (.tuple ds) (Is (.bool (ds.any fun z => PyData.eqv z x))) := fun B H v u e k1 k2 Q q => by
  obtain ⟨a, xs, rfl, g1, g2⟩ := k2.tup e
  have kx := vw_flat h1 k1
  refine Or.inr (Or.inl ⟨a, xs, rfl, Or.inr g1, flat_v h1 kx, flat_all h2 g2, ?_⟩)
  rw [if_neg Bool.false_ne_true, flat_any h1 kx h2 g2]
  exact q _ _ B H rfl (Stp.refl e) (.bl _)
theorem od_notinT (h1 : flatD x = true) (h2 : ds.all flatD = true) : OD C (rNotInA C.K) x (.tuple ds) (Is (.bool (!ds.any fun z => PyData.eqv z x))) := fun B H v u e k1 k2 Q q => by
  obtain ⟨a, xs, rfl, g1, g2⟩ := k2.tup e
  have kx := vw_flat h1 k1
  refine Or.inr (Or.inl ⟨a, xs, rfl, Or.inr g1, flat_v h1 kx, flat_all h2 g2, ?_⟩)
  rw [if_pos rfl, flat_any h1 kx h2 g2]
  exact q _ _ B H rfl (Stp.refl e) (.bl _)
/-! subscripts -/
theorem at_len {α β : Type} {xs : List α} {ys : List β} (h : xs.length = ys.length) {m : Nat} (e : ixN ys.length i = some m) : atI xs i = xs[m]? := by
  unfold atI
  rw [h, e]
  rfl
theorem at_get {α : Type} {xs : List α} {v : α} (h : atI xs i = some v) : ∃ m, ixN xs.length i = some m ∧ xs[m]? = some v := by
  unfold atI at h
  cases e : ixN xs.length i with
  | none =>
    rw [e] at h
    cases h
  | some m =>
    rw [e] at h
    exact ⟨m, rfl, h⟩
theorem od_ixL (h : atI ds i = some z) : OD C (rIx C.K) (.list ds) (.int i) (Is z) := fun B H v u e k1 k2 Q q => by
  obtain ⟨a, xs, rfl, h1, h2⟩ := k1.lst e
  obtain rfl := k2.int
  obtain ⟨m, hm, hz⟩ := at_get h
  obtain ⟨w, hw, kw⟩ := dpall_get h2 hz
  exact Or.inl ⟨a, xs, i, w, rfl, rfl, h1, (at_len (dpall_len h2) hm).trans hw, q _ _ B H rfl (Stp.refl e) kw⟩
theorem od_ixT (h : atI ds i = some z) : OD C (rIx C.K) (.tuple ds) (.int i) (Is z) := fun B H v u e k1 k2 Q q => by
  obtain ⟨a, xs, rfl, h1, h2⟩ := k1.tup e
  obtain rfl := k2.int
  obtain ⟨m, hm, hz⟩ := at_get h
  obtain ⟨w, hw, kw⟩ := dpall_get h2 hz
  exact Or.inr (Or.inl ⟨a, xs, i, w, rfl, rfl, h1, (at_len (dpall_len h2) hm).trans hw, q _ _ B H rfl (Stp.refl e) kw⟩)
theorem od_ixS {c : Nat} (hz : s.length ≤ 1000000) (h : atI s.cps.toList i = some c) : OD C (rIx C.K) (.str s) (.int i) (Is (.str ⟨#[c]⟩)) := fun B H v u e k1 k2 Q q => by
  obtain rfl := k1.str
  obtain rfl := k2.int
  exact Or.inr (Or.inr ⟨s, i, c, rfl, rfl, Nat.le_trans hz (by decide), h, q _ _ B H rfl (Stp.refl e) (.str _)⟩)
theorem atI_pos {α : Type} {xs : List α} {m : Nat} {v : α} (h : xs[m]? = some v) : atI xs (m : Int) = some v := by
  have hl := (List.getElem?_eq_some_iff.mp h).1
  unfold atI ixN
  rw [if_pos (by omega), if_pos (by omega)]
  exact h
theorem atI_neg1 {α : Type} {xs : List α} {v : α} (h : xs.getLast? = some v) : atI xs (-1) = some v := by
  have hl : xs ≠ [] := fun z => by
    subst z
    cases h
  have hp : 0 < xs.length := List.length_pos_iff.mpr hl
  unfold atI ixN
  rw [if_neg (by omega), if_pos (by omega)]
  show xs[((-1 : Int) + xs.length).toNat]? = some v
  rw [show ((-1 : Int) + xs.length).toNat = xs.length - 1 by omega, ← List.getLast?_eq_getElem?]
  exact h
/-! slices -/
def cut {α : Type} (xs : List α) (lo hi : Option Int) : List α := (xs.drop (HT.sIx xs.length 0 lo)).take (HT.sIx xs.length xs.length hi - HT.sIx xs.length 0 lo)
theorem cut_dq {K : PySem.W.Frag} {H : Hp} {vs : List V} (lo hi : Option Int) (h : DqAll K H vs ds) : DqAll K H (cutV vs lo hi) (cut ds lo hi) := by
  unfold cutV cut
  rw [dpall_len h]
  exact dpall_take _ (dpall_drop _ h)
variable {t1 : TE} {tl th : TO} {lo hi : Option Int}
theorem vl_sl {S : List D → Prop} (h : VV C t1 Γ (fun d => ∃ ds, d = .list ds ∧ S ds)) (h1 : VO C tl Γ (Is lo)) (h2 : VO C th Γ (Is hi)) : VL C (tSl (rSlany C.K) t1 tl th) Γ (fun es => ∃ ds, S ds ∧ es = cut ds lo hi) := fun B H σ F Q q =>
  h B H σ F _ fun d v B1 H1 ⟨ds, ed, r⟩ s1 k1 => h1 B1 H1 σ (F.step s1) _ fun o B2 H2 e2 s2 => h2 B2 H2 σ ((F.step s1).step s2) _ fun o' B3 H3 e3 s3 => by
    subst ed
    cases e2
    cases e3
    have F3 := ((F.step s1).step s2).step s3
    have k3 := (k1.step (F.step s1) s2).step ((F.step s1).step s2) s3
    obtain ⟨a, xs, rfl, g1, g2⟩ := k3.lst F3.sub
    have st := (s1.trans F.dlNow s2).trans F.dlNow s3
    exact Or.inl ⟨a, xs, rfl, g1, fun p hp => q _ p _ B3 _ ⟨ds, r, rfl⟩ (st.trans F.dlNow (Stp.newM F3.sub hp)) (back_none F st hp) (F3.sub.free hp) upd_same (cut_dq lo hi g2)⟩
theorem vl_slD (h : VV C t1 Γ (Is (.list ds))) (h1 : VO C tl Γ (Is lo)) (h2 : VO C th Γ (Is hi)) : VL C (tSl (rSlany C.K) t1 tl th) Γ (Is (cut ds lo hi)) :=
  (vl_sl (S := Is ds) (fun B H σ F Q q => h B H σ F Q fun d v B' H' e s k => q d v B' H' ⟨ds, e, rfl⟩ s k) h1 h2).imp fun es ⟨xs, e, r⟩ => by
    cases e
    exact r
theorem ve_slT (h : VE C t1 Γ (Is (.tuple ds))) (h1 : VO C tl Γ (Is lo)) (h2 : VO C th Γ (Is hi)) : VE C (tSl (rSlany C.K) t1 tl th) Γ (Is (.tuple (cut ds lo hi))) := fun B H σ F Q q =>
  h B H σ F _ fun d v B1 H1 ed s1 k1 => h1 B1 H1 σ (F.step s1) _ fun o B2 H2 e2 s2 => h2 B2 H2 σ ((F.step s1).step s2) _ fun o' B3 H3 e3 s3 => by
    cases ed
    cases e2
    cases e3
    have F3 := ((F.step s1).step s2).step s3
    have k3 := dp_mono (s2.ext.trans s3.ext) k1
    obtain ⟨a, xs, rfl, g1, g2⟩ := dp_tup k3
    have st := (s1.trans F.dlNow s2).trans F.dlNow s3
    refine Or.inr (Or.inl ⟨a, xs, rfl, same_t F3.sub g1, fun w => ?_, fun _ p hp => ?_⟩)
    · have e : cut ds lo hi = ds := by
        unfold cut
        rw [dpall_len g2] at w
        rw [w.1, w.2]
        simp
      rw [e] at q
      exact q _ _ B3 H3 rfl st k3
    · exact q _ _ _ _ rfl (st.trans F.dlNow (Stp.new F3.sub hp)) (.tup (Or.inl (Or.inl upd_same)) (dpall_mono (Stp.new (dl := C.dl) F3.sub hp).ext (cut_dq lo hi g2)))
theorem ve_slS (hz : s.length ≤ 1000000) (h : VE C t1 Γ (Is (.str s))) (h1 : VO C tl Γ (Is lo)) (h2 : VO C th Γ (Is hi)) : VE C (tSl (rSlany C.K) t1 tl th) Γ (Is (.str ⟨(cut s.cps.toList lo hi).toArray⟩)) := fun B H σ F Q q =>
  h B H σ F _ fun d v B1 H1 ed s1 k1 => h1 B1 H1 σ (F.step s1) _ fun o B2 H2 e2 s2 => h2 B2 H2 σ ((F.step s1).step s2) _ fun o' B3 H3 e3 s3 => by
    cases ed
    cases e2
    cases e3
    obtain rfl := dp_str k1
    refine Or.inr (Or.inr ⟨s, rfl, Nat.le_trans hz (by decide), ?_⟩)
    have e : cutS s lo hi = ⟨(cut s.cps.toList lo hi).toArray⟩ := by
      unfold cutS cut
      rfl
    rw [e]
    exact q _ _ B3 H3 rfl ((s1.trans F.dlNow s2).trans F.dlNow s3) (.str _)
theorem vl_rev {S : List D → Prop} (h : VV C t1 Γ (fun d => ∃ ds, d = .list ds ∧ S ds)) : VL C (tRevL C.K t1) Γ (fun es => ∃ ds, S ds ∧ es = ds.reverse) := fun B H σ F Q q =>
  h B H σ F _ fun d v B1 H1 ⟨ds, ed, r⟩ s1 k1 => by
    subst ed
    have F1 := F.step s1
    obtain ⟨a, xs, rfl, g1, g2⟩ := k1.lst F1.sub
    exact ⟨a, xs, rfl, g1, fun p hp => q _ p _ B1 _ ⟨ds, r, rfl⟩ (s1.trans F.dlNow (Stp.newM F1.sub hp)) (back_none F s1 hp) (F1.sub.free hp) upd_same (dpall_rev g2)⟩
theorem vl_revD (h : VV C t1 Γ (Is (.list ds))) : VL C (tRevL C.K t1) Γ (Is ds.reverse) :=
  (vl_rev (S := Is ds) (fun B H σ F Q q => h B H σ F Q fun d v B' H' e s k => q d v B' H' ⟨ds, e, rfl⟩ s k)).imp fun es ⟨xs, e, r⟩ => by
    cases e
    exact r
end
end Ly

/-! LyH: built-ins by data: len, tuple, list, int, abs, max, min, sum, all, any, repr, join, isinstance; enumerate of a text. -/
namespace Ly
open PySem PySem.Spec PyProof.Rows L2

section
variable {C : Cn} {Γ : List Sl} {x y z d : D} {ds es : List D} {i j : Int} {s t : Str} {R : D → Prop} {te ta tb : TE} {S : List D → Prop}
/-! ### len -/
def rLen (K : PySem.W.Frag) : List V → Hp → VK → Prop := fun xs H Q => ∃ x n, xs = [x] ∧ LenV K x H n ∧ Q (.int n) H
theorem cq_len {X : Cx} : CallR X (.builtin "len") (rLen X.K) := call_len
theorem cd_lenL : CD C (rLen C.K) [.list ds] (Is (.int ds.length)) := fun B H vs e k Q q => by
  cases k with
  | cons k k' =>
    cases k'
    obtain ⟨a, xs, rfl, h1, h2⟩ := k.lst e
    rw [← dpall_len h2] at q
    exact ⟨_, xs.length, rfl, Or.inl ⟨xs, h1, rfl⟩, q _ _ B H rfl (Stp.refl e) (.int _)⟩
theorem cd_lenT : CD C (rLen C.K) [.tuple ds] (Is (.int ds.length)) := fun B H vs e k Q q => by
  cases k with
  | cons k k' =>
    cases k'
    obtain ⟨a, xs, rfl, h1, h2⟩ := k.tup e
    rw [← dpall_len h2] at q
    exact ⟨_, xs.length, rfl, Or.inr ⟨xs, h1, rfl⟩, q _ _ B H rfl (Stp.refl e) (.int _)⟩
theorem cd_lenS (h : s.length ≤ 1000000) : CD C (rLen C.K) [.str s] (Is (.int s.length)) := fun B H vs e k Q q => by
  cases k with
  | cons k k' =>
    cases k'
    obtain rfl := k.str
    exact ⟨_, s.length, rfl, ⟨Nat.le_trans h (by decide), rfl⟩, q _ _ B H rfl (Stp.refl e) (.int _)⟩
theorem ve_lenL (h : VV C te Γ (Is (.list ds))) : VE C (tCB (rLen C.K) (tCons te tNil)) Γ (Is (.int ds.length)) := ve_cbD (vw_consD h vw_nil) cd_lenL
theorem ve_lenT (h : VE C te Γ (Is (.tuple ds))) : VE C (tCB (rLen C.K) (tCons te tNil)) Γ (Is (.int ds.length)) := ve_cbD (vw_consD h.v vw_nil) cd_lenT
theorem ve_lenS (hz : s.length ≤ 1000000) (h : VE C te Γ (Is (.str s))) : VE C (tCB (rLen C.K) (tCons te tNil)) Γ (Is (.int s.length)) := ve_cbD (vw_consD h.v vw_nil) (cd_lenS hz)
/-! ### tuple, list -/
def rTup (K : PySem.W.Frag) : List V → Hp → VK → Prop := fun xs H Q => ∃ p ys, xs = [.ref p] ∧ ((SqL K H p ys ∧ ∀ l, H l = none → Q (.ref l) (upd H l (.tup ys))) ∨ (SqT K H p ys ∧ Q (.ref p) H))
theorem cq_tup {X : Cx} : CallR X (.type "tuple") (rTup X.K) := call_tuple_of
theorem cd_tupL : CD C (rTup C.K) [.list ds] (Is (.tuple ds)) := fun B H vs e k Q q => by
  cases k with
  | cons k k' =>
    cases k'
    obtain ⟨a, xs, rfl, h1, h2⟩ := k.lst e
    exact ⟨a, xs, rfl, Or.inl ⟨h1, fun l hl => q _ _ _ _ rfl (Stp.new e hl) (.tup (Or.inl (Or.inl upd_same)) (dpall_mono (Stp.new (dl := C.dl) e hl).ext h2))⟩⟩
theorem cd_tupT : CD C (rTup C.K) [.tuple ds] (Is (.tuple ds)) := fun B H vs e k Q q => by
  cases k with
  | cons k k' =>
    cases k'
    have k0 := k
    obtain ⟨a, xs, rfl, h1, h2⟩ := k.tup e
    rcases k0 with k0 | ⟨_, _, _, _, z, _⟩
    · exact ⟨a, xs, rfl, Or.inr ⟨h1, q _ _ B H rfl (Stp.refl e) k0⟩⟩
    · cases z
theorem ve_tupL (h : VV C te Γ (Is (.list ds))) : VE C (tCB (rTup C.K) (tCons te tNil)) Γ (Is (.tuple ds)) := ve_cbD (vw_consD h vw_nil) cd_tupL
theorem ve_tupN (h : VV C te Γ (fun d => ∃ ds, d = .list ds ∧ S ds)) : VE C (tCB (rTup C.K) (tCons te tNil)) Γ (fun d => ∃ ds, d = .tuple ds ∧ S ds) := ve_cb (vw_cons h vw_nil) fun xs ⟨d, r, e, ⟨ds, e1, e2⟩, e3⟩ => by
  subst e1
  cases e3
  subst e
  intro B H vs e k Q q
  exact cd_tupL B H vs e k Q fun d w B' H' r s k => q d w B' H' ⟨ds, r, e2⟩ s k
def rList (K : PySem.W.Frag) : List V → Hp → VK → Prop := fun xs H Q => ∃ p ys, xs = [.ref p] ∧ (SqL K H p ys ∨ SqT K H p ys) ∧ ∀ l, H l = none → Q (.ref l) (upd H l (.lst ys))
theorem cq_list {X : Cx} : CallR X (.type "list") (rList X.K) := call_list_of
theorem cl_listL : CL C (rList C.K) [.list ds] (Is ds) := fun B H vs e k Q q => by
  cases k with
  | cons k k' =>
    cases k'
    obtain ⟨a, xs, rfl, h1, h2⟩ := k.lst e
    exact ⟨a, xs, rfl, Or.inl h1, fun l hl => q _ l xs B _ rfl (Stp.newM e hl) hl (e.free hl) upd_same h2⟩
theorem cl_listT : CL C (rList C.K) [.tuple ds] (Is ds) := fun B H vs e k Q q => by
  cases k with
  | cons k k' =>
    cases k'
    obtain ⟨a, xs, rfl, h1, h2⟩ := k.tup e
    exact ⟨a, xs, rfl, Or.inr h1, fun l hl => q _ l xs B _ rfl (Stp.newM e hl) hl (e.free hl) upd_same h2⟩
theorem vl_listL (h : VV C te Γ (Is (.list ds))) : VL C (tCB (rList C.K) (tCons te tNil)) Γ (Is ds) := vl_cbD (vw_consD h vw_nil) cl_listL
theorem vl_listT (h : VE C te Γ (Is (.tuple ds))) : VL C (tCB (rList C.K) (tCons te tNil)) Γ (Is ds) := vl_cbD (vw_consD h.v vw_nil) cl_listT
/-! ### ints -/
def rInt1 : List V → Hp → VK → Prop := fun xs H Q => (∃ i, xs = [.int i] ∧ Q (.int i) H) ∨ ∃ k, xs = [.bl k] ∧ Q (.int (if k then 1 else 0)) H
theorem cq_int {X : Cx} : CallR X (.type "int") rInt1 := call_int1
theorem ve_int1 (h : VE C te Γ (Is (.int i))) : VE C (tCB rInt1 (tCons te tNil)) Γ (Is (.int i)) := ve_cbD (vw_consD h.v vw_nil) fun B H vs e k Q q => by
  cases k with
  | cons k k' =>
    cases k'
    obtain rfl := k.int
    exact Or.inl ⟨i, rfl, q _ _ B H rfl (Stp.refl e) (.int _)⟩
theorem ve_int1R {R : Int → Prop} (h : VE C te Γ (fun d => ∃ i, d = .int i ∧ R i)) : VE C (tCB rInt1 (tCons te tNil)) Γ (fun d => ∃ i, d = .int i ∧ R i) := ve_cb (vw_cons h.v vw_nil) fun xs ⟨d, r, e, ⟨i, e1, e2⟩, e3⟩ => by
  subst e1
  cases e3
  subst e
  intro B H vs e k Q q
  cases k with
  | cons k k' =>
    cases k'
    obtain rfl := k.int
    exact Or.inl ⟨i, rfl, q _ _ B H ⟨i, rfl, e2⟩ (Stp.refl e) (.int _)⟩
def rAbs : List V → Hp → VK → Prop := fun xs H Q => ∃ i, xs = [.int i] ∧ Q (.int (if i < 0 then -i else i)) H
theorem cq_abs {X : Cx} : CallR X (.builtin "abs") rAbs := call_abs
theorem ve_abs (h : VE C te Γ (Is (.int i))) : VE C (tCB rAbs (tCons te tNil)) Γ (Is (.int (if i < 0 then -i else i))) := ve_cbD (vw_consD h.v vw_nil) fun B H vs e k Q q => by
  cases k with
  | cons k k' =>
    cases k'
    obtain rfl := k.int
    exact ⟨i, rfl, q _ _ B H rfl (Stp.refl e) (.int _)⟩
def rMx : List V → Hp → VK → Prop := fun xs H Q => ∃ i j, xs = [.int i, .int j] ∧ Q (.int (if j > i then j else i)) H
theorem cq_max {X : Cx} (hc : X.calm = true) : CallR X (.builtin "max") rMx := call_max2 hc
theorem ve_max (h : VE C ta Γ (Is (.int i))) (h2 : VE C tb Γ (Is (.int j))) : VE C (tCB rMx (tCons ta (tCons tb tNil))) Γ (Is (.int (if j > i then j else i))) := ve_cbD (vw_consD h.v (vw_consD h2.v vw_nil)) fun B H vs e k Q q => by
  cases k with
  | cons k k' =>
    cases k' with
    | cons k1 k2 =>
      cases k2
      obtain rfl := k.int
      obtain rfl := k1.int
      exact ⟨i, j, rfl, q _ _ B H rfl (Stp.refl e) (.int _)⟩
def rMn : List V → Hp → VK → Prop := fun xs H Q => ∃ i j, xs = [.int i, .int j] ∧ Q (.int (if j < i then j else i)) H
theorem cq_min {X : Cx} (hc : X.calm = true) : CallR X (.builtin "min") rMn := call_min2 hc
theorem ve_min (h : VE C ta Γ (Is (.int i))) (h2 : VE C tb Γ (Is (.int j))) : VE C (tCB rMn (tCons ta (tCons tb tNil))) Γ (Is (.int (if j < i then j else i))) := ve_cbD (vw_consD h.v (vw_consD h2.v vw_nil)) fun B H vs e k Q q => by
  cases k with
  | cons k k' =>
    cases k' with
    | cons k1 k2 =>
      cases k2
      obtain rfl := k.int
      obtain rfl := k1.int
      exact ⟨i, j, rfl, q _ _ B H rfl (Stp.refl e) (.int _)⟩
theorem ve_sum {ns : List Int} (h : VV C te Γ (Is (.list (ns.map .int)))) : VE C (tCB (rSum C.K) (tCons te tNil)) Γ (Is (.int ns.sum)) := ve_cbD (vw_consD h vw_nil) fun B H vs e k Q q => by
  cases k with
  | cons k k' =>
    cases k'
    obtain ⟨a, xs, rfl, h1, h2⟩ := k.lst e
    rw [dpall_ints h2] at h1
    exact ⟨a, ns, rfl, h1, q _ _ B H rfl (Stp.refl e) (.int _)⟩
theorem ve_all {ns : List Bool} (h : VV C te Γ (Is (.list (ns.map .bool)))) : VE C (tCB (rAll C.K) (tCons te tNil)) Γ (Is (.bool (ns.all id))) := ve_cbD (vw_consD h vw_nil) fun B H vs e k Q q => by
  cases k with
  | cons k k' =>
    cases k'
    obtain ⟨a, xs, rfl, h1, h2⟩ := k.lst e
    rw [dpall_bls h2] at h1
    exact ⟨a, ns, rfl, h1, q _ _ B H rfl (Stp.refl e) (.bl _)⟩
/-! ### repr -/
theorem ve_repr (h : VV C te Γ (Is d)) (h1 : d.showable = true) (h2 : d.hasDict = false) (h3 : d.depth ≤ 100) (h4 : d.shown.length ≤ sizeLine) : VE C (tCB (rRepr C.K) (tCons te tNil)) Γ (Is (.str d.shown)) := ve_cbD (vw_consD h vw_nil) fun B H vs e k Q q => by
  cases k with
  | cons k k' =>
    cases k'
    exact ⟨_, d, rfl, (k.now e).dpN h2, h1, h2, h3, h4, q _ _ B H rfl (Stp.refl e) (.str _)⟩
/-! ### join -/
def rJoin (K : PySem.W.Frag) : V → List V → Hp → VK → Prop := fun x xs H Q => ∃ a p, ∃ ys : List Str, x = .str a ∧ xs = [.ref p] ∧ (SqL K H p (ys.map V.str) ∨ SqT K H p (ys.map V.str)) ∧
  (ys.map (·.length)).sum + ys.length * a.length ≤ 16777216 ∧ Q (.str (Txt.join a ys)) H
theorem mq_join {X : Cx} : MtR X "str.join" (rJoin X.K) := mt_join
theorem ve_joinL {ys : List Str} (h : VE C ta Γ (Is (.str s))) (h2 : VV C te Γ (Is (.list (ys.map .str)))) (hz : (ys.map (·.length)).sum + ys.length * s.length ≤ 16777216) : VE C (tM1 (rJoin C.K) ta te) Γ (Is (.str (Txt.join s ys))) := fun B H σ F Q q =>
  h B H σ F _ fun d v B1 H1 ed s1 k1 => by
    cases ed
    obtain rfl := dp_str k1
    refine ⟨⟨s, rfl⟩, h2 B1 H1 σ (F.step s1) _ fun d v B2 H2 ed s2 k2 => ?_⟩
    cases ed
    obtain ⟨a, xs, rfl, g1, g2⟩ := k2.lst ((F.step s1).step s2).sub
    rw [dpall_strs g2] at g1
    exact ⟨s, a, ys, rfl, rfl, Or.inl g1, hz, q _ _ B2 H2 rfl (s1.trans F.dlNow s2) (.str _)⟩
theorem ve_joinT {ys : List Str} (h : VE C ta Γ (Is (.str s))) (h2 : VE C te Γ (Is (.tuple (ys.map .str)))) (hz : (ys.map (·.length)).sum + ys.length * s.length ≤ 16777216) : VE C (tM1 (rJoin C.K) ta te) Γ (Is (.str (Txt.join s ys))) := fun B H σ F Q q =>
  h B H σ F _ fun d v B1 H1 ed s1 k1 => by
    cases ed
    obtain rfl := dp_str k1
    refine ⟨⟨s, rfl⟩, h2 B1 H1 σ (F.step s1) _ fun d v B2 H2 ed s2 k2 => ?_⟩
    cases ed
    obtain ⟨a, xs, rfl, g1, g2⟩ := dp_tup k2
    rw [dpall_strs g2] at g1
    exact ⟨s, a, ys, rfl, rfl, Or.inr (same_t ((F.step s1).step s2).sub g1), hz, q _ _ B2 H2 rfl (s1.trans F.dlNow s2) (.str _)⟩
/-! ### isinstance -/
def tyName : D → String
  | .none => "NoneType"
  | .bool _ => "bool"
  | .int _ => "int"
  | .str _ => "str"
  | .list _ => "list"
  | .tuple _ => "tuple"
  | .dict _ => "dict"
def rIsAny (K : PySem.W.Frag) : List V → Hp → VK → Prop := fun xs H Q => rIsi K xs H Q ∨ rIsiT K xs H Q
theorem cq_isi {X : Cx} : CallR X (.builtin "isinstance") (rIsAny X.K) := CallR.or call_isi call_isiT
theorem vw_ty {B H : Hp} {v : V} (e : Same B H) (k : Vw C B H v x) : TyX C.K H v (.type (tyName x)) := by
  have q := k.now e
  cases q with
  | non => exact .base .non
  | bl b => exact .base (.bl b)
  | int i => exact .base (.int i)
  | str z => exact .base (.str z)
  | lst h _ =>
    rcases h with h | ⟨o, h⟩
    · exact .base (.lst h)
    · exact .base (.frz h)
  | tup h _ =>
    rcases h with (h | ⟨o, h⟩) | ⟨o, its, n, h1, h2, _⟩
    · exact .base (.tup h)
    · exact .fTuple h
    · exact .kTuple h1 h2
  | dct h _ _ =>
    rcases h with h | ⟨o, h⟩
    · exact .base (.dK h)
    · exact .fDict h
/-- isinstance(x, T) -/
theorem ve_isi {n : String} {b : Bool} (h : VV C te Γ (Is x)) (hb : kitB (tyName x) n = some b) : VE C (tCB (rIsAny C.K) (tCons te (tCons (tC (.ty n)) tNil))) Γ (Is (.bool b)) := fun B H σ F Q q =>
  h B H σ F _ fun d v B1 H1 ed s1 k1 => by
    cases ed
    exact Or.inl ⟨v, .ty n, _, _, b, rfl, .ty n, vw_ty (F.step s1).sub k1, kit_ty hb, q _ _ B1 H1 rfl s1 (.bl _)⟩
/-- isinstance(x, (T, U)) -/
theorem ve_isi2 {m n : String} {b c : Bool} (h : VV C te Γ (Is x)) (hb : kitB (tyName x) m = some b) (hc : kitB (tyName x) n = some c) :
    VE C (tCB (rIsAny C.K) (tCons te (tCons (tTup (tCons (tC (.ty m)) (tCons (tC (.ty n)) tNil))) tNil))) Γ (Is (.bool (b || c))) := fun B H σ F Q q =>
  h B H σ F _ fun d v B1 H1 ed s1 k1 => by
    cases ed
    refine ⟨by show 2 ≤ sizeLine; decide, fun p hp => ?_⟩
    have st := Stp.newM (dl := C.dl) (o := .tup [V.ty m, V.ty n]) (F.step s1).sub hp
    have k2 := k1.step (F.step s1) st
    refine Or.inr ⟨v, p, [.ty m, .ty n], _, [.type m, .type n], b || c, rfl, upd_same, .cons (.ty m) (.cons (.ty n) .nil), vw_ty ((F.step s1).step st).sub k2, ?_, q _ _ B1 _ rfl (s1.trans F.dlNow st) (.bl _)⟩
    refine kitAny_cons (kit_ty hb) (fun e => ?_) fun e => by rw [e]; rfl
    subst e
    refine kitAny_cons (r := false || c) (kit_ty hc) (fun e => ?_) fun e => by rw [e]; rfl
    subst e
    rfl
end

/-! ### enumerate of a text -/
def ItS (z : Str) : It := ⟨fun i _ => i < z.cps.size, fun i H v H' => ∃ T c, v = .ref T ∧ H T = none ∧ H' = upd H T (.tup [.int (i : Nat), .str ⟨#[c]⟩]) ∧ z.cps[i]? = some c, fun i _ => i = z.cps.size⟩
theorem walk_enumS {z : Str} : Walk (ItS z) z.cps.size (fun _ => True) (fun i H v H' => ∃ T c, v = .ref T ∧ H T = none ∧ H' = upd H T (.tup [.int (i : Nat), .str ⟨#[c]⟩]) ∧ z.cps[i]? = some c) :=
  ⟨fun _ _ h _ => h, fun _ _ => rfl, fun _ _ _ _ _ _ y => y⟩
theorem draws_str {prog : Program} {w : World} {A : Around} (hh : A.handled = none) (it : Addr) (x : Str) (t : Tok) :
    Draws prog w A it [it] x.cps.size (fun i v => ∃ c u, x.cps[i]? = some c ∧ v = .str ⟨#[c]⟩ u) (fun i h => h.IsStrIter it (strIterType x) x t i) := by
  unfold strIterType
  split
  · exact Draws.strAscii hh it x t
  · exact Draws.strWide hh it x t
theorem turn_enumS {P : Program} {w : World} {K : PySem.W.Frag} {elts : List Expr} {kk : Nat} {tpos : Pos} (z : Str) (t : Tok) (e it : Addr) :
    Turn P w K (.Tuple elts kk tpos) (ItS z) [e, it] e (fun i h => (∃ old, IsEnum h e it ((i : Nat) : Int) old) ∧ h.IsStrIter it (strIterType z) z t i ∧ e ≠ it) := by
  refine ⟨by simp, ?_, ?_, ?_, ?_, ?_⟩
  · rintro i h ⟨⟨old, he⟩, ⟨o, ho, hc, hd⟩, _⟩ b hb
    rcases List.mem_cons.mp hb with rfl | hb
    · exact ⟨_, he, fun v q => nomatch q⟩
    · rw [List.mem_singleton] at hb
      subst hb
      exact ⟨o, ho, fun v q => by rw [hd] at q; cases q⟩
  · rintro i h h' ⟨⟨old, he⟩, ⟨o, ho, r⟩, hne⟩ k
    exact ⟨⟨old, k e (by simp) _ he⟩, ⟨o, k it (by simp) o ho, r⟩, hne⟩
  · rintro X rfl rfl rfl hc i pins s σ H E I hf ⟨⟨old, he⟩, hit, hne⟩ hg
    have hel : e < s.heap.objs.size := Heap.lt_size he
    have hil : it < s.heap.objs.size := by
      obtain ⟨_, q, _⟩ := hit
      exact Heap.lt_size q
    refine wpAny_pyNext_enum_itemD (draws_str (by simpa using I.ok.hd hc) it z t) he hit hg hne (fun z => hne (List.mem_singleton.mp z)) fun x h' tk hP ho hit' hT hsz hk => ?_
    obtain ⟨c, u, hcx, rfl⟩ := hP
    refine ⟨_, rfl, wpAny_letOwnedTupleGo_enum (s := { s with heap := h', toks := tk + 1 }) ho fun h'' he' sb => ?_⟩
    have hT2 := (sb.2 s.heap.objs.size (Nat.ne_of_gt hel)).trans hT
    have new : ObjOk X.prog X.w (upd H s.heap.objs.size (.tup [.int (i : Nat), .str ⟨#[c]⟩])) h'' s.heap.objs.size (.tup [.int (i : Nat), .str ⟨#[c]⟩]) :=
      ⟨by show 2 ≤ sizeLine; decide, _, .cons ⟨_, rfl⟩ (.cons ⟨_, rfl⟩ .nil), ⟨_, hT2, rfl, _, rfl⟩⟩
    have J := I.turnedNew (ch := [e, it]) (t' := tk + 1) (fun b ob hb q => (sb.2 b (fun y => hb (by simp [y]))).trans (hk b ob (fun y => hb (by simp [y])) (fun y => hb (by simp [y])) q)) hf (Nat.le_refl _) new
    refine ⟨.ref s.heap.objs.size, _, J, rfl, ⟨_, c, rfl, I.hok.fresh (Nat.le_refl _), rfl, hcx⟩, ⟨⟨Value.str ⟨#[c]⟩ u, ?_⟩, ?_, hne⟩, fun b hb => ?_⟩
    · rw [show ((i + 1 : Nat) : Int) = (i : Int) + 1 by omega]
      exact he'
    · obtain ⟨o, ho', r⟩ := hit'
      exact ⟨o, (sb.2 it (Ne.symm hne)).trans ho', r⟩
    · have hb' : b < s.heap.objs.size := by
        rcases List.mem_cons.mp hb with y | y
        · rw [y]
          exact hel
        · rw [List.mem_singleton.mp y]
          exact hil
      rw [upd_ne (Nat.ne_of_lt hb')]
      exact (hf b hb).1
  · rintro X rfl rfl rfl hc i pins s σ H E I hf ⟨⟨old, he⟩, hit, hne⟩ hg
    obtain ⟨f0, f1, f2, f3, f4, f5⟩ := hf it (by simp)
    obtain rfl : i = z.cps.size := hg
    exact wpAny_pyNext_enum_endD (draws_str (by simpa using I.ok.hd hc) it z t) he hit fun h' eb => ⟨rfl, I.turned (t' := s.toks) (fun b o hb q => eb b o hb q) f0 f1 f3 f4 f5⟩
  · rintro A i s Q E ⟨⟨_, he⟩, _⟩ h
    exact wpAny_pyIter_enum he h
def iEnumS (ta : TA) : TI := fun σ H R => ta σ H fun vs H1 => ∃ z, vs = [.str z] ∧ R (ItS z) H1
theorem pi_enumS {X : Cx} {e : Expr} {ta : TA} {p pos tpos : Pos} {elts : List Expr} {kk : Nat} (hg : Gl X "enumerate") (hm : X.mg "enumerate" = none) (ha : PA X [e] ta) (hs : starEach [e] X.env = [(false, eval e X.env)] := by rfl) :
    PI X (.Tuple elts kk tpos) (.Call (.Name "enumerate" p) [e] [] pos) (iEnumS ta) := by
  constructor
  intro pins s σ H R I h
  refine Call_ (ld_blt I hg hm boot_enumerate ?_)
  refine PyProof.Rows.callWith_type1 ?_ hs rfl
  refine thn (ha.run pos pins s σ H _ I h) ?_
  rintro us s1 ⟨vs, H1, I1, r1, z, ex, q⟩
  subst ex
  obtain ⟨u, rfl, t, rfl⟩ := vals1 r1
  refine call_enumerate_str fun h' he hit hsz hk => wpAny_pyIter_enum he ?_
  have J : L2.Inv X pins σ H1 { s1 with heap := h' } := I1.kept (t' := s1.toks) hk
  refine ⟨_, [s1.heap.objs.size + 1, s1.heap.objs.size], _, _, H1, rfl, J, turn_enumS z t (s1.heap.objs.size + 1) s1.heap.objs.size, ⟨⟨.none, he⟩, hit, Nat.succ_ne_self _⟩, fun b hb => ?_, q⟩
  have hle : s1.heap.objs.size ≤ b := by
    rcases List.mem_cons.mp hb with y | y
    · rw [y]
      exact Nat.le_succ _
    · rw [List.mem_singleton.mp y]
      exact Nat.le_refl _
  exact I1.fpOk hle (I1.hok.fresh hle)
/-- the pairs of a place and a sign -/
def placed (z : Str) : List D := (List.range z.cps.size).map fun i => .tuple [.int (i : Nat), .str ⟨#[z.cps.getD i 0]⟩]
theorem placed_len (z : Str) : (placed z).length = z.cps.size := by simp [placed]
theorem placed_get {z : Str} {i : Nat} {d : D} (h : (placed z)[i]? = some d) : ∃ c, z.cps[i]? = some c ∧ d = .tuple [.int (i : Nat), .str ⟨#[c]⟩] := by
  unfold placed at h
  rw [List.getElem?_map] at h
  by_cases hi : i < z.cps.size
  · rw [List.getElem?_range hi] at h
    cases h
    refine ⟨z.cps[i], Array.getElem?_eq_getElem hi, ?_⟩
    show PyData.tuple [PyData.int (i : Nat), PyData.str ⟨#[z.cps.getD i 0]⟩] = _
    rw [Array.getD_eq_getD_getElem?, Array.getElem?_eq_getElem hi]
    rfl
  · rw [List.getElem?_eq_none_iff.mpr (by simpa using hi)] at h
    cases h
theorem vi_enumS {C : Cn} {Γ : List Sl} {te : TE} {z : Str} (h : VE C te Γ (Is (.str z))) : VI C (iEnumS (tCons te tNil)) Γ (Is (placed z)) := fun B H σ F T q => h B H σ F _ fun d v B1 H1 r s k => by
  cases r
  obtain rfl := dp_str k
  refine ⟨z, rfl, q _ _ B1 H1 (fun _ => True) _ rfl s (by rw [placed_len]; exact walk_enumS) (fun _ _ _ _ => trivial) ?_⟩
  rintro i x H2 H2' ⟨T, c, rfl, hT, rfl, hc⟩ B2 d e1 e2 hd
  obtain ⟨c', hc', rfl⟩ := placed_get hd
  rw [hc] at hc'
  cases hc'
  exact ⟨_, Stp.new e2 hT, .tup (Or.inl (Or.inl upd_same)) (.cons (.int _) (.cons (.str _) .nil))⟩
end Ly

/-! LyI: a loop over any list, tuple or text; signs compared; the source of draws' own shape. -/
namespace Ly
open PySem PySem.Spec PyProof.Rows L2

/-- for x in e, e a list, a tuple or a text -/
def iAny (K : PySem.W.Frag) (tl : TE) : TI := fun σ H R => tl σ H fun x H1 => (∃ a, x = .ref a ∧ (∃ xs, SqL K H1 a xs) ∧ R (Itl K a) H1) ∨ ((∃ a, x = .ref a ∧ (∃ xs, SqT K H1 a xs) ∧ R (Itt K a) H1) ∨ ∃ z, x = .str z ∧ R (Its z) H1)
theorem pi_any {X : Cx} {tg l : Expr} {tl : TE} (hl : PE X l tl) : PI X tg l (iAny X.K tl) := by
  constructor
  intro pins s σ H R I h
  refine thn (hl.run pins s σ H _ I h) ?_
  rintro v s1 ⟨x, H1, I1, r1, q⟩
  have fresh1 : ∀ b ∈ [s1.heap.objs.size], FpOk X pins H1 b := fun b hb => by
    rw [List.mem_singleton.mp hb]
    exact I1.fpOk (Nat.le_refl _) (I1.hok.fresh (Nat.le_refl _))
  rcases q with ⟨a, rfl, ⟨xs, hq⟩, q⟩ | ⟨a, rfl, ⟨xs, hq⟩, q⟩ | ⟨z, rfl, q⟩
  · obtain rfl : v = Value.ref a := r1
    obtain ⟨its, _, p, _⟩ := I1.list hq
    apply wpAny_pyIter_list p.isList
    exact ⟨_, [s1.heap.objs.size], _, _, H1, rfl, I1.kept (t' := s1.toks) fun b o e => Heap.get?_push_of_some _ e, turn_list a s1.heap.objs.size, ⟨_, Heap.get?_push_size _ rfl, rfl, rfl⟩, fresh1, q⟩
  · obtain rfl : v = Value.ref a := r1
    obtain ⟨its, _, p, _⟩ := I1.tuple hq
    apply wpAny_pyIter_tuple (show s1.heap.IsTuple a its.toArray from p)
    exact ⟨_, [s1.heap.objs.size], _, _, H1, rfl, I1.kept (t' := s1.toks) fun b o e => Heap.get?_push_of_some _ e, turn_tuple a s1.heap.objs.size, ⟨_, Heap.get?_push_size _ rfl, rfl, rfl⟩, fresh1, q⟩
  · obtain ⟨t, rfl⟩ := r1
    by_cases ha : z.cps.all (· < 128) = true
    · exact wpAny_pyIter_ascii ha (pi_one (tk := s1.toks) I1 _ (turn_str s1.heap.objs.size z t "str_ascii_iterator" (Or.inl rfl)) ⟨_, Heap.get?_push_size _ rfl, rfl, rfl⟩ q)
    · exact wpAny_pyIter_wide (by simpa using ha) (pi_one (tk := s1.toks) I1 _ (turn_str s1.heap.objs.size z t "str_iterator" (Or.inr rfl)) ⟨_, Heap.get?_push_size _ rfl, rfl, rfl⟩ q)
section
variable {C : Cn} {Γ : List Sl} {t te ta tb tc : TE} {ds : List D} {S : List D → Prop} {s z : Str}
theorem va_list (h : VE C t Γ (fun d => ∃ ds, d = .list ds ∧ S ds)) : VI C (iAny C.K t) Γ S := fun B H σ F T q => h B H σ F _ fun d v B1 H1 ⟨ds, e, r⟩ s k => by
  subst e
  obtain ⟨a, xs, rfl, h1, h2⟩ := dp_lst k
  refine Or.inl ⟨a, rfl, ⟨xs, same_l (F.step s).sub h1⟩, q ds _ B1 H1 _ _ r s (dpall_len h2 ▸ walk_list) (fun B2 H2 e1 e2 => same_l e2 (same_l e1 h1)) ?_⟩
  rintro i x H2 H2' ⟨rfl, hx⟩ B2 d e1 e2 hd
  obtain ⟨v, hv, k2⟩ := dpall_get h2 hd
  rw [hx] at hv
  cases hv
  exact ⟨B2, Stp.refl e2, dp_mono e1 k2⟩
theorem va_listD (h : VE C t Γ (Is (.list ds))) : VI C (iAny C.K t) Γ (Is ds) := va_list (h.imp fun d e => ⟨ds, e, rfl⟩)
theorem va_tup (h : VE C t Γ (fun d => ∃ ds, d = .tuple ds ∧ S ds)) : VI C (iAny C.K t) Γ S := fun B H σ F T q => h B H σ F _ fun d v B1 H1 ⟨ds, e, r⟩ s k => by
  subst e
  obtain ⟨a, xs, rfl, h1, h2⟩ := dp_tup k
  refine Or.inr (Or.inl ⟨a, rfl, ⟨xs, same_t (F.step s).sub h1⟩, q ds _ B1 H1 _ _ r s (dpall_len h2 ▸ walk_tup) (fun B2 H2 e1 e2 => same_t e2 (same_t e1 h1)) ?_⟩)
  rintro i x H2 H2' ⟨rfl, hx⟩ B2 d e1 e2 hd
  obtain ⟨v, hv, k2⟩ := dpall_get h2 hd
  rw [hx] at hv
  cases hv
  exact ⟨B2, Stp.refl e2, dp_mono e1 k2⟩
theorem va_tupD (h : VE C t Γ (Is (.tuple ds))) : VI C (iAny C.K t) Γ (Is ds) := va_tup (h.imp fun d e => ⟨ds, e, rfl⟩)
theorem va_strD (h : VE C t Γ (Is (.str z))) : VI C (iAny C.K t) Γ (Is (signs z)) := fun B H σ F T q => h B H σ F _ fun d v B1 H1 r s k => by
  cases r
  obtain rfl := dp_str k
  refine Or.inr (Or.inr ⟨z, rfl, q _ _ B1 H1 _ _ rfl s (signs_len z ▸ walk_str) (fun _ _ _ _ => trivial) ?_⟩)
  rintro i x H2 H2' ⟨rfl, c, hc, rfl⟩ B2 d e1 e2 hd
  have hd' : (signs z)[i]? = some (.str ⟨#[c]⟩) := by
    unfold signs
    rw [List.getElem?_map, Array.getElem?_toList, hc]
    rfl
  rw [hd'] at hd
  cases hd
  exact ⟨B2, Stp.refl e2, .str _⟩
/-! a < b < c -/
theorem ve_chain {r r' : R2} {x y : D} {R : D → Prop} {b : Bool} (ha : VE C ta Γ (Is x)) (hb : VE C tb Γ (Is y)) (ho : OD C r x y (Is (.bool b))) (h0 : b = false → R (.bool false)) (hc : b = true → VV C tc Γ (fun w => OD C r' y w R)) : VE C (tChain r r' ta tb tc) Γ R := fun B H σ F Q q =>
  ha B H σ F _ fun d v B1 H1 e1 s1 k1 => hb B1 H1 σ (F.step s1) _ fun d2 v2 B2 H2 e2 s2 k2 => by
    cases e1
    cases e2
    have F2 := (F.step s1).step s2
    refine ho B2 H2 v v2 F2.sub (Or.inl (dp_mono s2.ext k1)) (Or.inl k2) _ fun d3 w B3 H3 e3 s3 k3 => ?_
    cases e3
    obtain rfl := dp_bl k3
    have st := (s1.trans F.dlNow s2).trans F.dlNow s3
    refine ⟨b, rfl, ?_⟩
    cases b with
    | false => exact iteF (q _ _ B3 H3 (h0 rfl) st (.bl false))
    | true =>
      refine iteT (hc rfl B3 H3 σ (F2.step s3) _ fun d4 v4 B4 H4 e4 s4 k4 => ?_)
      exact e4 B4 H4 v2 v4 ((F2.step s3).step s4).sub (Or.inl (dp_mono (s3.ext.trans s4.ext) k2)) k4 _ fun d5 v5 B5 H5 e5 s5 k5 => q d5 v5 B5 H5 e5 ((st.trans F.dlNow s4).trans F.dlNow s5) k5
end
end Ly

/-! LyJ: the end of a law's row over GOk. -/
namespace Ly
open PySem PySem.Spec PyProof.Rows L2

/-- what is tracked at the law's own call: the script alone, if it is no object of the module -/
def H1 (K : PySem.W.Frag) (a : Addr) (o : Obj) (xs : List V) : Hp := fun b => if b = a ∧ K.lookup a = none then some (.frz o (.lst xs)) else none
theorem h1_at {K : PySem.W.Frag} {a : Addr} {o : Obj} {xs : List V} (h : K.lookup a = none) : H1 K a o xs a = some (.frz o (.lst xs)) := if_pos ⟨rfl, h⟩
theorem h1_only {K : PySem.W.Frag} {a b : Addr} {o : Obj} {xs : List V} {u : HO} (h : H1 K a o xs b = some u) : b = a ∧ K.lookup a = none ∧ u = .frz o (.lst xs) := by
  unfold H1 at h
  split at h
  · rename_i q
    cases h
    exact ⟨q.1, q.2, rfl⟩
  · cases h

section
variable {P : Program} {w : World} {K : PySem.W.Frag} {mg mb : Str → Option Value} {k : Nat} {fa a : Addr} {fd : FuncData} {x : Str} {sp : Sp} {s₁ : Shared} {vs : List Value} {ns : List Int}
theorem law_g (KX : K.In s₁.heap) (hns : s₁.heap.Ns mainGlobals mg) (hb : s₁.heap.Ns builtinsNs mb) (hbb : ∀ x : Str, x ≠ "__name__" → mb x = bootBuiltins x) (hlim : s₁.heap.NoLimit) (hg : s₁.gens = #[])
    (ha : s₁.heap.get? a = some { cls := .type "list", data := .seq vs.toArray }) (hi : IntsAre vs ns) (hl : ns.length ≤ sizeLine) (hr : Room k callerA)
    (F : ∀ base : Heap, K.In base → base.Ns mainGlobals mg → GOk P w K mg base CX0 k fa fd [x] sp) (hbind : ∀ (s : Shared) (u : Value), BindsTo s fd ⟨[u], []⟩ [(x, u)])
    (hsp : ∀ H : Hp, SqL K H a (ns.map V.int) → sp [.ref a] H (fun v _ => v = .bl true) E0) :
    codeAny (model P w) callerA (.call (.ref fa) ⟨[.ref a], []⟩) (fun r s' => r = .ok (.ret (.bool true)) ∧ OldK s₁.heap s'.heap ∧ s'.os = s₁.os ∧ AllBare s'.gens) s₁ := by
  have rv : Vals (ns.map V.int) vs := vals_ints hi
  have lv : vs.length = ns.length := by
    have := rv.length
    rw [List.length_map] at this
    exact this.symm
  let o : Obj := { cls := .type "list", data := .seq vs.toArray }
  let H : Hp := H1 K a o (ns.map V.int)
  have ok : HOk P w H s₁.heap := fun b u e => by
    obtain ⟨rfl, _, rfl⟩ := h1_only e
    exact ⟨ha, by rw [List.length_map]; exact hl, vs, _, rv, ha⟩
  have sq : SqL K H a (ns.map V.int) := by
    cases e : K.lookup a with
    | none => exact Or.inl (Or.inr ⟨o, h1_at e⟩)
    | some u =>
      have e2 := KX a u e
      rw [ha] at e2
      cases e2
      exact Or.inr ⟨_, vs.toArray, _, e, rfl, rfl, rfl, by rw [List.size_toArray, lv]; exact hl, by simpa using rv⟩
  have free : ∀ {b : Addr} {u : Obj} {es : Array DictEntry} {ep : Nat}, s₁.heap.get? b = some u → u.data = .dict es ep → H b = none := fun {b u es ep} e d => by
    cases q : H b with
    | none => rfl
    | some v =>
      obtain ⟨rfl, _, _⟩ := h1_only q
      rw [ha] at e
      cases e
      cases d
  have ns1 : ∀ {b : Addr} {m : Str → Option Value}, s₁.heap.Ns b m → (hidT s₁.heap H).Ns b m := by
    rintro b m ⟨u, es, ep, e, d, r⟩
    exact ⟨u, es, ep, hidT_get e (free e d), d, r⟩
  have kin : K.In (hidT s₁.heap H) := fun b u e => hidT_get (KX b u e) (by
    cases q : H b with
    | none => rfl
    | some v =>
      obtain ⟨rfl, z, _⟩ := h1_only q
      rw [z] at e
      cases e)
  obtain ⟨mc, hc1, hc2⟩ := hlim
  have hm : Mod K mg (hidT s₁.heap H) := ⟨kin, ns1 hns, ⟨mb, ns1 hb, hbb⟩, mc, ns1 hc1, hc2⟩
  have none_in : ∀ b : Addr, b ∉ frs ([] : List Env) := fun b hb => nomatch hb
  have e0 : Env0 P w K mg (hidT s₁.heap H) callerA [] s₁ H :=
    { frames := rfl, mod := hm, bs := fun b u e => of_hidT e, bsz := Nat.le_of_eq (hidT_size _ _), funs := trivial, frf := fun b hb => absurd hb (none_in b), hok := ok, bare := .of_eq hg }
  refine codeAny_mono ((F _ kin (ns1 hns)).does (us := [.ref a]) (vs := [.ref a]) (E := E0) rfl hr e0 (hbind s₁ (.ref a)) (.cons rfl .nil) (hsp H sq)) fun r s' h => ?_
  cases r with
  | error e => exact False.elim h
  | ok fl =>
    cases fl with
    | next => exact False.elim h
    | brk => exact False.elim h
    | cont => exact False.elim h
    | ret u =>
      obtain ⟨v, H', os, bare, un, ok', rr, q⟩ := h
      obtain rfl : v = .bl true := q
      obtain rfl : u = Value.bool true := rr
      refine ⟨rfl, OldK.of_keep fun b u e => ?_, os, bare⟩
      cases q : H b with
      | none => exact un.keep b u e q (none_in b) (fun z => nomatch z)
      | some y =>
        obtain ⟨rfl, _, rfl⟩ := h1_only q
        obtain ⟨e2, _⟩ := ok' b _ (un.frzs b _ _ q)
        rw [e2, ← e, ha]
end
/-- the goal that k_head leaves, from a law's promise over GOk -/
theorem walk_g {l : PySem.W.OpenLaw} {n k : Nat} {q : Program} {loose : List Str} {XP : (Str → Option Value) → Heap → Prop} {YP : World → Heap → Prop} {d : DefRec} {K : Params → PySem.W.Frag} {sp : PySem.W.Frag → Sp} {x : Str}
    (hn : l.most = some n) (hn2 : n ≤ sizeLine) (hdf : d.params.defaults = []) (hr : Room k callerA)
    (hY : ∀ (w : World) (h : Heap), YP w h → (K w.params).In h)
    (F : ∀ (w : World) (mg : Str → Option Value) (fa : Addr) (h : Heap), (K w.params).In h → h.Ns mainGlobals mg → mg d.name = some (.ref fa) →
      ∃ fd : FuncData, (∀ (s : Shared) (u : Value), BindsTo s fd ⟨[u], []⟩ [(x, u)]) ∧ ∀ base : Heap, (K w.params).In base → base.Ns mainGlobals mg → GOk l.prog w (K w.params) mg base CX0 k fa fd [x] (sp (K w.params)))
    (hsp : ∀ (K : PySem.W.Frag) (H : Hp) (a : Addr) (ns : List Int), ns.length ≤ n → SqL K H a (ns.map V.int) → sp K [.ref a] H (fun v _ => v = .bl true) E0) :
    PySem.W.WalkO q loose XP YP l.row.toRowW d [] (fun f vs => PySem.call f vs) := by
  apply Att.attach_call hn hdf
  intro w s₀ s₁ mg mb fa o pm cd doc a vs ns G Y ho hd hcd hmg hobj hints hlen hg
  obtain ⟨fd, hb, hF⟩ := F w mg fa _ (hY w _ Y) G.T.g hmg
  exact law_g (hY w _ Y) G.T.g G.T.b G.T.builtins G.T.nolimit hg hobj hints (Nat.le_trans hlen hn2) hr hF hb fun H hS => hsp _ H a ns hlen hS

/-- a law's own promise -/
def Lw (K : PySem.W.Frag) : Sp := fun vs H Q _ => ∃ (a : Addr) (ns : List Int), vs = [.ref a] ∧ SqL K H a (ns.map V.int) ∧ ns.length ≤ 63 ∧ ∀ H', Q (.bl true) H'
section
variable {P0 : Program} {w : World} {K : PySem.W.Frag} {mg : Str → Option Value} {base : Heap} {k : Nat} {f : Addr} {fd : FuncData} {N : List Str} {x qual : Str} {st : Stmt}
theorem fm_law {K : PySem.W.Frag} {H : Hp} {a : Addr} {xs : List V} {N : List Str} {n : Nat} (hS : SqL K H a xs) (hn : 1 + n = N.length) : Fm ⟨K, H, H, none⟩ H H (L2.start N [.ref a]) (.rd xs :: List.replicate n .no) := by
  refine ⟨Stp.refl (Same.refl H), (fun p q e => nomatch e), ?_, fun i sl h => ?_, fun i j p ds es h => ?_⟩
  · rw [start_len (by rw [List.length_singleton]; omega), List.length_cons, List.length_replicate]
    omega
  · cases i with
    | zero =>
      cases h
      exact ⟨a, rfl, hS⟩
    | succ i =>
      have h : (List.replicate n Sl.no)[i]? = some sl := h
      rw [List.getElem?_replicate] at h
      split at h
      · cases h
        trivial
      · cases h
  · exfalso
    cases i with
    | zero => cases h
    | succ i =>
      have h : (List.replicate n Sl.no)[i]? = some (.own ds) := h
      rw [List.getElem?_replicate] at h
      split at h <;> cases h
theorem law_ok (n : Nat) (F : Fun K x qual st f fd) (S : FnScope N ["script"] (defScope st)) (hn : 1 + n = N.length)
    (body : ∀ (cdv : Value) (A : Around) (outer : List Env) (s : Shared) (H : Hp) (E : XK), (cxOf CX0 P0 w K mg base N qual (defScope st) f cdv A outer s H E).A.guards = some [] → Room k (cxOf CX0 P0 w K mg base N qual (defScope st) f cdv A outer s H E).A →
      ∃ t, PSs (cxOf CX0 P0 w K mg base N qual (defScope st) f cdv A outer s H E).nox (defBody st) t ∧ ∀ H (ns : List Int), ns.length ≤ 63 → VS ⟨K, H, H, none⟩ t (.rd (ns.map V.int) :: List.replicate n .no) { nx := fun _ => False, rt := Is (.bool true) }) :
    GOk P0 w K mg base CX0 (k + 1) f fd ["script"] (Lw K) := by
  refine gok_of F S (fun {vs H Q E} ⟨a, ns, e, _⟩ => by rw [e]; rfl) fun cdv A outer s H vs Q E hg hr ⟨a, ns, e, hS, hl, hq⟩ => ?_
  subst e
  obtain ⟨t, ht, hv⟩ := body cdv A outer s H E hg hr
  refine ⟨t, ht.nox, hv H ns hl H H _ _ (fm_law hS hn) (fun _ _ _ _ e => e.elim) ?_ (fun _ _ _ _ e => e.elim) fun _ _ _ _ e => e.elim⟩
  intro d v B' H' e _ kd
  cases e
  obtain rfl := dp_bl kd
  exact hq H'
end
end Ly

/-! LyK: the laws' own draws: _law_draw, _law_any, _law_of, _law_mixed (their readings and what these give). -/
namespace Ly
open PySem PySem.Spec PyProof.Rows L2

/-- the source of draws is made from the script and a number -/
def Dr (K : PySem.W.Frag) : Sp := fun vs H Q _ => ∃ (B : Hp) (a : Addr) (ns : List Int) (salt : Int), vs = [.ref a, .int salt] ∧ Same B H ∧ SqL K B a (ns.map V.int) ∧ 0 ≤ salt ∧ salt ≤ 1000 ∧ ns.length ≤ 63 ∧
  ∀ p q B' H', Stp none B H B' H' → H p = none → H q = none → B' p = none → B' q = none → DealAt H' p q → Q (.ref p) H'
def P_any (ds : List D) : Prop := ∃ b : Int, ds = [.int b] ∧ 0 < b
def R_any (ds : List D) (d : D) : Prop := ∀ b : Int, ds = [.int b] → ∃ r, d = .int r ∧ 0 ≤ r ∧ r < b
def P_of (ds : List D) : Prop := ∃ xs, (ds = [.list xs] ∨ ds = [.tuple xs]) ∧ xs ≠ [] ∧ xs.length ≤ 100000
def R_of (ds : List D) (d : D) : Prop := ∀ xs, (ds = [.list xs] ∨ ds = [.tuple xs]) → d ∈ xs
def P_mixed (ds : List D) : Prop := ∃ xs, (ds = [.list xs] ∨ ds = [.tuple xs]) ∧ xs.length ≤ 10000
def R_mixed (ds : List D) (d : D) : Prop := ∀ xs, (ds = [.list xs] ∨ ds = [.tuple xs]) → ∃ ys, d = .list ys ∧ ys.Perm xs
end Ly

/-! LyL: what _law_any, _law_of, _law_mixed give. -/
namespace Ly
open PySem PySem.Spec PyProof.Rows L2

abbrev tIx0 (K : PySem.W.Frag) (i : Int) : TE := tOp (rIx K) (tVar 0) (tC (.int i))
abbrev rMod : R2 := rI (fun _ j => 0 < j) fun i j => .int (i % j)
abbrev rDiv : R2 := rI (fun _ j => 0 < j) fun i j => .int (i / j)
abbrev rMul : R2 := rI CMulW fun i j => .int (i * j)
def t_any (K : PySem.W.Frag) : TS :=
  tSeq (tWhile (tAnd (tTest (tOp (rNeA K) (tIx0 K 0) (tLst tNil))) (tTest (tOp (rEqA K) (tOp (rIx K) (tIx0 K 0) (tUn (rU fun i => .int (-i)) (tC (.int 1)))) (tC (.int 0))))) (tDrop (tBM0 K "list" rPop (tIx0 K 0))))
  (tSeq (tIfS (tTest (tOp (rNeA K) (tIx0 K 0) (tLst tNil))) (tSeq (tAsg (tCB rInt1 (tCons (tBM0 K "list" rPop (tIx0 K 0)) tNil)) (gName 2))
      (tSeq (tDrop (tBM K "list" rAppend (tIx0 K 0) (tCons (tOp rDiv (tVar 2) (tVar 1)) tNil))) (tRet (tOp rMod (tVar 2) (tVar 1))))) tNext)
  (tSeq (tAsg (tOp rMod (tCB rInt1 (tCons (tOp (rAddA K) (tOp rMul (tIx0 K 1) (tC (.int 40693))) (tC (.int 71))) tNil)) (tC (.int 2147483647))) (gSub (tVar 0) (tC (.int 1)) rSetL))
    (tRet (tOp rMod (tCB rInt1 (tCons (tOp rDiv (tIx0 K 1) (tC (.int 64))) tNil)) (tVar 1)))))

theorem shaped_ints (ns : List Int) : SeqAt.shaped (.list (ns.map .int)) = true := by
  have h1 : ∀ ns : List Int, PyData.canLayAll0 (ns.map .int) = true := fun ns => by
    induction ns with
    | nil => simp [PyData.canLayAll0]
    | cons n ns ih => simp [PyData.canLayAll0, PyData.canLay0, ih]
  have h2 : ∀ ns : List Int, PyData.depthAll (ns.map .int) ≤ 1 := fun ns => by
    induction ns with
    | nil => simp [PyData.depthAll]
    | cons n ns ih =>
      simp only [List.map_cons, PyData.depthAll, PyData.depth]
      omega
  have h3 := h2 ns
  have h4 : PyData.depth (.list (ns.map .int)) ≤ 64 := by
    simp only [PyData.depth]
    omega
  have h5 : PyData.canLay0 (.list (ns.map .int)) = true := by
    simp only [PyData.canLay0]
    exact h1 ns
  unfold SeqAt.shaped
  rw [h5, decide_eq_true h4]
  rfl
theorem dp_ints {K : PySem.W.Frag} {H : Hp} {q : Addr} {ns : List Int} (h : H q = some (.lst (ns.map V.int))) : Dp K H (.ref q) (.list (ns.map .int)) := by
  refine .lst (Or.inl (Or.inl h)) ?_
  clear h
  induction ns with
  | nil => exact .nil
  | cons n ns ih => exact .cons (.int n) ih
theorem Stp.dealSet {p q a : Addr} {CB CH B H : Hp} {o : HO} (s : Stp (some (p, q)) CB CH B H) (ha : a = p ∨ a = q) (hB : B a = none) (hd : DealAt (upd H a o) p q) (np : ∀ o', H a = some o' → NoTab o') : Stp (some (p, q)) CB CH B (upd H a o) := by
  refine ⟨s.ext, fun b u e => ?_, fun b u e m n => ?_, s.out, fun p' q' e _ => ?_, stay_upd s.stay, fun T t => tabs_upd (s.tab T t) np, s.bt⟩
  · rw [upd_ne (ne_of_none e hB)]
    exact s.sub b u e
  · have nb : b ≠ a := fun z => m ⟨p, q, rfl, z ▸ ha⟩
    rw [upd_ne nb]
    exact s.keepN b u e m n
  · cases e
    exact hd

section
variable {K : PySem.W.Frag} {σ : L2.St} {H : Hp} {p q : Addr} {ns : List Int} {c b : Int} {Q : VK}
theorem ix0_run (h0 : σ[0]? = some (some (.ref p))) (hp : H p = some (.lst [.ref q, .int c])) (k : Q (.ref q) H) : tIx0 K 0 σ H Q := ⟨.ref p, h0, Or.inl ⟨p, _, 0, .ref q, rfl, rfl, SqL.of hp, rfl, k⟩⟩
theorem ix1_run (h0 : σ[0]? = some (some (.ref p))) (hp : H p = some (.lst [.ref q, .int c])) (k : Q (.int c) H) : tIx0 K 1 σ H Q := ⟨.ref p, h0, Or.inl ⟨p, _, 1, .int c, rfl, rfl, SqL.of hp, rfl, k⟩⟩
theorem eqv_nil (ns : List Int) : PyData.eqv (.list (ns.map .int)) (.list []) = decide (ns = []) := by
  cases ns <;> simp [PyData.eqv, PyData.eqvAll]
/-- deal[0] != [] -/
theorem ne_run {Qb : Bool → Hp → Prop} (h0 : σ[0]? = some (some (.ref p))) (hp : H p = some (.lst [.ref q, .int c])) (hq : H q = some (.lst (ns.map V.int))) (k : ∀ r, H r = none → Qb (!decide (ns = [])) (upd H r (.lst []))) :
    tTest (tOp (rNeA K) (tIx0 K 0) (tLst tNil)) σ H Qb := by
  refine ix0_run h0 hp ⟨by show 0 ≤ sizeLine; decide, fun r hr => ?_⟩
  have hq' : upd H r (.lst []) q = some (.lst (ns.map V.int)) := by
    rw [upd_ne (ne_of_none hq hr)]
    exact hq
  refine Or.inr ⟨.list (ns.map .int), .list [], dp_ints hq', dp_ints (ns := []) upd_same, shaped_ints ns, shaped_ints [], _, rfl, ?_⟩
  rw [eqv_nil]
  exact k r hr
/-- all that _law_any needs to know of a moment -/
structure AnyAt (C : Cn) (p q : Addr) (B H : Hp) (σ : L2.St) (b : Int) (ns : List Int) (c : Int) : Prop where
  st : Stp (some (p, q)) C.B C.H B H
  n1 : B p = none
  n2 : B q = none
  len : σ.length = 3
  s0 : σ[0]? = some (some (.ref p))
  s1 : σ[1]? = some (some (.int b))
  ne : p ≠ q
  hp : H p = some (.lst [.ref q, .int c])
  hq : H q = some (.lst (ns.map V.int))
  sz : ns.length ≤ 64
  c0 : 0 ≤ c
  c1 : c < 2147483648
variable {C : Cn} {B : Hp}
theorem AnyAt.deal (a : AnyAt C p q B H σ b ns c) : DealAt H p q := ⟨a.ne, ns, c, a.hp, a.hq, a.sz, a.c0, a.c1⟩
theorem AnyAt.new {r : Addr} {o : HO} (a : AnyAt C p q B H σ b ns c) (hd : C.dl = some (p, q)) (h0 : DealAt C.H p q) (h : H r = none) : AnyAt C p q B (upd H r o) σ b ns c := by
  refine { a with st := ?_, hp := ?_, hq := ?_ }
  · exact a.st.trans (fun p' q' e => by cases e; exact h0) (Stp.newM a.st.sub h)
  · rw [upd_ne (ne_of_none a.hp h)]
    exact a.hp
  · rw [upd_ne (ne_of_none a.hq h)]
    exact a.hq
theorem AnyAt.setQ (a : AnyAt C p q B H σ b ns c) {ms : List Int} (hm : ms.length ≤ 64) : AnyAt C p q B (upd H q (.lst (ms.map V.int))) σ b ms c := by
  have hp : upd H q (.lst (ms.map V.int)) p = some (.lst [.ref q, .int c]) := by
    rw [upd_ne a.ne]
    exact a.hp
  exact { a with st := a.st.dealSet (Or.inr rfl) a.n2 ⟨a.ne, ms, c, hp, upd_same, hm, a.c0, a.c1⟩ (np_lst a.hq), hp := hp, hq := upd_same, sz := hm }
theorem AnyAt.setP (a : AnyAt C p q B H σ b ns c) {d : Int} (h0 : 0 ≤ d) (h1 : d < 2147483648) : AnyAt C p q B (upd H p (.lst [.ref q, .int d])) σ b ns d := by
  have hq : upd H p (.lst [.ref q, .int d]) q = some (.lst (ns.map V.int)) := by
    rw [upd_ne a.ne.symm]
    exact a.hq
  exact { a with st := a.st.dealSet (Or.inl rfl) a.n1 ⟨a.ne, ns, d, upd_same, hq, a.sz, h0, h1⟩ (np_lst a.hp), hp := upd_same, hq := hq, c0 := h0, c1 := h1 }
theorem AnyAt.slot2 (a : AnyAt C p q B H σ b ns c) (v : V) : AnyAt C p q B H (σ.set 2 (some v)) b ns c := by
  refine { a with len := by rw [List.length_set]; exact a.len, s0 := ?_, s1 := ?_ }
  · rw [List.getElem?_set_ne (by decide)]
    exact a.s0
  · rw [List.getElem?_set_ne (by decide)]
    exact a.s1
theorem last_map {ns : List Int} (h : ns ≠ []) : (ns.map V.int)[(ns.map V.int).length - 1]? = some (.int (ns.getLast h)) := by
  rw [← List.getLast?_eq_getElem?, List.getLast?_map, List.getLast?_eq_getLast h]
  rfl
theorem drop_map (ns : List Int) : (ns.map V.int).dropLast = (ns.dropLast).map V.int := by rw [List.map_dropLast]
/-- deal[0].pop() -/
theorem pop_run (a : AnyAt C p q B H σ b ns c) (h : ns ≠ []) (k : Q (.int (ns.getLast h)) (upd H q (.lst (ns.dropLast.map V.int)))) : tBM0 K "list" rPop (tIx0 K 0) σ H Q := by
  refine ix0_run a.s0 a.hp ⟨own_ty a.hq, q, _, _, rfl, rfl, a.hq, last_map h, ?_⟩
  rw [drop_map]
  exact k
theorem dropLast_len {ns : List Int} : ns.dropLast.length ≤ ns.length := by rw [List.length_dropLast]; omega

theorem vs_any {K : PySem.W.Frag} {B0 H0 : Hp} {p q : Addr} {ds : List D} (hP : P_any ds) : VS ⟨K, B0, H0, some (p, q)⟩ (t_any K) (.deal :: slots ds 1) { nx := fun _ => R_any ds .none, rt := R_any ds } := by
  obtain ⟨b, rfl, hb0⟩ := hP
  intro B H σ E F hn hr hk hc
  have hdl := F.dl p q rfl
  have hd0 : DealAt H0 p q := hdl.1
  obtain ⟨n1, n2⟩ := F.dlOut (p := p) (q := q) rfl
  obtain ⟨ne, ns, c, hp, hq, hz, hc0, hc1⟩ := F.dlNow p q rfl
  obtain ⟨p', q', e, s0⟩ := F.slot 0 .deal rfl
  cases e
  obtain ⟨v, s1, kv⟩ := F.slot 1 (.dat (.int b)) rfl
  obtain rfl := dp_int kv
  have A0 : AnyAt ⟨K, B0, H0, some (p, q)⟩ p q B H σ b ns c := ⟨F.st, n1, n2, F.len, s0, s1, ne, hp, hq, hz, hc0, hc1⟩
  have ret : ∀ {H' : Hp} {ms : List Int} {d r : Int} {σ' : L2.St}, AnyAt ⟨K, B0, H0, some (p, q)⟩ p q B H' σ' b ms d → 0 ≤ r → r < b → E.rt (.int r) H' := fun a h1 h2 =>
    hr (.int _) _ B _ (fun b' e => by cases e; exact ⟨_, rfl, h1, h2⟩) a.st (.int _)
  refine ⟨fun m σ' H' => ∃ ms d, AnyAt ⟨K, B0, H0, some (p, q)⟩ p q B H' σ' b ms d ∧ m = ms.length, ⟨_, ns, c, A0, rfl⟩, ?_⟩
  rintro m σ1 H1 ⟨ms, d, A1, rfl⟩
  -- behind the loop
  have rest : ∀ {H2 : Hp} {ms : List Int} {d : Int}, AnyAt ⟨K, B0, H0, some (p, q)⟩ p q B H2 σ1 b ms d →
      (tSeq (tIfS (tTest (tOp (rNeA K) (tIx0 K 0) (tLst tNil))) (tSeq (tAsg (tCB rInt1 (tCons (tBM0 K "list" rPop (tIx0 K 0)) tNil)) (gName 2))
        (tSeq (tDrop (tBM K "list" rAppend (tIx0 K 0) (tCons (tOp rDiv (tVar 2) (tVar 1)) tNil))) (tRet (tOp rMod (tVar 2) (tVar 1))))) tNext)
      (tSeq (tAsg (tOp rMod (tCB rInt1 (tCons (tOp (rAddA K) (tOp rMul (tIx0 K 1) (tC (.int 40693))) (tC (.int 71))) tNil)) (tC (.int 2147483647))) (gSub (tVar 0) (tC (.int 1)) rSetL))
        (tRet (tOp rMod (tCB rInt1 (tCons (tOp rDiv (tIx0 K 1) (tC (.int 64))) tNil)) (tVar 1))))) E σ1 H2 := by
    intro H2 ms d A2
    refine ne_run A2.s0 A2.hp A2.hq fun r hr1 => ?_
    have A3 := A2.new (o := .lst []) rfl hd0 hr1
    by_cases hm : ms = []
    · rw [decide_eq_true hm]
      refine iteF ?_
      -- deal[1] = int(deal[1] * 40693 + 71) % 2147483647
      refine ix1_run A3.s0 A3.hp ⟨d, 40693, rfl, rfl, wide_mul (a := 32) (b := 32) (by have := A3.c0; have := A3.c1; omega) (by decide) (by decide) (by decide) (by decide), ?_⟩
      refine Or.inl ⟨d * 40693, 71, rfl, rfl, ?_⟩
      refine Or.inl ⟨d * 40693 + 71, rfl, ?_⟩
      refine ⟨_, 2147483647, rfl, rfl, (by show (0 : Int) < 2147483647; decide), ?_⟩
      have e0 : 0 ≤ (d * 40693 + 71) % 2147483647 := Int.emod_nonneg _ (by decide)
      have e1 : (d * 40693 + 71) % 2147483647 < 2147483647 := Int.emod_lt_of_pos _ (by decide)
      have A4 := A3.setP (d := (d * 40693 + 71) % 2147483647) e0 (by omega)
      refine ⟨.ref p, A3.s0, p, _, 1, 1, rfl, rfl, A3.hp, rfl, ?_⟩
      show tRet (tOp rMod (tCB rInt1 (tCons (tOp rDiv (tIx0 K 1) (tC (.int 64))) tNil)) (tVar 1)) E σ1 _
      -- return int(deal[1] // 64) % bound
      refine ix1_run A4.s0 A4.hp ⟨_, 64, rfl, rfl, (by show (0 : Int) < 64; decide), ?_⟩
      refine Or.inl ⟨_, rfl, ?_⟩
      refine ⟨.int b, A4.s1, _, b, rfl, rfl, hb0, ?_⟩
      exact ret A4 (Int.emod_nonneg _ (by omega)) (Int.emod_lt_of_pos _ hb0)
    · rw [decide_eq_false hm]
      refine iteT ?_
      -- rest = int(deal[0].pop())
      refine pop_run A3 hm (Or.inl ⟨_, rfl, ?_⟩)
      have A4 := (A3.setQ (ms := ms.dropLast) (Nat.le_trans dropLast_len A3.sz)).slot2 (.int (ms.getLast hm))
      have s2 : (σ1.set 2 (some (.int (ms.getLast hm))))[2]? = some (some (.int (ms.getLast hm))) := List.getElem?_set_self (by rw [A3.len]; decide)
      -- deal[0].append(rest // bound)
      refine ix0_run A4.s0 A4.hp ⟨own_ty A4.hq, ⟨_, s2, _, A4.s1, _, b, rfl, rfl, hb0, ?_⟩⟩
      have hlen : ms.dropLast.length + 1 ≤ 64 := by
        rw [List.length_dropLast]
        have := A3.sz
        have : 0 < ms.length := List.length_pos_iff.mpr hm
        omega
      refine ⟨q, _, .int (ms.getLast hm / b), rfl, rfl, A4.hq, sz6 (by rw [List.length_map]; omega), ?_⟩
      have A5 := A4.setQ (ms := ms.dropLast ++ [ms.getLast hm / b]) (by rw [List.length_append]; exact hlen)
      rw [show ms.dropLast.map V.int ++ [V.int (ms.getLast hm / b)] = (ms.dropLast ++ [ms.getLast hm / b]).map V.int by rw [List.map_append]; rfl]
      -- return rest % bound
      refine ⟨_, s2, _, A5.s1, _, b, rfl, rfl, hb0, ?_⟩
      exact ret A5 (Int.emod_nonneg _ (by omega)) (Int.emod_lt_of_pos _ hb0)
  -- the test of the loop
  refine ne_run A1.s0 A1.hp A1.hq fun r hr1 => ?_
  have A2 := A1.new (o := .lst []) rfl hd0 hr1
  by_cases hm : ms = []
  · rw [decide_eq_true hm]
    exact iteF (iteF (rest A2))
  · rw [decide_eq_false hm]
    refine iteT ?_
    refine ix0_run A2.s0 A2.hp ⟨1, rfl, Or.inl ⟨q, _, -1, .int (ms.getLast hm), rfl, rfl, SqL.of A2.hq, ?_, ?_⟩⟩
    · exact atI_neg1 (by rw [List.getLast?_map, List.getLast?_eq_getLast hm]; rfl)
    · refine Or.inl ⟨rfl, _, rfl, ?_⟩
      by_cases hz : V.int (ms.getLast hm) = .int 0
      · rw [decide_eq_true hz]
        refine iteT ⟨_, fun σ' H' h => h, ?_⟩
        refine pop_run A2 hm ?_
        refine ⟨ms.dropLast.length, ?_, ms.dropLast, d, A2.setQ (Nat.le_trans dropLast_len A2.sz), rfl⟩
        rw [List.length_dropLast]
        have : 0 < ms.length := List.length_pos_iff.mpr hm
        omega
      · rw [decide_eq_false hz]
        exact iteF (rest A2)
end
end Ly

/-! LyM: what _law_draw, _law_of, _law_mixed give. -/
namespace Ly
open PySem PySem.Spec PyProof.Rows L2

section
variable {C : Cn} {Γ : List Sl} {tl th : TO} {lo hi : Option Int} {i : Nat} {ns : List Int}
theorem ints_dq {K : PySem.W.Frag} {H : Hp} : ∀ ns : List Int, DqAll K H (ns.map V.int) (ns.map PyData.int)
  | [] => .nil
  | n :: ns => .cons (.int n) (ints_dq ns)
theorem cut_map {α β : Type} (f : α → β) (xs : List α) : cut (xs.map f) lo hi = (cut xs lo hi).map f := by
  unfold cut
  rw [List.length_map, List.map_take, List.map_drop]
theorem cut_sub {α : Type} (xs : List α) : ∀ x ∈ cut xs lo hi, x ∈ xs := fun x h => List.mem_of_mem_drop (List.mem_of_mem_take h)
theorem cut_len {α : Type} (xs : List α) : (cut xs lo hi).length ≤ xs.length := by
  unfold cut
  rw [List.length_take, List.length_drop]
  omega
/-- a slice of a list that is read alone -/
theorem vl_slRd (h : Γ[i]? = some (.rd (ns.map V.int))) (h1 : VO C tl Γ (Is lo)) (h2 : VO C th Γ (Is hi)) : VL C (tSl (rSlany C.K) (tVar i) tl th) Γ (Is ((cut ns lo hi).map .int)) := fun B H σ F Q q => by
  obtain ⟨a, e, hs⟩ := F.slot i _ h
  refine ⟨.ref a, e, h1 B H σ F _ fun o B2 H2 e2 s2 => h2 B2 H2 σ (F.step s2) _ fun o' B3 H3 e3 s3 => ?_⟩
  cases e2
  cases e3
  have F3 := (F.step s2).step s3
  have st := s2.trans F.dlNow s3
  refine Or.inl ⟨a, _, rfl, same_l F3.sub (same_l st.ext hs), fun p hp => ?_⟩
  refine q _ p ((cut ns lo hi).map V.int) B3 _ rfl (st.trans F.dlNow (Stp.newM F3.sub hp)) (back_none F st hp) (F3.sub.free hp) ?_ (ints_dq _)
  rw [upd_same]
  show some (HO.lst (cutV (ns.map V.int) lo hi)) = _
  rw [show cutV (ns.map V.int) lo hi = cut (ns.map V.int) lo hi from rfl, cut_map]
end

def t_draw (K : PySem.W.Frag) : TS :=
  tSeq (tAsg (tLc (iAny K (tSl (rSlany K) (tVar 0) tNoPart (tPart (tC (.int 48))))) (gName 3) tYes (tCB rAbs (tCons (tCB rInt1 (tCons (tVar 3) tNil)) tNil)) [3]) (gName 2))
  (tSeq (tAsg (tOp (rAddA K) (tC (.int 7919)) (tOp rMul (tC (.int 104729)) (tVar 1))) (gName 4))
  (tSeq (tFor (iAny K (tVar 2)) (gName 3) (tAsg (tOp rMod (tCB rInt1 (tCons (tOp (rAddA K) (tOp (rAddA K) (tOp rMul (tVar 4) (tC (.int 48271))) (tOp rMod (tVar 3) (tC (.int 2147483549)))) (tC (.int 11))) tNil)) (tC (.int 2147483647))) (gName 4)))
  (tRet (tLst (tCons (tRevL K (tLc (iAny K (tVar 2)) (gName 3) (tTest (tOp (rI0 fun i j => .bl (decide (j ≤ i))) (tVar 3) (tOp (rI CPow fun i j => .int (i ^ j.toNat)) (tC (.int 10)) (tC (.int 18))))) (tVar 3) [3])) (tCons (tVar 4) tNil))))))
/-- what its names hold behind the first statements -/
def DrawAt (ns : List Int) (salt : Int) (Γ : List Sl) : Prop := ∃ (cs : List Int) (c : Int) (s3 : Sl), Γ = [.rd (ns.map V.int), .dat (.int salt), .dat (.list (cs.map .int)), s3, .dat (.int c)] ∧ cs.length ≤ 63 ∧ 0 ≤ c ∧ c < 2147483648 ∧ (s3 = .no ∨ ∃ d, s3 = .dat d)

section
variable {P0 : Program} {w : World} {K : PySem.W.Frag} {mg : Str → Option Value} {base : Heap} {k : Nat} {f : Addr} {fd : FuncData} {x qual : Str} {st : Stmt}
theorem len_of {α : Type} {xs : List α} {n : Nat} (h : xs.length ≤ n) {m : Nat} (hm : n ≤ m := by decide) : xs.length ≤ m := Nat.le_trans h hm
theorem ret_two {tr te : TE} {E : Ends} {σ : L2.St} {H : Hp} (h : tr σ H fun v H1 => te σ H1 fun w H2 => 2 ≤ sizeLine ∧ ∀ p, H2 p = none → E.rt (.ref p) (upd H2 p (.lst [v, w]))) : tRet (tLst (tCons tr (tCons te tNil))) E σ H := h
theorem vs_draw {B H : Hp} {ns : List Int} {salt : Int} (h0 : 0 ≤ salt) (h1 : salt ≤ 1000) (hn : ns.length ≤ 63) (E : Ends) (σ : L2.St) (F : Fm ⟨K, B, H, none⟩ B H σ [.rd (ns.map V.int), .dat (.int salt), .no, .no, .no])
    (q : ∀ p q B' H', Stp none B H B' H' → H p = none → H q = none → B' p = none → B' q = none → DealAt H' p q → E.rt (.ref p) H') : t_draw K E σ H := by
  -- cells
  have hc : VL ⟨K, B, H, none⟩ (tLc (iAny K (tSl (rSlany K) (tVar 0) tNoPart (tPart (tC (.int 48))))) (gName 3) tYes (tCB rAbs (tCons (tCB rInt1 (tCons (tVar 3) tNil)) tNil)) [3]) [.rd (ns.map V.int), .dat (.int salt), .no, .no, .no]
      (fun es => ∃ cs : List Int, es = cs.map .int ∧ cs.length ≤ 63) := by
    refine vl_lc (va_listD (vl_slRd (i := 0) (ns := ns) (lo := none) (hi := some 48) rfl vo_none (vo_someD ve_int)).ed) fun ds e => ?_
    cases e
    have hl : ((cut ns none (some 48)).map PyData.int).length ≤ 63 := by
      rw [List.length_map]
      exact Nat.le_trans (cut_len ns) hn
    refine ⟨len_of hl, fun i acc => ∃ cs : List Int, acc = cs.map .int ∧ cs.length ≤ i, ⟨[], rfl, Nat.le_refl _⟩, fun i d acc hd ⟨cs, e, hi⟩ => ?_, fun acc ⟨cs, e, hi⟩ => ⟨cs, e, Nat.le_trans hi hl⟩⟩
    rw [List.getElem?_map] at hd
    obtain ⟨m, _, rfl⟩ := Option.map_eq_some_iff.mp hd
    refine ⟨_, _, vg_name, fun j hj => hj, Is true, vt_yes, fun _ => ?_, fun e => by cases e⟩
    refine (ve_abs (ve_int1 (i := m) (ve_var rfl))).imp fun y ey => ?_
    subst ey e
    exact ⟨cs ++ [if m < 0 then -m else m], by rw [List.map_append]; rfl, by rw [List.length_append]; exact Nat.succ_le_succ hi⟩
  refine vs_asg (P := ⟨fun Γ => ∃ cs : List Int, Γ = [.rd (ns.map V.int), .dat (.int salt), .dat (.list (cs.map .int)), .no, .no] ∧ cs.length ≤ 63, fun _ => False, fun _ => False, fun _ => False⟩) hc.e
    (fun d ⟨es, e, cs, e2, hl⟩ => ⟨cs, by subst e e2; rfl, hl⟩) B H σ _ F (fun Γ1 B1 H1 σ1 ⟨cs, e, hl⟩ sB1 F1 => ?_) (fun _ _ _ _ e => e.elim) (fun _ _ _ _ e => e.elim) (fun _ _ _ _ e => e.elim)
  subst e
  -- blend
  refine vs_asg (P := ⟨DrawAt ns salt, fun _ => False, fun _ => False, fun _ => False⟩) (ve_opD ve_int.v (ve_opD ve_int.v (ve_var rfl).v (od_mul (wide_mul (a := 20) (b := 20) (by decide) (by omega) (by decide) (by decide) (by decide)))).v od_add)
    (fun d e => ⟨cs, 7919 + 104729 * salt, .no, by cases e; rfl, hl, by omega, by omega, Or.inl rfl⟩) B1 H1 σ1 _ F1 (fun Γ2 B2 H2 σ2 hd2 sB2 F2 => ?_) (fun _ _ _ _ e => e.elim) (fun _ _ _ _ e => e.elim) (fun _ _ _ _ e => e.elim)
  obtain ⟨cs2, c2, s3, e, hl2, hc0, hc1, hs3⟩ := hd2
  subst e
  -- the loop
  refine vs_for (P := ⟨DrawAt ns salt, fun _ => False, fun _ => False, fun _ => False⟩) (va_listD (ve_var rfl)) (fun ds e => ?_) B2 H2 σ2 _ F2 (fun Γ3 B3 H3 σ3 hd3 sB3 F3 => ?_) (fun _ _ _ _ e => e.elim) (fun _ _ _ _ e => e.elim) (fun _ _ _ _ e => e.elim)
  · cases e
    refine ⟨fun _ Γ => ∃ (c : Int) (s3 : Sl), Γ = [.rd (ns.map V.int), .dat (.int salt), .dat (.list (cs2.map .int)), s3, .dat (.int c)] ∧ 0 ≤ c ∧ c < 2147483648 ∧ (s3 = .no ∨ ∃ d, s3 = .dat d), ⟨c2, s3, rfl, hc0, hc1, hs3⟩, fun i d Γ' hd ⟨c, s3, e, h0, h1, _⟩ => ?_, fun Γ' ⟨c, s3, e, h0, h1, h2⟩ => ⟨cs2, c, s3, e, hl2, h0, h1, h2⟩⟩
    subst e
    rw [List.getElem?_map] at hd
    obtain ⟨m, _, rfl⟩ := Option.map_eq_some_iff.mp hd
    refine ⟨_, _, vg_name, vs_asg (ve_opD (ve_int1 (ve_opD (ve_opD (ve_opD (ve_var rfl).v ve_int.v (od_mul (wide_mul (a := 32) (b := 32) (by omega) (by decide) (by decide) (by decide) (by decide)))).v (ve_opD (ve_var rfl).v ve_int.v (od_mod (by decide))).v od_add).v ve_int.v od_add)).v ve_int.v (od_mod (by decide))) fun d e => ?_⟩
    cases e
    refine ⟨_, _, rfl, Int.emod_nonneg _ (by decide), ?_, Or.inr ⟨_, rfl⟩⟩
    have := Int.emod_lt_of_pos (c * 48271 + m % 2147483549 + 11) (show (0 : Int) < 2147483647 by decide)
    omega
  -- the end
  obtain ⟨cs3, c3, s3', e, hl3, hc0', hc1', _⟩ := hd3
  subst e
  have hr : VL ⟨K, B, H, none⟩ (tRevL K (tLc (iAny K (tVar 2)) (gName 3) (tTest (tOp (rI0 fun i j => .bl (decide (j ≤ i))) (tVar 3) (tOp (rI CPow fun i j => .int (i ^ j.toNat)) (tC (.int 10)) (tC (.int 18))))) (tVar 3) [3]))
      [.rd (ns.map V.int), .dat (.int salt), .dat (.list (cs3.map .int)), s3', .dat (.int c3)] (fun es => ∃ cs : List Int, es = cs.map .int ∧ cs.length ≤ 64) := by
    refine (vl_rev (S := fun es => ∃ cs : List Int, es = cs.map .int ∧ cs.length ≤ 64) (VL.v ?_)).imp fun es ⟨ds, ⟨cs, e1, e2⟩, e3⟩ => ⟨cs.reverse, by rw [e3, e1, List.map_reverse], by rw [List.length_reverse]; exact e2⟩
    refine vl_lc (va_listD (ve_var rfl)) fun ds e => ?_
    cases e
    have hl : (cs3.map PyData.int).length ≤ 63 := by
      rw [List.length_map]
      exact hl3
    refine ⟨len_of hl, fun i acc => ∃ cs : List Int, acc = cs.map .int ∧ cs.length ≤ i, ⟨[], rfl, Nat.le_refl _⟩, fun i d acc hd ⟨cs, e, hi⟩ => ?_, fun acc ⟨cs, e, hi⟩ => ⟨cs, e, by omega⟩⟩
    rw [List.getElem?_map] at hd
    obtain ⟨m, _, rfl⟩ := Option.map_eq_some_iff.mp hd
    refine ⟨_, _, vg_name, fun j hj => hj, fun _ => True, (vt_testD (ve_opD (ve_var rfl).v (ve_opD ve_int.v ve_int.v (od_pow ⟨by decide, by decide, by decide⟩)).v od_ge)).imp fun _ _ => trivial, fun _ => ?_, fun _ => ⟨cs, e, Nat.le_succ_of_le hi⟩⟩
    refine (ve_var (i := 3) (d := .int m) rfl).imp fun y ey => ?_
    subst ey e
    exact ⟨cs ++ [m], by rw [List.map_append]; rfl, by rw [List.length_append]; exact Nat.succ_le_succ hi⟩
  refine ret_two (hr B3 H3 σ3 F3 _ fun es r vs B4 H4 ⟨cs, e, hcs⟩ s4 g1 g2 g3 g4 => ?_)
  subst e
  obtain ⟨v, hv, kv⟩ := F3.slot 4 _ rfl
  obtain rfl := dp_int kv
  refine ⟨.int c3, hv, by show 2 ≤ sizeLine; decide, fun p hp => ?_⟩
  have F4 := F3.step s4
  have st : Stp none B H B4 (upd H4 p (.lst [.ref r, .int c3])) := F4.st.trans (fun p q e => by cases e) (Stp.newM F4.sub hp)
  have nr : r ≠ p := fun z => by
    subst z
    rw [g3] at hp
    cases hp
  refine q p r B4 _ st (F4.newC hp) (F3.newC g1) (F4.sub.free hp) g2 ⟨nr.symm, cs, c3, upd_same, ?_, hcs, hc0', hc1'⟩
  rw [upd_ne nr, g3, dpall_ints g4]
theorem draw_ok {N : List Str} (F : Fun K x qual st f fd) (S : FnScope N ["script", "salt"] (defScope st)) (hN : N.length = 5)
    (body : ∀ (cdv : Value) (A : Around) (outer : List Env) (s : Shared) (H : Hp) (E : XK), (cxOf CX0 P0 w K mg base N qual (defScope st) f cdv A outer s H E).A.guards = some [] → Room k (cxOf CX0 P0 w K mg base N qual (defScope st) f cdv A outer s H E).A →
      PSs (cxOf CX0 P0 w K mg base N qual (defScope st) f cdv A outer s H E).nox (defBody st) (t_draw K)) : GOk P0 w K mg base CX0 (k + 1) f fd ["script", "salt"] (Dr K) := by
  refine gok_of F S (fun {vs H Q E} ⟨_, a, ns, salt, e, _⟩ => by rw [e]; rfl) fun cdv A outer s H vs Q E hg hr ⟨B, a, ns, salt, e, hs, hS, h0, h1, hn, hq⟩ => ?_
  subst e
  refine ⟨_, (body cdv A outer s H E hg hr).nox, vs_draw h0 h1 hn _ _ ?_ hq⟩
  refine ⟨Stp.refl hs, (fun p q e => nomatch e), ?_, fun i sl h => ?_, fun i j p ds es h => ?_⟩
  · rw [start_len (by rw [hN]; exact (by decide : 2 ≤ 5)), hN]
    rfl
  · match i, h with
    | 0, h => cases h; exact ⟨a, rfl, hS⟩
    | 1, h => cases h; exact ⟨_, rfl, .int _⟩
    | 2, h => cases h; trivial
    | 3, h => cases h; trivial
    | 4, h => cases h; trivial
    | n + 5, h => cases h
  · exfalso
    match i, h with
    | 0, h => cases h
    | 1, h => cases h
    | 2, h => cases h
    | 3, h => cases h
    | 4, h => cases h
    | n + 5, h => cases h
end

/-! ### one of some things -/
abbrev tAny (K : PySem.W.Frag) (e : TE) : TE := tCallK (De K P_any R_any) (fun vs _ => vs) E0 (tCons (tVar 0) (tCons e tNil)) tNil
section
variable {C : Cn} {Γ : List Sl} {te : TE} {n : Int}
theorem ve_any (h0 : Γ[0]? = some .deal) (h : VE C te Γ (Is (.int n))) (hn : 0 < n) (hm : n < 1000000000000) : VE C (tAny C.K te) Γ (fun d => ∃ r, d = .int r ∧ 0 ≤ r ∧ r < n) :=
  (ve_deD h0 (va_consD h va_nil) ⟨n, rfl, hn⟩).imp fun d r => r n rfl
end
def t_of (K : PySem.W.Frag) : TS := tRet (tOp (rIx K) (tVar 1) (tAny K (tCB (rLen K) (tCons (tVar 1) tNil))))
theorem vs_of {C : Cn} {ds : List D} (hP : P_of ds) : VS C (t_of C.K) (.deal :: slots ds 0) { nx := fun _ => R_of ds .none, rt := R_of ds } := by
  obtain ⟨xs, e, hne, hl⟩ := hP
  have hp : 0 < xs.length := List.length_pos_iff.mpr hne
  rcases e with rfl | rfl
  · refine vs_ret (ve_op (Ra := Is (.list xs)) (ve_var rfl).v (ve_any rfl (ve_lenL (ve_var rfl).v) (by omega) (by omega)).v fun x y ex ⟨r, ey, h0, h1⟩ => ?_)
    subst ex ey
    obtain ⟨m, rfl⟩ := Int.eq_ofNat_of_zero_le h0
    have hm : m < xs.length := by omega
    intro B H v u e k1 k2 Q q
    refine od_ixL (z := xs[m]) (atI_pos (List.getElem?_eq_getElem hm)) B H v u e k1 k2 Q fun d w B' H' ed s k => q d w B' H' (fun ys ey => ?_) s k
    subst ed
    rcases ey with ey | ey
    · cases ey
      exact List.getElem_mem hm
    · cases ey
  · refine vs_ret (ve_op (Ra := Is (.tuple xs)) (ve_var rfl).v (ve_any rfl (ve_lenT (ve_var rfl)) (by omega) (by omega)).v fun x y ex ⟨r, ey, h0, h1⟩ => ?_)
    subst ex ey
    obtain ⟨m, rfl⟩ := Int.eq_ofNat_of_zero_le h0
    have hm : m < xs.length := by omega
    intro B H v u e k1 k2 Q q
    refine od_ixT (z := xs[m]) (atI_pos (List.getElem?_eq_getElem hm)) B H v u e k1 k2 Q fun d w B' H' ed s k => q d w B' H' (fun ys ey => ?_) s k
    subst ed
    rcases ey with ey | ey
    · cases ey
    · cases ey
      exact List.getElem_mem hm
end Ly
namespace Ly
open PySem PySem.Spec PyProof.Rows L2
/-! slices by numbers -/
section
variable {α : Type} (xs : List α)
theorem cut_nat (a b : Nat) (h : a ≤ b) : cut xs (some (a : Int)) (some (b : Int)) = (xs.drop a).take (b - a) := by
  unfold cut
  rw [HT.sIx_nat, HT.sIx_nat]
  by_cases ha : a ≤ xs.length
  · rw [Nat.min_eq_left ha]
    by_cases hb : b ≤ xs.length
    · rw [Nat.min_eq_left hb]
    · rw [Nat.min_eq_right (by omega)]
      rw [List.take_of_length_le (by rw [List.length_drop]; omega), List.take_of_length_le (by rw [List.length_drop]; omega)]
  · rw [show min a xs.length = xs.length by omega, List.drop_length, List.drop_eq_nil_of_le (show xs.length ≤ a by omega)]
    simp
theorem cut_to (b : Nat) : cut xs none (some (b : Int)) = xs.take b := by
  unfold cut
  rw [HT.sIx_none, HT.sIx_nat, List.drop_zero, Nat.sub_zero]
  by_cases hb : b ≤ xs.length
  · rw [Nat.min_eq_left hb]
  · rw [show min b xs.length = xs.length by omega, List.take_of_length_le (Nat.le_refl _), List.take_of_length_le (show xs.length ≤ b by omega)]
theorem cut_from (a : Nat) : cut xs (some (a : Int)) none = xs.drop a := by
  unfold cut
  rw [HT.sIx_nat, HT.sIx_none]
  by_cases ha : a ≤ xs.length
  · rw [Nat.min_eq_left ha, List.take_of_length_le (by rw [List.length_drop]; omega)]
  · rw [show min a xs.length = xs.length by omega, List.drop_length, List.drop_eq_nil_of_le (show xs.length ≤ a by omega)]
    simp
end
end Ly

/-! LyN: the law's first statement (a source of draws is made), displays of literals, small data (Sm), joins. -/
namespace Ly
open PySem PySem.Spec PyProof.Rows L2

/-! ### small data -/
structure Sm (d : D) (k n : Nat) : Prop where
  ly : d.canLay0 = true
  sh : d.showable = true
  lv : d.leavesShort 13 = true
  dp : d.depth ≤ k
  wt : d.weight ≤ n
structure SmA (ds : List D) (k n : Nat) : Prop where
  ly : PyData.canLayAll0 ds = true
  sh : PyData.showableAll ds = true
  lv : PyData.leavesShortAll 13 ds = true
  dp : PyData.depthAll ds ≤ k
  wt : PyData.weightAll ds ≤ n
section
variable {d x y : D} {ds : List D} {k k' n n' m : Nat}
theorem Sm.mono (h : Sm d k n) (hk : k ≤ k' := by omega) (hn : n ≤ n' := by omega) : Sm d k' n' := ⟨h.ly, h.sh, h.lv, Nat.le_trans h.dp hk, Nat.le_trans h.wt hn⟩
theorem SmA.nil : SmA [] k n := ⟨rfl, rfl, rfl, Nat.zero_le _, Nat.zero_le _⟩
theorem SmA.cons (h : Sm d k n) (t : SmA ds k m) : SmA (d :: ds) k (n + 1 + m) := by
  refine ⟨?_, ?_, ?_, ?_, ?_⟩
  · rw [PyData.canLayAll0, h.ly, t.ly]; rfl
  · rw [PyData.showableAll, h.sh, t.sh]; rfl
  · rw [PyData.leavesShortAll, h.lv, t.lv]; rfl
  · rw [PyData.depthAll]; exact Nat.max_le.mpr ⟨h.dp, t.dp⟩
  · rw [PyData.weightAll]
    have := h.wt
    have := t.wt
    omega
theorem SmA.of : ∀ {ds : List D}, (∀ d ∈ ds, Sm d k n) → SmA ds k (ds.length * (n + 1))
  | [], _ => .nil
  | d :: ds, h => by
    have e : (d :: ds).length * (n + 1) = n + 1 + ds.length * (n + 1) := by rw [List.length_cons, Nat.succ_mul]; omega
    rw [e]
    exact SmA.cons (h d (List.mem_cons_self ..)) (SmA.of fun x hx => h x (List.mem_cons_of_mem _ hx))
theorem SmA.monoW (h : SmA ds k n) (hn : n ≤ n') : SmA ds k n' := ⟨h.ly, h.sh, h.lv, h.dp, Nat.le_trans h.wt hn⟩
theorem Sm.list (h : SmA ds k n) : Sm (.list ds) (k + 1) n := ⟨h.ly, h.sh, h.lv, Nat.succ_le_succ h.dp, h.wt⟩
theorem Sm.tup (h : SmA ds k n) : Sm (.tuple ds) (k + 1) n := ⟨h.ly, h.sh, h.lv, Nat.succ_le_succ h.dp, h.wt⟩
theorem sm_non : Sm .none k n := ⟨rfl, rfl, rfl, Nat.zero_le _, Nat.zero_le _⟩
theorem sm_bool {b : Bool} : Sm (.bool b) k n := ⟨rfl, rfl, rfl, Nat.zero_le _, Nat.zero_le _⟩
theorem sm_int {i : Int} (h : i.natAbs < 10 ^ 12) : Sm (.int i) k 41 := by
  have hl : i.natAbs.log2 < 40 := by
    by_cases h0 : i.natAbs = 0
    · rw [h0]; decide
    · rw [Nat.log2_lt h0]
      exact Nat.lt_of_lt_of_le h (by decide)
  refine ⟨rfl, ?_, ?_, Nat.zero_le _, ?_⟩
  · rw [PyData.showable]
    exact decide_eq_true (by omega)
  · rw [PyData.leavesShort]
    refine decide_eq_true ?_
    rw [PyData.shown]
    have := int_text_length_le10 (a := i) (k := 12) (by decide) h
    refine Nat.le_trans (Nat.le_of_eq ?_) this
    exact PySem.ofString_length _
  · rw [PyData.weight]
    split <;> omega
theorem sm_str {s : Str} (h : ∀ c ∈ s.cps.toList, c < 0x110000) (hn : s.length ≤ n) : Sm (.str s) k n := by
  refine ⟨?_, rfl, ?_, Nat.zero_le _, hn⟩
  · rw [PyData.canLay0]
    unfold PyData.strOk
    rw [Array.all_eq_true]
    intro i hi
    exact decide_eq_true (h _ (Array.getElem_mem_toList hi))
  · rw [PyData.leavesShort, List.all_eq_true]
    intro c hc
    exact decide_eq_true (Nat.lt_of_lt_of_le (h c hc) (by decide))
theorem Sm.shaped (h : Sm d k n) (hk : k ≤ 64 := by decide) : SeqAt.shaped d = true := by
  unfold SeqAt.shaped
  rw [h.ly, Bool.true_and]
  exact decide_eq_true (Nat.le_trans h.dp hk)
theorem Sm.eqv (h : Sm d k n) : PyData.eqv d d = true := SeqAt.eqv_refl d h.ly
end
section
variable {C : Cn} {te ta tb tc : TE} {Γ : List Sl} {d x y z : D} {k k' n n' : Nat}
theorem ve_reprS (h : VV C te Γ (Is d)) (s : Sm d k n) (hk : k ≤ 64 := by decide) (hn : n ≤ 1048576 := by omega) : VE C (tCB (rRepr C.K) (tCons te tNil)) Γ (Is (.str d.shown)) :=
  ve_repr h s.sh (PyData.hasDict_of_canLay d s.ly) (Nat.le_trans s.dp (by omega)) (PyData.shown_fits (B := 13) (by decide) (by decide) s.lv (Nat.le_trans s.wt hn))
theorem od_neD (hx : SeqAt.shaped x = true) (hy : SeqAt.shaped y = true) {b : Bool} (e : PyData.eqv x y = b) : OD C (rNeA C.K) x y (Is (.bool (!b))) := e ▸ od_ne hx hy
theorem od_neSame (h : Sm x k n) (e : x = y) (hk : k ≤ 64 := by decide) : OD C (rNeA C.K) x y (Is (.bool false)) := e ▸ od_neD (h.shaped hk) (h.shaped hk) h.eqv
theorem od_eqSame (h : Sm x k n) (e : x = y) (hk : k ≤ 64 := by decide) : OD C (rEqA C.K) x y (Is (.bool true)) := by
  subst e
  have := od_eq (C := C) (h.shaped hk) (h.shaped hk)
  rw [h.eqv] at this
  exact this
theorem od_neSSame {s t : Str} (e : s = t) : OD C (rNeA C.K) (.str s) (.str t) (Is (.bool false)) := by
  have := od_neS (C := C) (s := s) (t := t)
  rw [decide_eq_true e] at this
  exact this
theorem ve_chainD {r r' : R2} {b c : Bool} (ha : VE C ta Γ (Is x)) (hb : VE C tb Γ (Is y)) (ho : OD C r x y (Is (.bool b))) (hc : VV C tc Γ (Is z)) (ho2 : OD C r' y z (Is (.bool c))) : VE C (tChain r r' ta tb tc) Γ (Is (.bool (b && c))) :=
  ve_chain ha hb ho (fun e => by rw [e]; rfl) fun e => by
    subst e
    intro B H σ F Q q
    refine hc B H σ F Q fun d v B' H' ed s k => q d v B' H' ?_ s k
    cases ed
    exact ho2
/-! displays of literals -/
theorem va_strs : ∀ ss : List Str, VA C (ss.foldr (fun s A => tCons (tC (.str s)) A) tNil) Γ (Is (ss.map .str))
  | [] => va_nil
  | s :: ss => va_consD ve_str (va_strs ss)
theorem va_ints : ∀ ss : List Int, VA C (ss.foldr (fun s A => tCons (tC (.int s)) A) tNil) Γ (Is (ss.map .int))
  | [] => va_nil
  | s :: ss => va_consD ve_int (va_ints ss)
theorem ve_lstS (ss : List Str) (h : ss.length ≤ 1000 := by decide) : VE C (tLst (ss.foldr (fun s A => tCons (tC (.str s)) A) tNil)) Γ (Is (.list (ss.map .str))) := (vl_lstD (va_strs ss) (by rw [List.length_map]; omega)).ed
theorem ve_tupS (ss : List Str) (h : ss.length ≤ 1000 := by decide) : VE C (tTup (ss.foldr (fun s A => tCons (tC (.str s)) A) tNil)) Γ (Is (.tuple (ss.map .str))) := ve_tupD (va_strs ss) (by rw [List.length_map]; omega)
end

section
variable {C : Cn} {te ta : TE} {Γ : List Sl} {s : Str}
/-- a join of strings of which only something is known -/
theorem ve_joinLR {S : List Str → Prop} (h : VE C ta Γ (Is (.str s))) (h2 : VV C te Γ (fun d => ∃ es, d = .list es ∧ ∃ ys : List Str, es = ys.map .str ∧ S ys)) (hz : ∀ ys, S ys → (ys.map (·.length)).sum + ys.length * s.length ≤ 16777216) :
    VE C (tM1 (rJoin C.K) ta te) Γ (fun d => ∃ ys, S ys ∧ d = .str (Txt.join s ys)) := fun B H σ F Q q =>
  h B H σ F _ fun d v B1 H1 ed s1 k1 => by
    cases ed
    obtain rfl := dp_str k1
    refine ⟨⟨s, rfl⟩, h2 B1 H1 σ (F.step s1) _ fun d v B2 H2 ⟨es, ed, ys, ee, hy⟩ s2 k2 => ?_⟩
    subst ed ee
    obtain ⟨a, xs, rfl, g1, g2⟩ := k2.lst ((F.step s1).step s2).sub
    rw [dpall_strs g2] at g1
    exact ⟨s, a, ys, rfl, rfl, Or.inl g1, hz ys hy, q _ _ B2 H2 ⟨ys, hy, rfl⟩ (s1.trans F.dlNow s2) (.str _)⟩
theorem sum_len : ∀ (ys : List Str) (n : Nat), (∀ s ∈ ys, s.length ≤ n) → (ys.map (·.length)).sum ≤ n * ys.length
  | [], n, _ => Nat.le_refl _
  | y :: ys, n, h => by
    have h1 := h y (List.mem_cons_self ..)
    have h2 := sum_len ys n fun s hs => h s (List.mem_cons_of_mem _ hs)
    rw [List.map_cons, List.sum_cons, List.length_cons, Nat.mul_succ]
    omega
end
section
variable {C : Cn} {te : TE} {Γ : List Sl} {i : Int}
theorem ve_neg (h : VE C te Γ (Is (.int i))) : VE C (tUn (rU fun i => .int (-i)) te) Γ (Is (.int (-i))) := ve_un (Ra := Is (.int i)) h.v fun x ex B H v e k Q q => by
  subst ex
  obtain rfl := k.int
  exact ⟨i, rfl, q _ _ B H rfl (Stp.refl e) (.int _)⟩
end
section
variable {C : Cn} {A A' : TA} {Γ : List Sl} {ds es : List D} {P : List D → Prop} {R' : List D → D → Prop} {E : XK} {gV : List V → List V → List V} {te : TE} {i : Nat} {n : Int}
/-- with names -/
theorem ve_kwD {gD : List D → List D → List D} (hg : ∀ {H : Hp} {vs zs : List V} {us ws : List D}, DqAll C.K H vs us → DqAll C.K H zs ws → DqAll C.K H (gV vs zs) (gD us ws)) (h : VA C A Γ (Is ds)) (h' : VA C A' Γ (Is es)) (hP : P (gD ds es)) :
    VE C (tCallK (Pu C.K P R') gV E A A') Γ (R' (gD ds es)) := ve_pu gD h h' (fun B vs zs ds es h1 h2 => hg h1 h2) fun xs ys e1 e2 => by
  cases e1
  cases e2
  exact ⟨hP, fun _ r => r⟩
/-- a draw, wherever the source lies -/
theorem ve_anyI (h0 : Γ[i]? = some .deal) (h : VE C te Γ (Is (.int n))) (hn : 0 < n) (hm : n < 1000000000000) : VE C (tCallK (De C.K P_any R_any) (fun vs _ => vs) E (tCons (tVar i) (tCons te tNil)) tNil) Γ (fun d => ∃ r, d = .int r ∧ 0 ≤ r ∧ r < n) :=
  (ve_deD h0 (va_consD h va_nil) ⟨n, rfl, hn⟩).imp fun d r => r n rfl
end
/-! ### the law's first statement -/
theorem vs_begin {K : PySem.W.Frag} {H : Hp} {ns : List Int} {n : Nat} {t : TS} {R : D → Prop} {s : Int} (hn : ns.length ≤ 63) (h0 : 0 ≤ s := by decide) (h1 : s ≤ 1000 := by decide)
    (k : ∀ B H p q, VS ⟨K, B, H, some (p, q)⟩ t (.rd (ns.map V.int) :: .deal :: List.replicate n .no) { nx := fun _ => False, rt := R }) :
    VS ⟨K, H, H, none⟩ (tSeq (tAsg (tCallK (Dr K) (fun vs _ => vs) E0 (tCons (tVar 0) (tCons (tC (.int s)) tNil)) tNil) (gName 1)) t) (.rd (ns.map V.int) :: .no :: List.replicate n .no) { nx := fun _ => False, rt := R } := fun B H1 σ E F n' r b c => by
  obtain ⟨a, ea, hS⟩ := F.slot 0 _ rfl
  refine ⟨.ref a, ea, B, a, ns, s, rfl, F.sub, hS, h0, h1, hn, fun p q B' H' st hp hq hBp hBq hd => ?_⟩
  refine k B' H' p q B' H' _ E ⟨Stp.refl st.sub, fun p' q' e => ?_, ?_, fun i sl h => ?_, fun i j x ds es h => ?_⟩ (fun _ _ _ _ e => e.elim) (fun d v B2 H2 rd s2 kd => ?_) (fun _ _ _ _ e => e.elim) fun _ _ _ _ e => e.elim
  · cases e
    exact ⟨hd, hBp, hBq⟩
  · rw [List.length_set]
    exact F.len
  · match i, h with
    | 0, h =>
      cases h
      refine ⟨a, ?_, same_l st.ext hS⟩
      rw [List.getElem?_set_ne (by decide)]
      exact ea
    | 1, h =>
      cases h
      refine ⟨p, q, rfl, ?_⟩
      rw [List.getElem?_set_self (by rw [F.len]; exact Nat.succ_lt_succ (Nat.succ_pos _))]
    | i + 2, h =>
      have h : (List.replicate n Sl.no)[i]? = some sl := h
      rw [List.getElem?_replicate] at h
      split at h
      · cases h
        trivial
      · cases h
  · exfalso
    match i, h with
    | 0, h => cases h
    | 1, h => cases h
    | i + 2, h =>
      have h : (List.replicate n Sl.no)[i]? = some (.own ds) := h
      rw [List.getElem?_replicate] at h
      split at h <;> cases h
  · refine r d v B2 H2 rd ?_ kd
    have keep : ∀ a o, H1 a = some o → (∀ ps, o ≠ .tbl ps) → H2 a = some o := fun a o e nt => by
     refine s2.keepN a o (st.keepN a o e (fun ⟨_, _, z, _⟩ => nomatch z) nt) (fun ⟨p', q', e1, e2⟩ => ?_) nt
     cases e1
     rcases e2 with e2 | e2
     · subst e2
       rw [hp] at e
       cases e
     · subst e2
       rw [hq] at e
       cases e
    have s0 : Stp none B H1 B2 H2 := ⟨st.ext.trans s2.ext, s2.sub, fun a o e _ nt => keep a o e nt, fun a ha hb => s2.out a (st.there (fun _ _ e => nomatch e) ha) (st.out a ha hb), (fun _ _ e => nomatch e), fun a h => s2.stay a (st.stay a h), fun T t => s2.tab T (st.tab T t), fun h => s2.bt (st.bt h)⟩
    exact F.st.trans (fun _ _ e => nomatch e) s0
end Ly

/-! LyO: is of bools, sorted ints, tuple * int, xs.append(ys.pop(e)), _law_mixed. -/
namespace Ly
open PySem PySem.Spec PyProof.Rows L2

theorem dpall_erase {K : PySem.W.Frag} {H : Hp} : ∀ {vs : List V} {ds : List D} (n : Nat), DqAll K H vs ds → DqAll K H (vs.eraseIdx n) (ds.eraseIdx n)
  | _, _, _, .nil => .nil
  | _, _, 0, .cons _ h => h
  | _, _, n + 1, .cons h1 h2 => .cons h1 (dpall_erase n h2)
section
variable {C : Cn} {te ta : TE} {Γ : List Sl} {x y : D} {a b : Bool} {ds es : List D} {P : Po} {i j : Nat}
theorem od_isBl : OD C rIsB (.bool a) (.bool b) (Is (.bool (decide (a = b)))) := fun B H v u e k1 k2 Q q => by
  obtain rfl := k1.bl
  obtain rfl := k2.bl
  exact ⟨a, b, rfl, rfl, q _ _ B H rfl (Stp.refl e) (.bl _)⟩
theorem od_notBl : OD C rNotB (.bool a) (.bool b) (Is (.bool (!decide (a = b)))) := fun B H v u e k1 k2 Q q => by
  obtain rfl := k1.bl
  obtain rfl := k2.bl
  exact ⟨a, b, rfl, rfl, q _ _ B H rfl (Stp.refl e) (.bl _)⟩
/-- e is not True, e is not False: false where e is it -/
theorem vt_isnt (h : VE C te Γ (Is (.bool a))) : VT C (tTest (tOp rNotB te (tC (.bl a)))) Γ (Is false) := (vt_testD (ve_opD h.v ve_bl.v od_notBl)).to (by simp)
theorem vl_sortedI {ns : List Int} (h : VV C te Γ (Is (.list (ns.map .int)))) : VL C (tCB (rSortedI C.K) (tCons te tNil)) Γ (fun ds => ∃ ms : List Int, ds = ms.map .int ∧ ms.Perm ns ∧ ms.Pairwise (· ≤ ·)) := fun B H σ F Q q =>
  h B H σ F _ fun d v B1 H1 ed s1 k1 => by
    cases ed
    obtain ⟨a, xs, rfl, g1, g2⟩ := k1.lst (F.step s1).sub
    rw [dpall_ints g2] at g1
    refine ⟨a, ns, rfl, g1, fun ms p hp h1 h2 => ?_⟩
    exact q _ p _ B1 _ ⟨ms, rfl, hp, h1⟩ (s1.trans F.dlNow (Stp.newM (F.step s1).sub h2)) (back_none F s1 h2) ((F.step s1).sub.free h2) upd_same (dpall_map _ _ (fun i => .int i) ms)
end
theorem sorted_is {ms ns : List Int} (h1 : ms.Perm ns) (h2 : ms.Pairwise (· ≤ ·)) (h3 : ns.Pairwise (· ≤ ·)) : ms = ns :=
  h1.eq_of_pairwise (fun a b _ _ h k => Int.le_antisymm h k) h2 h3

/-! ### tuple * int -/
theorem tuple_mul1 (l : Addr) (items : Array Value) (n : Nat) (dd : Option Addr) (sl : Array (Option Value)) (u : Tok) :
    Meets (Builtin.«tuple.__mul__» ⟨[.ref l, .int 1 u], []⟩) (fun _ R s => s.heap.get? l = some { cls := .type "tuple", dict := dd, data := .seq items n, slots := sl } ∧ R (.ok (.ret (.ref l))) s) :=
  .of_wp fun prog w A R s h => by
    obtain ⟨hp, g, d, tk, os⟩ := s
    obtain ⟨hl, h⟩ := h
    have f1 := AutoSeq1.idx_int
    wp_walk using wpAny_loadPart' hl
    exact ⟨_, rfl, h⟩
def rRep1 (K : PySem.W.Frag) : R2 := fun x y H Q => ∃ l xs, x = .ref l ∧ y = .int 1 ∧ SqT K H l xs ∧ Q (.ref l) H
theorem op_rep1 {X : Cx} : OpR X (binaryOp .Mult) (rRep1 X.K) := by
  intro pins s σ H x y v u Q I rx ry h
  obtain ⟨l, xs, rfl, rfl, hT, q⟩ := h
  cases rx
  obtain ⟨t, rfl⟩ := ry
  obtain ⟨its, r, ⟨⟨cls, dd, data, sl⟩, ho, hc, n, hd⟩, hs⟩ := I.tuple hT
  simp only at hc hd
  subst hc hd
  refine wpAny_binaryOp_repeat_ref (T := "tuple") (U := "int") (by decide) ⟨_, ho, rfl⟩ (fun s' => typeIs_int s' 1 t) noFill_tuple_mul F.fills_int_mul F.slot_int_rmul repeat_tuple F.slot_int_index.lookup
    (call_meets F.slot_int_rmul (typeIs_int s 1 t) F.entry_int_rmul (F.args_int_rmul_2 _ _) (int_rmul_tuple 1 t l its.toArray n dd sl)
      ⟨ho, rfl, ⟨_, ho, rfl⟩, call_meets F.slot_tuple_mul ⟨_, ho, rfl⟩ F.entry_tuple_mul (F.args_tuple_mul_2 _ _) (tuple_mul1 l its.toArray n dd sl t) ⟨ho, ?_⟩⟩)
  exact ⟨.ref l, H, I, rfl, q⟩
def rMulT (K : PySem.W.Frag) : R2 := fun x y H Q => rRepT K x y H Q ∨ rRep1 K x y H Q
theorem oq_mulT {X : Cx} : OpR X (binaryOp .Mult) (rMulT X.K) := OpR.or op_repT op_rep1
theorem dpall_rep {K : PySem.W.Frag} {H : Hp} {vs : List V} {ds : List D} (h : DqAll K H vs ds) : ∀ n : Nat, DqAll K H (List.replicate n vs).flatten (List.replicate n ds).flatten
  | 0 => .nil
  | n + 1 => by
    rw [List.replicate_succ, List.replicate_succ, List.flatten_cons, List.flatten_cons]
    exact dpall_app h (dpall_rep h n)
section
variable {C : Cn} {te ta : TE} {Γ : List Sl} {x y : D} {a b : Bool} {ds es : List D} {P : Po} {i j : Nat}
theorem od_mulT {k : Int} (hne : ds ≠ []) (h1 : 1 ≤ k) (h2 : k ≤ 1000) (hl : ds.length ≤ 1000) : OD C (rMulT C.K) (.tuple ds) (.int k) (Is (.tuple (List.replicate k.toNat ds).flatten)) := fun B H v u e k1 k2 Q q => by
  obtain ⟨l, xs, rfl, g1, g2⟩ := k1.tup e
  obtain rfl := k2.int
  by_cases hk : k = 1
  · subst hk
    refine Or.inr ⟨l, xs, rfl, rfl, g1, ?_⟩
    have kd : Dq C.K B (.ref l) (.tuple ds) := by
      rcases k1 with k1 | ⟨_, _, _, _, z, _⟩
      · exact k1
      · cases z
    refine q _ _ B H ?_ (Stp.refl e) kd
    show _ = PyData.tuple (List.replicate 1 ds).flatten
    simp
  · refine Or.inl ⟨l, k, xs, rfl, rfl, g1, fun z => hne ?_, by omega, h2, by rw [dpall_len g2]; exact hl, fun p hp => ?_⟩
    · have := dpall_len g2
      rw [z] at this
      exact List.length_eq_zero_iff.mp this.symm
    · exact q _ _ (upd B p (.tup (List.replicate k.toNat xs).flatten)) _ rfl (Stp.new e hp) (.tup (Or.inl (Or.inl upd_same)) (dpall_mono (Stp.new (dl := C.dl) e hp).ext (dpall_rep g2 _)))
theorem vl_listRg {n : Int} (h : VE C te Γ (Is (.int n))) (h1 : -1000000 ≤ n) (h2 : n ≤ 1000000) : VL C (tLstRg (tRg1 te)) Γ (Is (Ly.upTo 0 n.toNat)) := fun B H σ F Q q => h B H σ F _ fun d v B1 H1 ed s1 k1 => by
  cases ed
  obtain rfl := dp_int k1
  refine ⟨n, rfl, ⟨by omega, by omega, by omega, by omega, by omega⟩, fun p hp => ?_⟩
  refine q _ p _ B1 _ rfl (s1.trans F.dlNow (Stp.newM (F.step s1).sub hp)) (back_none F s1 hp) ((F.step s1).sub.free hp) upd_same ?_
  unfold rgV Ly.upTo
  rw [Int.sub_zero]
  exact dpall_map _ _ (fun i => .int _) _
/-- xs.append(ys.pop(e)), both one's own -/
theorem vs_appPop (hi : Γ[i]? = some (.own ds)) (hj : Γ[j]? = some (.own es)) (hij : i ≠ j) (h : VE C te Γ (fun d => ∃ r, d = .int r ∧ 0 ≤ r ∧ r < es.length)) (hz : ds.length < 100000) (hz2 : es.length ≤ 100000)
    (k : ∀ (m : Nat) x, es[m]? = some x → P.nx ((Γ.set j (.own (es.eraseIdx m))).set i (.own (ds ++ [x])))) :
    VS C (tDrop (tBM C.K "list" rAppend (tVar i) (tCons (tBM C.K "list" rPopAt (tVar j) (tCons te tNil)) tNil))) Γ P := fun B H σ E F n r b c => by
  obtain ⟨p, vs, e, hC, hB, hp, hd⟩ := F.hasOwn hi
  obtain ⟨p2, us, e2, hC2, hB2, hp2, hd2⟩ := F.hasOwn hj
  have hpp : p2 ≠ p := fun z => hij (F.inj i j p ds es hi hj e (z ▸ e2))
  refine ⟨.ref p, e, own_ty hp, .ref p2, e2, own_ty hp2, h B H σ F _ fun d v B1 H1 ⟨m, ed, h0, h1⟩ s1 k1 => ?_⟩
  subst ed
  obtain rfl := dp_int k1
  obtain ⟨m, rfl⟩ := Int.eq_ofNat_of_zero_le h0
  have F1 := F.step s1
  have hp1 := s1.keep p _ hp (F.notMd hC)
  have hp21 := s1.keep p2 _ hp2 (F.notMd hC2)
  have hm : m < es.length := by omega
  have hd21 := dpall_mono s1.ext hd2
  obtain ⟨y, hy, ky⟩ := dpall_get hd21 (List.getElem?_eq_getElem hm)
  have hlu := dpall_len hd2
  have hix : ixN us.length (m : Int) = some m := by
    unfold ixN
    rw [if_pos (by omega), if_pos (by omega)]
    rfl
  refine ⟨p2, us, m, m, y, rfl, rfl, hp21, by omega, by omega, (ixN_seq hix).1, hy, ?_⟩
  have F2 : Fm C B1 (upd H1 p2 (.lst (us.eraseIdx m))) σ (Γ.set j (.own (es.eraseIdx m))) := F1.mutOwn hj e2 (dpall_erase m hd21)
  have hi2 : (Γ.set j (.own (es.eraseIdx m)))[i]? = some (.own ds) := by rw [List.getElem?_set_ne (Ne.symm hij)]; exact hi
  have hp2' : upd H1 p2 (.lst (us.eraseIdx m)) p = some (.lst vs) := by rw [upd_ne (Ne.symm hpp)]; exact hp1
  refine ⟨p, vs, y, rfl, rfl, hp2', sz6 (by rw [dpall_len hd]; exact hz), ?_⟩
  exact n _ B1 _ σ (k m _ (List.getElem?_eq_getElem hm)) s1.ext (F2.mutOwn hi2 e (dpall_app (dpall_mono s1.ext hd) (dpall_one ky)))
end
end Ly

/-! LyP: comprehensions of which only something is known, parts of small data, _law_mixed, the plain tests (is_integer .. is_row_of). -/
namespace Ly
open PySem PySem.Spec PyProof.Rows L2

inductive A2 {α β : Type} (R : α → β → Prop) : List α → List β → Prop where
  | nil : A2 R [] []
  | cons {a : α} {b : β} {as : List α} {bs : List β} (h : R a b) (t : A2 R as bs) : A2 R (a :: as) (b :: bs)
theorem A2.append {α β : Type} {R : α → β → Prop} : ∀ {a c : List α} {b d : List β}, A2 R a b → A2 R c d → A2 R (a ++ c) (b ++ d)
  | _, _, _, _, .nil, h => h
  | _, _, _, _, .cons h1 h2, h => .cons h1 (A2.append h2 h)
section
variable {C : Cn} {wi : TI} {g : TG} {tt : TT} {te : TE} {vs : List Nat} {Γ : List Sl}
/-- each result with its source -/
theorem vl_mapR {ds : List D} (R : D → D → Prop) (h : VI C wi Γ (Is ds)) (hz : ds.length ≤ 100000) (k : ∀ d ∈ ds, ∃ Γ1 js, VG C g d (wipeS Γ vs) Γ1 js ∧ (∀ j ∈ js, j ∈ vs) ∧ VE C te Γ1 (R d)) :
    VL C (tLc wi g tYes te vs) Γ (fun es => A2 R ds es) := vl_lc h fun xs e => by
  cases e
  refine ⟨hz, fun i acc => A2 R (ds.take i) acc, .nil, fun i d acc hd iv => ?_, fun acc iv => by
    have iv : A2 R (ds.take ds.length) acc := iv
    rw [List.take_length] at iv
    exact iv⟩
  obtain ⟨Γ1, js, hg, hjs, he⟩ := k d (List.mem_of_getElem? hd)
  refine ⟨Γ1, js, hg, hjs, Is true, fun B H σ F Q q => q true B H rfl (Stp.refl F.sub), fun _ => he.imp fun y ey => ?_, fun e => by cases e⟩
  show A2 R (ds.take (i + 1)) (acc ++ [y])
  rw [List.take_add_one, hd]
  exact A2.append iv (.cons ey .nil)
/-- all results are of a kind -/
theorem vl_lcA {S : List D → Prop} {n : Nat} {T : Bool → Prop} (R : D → Prop) (h : VI C wi Γ S) (hz : ∀ ds, S ds → ds.length ≤ n) (hn : n ≤ 100000) (k : ∀ ds, S ds → ∀ d ∈ ds, ∃ Γ1 js, VG C g d (wipeS Γ vs) Γ1 js ∧ (∀ j ∈ js, j ∈ vs) ∧ VT C tt Γ1 T ∧ VE C te Γ1 R) :
    VL C (tLc wi g tt te vs) Γ (fun es => es.length ≤ n ∧ ∀ y ∈ es, R y) := vl_lc h fun ds hd => by
  have hl := hz ds hd
  refine ⟨by omega, fun i acc => acc.length ≤ i ∧ ∀ y ∈ acc, R y, ⟨Nat.le_refl _, fun _ h => nomatch h⟩, fun i d acc hi ⟨iv, iw⟩ => ?_, fun acc ⟨iv, iw⟩ => ⟨by omega, iw⟩⟩
  obtain ⟨Γ1, js, hg, hjs, ht, he⟩ := k ds hd d (List.mem_of_getElem? hi)
  refine ⟨Γ1, js, hg, hjs, T, ht, fun _ => he.imp fun y ey => ⟨by rw [List.length_append]; exact Nat.succ_le_succ iv, fun z hz => ?_⟩, fun _ => ⟨by omega, iw⟩⟩
  rcases List.mem_append.mp hz with hz | hz
  · exact iw z hz
  · rw [List.mem_singleton.mp hz]
    exact ey
end

/-! ### parts of small data -/
section
variable {d x : D} {ds : List D} {k n : Nat}
theorem SmA.mem : ∀ {ds : List D} {n : Nat}, SmA ds k n → ∀ x ∈ ds, Sm x k n
  | [], _, _, x, hx => nomatch hx
  | d :: ds, n, h, x, hx => by
    obtain ⟨h1, h2, h3, h4, h5⟩ := h
    rw [PyData.canLayAll0, Bool.and_eq_true] at h1
    rw [PyData.showableAll, Bool.and_eq_true] at h2
    rw [PyData.leavesShortAll, Bool.and_eq_true] at h3
    rw [PyData.depthAll] at h4
    rw [PyData.weightAll] at h5
    rcases List.mem_cons.mp hx with e | hx
    · subst e
      exact ⟨h1.1, h2.1, h3.1, by omega, by omega⟩
    · exact SmA.mem ⟨h1.2, h2.2, h3.2, by omega, by omega⟩ x hx
theorem SmA.len : ∀ {ds : List D} {n : Nat}, SmA ds k n → ds.length ≤ n
  | [], _, _ => Nat.zero_le _
  | d :: ds, n, h => by
    obtain ⟨h1, h2, h3, h4, h5⟩ := h
    rw [PyData.canLayAll0, Bool.and_eq_true] at h1
    rw [PyData.showableAll, Bool.and_eq_true] at h2
    rw [PyData.leavesShortAll, Bool.and_eq_true] at h3
    rw [PyData.depthAll] at h4
    rw [PyData.weightAll] at h5
    have := SmA.len (ds := ds) (n := n - (d.weight + 1)) ⟨h1.2, h2.2, h3.2, by omega, by omega⟩
    rw [List.length_cons]
    omega
theorem Sm.tupA (h : Sm (.tuple ds) (k + 1) n) : SmA ds k n := by
  obtain ⟨h1, h2, h3, h4, h5⟩ := h
  rw [PyData.depth] at h4
  exact ⟨h1, h2, h3, Nat.le_of_succ_le_succ h4, h5⟩
theorem Sm.lstA (h : Sm (.list ds) (k + 1) n) : SmA ds k n := by
  obtain ⟨h1, h2, h3, h4, h5⟩ := h
  rw [PyData.depth] at h4
  exact ⟨h1, h2, h3, Nat.le_of_succ_le_succ h4, h5⟩
theorem Sm.tupM (h : Sm (.tuple ds) k n) (hx : x ∈ ds) : Sm x k n := by
  have h' : Sm (.tuple ds) (k + 1) n := h.mono
  exact h'.tupA.mem x hx
theorem Sm.tupL (h : Sm (.tuple ds) k n) : ds.length ≤ n := by
  have h' : Sm (.tuple ds) (k + 1) n := h.mono
  exact h'.tupA.len
end
theorem canLayAll_mem : ∀ {ds : List D}, PyData.canLayAll0 ds = true ↔ ∀ x ∈ ds, x.canLay0 = true
  | [] => by simp [PyData.canLayAll0]
  | d :: ds => by rw [PyData.canLayAll0, Bool.and_eq_true, canLayAll_mem]; simp
theorem depthAll_mem {n : Nat} : ∀ {ds : List D}, PyData.depthAll ds ≤ n ↔ ∀ x ∈ ds, x.depth ≤ n
  | [] => by simp [PyData.depthAll]
  | d :: ds => by rw [PyData.depthAll, Nat.max_le, depthAll_mem]; simp
theorem shaped_sub {xs ys : List D} (h : SeqAt.shaped (.list xs) = true) (hs : ∀ y ∈ ys, y ∈ xs) : SeqAt.shaped (.list ys) = true := by
  unfold SeqAt.shaped at h ⊢
  rw [Bool.and_eq_true, decide_eq_true_eq, PyData.canLay0, PyData.depth, canLayAll_mem] at h
  rw [Bool.and_eq_true, decide_eq_true_eq, PyData.canLay0, PyData.depth, canLayAll_mem]
  have h2 : PyData.depthAll xs ≤ 63 := by omega
  refine ⟨fun y hy => h.1 y (hs y hy), ?_⟩
  have : PyData.depthAll ys ≤ 63 := depthAll_mem.mpr fun y hy => depthAll_mem.mp h2 y (hs y hy)
  omega

/-! ### _law_mixed -/
def Pm (ds : List D) : Prop := ∃ xs, (ds = [.list xs] ∨ ds = [.tuple xs]) ∧ xs.length ≤ 10000 ∧ SeqAt.shaped (.list xs) = true
def t_mixed (K : PySem.W.Frag) : TS :=
  tSeq (tPar 2 3 (tCons (tCB (rList K) (tCons (tVar 1) tNil)) (tCons (tLst tNil) tNil)))
  (tSeq (tWhile (tTest (tOp (rNeA K) (tVar 2) (tLst tNil))) (tDrop (tBM K "list" rAppend (tVar 3) (tCons (tBM K "list" rPopAt (tVar 2) (tCons (tAny K (tCB (rLen K) (tCons (tVar 2) tNil))) tNil)) tNil))))
  (tRet (tVar 3)))
theorem erase_perm {α : Type} : ∀ (xs : List α) (m : Nat) (x : α), xs[m]? = some x → (x :: xs.eraseIdx m).Perm xs
  | [], _, _, h => nomatch h
  | y :: ys, 0, x, h => by
    injection h with h
    subst h
    exact .refl _
  | y :: ys, m + 1, x, h => by
    have h : ys[m]? = some x := h
    exact (List.Perm.swap y x _).trans ((erase_perm ys m x h).cons y)
theorem vs_mixed {C : Cn} {ds : List D} (hP : Pm ds) : VS C (t_mixed C.K) (.deal :: slots ds 2) { nx := fun _ => R_mixed ds .none, rt := R_mixed ds } := by
  obtain ⟨xs, hds, hl, hs⟩ := hP
  have hd1 : ∃ d, ds = [d] ∧ (d = .list xs ∨ d = .tuple xs) := by
    rcases hds with rfl | rfl
    · exact ⟨_, rfl, Or.inl rfl⟩
    · exact ⟨_, rfl, Or.inr rfl⟩
  obtain ⟨d, rfl, hd⟩ := hd1
  have hdd : ∀ ys : List D, ([d] = [PyData.list ys] ∨ [d] = [PyData.tuple ys]) → ys = xs := by
    rintro ys (h | h) <;> injection h with h _ <;> rcases hd with rfl | rfl <;> first | (injection h with h; exact h.symm) | cases h
  have hlist : VL C (tCB (rList C.K) (tCons (tVar 1) tNil)) [.deal, .dat d, .no, .no] (Is xs) := by
    rcases hd with rfl | rfl
    · exact vl_listL (ve_var rfl).v
    · exact vl_listT (ve_var rfl)
  refine vs_seq (Is [.deal, .dat d, .own xs, .own []]) (vs_parLL hlist (vl_lstD va_nil) fun x y ex ey => by cases ex; cases ey; rfl) ?_
  rintro Γ rfl
  refine vs_seq (fun Γ => ∃ ys, Γ = [.deal, .dat d, .own [], .own ys] ∧ ys.Perm xs) ?_ ?_
  · refine vs_while (fun m Γ => ∃ as bs, Γ = [.deal, .dat d, .own as, .own bs] ∧ (as ++ bs).Perm xs ∧ m = as.length) _ ⟨xs, [], rfl, by rw [List.append_nil], rfl⟩ ?_
    rintro m Γ ⟨as, bs, rfl, hp, rfl⟩
    have hlen := hp.length_eq
    rw [List.length_append] at hlen
    have hsa : SeqAt.shaped (.list as) = true := shaped_sub hs fun y hy => hp.mem_iff.mp (List.mem_append_left _ hy)
    have ht : VT C (tTest (tOp (rNeA C.K) (tVar 2) (tLst tNil))) [.deal, .dat d, .own as, .own bs] (Is (!as.isEmpty)) := by
      refine vt_testD (ve_opD (vv_own rfl) (vl_lstD va_nil).vd (od_neD hsa rfl ?_))
      show PyData.eqvAll as [] = _
      cases as <;> rfl
    refine ⟨_, ht, fun h => ?_, fun h => ?_⟩
    · have hpos : 0 < as.length := by
        cases as with
        | nil => cases h
        | cons _ _ => exact Nat.succ_pos _
      refine vs_appPop (i := 3) (j := 2) rfl rfl (by decide) (ve_any rfl (ve_lenL (vv_own rfl)) (by omega) (by omega)) (by omega) (by omega) fun m x hm => ?_
      have hml : m < as.length := (List.getElem?_eq_some_iff.mp hm).1
      refine ⟨(as.eraseIdx m).length, ?_, as.eraseIdx m, bs ++ [x], rfl, ?_, rfl⟩
      · rw [List.length_eraseIdx, if_pos hml]
        omega
      · refine List.Perm.trans ?_ hp
        rw [← List.append_assoc]
        exact (List.perm_append_singleton x _).trans ((erase_perm as m x hm).append_right bs)
    · cases as with
      | nil => exact ⟨bs, rfl, hp⟩
      | cons _ _ => cases h
  · rintro Γ ⟨ys, rfl, hp⟩
    refine vs_retOwn 3 rfl fun zs hz => ?_
    obtain rfl := hdd zs hz
    exact ⟨ys, rfl, hp⟩

/-! ### plain tests -/
def isInt : D → Bool
  | .int _ => true
  | _ => false
def isNum : D → Bool
  | .int i => decide (0 ≤ i)
  | _ => false
def isIdx (n : Int) : D → Bool
  | .int i => decide (0 ≤ i) && decide (i < n)
  | _ => false
def isTup : D → Bool
  | .tuple _ => true
  | _ => false
def isSeq : D → Bool
  | .tuple _ => true
  | .list _ => true
  | _ => false
def isRow (ns : List Nat) : D → Bool
  | .tuple xs => ns.contains xs.length
  | _ => false
def P_is1 (ds : List D) : Prop := ∃ d, ds = [d]
def R_isInt (ds : List D) (r : D) : Prop := ∀ d, ds = [d] → r = .bool (isInt d)
def R_isNum (ds : List D) (r : D) : Prop := ∀ d, ds = [d] → r = .bool (isNum d)
def R_isSeq (ds : List D) (r : D) : Prop := ∀ d, ds = [d] → r = .bool (isSeq d)
def P_isIdx (ds : List D) : Prop := ∃ d n, ds = [d, .int n]
def R_isIdx (ds : List D) (r : D) : Prop := ∀ d n, ds = [d, .int n] → r = .bool (isIdx n d)
def P_isRow (ds : List D) : Prop := ∃ d, ∃ ns : List Nat, ds = [d, .tuple (ns.map fun n => .int (n : Nat))]
def R_isRow (ds : List D) (r : D) : Prop := ∀ d (ns : List Nat), ds = [d, .tuple (ns.map fun n => .int (n : Nat))] → r = .bool (isRow ns d)
def isBl : D → Bool
  | .bool _ => true
  | _ => false
section
variable {C : Cn} {te : TE} {Γ : List Sl} {d : D}
theorem ve_isInt (h : VV C te Γ (Is d)) : VE C (tCB (rIsAny C.K) (tCons te (tCons (tC (.ty "int")) tNil))) Γ (Is (.bool (isInt d || isBl d))) := by
  cases d <;> exact ve_isi h rfl
theorem ve_isBool (h : VV C te Γ (Is d)) : VE C (tCB (rIsAny C.K) (tCons te (tCons (tC (.ty "bool")) tNil))) Γ (Is (.bool (isBl d))) := by
  cases d <;> exact ve_isi h rfl
theorem ve_isTup (h : VV C te Γ (Is d)) : VE C (tCB (rIsAny C.K) (tCons te (tCons (tC (.ty "tuple")) tNil))) Γ (Is (.bool (isTup d))) := by
  cases d <;> exact ve_isi h rfl
def t_isInt (K : PySem.W.Frag) : TS := tRet (tAndV (tCB (rIsAny K) (tCons (tVar 0) (tCons (tC (.ty "int")) tNil))) (tNotV (tCB (rIsAny K) (tCons (tVar 0) (tCons (tC (.ty "bool")) tNil)))))
theorem vs_isInt {ds : List D} (hP : P_is1 ds) : VS C (t_isInt C.K) (slots ds 0) { nx := fun _ => R_isInt ds .none, rt := R_isInt ds } := by
  obtain ⟨d, rfl⟩ := hP
  refine vs_retD (ve_andD (ve_isInt (ve_var rfl).v) fun _ => ve_notD (ve_isBool (ve_var rfl).v)) fun d' e => ?_
  injection e with e
  subst e
  cases d <;> rfl
def t_isNum (K : PySem.W.Frag) : TS := tRet (tAndV (tCallK (Pu K P_is1 R_isInt) (fun vs _ => vs) E0 (tCons (tVar 0) tNil) tNil) (tOp (rI0 fun i j => .bl (decide (j ≤ i))) (tVar 0) (tC (.int 0))))
theorem vs_isNum {ds : List D} (hP : P_is1 ds) : VS C (t_isNum C.K) (slots ds 0) { nx := fun _ => R_isNum ds .none, rt := R_isNum ds } := by
  obtain ⟨d, rfl⟩ := hP
  have h1 : VE C (tCallK (Pu C.K P_is1 R_isInt) (fun vs _ => vs) E0 (tCons (tVar 0) tNil) tNil) (slots [d] 0) (Is (.bool (isInt d))) := (ve_callD (va_consD (ve_var rfl) va_nil) ⟨d, rfl⟩).imp fun r k => k d rfl
  have fin : VE C (tAndV (tCallK (Pu C.K P_is1 R_isInt) (fun vs _ => vs) E0 (tCons (tVar 0) tNil) tNil) (tOp (rI0 fun i j => .bl (decide (j ≤ i))) (tVar 0) (tC (.int 0)))) (slots [d] 0) (Is (.bool (isNum d))) := by
    cases d with
    | int i => exact (ve_andD h1 fun _ => ve_opD (ve_var rfl).v ve_int.v od_ge).to rfl
    | _ => exact (ve_andD (c := false) h1 fun e => by cases e).to rfl
  exact vs_retD fin fun d' e => by
    injection e with e
    subst e
    rfl
def t_isIdx (K : PySem.W.Frag) : TS := tRet (tAndV (tCallK (Pu K P_is1 R_isNum) (fun vs _ => vs) E0 (tCons (tVar 0) tNil) tNil) (tOp rLtA (tVar 0) (tVar 1)))
theorem vs_isIdx {ds : List D} (hP : P_isIdx ds) : VS C (t_isIdx C.K) (slots ds 0) { nx := fun _ => R_isIdx ds .none, rt := R_isIdx ds } := by
  obtain ⟨d, n, rfl⟩ := hP
  have h1 : VE C (tCallK (Pu C.K P_is1 R_isNum) (fun vs _ => vs) E0 (tCons (tVar 0) tNil) tNil) (slots [d, .int n] 0) (Is (.bool (isNum d))) := (ve_callD (va_consD (ve_var rfl) va_nil) ⟨d, rfl⟩).imp fun r k => k d rfl
  have fin : VE C (tAndV (tCallK (Pu C.K P_is1 R_isNum) (fun vs _ => vs) E0 (tCons (tVar 0) tNil) tNil) (tOp rLtA (tVar 0) (tVar 1))) (slots [d, .int n] 0) (Is (.bool (isIdx n d))) := by
    cases d with
    | int i => exact (ve_andD h1 fun _ => ve_opD (ve_var rfl).v (ve_var rfl).v od_lt).to rfl
    | _ => exact (ve_andD (c := false) h1 fun e => by cases e).to rfl
  exact vs_retD fin fun d' n' e => by
    injection e with e e2
    injection e2 with e2 _
    injection e2 with e2
    subst e e2
    rfl
def t_isRow (K : PySem.W.Frag) : TS := tRet (tAndV (tCB (rIsAny K) (tCons (tVar 0) (tCons (tC (.ty "tuple")) tNil))) (tOp (rInA K) (tCB (rLen K) (tCons (tVar 0) tNil)) (tVar 1)))
theorem ints_inj : ∀ {ns ms : List Nat}, (ns.map fun n => PyData.int (n : Nat)) = (ms.map fun n => PyData.int (n : Nat)) → ns = ms
  | [], [], _ => rfl
  | [], _ :: _, h => nomatch h
  | _ :: _, [], h => nomatch h
  | n :: ns, m :: ms, h => by
    injection h with h1 h2
    injection h1 with h1
    rw [ints_inj h2, Int.ofNat.inj h1]
theorem any_ints (ns : List Nat) (m : Nat) : ((ns.map fun n => PyData.int (n : Nat)).any fun z => PyData.eqv z (.int (m : Nat))) = ns.contains m := by
  induction ns with
  | nil => rfl
  | cons n ns ih =>
    rw [List.map_cons, List.any_cons, ih, List.contains_cons, PyData.eqv]
    congr 1
    by_cases h : m = n
    · rw [h]; simp
    · rw [beq_eq_false_iff_ne.mpr h, beq_eq_false_iff_ne.mpr (by omega)]
theorem flat_ints (ns : List Nat) : (ns.map fun n => PyData.int (n : Nat)).all flatD = true := by
  rw [List.all_map, List.all_eq_true]
  intro x _
  rfl
theorem vs_isRow {ds : List D} (hP : P_isRow ds) : VS C (t_isRow C.K) (slots ds 0) { nx := fun _ => R_isRow ds .none, rt := R_isRow ds } := by
  obtain ⟨d, ns, rfl⟩ := hP
  have fin : VE C (tAndV (tCB (rIsAny C.K) (tCons (tVar 0) (tCons (tC (.ty "tuple")) tNil))) (tOp (rInA C.K) (tCB (rLen C.K) (tCons (tVar 0) tNil)) (tVar 1))) (slots [d, .tuple (ns.map fun n => .int (n : Nat))] 0) (Is (.bool (isRow ns d))) := by
    cases d with
    | tuple xs =>
      refine (ve_andD (ve_isTup (ve_var rfl).v) fun _ => ve_opD (ve_lenT (ve_var rfl)).v (ve_var rfl).v (od_inT rfl (flat_ints ns))).to ?_
      rw [any_ints]
      rfl
    | _ => exact (ve_andD (c := false) (ve_isTup (ve_var rfl).v) fun e => by cases e).to rfl
  exact vs_retD fin fun d' n' e => by
    injection e with e e2
    injection e2 with e2 _
    injection e2 with e2
    obtain rfl := ints_inj e2
    subst e
    rfl
theorem call_isNum {E : XK} (h : VE C te Γ (Is d)) : VE C (tCallK (Pu C.K P_is1 R_isNum) (fun vs _ => vs) E (tCons te tNil) tNil) Γ (Is (.bool (isNum d))) := (ve_callD (va_consD h va_nil) ⟨d, rfl⟩).imp fun r k => k d rfl
theorem call_isIdx {E : XK} {t2 : TE} {n : Int} (h : VE C te Γ (Is d)) (h2 : VE C t2 Γ (Is (.int n))) : VE C (tCallK (Pu C.K P_isIdx R_isIdx) (fun vs _ => vs) E (tCons te (tCons t2 tNil)) tNil) Γ (Is (.bool (isIdx n d))) :=
  (ve_callD (va_consD h (va_consD h2 va_nil)) ⟨d, n, rfl⟩).imp fun r k => k d n rfl
theorem call_isRow {E : XK} {t2 : TE} (ns : List Nat) (h : VE C te Γ (Is d)) (h2 : VE C t2 Γ (Is (.tuple (ns.map fun n => .int (n : Nat))))) : VE C (tCallK (Pu C.K P_isRow R_isRow) (fun vs _ => vs) E (tCons te (tCons t2 tNil)) tNil) Γ (Is (.bool (isRow ns d))) :=
  (ve_callD (va_consD h (va_consD h2 va_nil)) ⟨d, ns, rfl⟩).imp fun r k => k d ns rfl
end
end Ly

/-! LyQ: promises told by a parameter: Pa (data of a parameter in, something of it out), Da (a source of draws first). -/
namespace Ly
open PySem PySem.Spec PyProof.Rows L2

def Pa (K : PySem.W.Frag) {α : Type} (f : α → List D) (P : α → Prop) (R : α → D → Prop) : Sp := fun vs H Q E => ∃ a, P a ∧ Pu K (Is (f a)) (fun _ => R a) vs H Q E
def Da (K : PySem.W.Frag) {α : Type} (f : α → List D) (P : α → Prop) (R : α → D → Prop) : Sp := fun vs H Q E => ∃ a, P a ∧ De K (Is (f a)) (fun _ => R a) vs H Q E
section
variable {P0 : Program} {w : World} {K : PySem.W.Frag} {mg : Str → Option Value} {base : Heap} {k : Nat} {f : Addr} {fd : FuncData} {ps N : List Str} {x qual : Str} {st : Stmt} {α : Type} {g : α → List D} {P : α → Prop} {R : α → D → Prop}
theorem GOk.ex {S : α → Sp} (h : ∀ a, P a → GOk P0 w K mg base CX0 k f fd ps (S a)) : GOk P0 w K mg base CX0 k f fd ps (fun vs H Q E => ∃ a, P a ∧ S a vs H Q E) :=
  ⟨fun ⟨a, p, q⟩ => (h a p).size q, fun gd r e0 b rv ⟨a, p, q⟩ => (h a p).does gd r e0 b rv q⟩
theorem pa_ok (n : Nat) (F : Fun K x qual st f fd) (S : FnScope N ps (defScope st)) (hl : ∀ a, (g a).length = ps.length) (hn : ps.length + n = N.length)
    (body : ∀ (cdv : Value) (A : Around) (outer : List Env) (s : Shared) (H : Hp) (E : XK), (cxOf CX0 P0 w K mg base N qual (defScope st) f cdv A outer s H E).A.guards = some [] → Room k (cxOf CX0 P0 w K mg base N qual (defScope st) f cdv A outer s H E).A →
      ∃ t, PSs (cxOf CX0 P0 w K mg base N qual (defScope st) f cdv A outer s H E).nox (defBody st) t ∧ ∀ B H a, P a → VS ⟨K, B, H, none⟩ t (slots (g a) n) { nx := fun _ => R a .none, rt := R a }) :
    GOk P0 w K mg base CX0 (k + 1) f fd ps (Pa K g P R) :=
  GOk.ex fun a hp => pu_ok n F S (fun ds e => by cases e; exact hl a) hn fun cdv A outer s H E hg hr => by
    obtain ⟨t, ht, hv⟩ := body cdv A outer s H E hg hr
    exact ⟨t, ht, fun B H ds e => by cases e; exact hv B H a hp⟩
theorem da_ok (n : Nat) (F : Fun K x qual st f fd) (S : FnScope N ps (defScope st)) (hl : ∀ a, (g a).length + 1 = ps.length) (hn : ps.length + n = N.length)
    (body : ∀ (cdv : Value) (A : Around) (outer : List Env) (s : Shared) (H : Hp) (E : XK), (cxOf CX0 P0 w K mg base N qual (defScope st) f cdv A outer s H E).A.guards = some [] → Room k (cxOf CX0 P0 w K mg base N qual (defScope st) f cdv A outer s H E).A →
      ∃ t, PSs (cxOf CX0 P0 w K mg base N qual (defScope st) f cdv A outer s H E).nox (defBody st) t ∧ ∀ B H p q a, P a → VS ⟨K, B, H, some (p, q)⟩ t (.deal :: slots (g a) n) { nx := fun _ => R a .none, rt := R a }) :
    GOk P0 w K mg base CX0 (k + 1) f fd ps (Da K g P R) :=
  GOk.ex fun a hp => de_ok n F S (fun ds e => by cases e; exact hl a) hn fun cdv A outer s H E hg hr => by
    obtain ⟨t, ht, hv⟩ := body cdv A outer s H E hg hr
    exact ⟨t, ht, fun B H p q ds e => by cases e; exact hv B H p q a hp⟩
end
section
variable {C : Cn} {A A' : TA} {Γ : List Sl} {α : Type} {g : α → List D} {P : α → Prop} {R : α → D → Prop} {E : XK} {gV : List V → List V → List V} {ds es : List D} {i : Nat}
theorem ve_callA (a : α) (h : VA C A Γ (Is (g a))) (hP : P a) : VE C (tCallK (Pa C.K g P R) (fun vs _ => vs) E A tNil) Γ (R a) := fun B H σ F Q q =>
  h B H σ F _ fun ds vs B1 H1 e1 s1 k1 => by
    cases e1
    exact ⟨a, hP, B1, g a, (F.step s1).sub, k1, rfl, fun d v B3 H3 r3 s3 k3 => q d v B3 H3 r3 (s1.trans F.dlNow s3.any) k3⟩
/-- with names -/
theorem ve_kwA (a : α) {gD : List D → List D → List D} (hg : ∀ {H : Hp} {vs zs : List V} {us ws : List D}, DqAll C.K H vs us → DqAll C.K H zs ws → DqAll C.K H (gV vs zs) (gD us ws)) (h : VA C A Γ (Is ds)) (h' : VA C A' Γ (Is es)) (he : gD ds es = g a) (hP : P a) :
    VE C (tCallK (Pa C.K g P R) gV E A A') Γ (R a) := fun B H σ F Q q =>
  h B H σ F _ fun ds vs B1 H1 e1 s1 k1 => h' B1 H1 σ (F.step s1) _ fun es zs B2 H2 e2 s2 k2 => by
    cases e1
    cases e2
    exact ⟨a, hP, B2, g a, ((F.step s1).step s2).sub, by have := hg (dpall_mono s2.ext k1) k2; rw [he] at this; exact this, rfl, fun d v B3 H3 r3 s3 k3 => q d v B3 H3 r3 ((s1.trans F.dlNow s2).trans F.dlNow s3.any) k3⟩
theorem ve_callDa (a : α) (hi : Γ[i]? = some .deal) (h : VA C A Γ (Is (g a))) (hP : P a) : VE C (tCallK (Da C.K g P R) (fun vs _ => vs) E (tCons (tVar i) A) tNil) Γ (R a) := fun B H σ F Q q => by
  obtain ⟨p, r, e, hs⟩ := F.slot i _ hi
  refine ⟨.ref p, hs, h B H σ F _ fun ds vs B1 H1 e1 s1 k1 => ?_⟩
  cases e1
  have F1 := F.step s1
  obtain ⟨n1, n2⟩ := F1.dlOut e
  refine ⟨a, hP, B1, p, r, vs, g a, rfl, F1.sub, F1.dlNow p r e, n1, n2, k1, rfl, fun d v B3 H3 r3 s3 k3 => ?_⟩
  rw [← e] at s3
  exact q d v B3 H3 r3 (s1.trans F.dlNow s3) k3
end
/-! ### comprehensions over told things -/
section
variable {C : Cn} {wi : TI} {g : TG} {tt : TT} {te : TE} {vs : List Nat} {Γ : List Sl} {α : Type} {m : α → D} {xs : List α}
theorem vl_lcM (f : α → Bool) (v : α → D) (h : VI C wi Γ (Is (xs.map m))) (hz : xs.length ≤ 100000) (k : ∀ x ∈ xs, ∃ Γ1 js, VG C g (m x) (wipeS Γ vs) Γ1 js ∧ (∀ j ∈ js, j ∈ vs) ∧ VT C tt Γ1 (Is (f x)) ∧ (f x = true → VE C te Γ1 (Is (v x)))) :
    VL C (tLc wi g tt te vs) Γ (Is ((xs.filter f).map v)) := vl_lc h fun ds e => by
  cases e
  refine ⟨by rw [List.length_map]; exact hz, fun i acc => acc = ((xs.take i).filter f).map v, rfl, fun i d acc hd iv => ?_, fun acc iv => ?_⟩
  · rw [List.getElem?_map] at hd
    obtain ⟨x, hx, rfl⟩ := Option.map_eq_some_iff.mp hd
    obtain ⟨Γ1, js, hg, hjs, ht, he⟩ := k x (List.mem_of_getElem? hx)
    refine ⟨Γ1, js, hg, hjs, Is (f x), ht, fun e => (he e.symm).imp fun y ey => ?_, fun e => ?_⟩
    · subst ey iv
      rw [List.take_add_one, hx, List.filter_append, List.map_append]
      show _ = _ ++ List.map v (List.filter f [x])
      rw [List.filter_cons, if_pos e.symm]
      rfl
    · subst iv
      rw [List.take_add_one, hx, List.filter_append, List.map_append]
      show _ = _ ++ List.map v (List.filter f [x])
      rw [List.filter_cons, if_neg (by rw [← e]; decide)]
      exact (List.append_nil _).symm
  · have iv : acc = ((xs.take (xs.map m).length).filter f).map v := iv
    rw [List.length_map, List.take_length] at iv
    exact iv
theorem vl_mapM (v : α → D) (h : VI C wi Γ (Is (xs.map m))) (hz : xs.length ≤ 100000) (k : ∀ x ∈ xs, ∃ Γ1 js, VG C g (m x) (wipeS Γ vs) Γ1 js ∧ (∀ j ∈ js, j ∈ vs) ∧ VE C te Γ1 (Is (v x))) :
    VL C (tLc wi g tYes te vs) Γ (Is (xs.map v)) := (vl_lcM (fun _ => true) v h hz fun x hx => by
  obtain ⟨Γ1, js, hg, hjs, he⟩ := k x hx
  exact ⟨Γ1, js, hg, hjs, vt_yes, fun _ => he⟩).to (by rw [List.filter_eq_self.mpr fun _ _ => rfl])
/-- all([..]) -/
theorem ve_allM (f : α → Bool) (h : VI C wi Γ (Is (xs.map m))) (hz : xs.length ≤ 100000) (k : ∀ x ∈ xs, ∃ Γ1 js, VG C g (m x) (wipeS Γ vs) Γ1 js ∧ (∀ j ∈ js, j ∈ vs) ∧ VE C te Γ1 (Is (.bool (f x)))) :
    VE C (tCB (rAll C.K) (tCons (tLc wi g tYes te vs) tNil)) Γ (Is (.bool (xs.all f))) :=
  (ve_all (ns := xs.map f) ((vl_mapM (fun x => .bool (f x)) h hz k).to (by rw [List.map_map]; rfl)).vd).to (by rw [List.all_map]; rfl)
/-- tuple([..]) -/
theorem ve_tupM (f : α → Bool) (v : α → D) (h : VI C wi Γ (Is (xs.map m))) (hz : xs.length ≤ 100000) (k : ∀ x ∈ xs, ∃ Γ1 js, VG C g (m x) (wipeS Γ vs) Γ1 js ∧ (∀ j ∈ js, j ∈ vs) ∧ VT C tt Γ1 (Is (f x)) ∧ (f x = true → VE C te Γ1 (Is (v x)))) :
    VE C (tCB (rTup C.K) (tCons (tLc wi g tt te vs) tNil)) Γ (Is (.tuple ((xs.filter f).map v))) := ve_tupL (vl_lcM f v h hz k).vd
/-- over data as it is -/
theorem id_map (ds : List D) : ds = ds.map id := (List.map_id ds).symm
theorem va_tupI {te : TE} {ds : List D} (h : VE C te Γ (Is (.tuple ds))) : VI C (iAny C.K te) Γ (Is (ds.map id)) := by
  rw [List.map_id]
  exact va_tupD h
theorem va_listI {te : TE} {ds : List D} (h : VE C te Γ (Is (.list ds))) : VI C (iAny C.K te) Γ (Is (ds.map id)) := by
  rw [List.map_id]
  exact va_listD h
/-- range(n) -/
theorem vi_rngM {te : TE} {n : Nat} (h : VE C te Γ (Is (.int (n : Nat)))) (hn : n ≤ 1000000) : VI C (iRng1 (tCons te tNil)) Γ (Is ((List.range n).map fun (i : Nat) => PyData.int (i : Nat))) := by
  have e : Ly.upTo 0 ((n : Int)).toNat = (List.range n).map fun (i : Nat) => PyData.int (i : Nat) := by
    unfold Ly.upTo
    rw [Int.toNat_natCast]
    refine List.map_congr_left fun i _ => ?_
    show PyData.int (0 + (i : Nat)) = _
    rw [Int.zero_add]
  rw [← e]
  exact vi_rng1D h
end
end Ly

/-! LyR: small things of lists, orders (levels and told pairs), _law_closed. -/
namespace Ly
open PySem PySem.Spec PyProof.Rows L2

section
variable {C : Cn} {r : R2} {x y : D} {R R' : D → Prop} {ta tb te : TE} {Γ : List Sl}
theorem OD.imp (h : OD C r x y R) (i : ∀ d, R d → R' d) : OD C r x y R' := fun B H v u e k1 k2 Q q => h B H v u e k1 k2 Q fun d w B' H' rd s k => q d w B' H' (i d rd) s k
/-- a test of a draw against a number -/
theorem vt_anyEq {i : Nat} {b : Int} {E : XK} (h0 : Γ[i]? = some .deal) (hb : 0 < b) (hm : b < 1000000000000) {z : Int} : VT C (tTest (tOp (rEqA C.K) (tCallK (De C.K P_any R_any) (fun vs _ => vs) E (tCons (tVar i) (tCons (tC (.int b)) tNil)) tNil) (tC (.int z)))) Γ (fun _ => True) :=
  vt_test (ve_op (ve_anyI h0 ve_int hb hm).v (Rb := Is (.int z)) ve_int.v fun x y ⟨r, ex, _, _⟩ ey => by
    subst ex ey
    exact od_eqI.imp fun d e => ⟨_, e, trivial⟩)
end
theorem all_map {α β : Type} {f : α → β} {Q : α → Prop} : ∀ {es : List β}, (∀ y ∈ es, ∃ p, y = f p ∧ Q p) → ∃ ps : List α, es = ps.map f ∧ ∀ p ∈ ps, Q p
  | [], _ => ⟨[], rfl, fun _ h => nomatch h⟩
  | e :: es, h => by
    obtain ⟨p, rfl, hp⟩ := h e (List.mem_cons_self ..)
    obtain ⟨ps, rfl, hq⟩ := all_map fun y hy => h y (List.mem_cons_of_mem _ hy)
    refine ⟨p :: ps, rfl, fun z hz => ?_⟩
    rcases List.mem_cons.mp hz with rfl | hz
    · exact hp
    · exact hq z hz
theorem perm_map_inv {α β : Type} {f : α → β} {as bs : List β} (h : as.Perm bs) : ∀ xs : List α, bs = xs.map f → ∃ zs : List α, as = zs.map f ∧ zs.Perm xs := by
  induction h with
  | nil =>
    intro xs e
    obtain rfl : xs = [] := List.map_eq_nil_iff.mp e.symm
    exact ⟨[], rfl, .refl _⟩
  | cons b _ ih =>
    intro xs e
    cases xs with
    | nil => cases e
    | cons x xs =>
      injection e with e1 e2
      obtain ⟨zs, e3, h⟩ := ih xs e2
      exact ⟨x :: zs, by rw [e1, e3]; rfl, h.cons x⟩
  | swap a b l =>
    intro xs e
    match xs, e with
    | x :: y :: xs, e =>
      injection e with e1 e2
      injection e2 with e2 e3
      exact ⟨y :: x :: xs, by rw [e1, e2, e3]; rfl, .swap x y xs⟩
  | trans _ _ ih1 ih2 =>
    intro xs e
    obtain ⟨zs, e1, h1⟩ := ih2 xs e
    obtain ⟨us, e2, h2⟩ := ih1 zs e1
    exact ⟨us, e2, h2.trans h1⟩
abbrev nsD (ns : List Nat) : List D := ns.map fun n => .int (n : Nat)
theorem ns_cast (ns : List Nat) : nsD ns = (ns.map fun (n : Nat) => (n : Int)).map PyData.int := by rw [List.map_map]; rfl
theorem shaped_ns (xs : List Nat) : SeqAt.shaped (.list (nsD xs)) = true := by
  unfold SeqAt.shaped
  rw [Bool.and_eq_true, decide_eq_true_eq, PyData.canLay0, PyData.depth, canLayAll_mem]
  refine ⟨fun x hx => ?_, ?_⟩
  · obtain ⟨n, _, rfl⟩ := List.mem_map.mp hx
    rfl
  · have : PyData.depthAll (nsD xs) ≤ 0 := depthAll_mem.mpr fun x hx => by
      obtain ⟨n, _, rfl⟩ := List.mem_map.mp hx
      exact Nat.le_refl _
    omega
/-- sorted(xs), numbers -/
theorem vl_sortedN {C : Cn} {te : TE} {Γ : List Sl} {ns : List Nat} (h : VV C te Γ (Is (.list (nsD ns)))) : VL C (tCB (rSortedI C.K) (tCons te tNil)) Γ (fun ds => ∃ ms : List Nat, ds = nsD ms ∧ ms.Perm ns ∧ ms.Pairwise (· ≤ ·)) :=
  (vl_sortedI (ns := ns.map fun (n : Nat) => (n : Int)) (by rw [← ns_cast]; exact h)).imp fun ds ⟨ms, e, hp, hs⟩ => by
    obtain ⟨zs, rfl, hz⟩ := perm_map_inv hp ns rfl
    refine ⟨zs, by rw [e, ← ns_cast], hz, ?_⟩
    rw [List.pairwise_map] at hs
    exact hs.imp fun h => by omega

/-! ### told pairs -/
/-- by told pairs from x up to y, none or more -/
inductive Up (ps : List (Nat × Nat)) : Nat → Nat → Prop where
  | here (x : Nat) : Up ps x x
  | step {x y z : Nat} (t : Up ps x y) (h : (y, z) ∈ ps) : Up ps x z
theorem Up.trans {ps : List (Nat × Nat)} {x y z : Nat} (h : Up ps x y) (k : Up ps y z) : Up ps x z := by
  induction k with
  | here => exact h
  | step _ e ih => exact .step ih e
/-- in at most t steps -/
def Rch (ps : List (Nat × Nat)) (x : Nat) : Nat → Nat → Prop
  | 0, h => x = h
  | t + 1, h => Rch ps x t h ∨ ∃ y, (y, h) ∈ ps ∧ Rch ps x t y
section
variable {ps : List (Nat × Nat)} {x : Nat}
theorem Rch.mono {h : Nat} : ∀ {t u : Nat}, t ≤ u → Rch ps x t h → Rch ps x u h
  | t, 0, l, r => by
    obtain rfl : t = 0 := by omega
    exact r
  | t, u + 1, l, r => by
    by_cases e : t = u + 1
    · exact e ▸ r
    · exact Or.inl (Rch.mono (by omega) r)
theorem Rch.up : ∀ {t h : Nat}, Rch ps x t h → Up ps x h
  | 0, h, r => by
    cases r
    exact .here _
  | t + 1, h, r => by
    rcases r with r | ⟨y, hy, r⟩
    · exact Rch.up r
    · exact .step (Rch.up r) hy
theorem Up.rch {h : Nat} (u : Up ps x h) : ∃ t, Rch ps x t h := by
  induction u with
  | here => exact ⟨0, rfl⟩
  | step _ e ih =>
    obtain ⟨t, r⟩ := ih
    exact ⟨t + 1, Or.inr ⟨_, e, r⟩⟩
theorem filter_lt {α : Type} {p q : α → Bool} : ∀ (l : List α), (∀ x ∈ l, p x = true → q x = true) → (l.filter p).length ≤ (l.filter q).length ∧ ((∃ x ∈ l, q x = true ∧ p x = false) → (l.filter p).length < (l.filter q).length)
  | [], _ => ⟨Nat.le_refl _, fun ⟨_, h, _⟩ => nomatch h⟩
  | y :: l, h => by
    obtain ⟨h1, h2⟩ := filter_lt l fun x hx => h x (List.mem_cons_of_mem _ hx)
    have hy := h y (List.mem_cons_self ..)
    rw [List.filter_cons, List.filter_cons]
    cases hp : p y with
    | true =>
      rw [hy hp]
      refine ⟨Nat.succ_le_succ h1, fun ⟨x, hx, hq, hn⟩ => ?_⟩
      rcases List.mem_cons.mp hx with rfl | hx
      · rw [hp] at hn
        cases hn
      · exact Nat.succ_lt_succ (h2 ⟨x, hx, hq, hn⟩)
    | false =>
      cases hq : q y with
      | true => exact ⟨Nat.le_succ_of_le h1, fun _ => Nat.lt_succ_of_le h1⟩
      | false =>
        refine ⟨h1, fun ⟨x, hx, hq', hn⟩ => ?_⟩
        rcases List.mem_cons.mp hx with rfl | hx
        · rw [hq] at hq'
          cases hq'
        · exact h2 ⟨x, hx, hq', hn⟩
open Classical in
/-- many steps are enough -/
theorem Up.many {many : Nat} (hps : ∀ p ∈ ps, p.1 < many ∧ p.2 < many) (hx : x < many) {h : Nat} (u : Up ps x h) : Rch ps x many h := by
  let S : Nat → List Nat := fun t => (List.range many).filter fun h => decide (Rch ps x t h)
  have grow : ∀ t, t + 1 ≤ (S t).length ∨ ∃ u, u ≤ t ∧ ∀ h, h < many → Rch ps x (u + 1) h → Rch ps x u h := by
    intro t
    induction t with
    | zero =>
      left
      have : x ∈ S 0 := List.mem_filter.mpr ⟨List.mem_range.mpr hx, decide_eq_true rfl⟩
      exact List.length_pos_of_mem this
    | succ t ih =>
      rcases ih with ih | ⟨u, hu, hs⟩
      · by_cases st : ∀ h, h < many → Rch ps x (t + 1) h → Rch ps x t h
        · exact Or.inr ⟨t, by omega, st⟩
        · left
          have : ∃ h, h < many ∧ Rch ps x (t + 1) h ∧ ¬ Rch ps x t h := by
            apply Classical.byContradiction
            intro no
            exact st fun h hh r => Classical.byContradiction fun n => no ⟨h, hh, r, n⟩
          obtain ⟨h, hh, r, n⟩ := this
          have := (filter_lt (p := fun h => decide (Rch ps x t h)) (q := fun h => decide (Rch ps x (t + 1) h)) (List.range many) fun y _ hy => decide_eq_true (Or.inl (of_decide_eq_true hy))).2 ⟨h, List.mem_range.mpr hh, decide_eq_true r, decide_eq_false n⟩
          show t + 1 + 1 ≤ ((List.range many).filter fun h => decide (Rch ps x (t + 1) h)).length
          have ih : t + 1 ≤ ((List.range many).filter fun h => decide (Rch ps x t h)).length := ih
          omega
      · exact Or.inr ⟨u, by omega, hs⟩
  rcases grow many with g | ⟨v, hv, hs⟩
  · have := List.length_filter_le (fun h => decide (Rch ps x many h)) (List.range many)
    rw [List.length_range] at this
    have g : many + 1 ≤ ((List.range many).filter fun h => decide (Rch ps x many h)).length := g
    omega
  · have stay : ∀ T h, h < many → Rch ps x T h → Rch ps x v h := by
      intro T
      induction T with
      | zero => exact fun h _ r => Rch.mono (Nat.zero_le _) r
      | succ T ih =>
        intro h hh r
        rcases r with r | ⟨y, hy, r⟩
        · exact ih h hh r
        · exact hs h hh (Or.inr ⟨y, hy, ih y (hps _ hy).1 r⟩)
    have hh : h < many := by
      cases u with
      | here => exact hx
      | step _ e => exact (hps _ e).2
    obtain ⟨T, r⟩ := u.rch
    exact Rch.mono hv (stay T h hh r)
end
/-! ### _law_closed -/
def prD (p : Nat × Nat) : D := .tuple [.int (p.1 : Nat), .int (p.2 : Nat)]
abbrev tnD (ns : List Nat) : D := .tuple (nsD ns)
abbrev lnD (ns : List Nat) : D := .list (nsD ns)
/-- rows of numbers -/
abbrev ordD (rs : List (List Nat)) : D := .tuple (rs.map tnD)
structure Closed (many : Nat) (ps : List (Nat × Nat)) (rs : List (List Nat)) : Prop where
  len : rs.length = many
  is : ∀ h, h < many → ∀ x, x ∈ rs.getD h [] ↔ x < many ∧ Up ps x h
  nd : ∀ h, h < many → (rs.getD h []).Pairwise (· < ·)
abbrev A_closed : Nat × List (Nat × Nat) → List D := fun a => [.int (a.1 : Nat), .list (a.2.map prD)]
def P_closed : Nat × List (Nat × Nat) → Prop := fun a => a.1 ≤ 100 ∧ a.2.length ≤ 1000 ∧ ∀ p ∈ a.2, p.1 < a.1 ∧ p.2 < a.1
def R_closed : Nat × List (Nat × Nat) → D → Prop := fun a d => ∃ rs, d = ordD rs ∧ Closed a.1 a.2 rs
structure Rnd (many : Nat) (ps : List (Nat × Nat)) (rs : List (List Nat)) : Prop where
  len : rs.length = many
  up : ∀ h, h < many → ∀ x ∈ rs.getD h [], x < many ∧ Up ps x h
  nd : ∀ h, h < many → (rs.getD h []).Pairwise (· < ·)
def Full (many t : Nat) (ps : List (Nat × Nat)) (rs : List (List Nat)) : Prop := ∀ h, h < many → ∀ x, x < many → Rch ps x t h → x ∈ rs.getD h []
theorem getD_set {α : Type} {xs : List α} {i j : Nat} {y d : α} (hi : i < xs.length) : (xs.set i y).getD j d = if i = j then y else xs.getD j d := by
  rw [List.getD_eq_getElem?_getD, List.getD_eq_getElem?_getD]
  by_cases h : i = j
  · subst h
    rw [List.getElem?_set_self hi, if_pos rfl]
    rfl
  · rw [List.getElem?_set_ne h, if_neg h]
theorem getD_at {α : Type} {xs : List α} {i : Nat} {d : α} (hi : i < xs.length) : xs[i]? = some (xs.getD i d) := by
  rw [List.getD_eq_getElem?_getD, List.getElem?_eq_getElem hi]
  rfl
theorem nd_le {xs : List Nat} (h : xs.Pairwise (· < ·)) : xs.Nodup := h.imp fun h => by omega
theorem le_nd {xs : List Nat} (h : xs.Pairwise (· ≤ ·)) (n : xs.Nodup) : xs.Pairwise (· < ·) := by
  have := h.and n
  exact this.imp fun ⟨h1, h2⟩ => by omega
theorem up_len : ∀ {xs : List Nat} {lo hi : Nat}, xs.Pairwise (· < ·) → (∀ x ∈ xs, lo ≤ x ∧ x < hi) → xs.length ≤ hi - lo
  | [], _, _, _, _ => Nat.zero_le _
  | x :: xs, lo, hi, h, k => by
    rw [List.pairwise_cons] at h
    have h1 := k x (List.mem_cons_self ..)
    have := up_len (xs := xs) (lo := x + 1) (hi := hi) h.2 fun y hy => ⟨h.1 y hy, (k y (List.mem_cons_of_mem _ hy)).2⟩
    rw [List.length_cons]
    omega
theorem rnd_set {many : Nat} {ps : List (Nat × Nat)} {rs : List (List Nat)} {lo hi : Nat} {ms : List Nat} (hr : Rnd many ps rs) (hl : lo < many) (hh : hi < many) (hp : (lo, hi) ∈ ps)
    (hm : ms.Perm (rs.getD hi [] ++ (rs.getD lo []).filter fun x => !(rs.getD hi []).contains x)) (hs : ms.Pairwise (· ≤ ·)) : Rnd many ps (rs.set hi ms) ∧ (∀ h, h < many → ∀ x ∈ rs.getD h [], x ∈ (rs.set hi ms).getD h []) ∧ ∀ x ∈ rs.getD lo [], x ∈ (rs.set hi ms).getD hi [] := by
  have hlen := hr.len
  have hset : ∀ j, (rs.set hi ms).getD j [] = if hi = j then ms else rs.getD j [] := fun j => getD_set (by omega)
  have nd : ms.Nodup := by
    refine hm.nodup_iff.mpr ?_
    refine List.nodup_append.mpr ⟨nd_le (hr.nd hi hh), (nd_le (hr.nd lo hl)).filter _, fun a ha b hb e => ?_⟩
    subst e
    have := (List.mem_filter.mp hb).2
    simp at this
    exact this ha
  refine ⟨⟨by rw [List.length_set]; exact hlen, fun h hm2 x hx => ?_, fun h hm2 => ?_⟩, fun h hm2 x hx => ?_, fun x hx => ?_⟩
  · rw [hset] at hx
    by_cases e : hi = h
    · rw [if_pos e] at hx
      subst e
      rcases List.mem_append.mp (hm.mem_iff.mp hx) with hx | hx
      · exact hr.up _ hh x hx
      · have := hr.up _ hl x (List.mem_filter.mp hx).1
        exact ⟨this.1, .step this.2 hp⟩
    · rw [if_neg e] at hx
      exact hr.up h hm2 x hx
  · rw [hset]
    by_cases e : hi = h
    · rw [if_pos e]
      exact le_nd hs nd
    · rw [if_neg e]
      exact hr.nd h hm2
  · rw [hset]
    by_cases e : hi = h
    · rw [if_pos e]
      subst e
      exact hm.mem_iff.mpr (List.mem_append_left _ hx)
    · rw [if_neg e]
      exact hx
  · rw [hset, if_pos rfl]
    refine hm.mem_iff.mpr ?_
    by_cases e : (rs.getD hi []).contains x = true
    · exact List.mem_append_left _ (by simpa using e)
    · exact List.mem_append_right _ (List.mem_filter.mpr ⟨hx, by rw [Bool.eq_false_iff.mpr e]; rfl⟩)
def t_closed (K : PySem.W.Frag) : TS :=
  tSeq (tAsg (tLc (iRng1 (tCons (tVar 0) tNil)) (gName 3) tYes (tLst (tCons (tVar 3) tNil)) [3]) (gName 2))
  (tSeq (tFor (iRng1 (tCons (tVar 0) tNil)) (gName 4) (tFor (iAny K (tVar 1)) (gTup K 2 (gCons (gName 5) (gCons (gName 6) gNil))) (tAsg (tCB (rSortedI K) (tCons (tOp (rAddA K) (tOp (rIx K) (tVar 2) (tVar 6)) (tLc (iAny K (tOp (rIx K) (tVar 2) (tVar 5))) (gName 7) (tTest (tOp (rNotInA K) (tVar 7) (tOp (rIx K) (tVar 2) (tVar 6)))) (tVar 7) [7])) tNil)) (gSub (tVar 2) (tVar 6) rSetL))))
  (tRet (tCB (rTup K) (tCons (tLc (iAny K (tVar 2)) (gName 8) tYes (tCB (rTup K) (tCons (tVar 8) tNil)) [8]) tNil))))
theorem vs_closed {C : Cn} {a : Nat × List (Nat × Nat)} (hP : P_closed a) : VS C (t_closed C.K) (slots (A_closed a) 7) { nx := fun _ => R_closed a .none, rt := R_closed a } := by
  obtain ⟨many, ps⟩ := a
  obtain ⟨h1, h2, h3⟩ := hP
  have h1 : many ≤ 100 := h1
  have h2 : ps.length ≤ 1000 := h2
  have h3 : ∀ p ∈ ps, p.1 < many ∧ p.2 < many := h3
  have hst : VL C (tLc (iRng1 (tCons (tVar 0) tNil)) (gName 3) tYes (tLst (tCons (tVar 3) tNil)) [3]) (slots (A_closed (many, ps)) 7) (Is (((List.range many).map fun i => [i]).map lnD)) :=
    (vl_mapM (m := fun (i : Nat) => PyData.int (i : Nat)) (fun i => lnD [i]) (vi_rngM (ve_var rfl) (by omega)) (by rw [List.length_range]; omega) fun i hi => ⟨_, _, vg_name, fun j hj => hj, (vl_lstD (va_consD (ve_var rfl) va_nil)).ed⟩).to (by rw [List.map_map]; rfl)
  refine vq_ownD hst ?_
  have r0 : Rnd many ps ((List.range many).map fun i => [i]) ∧ Full many 0 ps ((List.range many).map fun i => [i]) := by
    have hg : ∀ h, h < many → ((List.range many).map fun i => [i]).getD h [] = [h] := fun h hh => by
      rw [List.getD_eq_getElem?_getD, List.getElem?_map, List.getElem?_range hh]
      rfl
    refine ⟨⟨by rw [List.length_map, List.length_range], fun h hh x hx => ?_, fun h hh => ?_⟩, fun h hh x hx r => ?_⟩
    · rw [hg h hh] at hx
      rw [List.mem_singleton.mp hx]
      exact ⟨hh, .here _⟩
    · rw [hg h hh]
      exact List.pairwise_singleton _ _
    · rw [hg h hh]
      cases r
      exact List.mem_singleton.mpr rfl
  refine vs_seq (fun Γ => ∃ rs s4 s5 s6 s7, Γ = [.dat (.int (many : Nat)), .dat (.list (ps.map prD)), .own (rs.map lnD), .no, s4, s5, s6, s7, .no] ∧ Rnd many ps rs ∧ Full many many ps rs) ?_ ?_
  · refine vs_for (vi_rngM (n := many) (ve_var rfl) (by omega)) fun ds e => ?_
    cases e
    refine ⟨fun t Γ => ∃ rs s4 s5 s6 s7, Γ = [.dat (.int (many : Nat)), .dat (.list (ps.map prD)), .own (rs.map lnD), .no, s4, s5, s6, s7, .no] ∧ Rnd many ps rs ∧ Full many t ps rs, ⟨_, _, _, _, _, rfl, r0.1, r0.2⟩, ?_, fun Γ' h => ?_⟩
    · rintro t d Γ' _ ⟨rs0, s4, s5, s6, s7, rfl, hr0, hf0⟩
      refine ⟨_, _, vg_name, ?_⟩
      refine vs_for (va_listD (ds := ps.map prD) (ve_var rfl)) fun ds e => ?_
      cases e
      refine ⟨fun j Γ => ∃ rs s5 s6 s7, Γ = [.dat (.int (many : Nat)), .dat (.list (ps.map prD)), .own (rs.map lnD), .no, .dat d, s5, s6, s7, .no] ∧ Rnd many ps rs ∧ (∀ h, h < many → ∀ x ∈ rs0.getD h [], x ∈ rs.getD h []) ∧ ∀ i, i < j → ∀ lo hi, ps[i]? = some (lo, hi) → ∀ x ∈ rs0.getD lo [], x ∈ rs.getD hi [],
        ⟨rs0, _, _, _, rfl, hr0, fun _ _ _ h => h, fun i hi => by omega⟩, ?_, fun Γ' h => ?_⟩
      · rintro j d' Γ' hd ⟨rs, s5, s6, s7, rfl, hr, hk, hj⟩
        rw [List.getElem?_map] at hd
        obtain ⟨⟨lo, hi⟩, hp, rfl⟩ := Option.map_eq_some_iff.mp hd
        have hmem := List.mem_of_getElem? hp
        obtain ⟨hlo, hhi⟩ := h3 _ hmem
        have hlo : lo < many := hlo
        have hhi : hi < many := hhi
        have hlen := hr.len
        refine ⟨_, _, vg_tup2 vg_name vg_name, ?_⟩
        have at2 : ∀ {Γ : List Sl} {te : TE} {k : Nat}, k < many → Γ[2]? = some (.own (rs.map lnD)) → VE C te Γ (Is (.int (k : Nat))) → VE C (tOp (rIx C.K) (tVar 2) te) Γ (Is (lnD (rs.getD k []))) := fun {Γ te k} hk h2 ht =>
          ve_opD (vv_own h2) ht.v (od_ixL (atI_pos (by rw [List.getElem?_map, getD_at (d := []) (by omega)]; rfl)))
        have hsz : ∀ k, k < many → (rs.getD k []).length ≤ 100 := fun k hk => by
          have := up_len (hr.nd k hk) (lo := 0) (hi := many) fun x hx => ⟨Nat.zero_le _, (hr.up k hk x hx).1⟩
          omega
        have z1 := hsz hi hhi
        have z2 := hsz lo hlo
        have zf := List.length_filter_le (fun x => !(rs.getD hi []).contains x) (rs.getD lo [])
        refine vs_setAt (i := 2) (k := hi) (z := (hi : Int)) rfl (vl_sortedN (ns := rs.getD hi [] ++ (rs.getD lo []).filter fun x => !(rs.getD hi []).contains x) ?_).e (ve_var rfl) ?_ ?_
        · refine ((vl_opD (at2 hhi rfl (ve_var rfl)).v (vl_lcM (m := fun n : Nat => PyData.int (n : Nat)) (fun x => !(rs.getD hi []).contains x) (fun n => .int (n : Nat)) (va_listD (at2 hlo rfl (ve_var rfl))) (by omega) fun x hx => ⟨_, _, vg_name, fun j hj => hj, ?_, fun _ => ve_var rfl⟩).vd (ol_cat ?_)).to ?_).vd
          · exact vt_testD ((ve_opD (ve_var rfl).v (at2 hhi rfl (ve_var rfl)).v (od_notinL rfl (shaped_ns _))).to (congrArg (fun b => PyData.bool (!b)) (any_ints _ x)))
          · rw [List.length_map, List.length_map]
            omega
          · exact List.map_append.symm
        · rw [List.length_map, hlen]
          unfold ixN
          rw [if_pos (by omega), if_pos (by omega)]
          rfl
        · rintro d ⟨ds, rfl, ms, rfl, hm, hs⟩
          obtain ⟨g1, g2, g3⟩ := rnd_set hr hlo hhi hmem hm hs
          refine ⟨rs.set hi ms, .dat (.int (lo : Nat)), .dat (.int (hi : Nat)), s7, ?_, g1, fun h hh x hx => g2 h hh x (hk h hh x hx), fun i hi' lo' hi2 hpi x hx => ?_⟩
          · rw [List.map_set]
            rfl
          · by_cases e : i = j
            · subst e
              rw [hp] at hpi
              injection hpi with hpi
              injection hpi with e1 e2
              subst e1 e2
              exact g3 x (hk lo hlo x hx)
            · exact g2 hi2 (h3 _ (List.mem_of_getElem? hpi)).2 x (hj i (by omega) lo' hi2 hpi x hx)
      · rw [List.length_map] at h
        obtain ⟨rs, s5, s6, s7, rfl, hr, hk, hj⟩ := h
        refine ⟨rs, _, _, _, _, rfl, hr, fun h hh x hx r => ?_⟩
        rcases r with r | ⟨y, hy, r⟩
        · exact hk h hh x (hf0 h hh x hx r)
        · obtain ⟨i, hi, he⟩ := List.getElem_of_mem hy
          exact hj i hi y h (by rw [List.getElem?_eq_getElem hi, he]) x (hf0 y (h3 _ hy).1 x hx r)
    · rw [List.length_map, List.length_range] at h
      exact h
  · rintro Γ ⟨rs, s4, s5, s6, s7, rfl, hr, hf⟩
    refine vs_freeze 2 rfl ?_
    refine vs_retD (ve_tupL (vl_mapM (m := lnD) (xs := rs) tnD (va_listD (ve_var rfl)) (by rw [hr.len]; omega) fun r hr => ⟨_, _, vg_name, fun j hj => hj, ve_tupL (ve_var rfl).v⟩).vd) ?_
    exact ⟨rs, rfl, hr.len, fun h hh x => ⟨hr.up h hh x, fun ⟨hx, u⟩ => hf h hh x hx (u.many h3 hx)⟩, hr.nd⟩
end Ly

/-! LyS: calls with arguments of which only something is known, checks of small data, numbers drawn. -/
namespace Ly
open PySem PySem.Spec PyProof.Rows L2

theorem A2.map {α β γ : Type} {R : α → β → Prop} {f : γ → β} {Q : γ → Prop} (h : ∀ a b, R a b → ∃ p, b = f p ∧ Q p) : ∀ {as : List α} {bs : List β}, A2 R as bs → ∃ ps : List γ, bs = ps.map f ∧ ps.length = as.length ∧ ∀ p ∈ ps, Q p
  | _, _, .nil => ⟨[], rfl, rfl, fun _ h => nomatch h⟩
  | _, _, .cons r t => by
    obtain ⟨p, rfl, hp⟩ := h _ _ r
    obtain ⟨ps, rfl, hl, hq⟩ := A2.map h t
    refine ⟨p :: ps, rfl, congrArg (· + 1) hl, fun z hz => ?_⟩
    rcases List.mem_cons.mp hz with rfl | hz
    · exact hp
    · exact hq z hz
section
variable {C : Cn} {A : TA} {Γ : List Sl} {α : Type} {g : α → List D} {P : α → Prop} {R : α → D → Prop} {R' : D → Prop} {S : List D → Prop} {E : XK} {i : Nat} {te : TE}
theorem ve_callAx (h : VA C A Γ S) (k : ∀ ds, S ds → ∃ a, ds = g a ∧ P a ∧ ∀ d, R a d → R' d) : VE C (tCallK (Pa C.K g P R) (fun vs _ => vs) E A tNil) Γ R' := fun B H σ F Q q =>
  h B H σ F _ fun ds vs B1 H1 e1 s1 k1 => by
    obtain ⟨a, rfl, hP, hR⟩ := k ds e1
    exact ⟨a, hP, B1, g a, (F.step s1).sub, k1, rfl, fun d v B3 H3 r3 s3 k3 => q d v B3 H3 (hR d r3) (s1.trans F.dlNow s3.any) k3⟩
/-- two arguments: the first told -/
theorem ve_call2x {ta tb : TE} {x : D} {Rb : D → Prop} (h1 : VE C ta Γ (Is x)) (h2 : VE C tb Γ Rb) (k : ∀ y, Rb y → ∃ a, [x, y] = g a ∧ P a ∧ ∀ d, R a d → R' d) : VE C (tCallK (Pa C.K g P R) (fun vs _ => vs) E (tCons ta (tCons tb tNil)) tNil) Γ R' :=
  ve_callAx (va_cons h1 (va_cons h2 va_nil)) fun ds ⟨a, as, e1, ea, b, bs, e2, eb, e3⟩ => by
    cases ea
    cases e3
    subst e1 e2
    exact k b eb
theorem ve_anyN {n : Nat} (h0 : Γ[i]? = some .deal) (h : VE C te Γ (Is (.int (n : Nat)))) (hn : 0 < n) (hm : n < 1000000000000) : VE C (tCallK (De C.K P_any R_any) (fun vs _ => vs) E (tCons (tVar i) (tCons te tNil)) tNil) Γ (fun d => ∃ r : Nat, d = .int (r : Nat) ∧ r < n) :=
  (ve_anyI h0 h (by omega) (by omega)).imp fun d ⟨r, e, h0, h1⟩ => by
    obtain ⟨m, rfl⟩ := Int.eq_ofNat_of_zero_le h0
    exact ⟨m, e, by omega⟩
theorem vt_anyGt {b z : Int} (h0 : Γ[i]? = some .deal) (hb : 0 < b) (hm : b < 1000000000000) : VT C (tTest (tOp (rI0 fun i j => .bl (decide (j < i))) (tCallK (De C.K P_any R_any) (fun vs _ => vs) E (tCons (tVar i) (tCons (tC (.int b)) tNil)) tNil) (tC (.int z)))) Γ (fun _ => True) :=
  vt_test (ve_op (ve_anyI h0 ve_int hb hm).v (Rb := Is (.int z)) ve_int.v fun x y ⟨r, ex, _, _⟩ ey => by
    subst ex ey
    exact od_gt.imp fun d e => ⟨_, e, trivial⟩)
/-- one of a told list -/
theorem ve_ofL {ds : List D} (h0 : Γ[i]? = some .deal) (h : VE C te Γ (Is (.list ds))) (hn : ds ≠ []) (hm : ds.length ≤ 100000) : VE C (tCallK (De C.K P_of R_of) (fun vs _ => vs) E (tCons (tVar i) (tCons te tNil)) tNil) Γ (fun d => d ∈ ds) :=
  (ve_deD h0 (va_consD h va_nil) ⟨ds, Or.inl rfl, hn, hm⟩).imp fun d r => r _ (Or.inl rfl)
/-- tuple of a list of which something is known -/
theorem ve_tupX {S : List D → Prop} (h : VL C te Γ S) : VE C (tCB (rTup C.K) (tCons te tNil)) Γ (fun d => ∃ ds, d = .tuple ds ∧ S ds) := ve_tupN h.v
end
theorem range_ns (n : Nat) : Ly.upTo 0 ((n : Int)).toNat = nsD (List.range n) := by
  unfold Ly.upTo
  rw [Int.toNat_natCast]
  refine List.map_congr_left fun i _ => ?_
  show PyData.int (0 + (i : Nat)) = _
  rw [Int.zero_add]
/-- small data, by a check -/
def smB (d : D) (k n : Nat) : Bool := d.canLay0 && (d.showable && (d.leavesShort 13 && (decide (d.depth ≤ k) && decide (d.weight ≤ n))))
theorem smB_is {d : D} {k n : Nat} (h : smB d k n = true) : Sm d k n := by
  unfold smB at h
  simp only [Bool.and_eq_true, decide_eq_true_eq] at h
  exact ⟨h.1, h.2.1, h.2.2.1, h.2.2.2.1, h.2.2.2.2⟩
theorem sm_ns {ns : List Nat} {m : Nat} (h : ∀ x ∈ ns, x < 1000000000000) (hl : ns.length ≤ m) {n : Nat} (hn : m * 42 ≤ n := by decide) : SmA (nsD ns) 0 n := by
  have : SmA (nsD ns) 0 ((nsD ns).length * (41 + 1)) := SmA.of fun d hd => by
    obtain ⟨x, hx, rfl⟩ := List.mem_map.mp hd
    have := h x hx
    exact sm_int (by rw [Int.natAbs_natCast]; omega)
  refine this.monoW ?_
  rw [List.length_map]
  omega
/-- rows of numbers, at most m of at most l -/
theorem sm_ord {rs : List (List Nat)} {m l : Nat} (h : ∀ r ∈ rs, r.length ≤ l ∧ ∀ x ∈ r, x < 1000000000000) (hm : rs.length ≤ m) {n : Nat} (hn : m * (l * 42 + 1) ≤ n := by decide) : Sm (ordD rs) 2 n := by
  refine Sm.tup ((SmA.of (k := 1) (n := l * 42) fun d hd => ?_).monoW ?_)
  · obtain ⟨r, hr, rfl⟩ := List.mem_map.mp hd
    exact Sm.tup (sm_ns (h r hr).2 (h r hr).1 (Nat.le_refl _))
  · rw [List.length_map]
    exact Nat.le_trans (Nat.mul_le_mul_right _ hm) hn
end Ly

/-! LyT: lists of ints by order, zip, tuple.index, a dict display looked up at once, list * int, bits, tuples of the top. -/
namespace Ly
open PySem PySem.Spec PyProof.Rows L2

/-! ### list < list, of ints -/
def rLtL (K : PySem.W.Frag) : R2 := fun x y H Q => ∃ (a b : Addr) (ns ms : List Int), x = .ref a ∧ y = .ref b ∧ SqL K H a (ns.map V.int) ∧ SqL K H b (ms.map V.int) ∧
  Q (.bl (SeqAt.firstLt (fun j => decide (ns.getD j 0 = ms.getD j 0)) (fun j => decide (ns.getD j 0 < ms.getD j 0)) (decide (ns.length < ms.length)) (List.range (min ns.length ms.length)))) H
theorem vals_int {ns : List Int} {vs : List Value} (r : Vals (ns.map V.int) vs) {j : Nat} (h : j < vs.length) : ∃ t, vs[j] = .int (ns.getD j 0) t := by
  induction ns generalizing vs j with
  | nil => cases r; cases h
  | cons n ns ih =>
    cases r with
    | cons h1 h2 =>
      cases j with
      | zero =>
        obtain ⟨t, rfl⟩ := h1
        exact ⟨t, rfl⟩
      | succ j => exact ih h2 (by simpa using h)
theorem op_ltL {X : Cx} (hu : X.A.units < cLine) : OpR X (compareOp .Lt) (rLtL X.K) := by
  intro pins s σ H x y v u Q I rx ry h
  obtain ⟨a, b, ns, ms, rfl, rfl, ha, hb, q⟩ := h
  cases rx
  cases ry
  obtain ⟨its, r1, p1, _⟩ := I.list ha
  obtain ⟨its2, r2, p2, _⟩ := I.list hb
  have l1 : its.length = ns.length := by rw [← r1.length, List.length_map]
  have l2 : its2.length = ms.length := by rw [← r2.length, List.length_map]
  have key := SeqAt.RcLt.lists (A := X.A) (s := s) (e := fun j => decide (ns.getD j 0 = ms.getD j 0)) (r := fun j => decide (ns.getD j 0 < ms.getD j 0)) p1.isList p2.isList hu (fun j h1 h2 => ?_) (fun j h1 h2 _ => ?_)
  · rw [List.size_toArray, List.size_toArray, l1, l2] at key
    exact key X.prog X.w _ _ ⟨.bl _, H, I, rfl, q⟩
  · rw [List.size_toArray] at h1 h2
    obtain ⟨t, e1⟩ := vals_int r1 h1
    obtain ⟨t2, e2⟩ := vals_int r2 h2
    rw [List.getElem_toArray, List.getElem_toArray, e1, e2]
    have := SeqAt.EqAt.int_int (A := X.A.in1) (s := s) (ns.getD j 0) t (ms.getD j 0) t2
    rw [show (ns.getD j 0 == ms.getD j 0) = decide (ns.getD j 0 = ms.getD j 0) from rfl] at this
    exact this
  · rw [List.size_toArray] at h1 h2
    obtain ⟨t, e1⟩ := vals_int r1 h1
    obtain ⟨t2, e2⟩ := vals_int r2 h2
    rw [List.getElem_toArray, List.getElem_toArray, e1, e2]
    exact fun prog w E Q h => HT.rcLt_int X.A.in1 s _ t _ t2 prog w E Q h
def rLtB (K : PySem.W.Frag) : R2 := fun x y H Q => rLtA x y H Q ∨ rLtL K x y H Q
theorem oq_ltB {X : Cx} {k : Nat} (hr : Room k X.A) : OpR X (compareOp .Lt) (rLtB X.K) := OpR.or oq_lt (op_ltL (by have := hr.un; omega))
theorem od_ltL {C : Cn} {ns ms : List Int} : OD C (rLtB C.K) (.list (ns.map .int)) (.list (ms.map .int)) (Is (.bool (SeqAt.firstLt (fun j => decide (ns.getD j 0 = ms.getD j 0)) (fun j => decide (ns.getD j 0 < ms.getD j 0)) (decide (ns.length < ms.length)) (List.range (min ns.length ms.length))))) := fun B H v u e k1 k2 Q q => by
  obtain ⟨a, xs, rfl, g1, g2⟩ := k1.lst e
  obtain ⟨b, ys, rfl, g3, g4⟩ := k2.lst e
  rw [dpall_ints g2] at g1
  rw [dpall_ints g4] at g3
  exact Or.inr ⟨a, b, ns, ms, rfl, rfl, g1, g3, q _ _ B H rfl (Stp.refl e) (.bl _)⟩

/-! ### zip of two lists -/
def zipD (xs ys : List D) : List D := List.zipWith (fun x y => .tuple [x, y]) xs ys
theorem zipD_len (xs ys : List D) : (zipD xs ys).length = min xs.length ys.length := List.length_zipWith
theorem zipD_get {xs ys : List D} {i : Nat} {d : D} (h : (zipD xs ys)[i]? = some d) : ∃ x y, xs[i]? = some x ∧ ys[i]? = some y ∧ d = .tuple [x, y] := by
  unfold zipD at h
  rw [List.getElem?_zipWith] at h
  cases hx : xs[i]? with
  | none => rw [hx] at h; cases h
  | some x =>
    cases hy : ys[i]? with
    | none => rw [hx, hy] at h; cases h
    | some y =>
      rw [hx, hy] at h
      cases h
      exact ⟨x, y, rfl, rfl, rfl⟩
theorem vi_zip {C : Cn} {Γ : List Sl} {ta tb : TE} {xs ys : List D} (h : VE C ta Γ (Is (.list xs))) (h2 : VE C tb Γ (Is (.list ys))) : VI C (RZ.iZipA C.K (tCons ta (tCons tb tNil))) Γ (Is (zipD xs ys)) := fun B H σ F T q => h B H σ F _ fun d v B1 H1 e1 s1 k1 => h2 B1 H1 σ (F.step s1) _ fun d2 v2 B2 H2 e2 s2 k2 => by
  cases e1
  cases e2
  have F2 := (F.step s1).step s2
  obtain ⟨a, us, rfl, g1, g2⟩ := dp_lst (dp_mono s2.ext k1)
  obtain ⟨b, ws, rfl, g3, g4⟩ := dp_lst k2
  refine ⟨a, b, us, ws, rfl, Or.inl ⟨same_l F2.sub g1, same_l F2.sub g3, ?_⟩⟩
  refine q _ _ B2 H2 _ _ rfl (s1.trans F.dlNow s2) (walk_zip (xs := us) (ys := ws) (by rw [zipD_len, dpall_len g2, dpall_len g4])) (fun B3 H3 m1 m2 => ⟨same_l m2 (same_l m1 g1), same_l m2 (same_l m1 g3)⟩) ?_
  rintro i x H3 H3' ⟨t, y, z, rfl, ht, rfl, hy, hz⟩ B3 d m1 m2 hd
  obtain ⟨y', z', hy', hz', rfl⟩ := zipD_get hd
  obtain ⟨v, hv, kv⟩ := dpall_get g2 hy'
  obtain ⟨w, hw, kw⟩ := dpall_get g4 hz'
  have hy : us[i]? = some y := hy
  have hz : ws[i]? = some z := hz
  rw [hy] at hv
  rw [hz] at hw
  cases hv
  cases hw
  have st : Stp C.dl B3 H3 (upd B3 t (.tup [y, z])) (upd H3 t (.tup [y, z])) := Stp.new m2 ht
  exact ⟨_, st, .tup (Or.inl (Or.inl upd_same)) (.cons (dp_mono (m1.trans st.ext) kv) (.cons (dp_mono (m1.trans st.ext) kw) .nil))⟩

/-! ### t.index(x), texts -/
def rTIndex (K : PySem.W.Frag) : V → List V → Hp → VK → Prop := fun x xs H Q => ∃ p, ∃ ys : List Str, ∃ z j, x = .ref p ∧ xs = [.str z] ∧ SqT K H p (ys.map V.str) ∧ ys[j]? = some z ∧ (∀ m, m < j → ys[m]? ≠ some z) ∧ Q (.int (j : Nat)) H
theorem mq_tindex {X : Cx} : MtR X "tuple.index" (rTIndex X.K) := mt_tup_index
theorem ve_tindex {C : Cn} {Γ : List Sl} {v : V} {tb : TE} {ys : List Str} {z : Str} {j : Nat} (ht : ∀ H, tyV C.K "tuple" v H) (h : ∀ B, Dq C.K B v (.tuple (ys.map .str))) (h2 : VE C tb Γ (Is (.str z))) (hj : ys[j]? = some z) (hn : ∀ m, m < j → ys[m]? ≠ some z) :
    VE C (tBM C.K "tuple" (rTIndex C.K) (tC v) (tCons tb tNil)) Γ (Is (.int (j : Nat))) := fun B H σ F Q q => ⟨ht H, h2 B H σ F _ fun d2 v2 B2 H2 e2 s2 k2 => by
  cases e2
  obtain rfl := dp_str k2
  obtain ⟨a, us, rfl, g1, g2⟩ := dp_tup (h H2)
  rw [dpall_strs g2] at g1
  exact ⟨a, ys, z, j, rfl, rfl, g1, hj, hn, q _ _ B2 H2 rfl s2 (.int _)⟩⟩
/-! ### [x] * n -/
theorem vl_rep {C : Cn} {Γ : List Sl} {ta tb : TE} {ds : List D} {k : Int} (h : VL C ta Γ (Is ds)) (h2 : VE C tb Γ (Is (.int k))) (h1 : -1000000 ≤ k) (hz : k ≤ 1000000) (hs : ds.length * k.toNat ≤ 1000000) : VL C (tOp rRep ta tb) Γ (Is (List.replicate k.toNat ds).flatten) := fun B H σ F Q q =>
  h B H σ F _ fun es p vs B1 H1 e1 s1 n1 n2 n3 n4 => h2 B1 H1 σ (F.step s1) _ fun d v B2 H2 e2 s2 k2 => by
    cases e1
    cases e2
    obtain rfl := dp_int k2
    have F2 := (F.step s1).step s2
    have hp := s2.keep p _ n3 (F.notMd (F.newC n1))
    have st := s1.trans F.dlNow s2
    refine ⟨p, k, vs, rfl, rfl, hp, by omega, by omega, by rw [dpall_len n4, sizeLine_eq]; omega, fun r hr => ?_⟩
    exact q _ r _ B2 _ rfl (st.trans F.dlNow (Stp.newM F2.sub hr)) (back_none F st hr) (F2.sub.free hr) upd_same (dpall_rep (dpall_mono s2.ext n4) _)

/-! ### a display of texts and data, looked up at once -/
theorem pairs_ok {C : Cn} {Γ : List Sl} : ∀ (l : List (Str × TE × D)), (∀ e ∈ l, VE C e.2.1 Γ (Is e.2.2)) → ∀ {B H σ}, Fm C B H σ Γ → ∀ Q : List (V × V) → Hp → Prop,
    (∀ vs B' H', Stp C.dl B H B' H' → DqAll C.K B' vs (l.map fun e => e.2.2) → Q (List.zipWith (fun (e : Str × TE × D) v => (.str e.1, v)) l vs) H') → tPairs (l.map fun e => (tC (.str e.1), e.2.1)) σ H Q
  | [], _, B, H, σ, F, Q, q => q [] B H (Stp.refl F.sub) .nil
  | e :: l, h, B, H, σ, F, Q, q => h e (List.mem_cons_self ..) B H σ F _ fun d v B1 H1 ed s1 k1 => by
    cases ed
    refine pairs_ok l (fun e he => h e (List.mem_cons_of_mem _ he)) (F.step s1) _ fun vs B2 H2 s2 k2 => ?_
    exact q (v :: vs) B2 H2 (s1.trans F.dlNow s2) (.cons (dp_mono s2.ext k1) k2)
theorem putK_new {kvs : List (Key × V)} {k : Key} {v : V} (h : ∀ e ∈ kvs, e.1 ≠ k) : putK kvs k v = kvs ++ [(k, v)] := by
  unfold putK
  rw [if_neg]
  intro z
  obtain ⟨e, he, hk⟩ := List.any_eq_true.mp z
  exact h e he (of_decide_eq_true hk)
theorem mergeK_new : ∀ (more kvs : List (Key × V)), (∀ e ∈ kvs, ∀ f ∈ more, e.1 ≠ f.1) → (more.map (·.1)).Nodup → mergeK kvs more = kvs ++ more
  | [], kvs, _, _ => (List.append_nil _).symm
  | f :: more, kvs, h, n => by
    rw [List.map_cons, List.nodup_cons] at n
    show mergeK (putK kvs f.1 f.2) more = _
    rw [putK_new fun e he => h e he f (List.mem_cons_self ..), mergeK_new more _ (fun e he g hg => ?_) n.2, List.append_assoc]
    · rfl
    · rcases List.mem_append.mp he with he | he
      · exact h e he g (List.mem_cons_of_mem _ hg)
      · rw [List.mem_singleton.mp he]
        intro z
        exact n.1 (List.mem_map.mpr ⟨g, hg, z.symm⟩)
theorem zip_get {C : Cn} {B : Hp} {z : Str} {t : TE} {d : D} : ∀ {l : List (Str × TE × D)} {vs : List V}, DqAll C.K B vs (l.map fun e => e.2.2) → (l.map (·.1)).Nodup → (z, t, d) ∈ l →
    ∃ v, valV (List.zipWith (fun (e : Str × TE × D) v => ((Sum.inr e.1 : Key), v)) l vs) (Sum.inr z) = some v ∧ Dq C.K B v d
  | [], _, _, _, h => nomatch h
  | e :: l, _, .cons (v := v) (vs := vs) hv hr, n, h => by
    rw [List.map_cons, List.nodup_cons] at n
    rw [List.zipWith_cons_cons]
    rcases List.mem_cons.mp h with h | h
    · subst h
      exact ⟨v, valV_pos rfl, hv⟩
    · obtain ⟨u, h1, h2⟩ := zip_get hr n.2 h
      refine ⟨u, ?_, h2⟩
      rw [valV_neg]
      · exact h1
      · intro q
        injection q with q
        exact n.1 (List.mem_map.mpr ⟨_, h, q.symm⟩)
theorem ve_dget {C : Cn} {Γ : List Sl} (l : List (Str × TE × D)) {ty : TE} {z : Str} {t : TE} {d : D} (hl : ∀ e ∈ l, VE C e.2.1 Γ (Is e.2.2)) (hz : l.length ≤ 15) (hk : (l.map (·.1)).Nodup) (hy : VE C ty Γ (Is (.str z))) (hm : (z, t, d) ∈ l) :
    VE C (tDGet (tDisp (l.map fun e => (tC (.str e.1), e.2.1))) ty) Γ (Is d) := fun B H σ F Q q => fun p hp => by
  have hC := F.newC hp
  have hB := F.sub.free hp
  have F1 : Fm C B (upd H p (.dK [])) σ Γ := F.poke hC hB (np_none hp) (fun j es hj => F.noOwn hp hj) fun j es hj => F.noDk (fun ws z => by rw [hp] at z; cases z) hj
  have s1 : Stp C.dl B H B (upd H p (.dK [])) := Stp.newM F.sub hp
  refine pairs_ok l hl F1 _ fun vs B2 H2 s2 k2 => ?_
  have hn : upd H p (.dK []) p ≠ none := by rw [upd_same]; simp
  have hB2 := s2.out p hn hB
  have hH2 := s2.keep p _ upd_same (F.notMd hC)
  have hlen : vs.length = l.length := by rw [dpall_len k2, List.length_map]
  let kvs : List (Key × V) := List.zipWith (fun (e : Str × TE × D) v => ((Sum.inr e.1 : Key), v)) l vs
  have ek : mergeK [] kvs = kvs := by
    have h1 : kvs.map (·.1) = (l.map (·.1)).map Sum.inr := by
      have : ∀ (l : List (Str × TE × D)) (vs : List V), vs.length = l.length → (List.zipWith (fun (e : Str × TE × D) v => ((Sum.inr e.1 : Key), v)) l vs).map (·.1) = (l.map (·.1)).map Sum.inr := by
        intro l
        induction l with
        | nil => intro vs _; cases vs <;> rfl
        | cons e l ih =>
          intro vs h
          cases vs with
          | nil => cases h
          | cons v vs =>
            rw [List.zipWith_cons_cons, List.map_cons, ih vs (by simpa using h)]
            rfl
      exact this l vs hlen
    rw [mergeK_new kvs [] (fun _ h => nomatch h) (by
      rw [h1]
      exact List.Pairwise.map _ (fun a b h z => h (Sum.inr.inj z)) hk)]
    rfl
  refine ⟨hH2, kvs, ?_, ?_, ?_⟩
  · have : ∀ (l : List (Str × TE × D)) (vs : List V), List.zipWith (fun (e : Str × TE × D) v => (V.str e.1, v)) l vs = (List.zipWith (fun (e : Str × TE × D) v => ((Sum.inr e.1 : Key), v)) l vs).map fun kv => (kV kv.1, kv.2) := by
      intro l
      induction l with
      | nil => intro vs; cases vs <;> rfl
      | cons e l ih =>
        intro vs
        cases vs with
        | nil => rfl
        | cons v vs => rw [List.zipWith_cons_cons, List.zipWith_cons_cons, List.map_cons, ← ih vs]; rfl
    exact this l vs
  · show (List.zipWith _ l vs).length ≤ 15
    rw [List.length_zipWith]
    omega
  · rw [ek]
    have F2 := F1.step s2
    have F3 := F2.poke (o := .dK kvs) hC hB2 (np_dk hH2) fun j es hj e => by
      obtain ⟨p', ws, e', _, _, h3, _⟩ := F2.hasOwn hj
      rw [e] at e'
      injection e' with e'
      injection e' with e'
      injection e' with e'
      subst e'
      rw [hH2] at h3
      cases h3
    have F3 := F3 fun j es hj e => by
      have := F.noDk (p := p) (fun ws z => by rw [hp] at z; cases z) hj
      exact this e
    refine hy B2 _ σ F3 _ fun d' w B3 H3 ed s3 k3 => ?_
    cases ed
    obtain rfl := dp_str k3
    obtain ⟨v, hv, kv⟩ := zip_get k2 hk hm
    have hH3 := s3.keep p _ upd_same (F.notMd hC)
    refine ⟨p, v, rfl, Or.inl ⟨kvs, Sum.inr z, Or.inl hH3, rfl, hv.symm⟩, ?_⟩
    exact q d v B3 H3 rfl (((s1.trans F.dlNow s2).poke F.dlNow hp hB2 (np_dk hH2)).trans F.dlNow s3) (dp_mono s3.ext kv)
/-! ### tuples of the top -/
theorem dq_ktup {K : PySem.W.Frag} {a : Addr} {o : Obj} {its : Array Value} {n : Nat} {vs : List V} {ds : List D} (hl : K.lookup a = some o) (hc : o.cls = .type "tuple") (hd : o.data = .seq its n) (hz : its.size ≤ sizeLine) (hv : Vals vs its.toList) (hk : ∀ H, DqAll K H vs ds) :
    ∀ H, Dq K H (.ref a) (.tuple ds) := fun H => .tup (Or.inr ⟨o, its, n, hl, hc, hd, hz, hv⟩) (hk H)
theorem ty_ktup {K : PySem.W.Frag} {a : Addr} {o : Obj} (hl : K.lookup a = some o) (hc : o.cls = .type "tuple") (hd : o.dict = none) : ∀ H, tyV K "tuple" (.ref a) H := fun _ => Or.inr (Or.inl ⟨rfl, o, hl, hc, hd⟩)
/-! ### a choice as a test -/
def tIfT (t : TT) (ta tb : TT) : TT := fun σ H Q => t σ H fun c H1 => if c = true then ta σ H1 Q else tb σ H1 Q
theorem pt_ifExp {X : Cx} {c a b : Expr} {pos : Pos} {tc ta tb : TT} (hc : PT X c tc) (ha : PT X a ta) (hb : PT X b tb) : PT X (.IfExp c a b pos) (tIfT tc ta tb) := by
  refine ⟨fun pins s σ H Q I h => ?_⟩
  show wpAny _ _ (do if ← isTrue c X.env (eval c X.env) then isTrue a X.env (eval a X.env) else isTrue b X.env (eval b X.env)) _ _ _
  refine wpAny_bind (thn (hc.run pins s σ H _ I h) fun d s1 ⟨H1, I1, q1⟩ => ?_)
  cases d with
  | true => exact ha.run pins s1 σ H1 Q I1 q1
  | false => exact hb.run pins s1 σ H1 Q I1 q1
theorem vt_if {C : Cn} {Γ : List Sl} {t ta tb : TT} {S R : Bool → Prop} (h : VT C t Γ S) (h1 : S true → VT C ta Γ R) (h2 : S false → VT C tb Γ R) : VT C (tIfT t ta tb) Γ R := fun B H σ F Q q => h B H σ F _ fun b B1 H1 r s1 => by
  cases b with
  | true => exact iteT (h1 r B1 H1 σ (F.step s1) Q fun d B2 H2 r2 s2 => q d B2 H2 r2 (s1.trans F.dlNow s2))
  | false => exact iteF (h2 r B1 H1 σ (F.step s1) Q fun d B2 H2 r2 s2 => q d B2 H2 r2 (s1.trans F.dlNow s2))
theorem un1 {k : Nat} {A : Around} (hr : Room k A) : A.units + 1 < cLine := by
  have := hr.un
  omega
/-! a, b, c = x, y, z -/
theorem vs_par3 {C : Cn} {Γ : List Sl} {ta tb tc : TE} {i j l : Nat} {x y z : D} {P : Po} (h1 : VE C ta Γ (Is x)) (h2 : VE C tb Γ (Is y)) (h3 : VE C tc Γ (Is z)) (k : P.nx (((Γ.set i (.dat x)).set j (.dat y)).set l (.dat z))) :
    VS C (tPar3 i j l (tCons ta (tCons tb (tCons tc tNil)))) Γ P := fun B H σ E F n r b c => h1 B H σ F _ fun d1 v1 B1 H1 e1 s1 k1 => h2 B1 H1 σ (F.step s1) _ fun d2 v2 B2 H2 e2 s2 k2 => h3 B2 H2 σ ((F.step s1).step s2) _ fun d3 v3 B3 H3 e3 s3 k3 => by
  cases e1
  cases e2
  cases e3
  exact ⟨v1, v2, v3, rfl, n _ B3 H3 _ k ((s1.ext.trans s2.ext).trans s3.ext) ((((((F.step s1).step s2).step s3).set (dp_mono (s2.ext.trans s3.ext) k1)).set (dp_mono s3.ext k2)).set k3)⟩
theorem vs_par3L {C : Cn} {Γ : List Sl} {ta tb tc : TE} {i j l : Nat} {x : List D} {y z : D} {P : Po} (h1 : VL C ta Γ (Is x)) (h2 : VE C tb Γ (Is y)) (h3 : VE C tc Γ (Is z)) (k : P.nx (((Γ.set i (.own x)).set j (.dat y)).set l (.dat z))) :
    VS C (tPar3 i j l (tCons ta (tCons tb (tCons tc tNil)))) Γ P := fun B H σ E F n r b c => h1 B H σ F _ fun d1 p vs B1 H1 e1 s1 n1 n2 n3 n4 => h2 B1 H1 σ (F.step s1) _ fun d2 v2 B2 H2 e2 s2 k2 => h3 B2 H2 σ ((F.step s1).step s2) _ fun d3 v3 B3 H3 e3 s3 k3 => by
  cases e1
  cases e2
  cases e3
  have F3 := ((F.step s1).step s2).step s3
  have p2 := s2.keep p _ n3 (F.notMd (F.newC n1))
  have b2 := s2.out p (by rw [n3]; simp) n2
  exact ⟨.ref p, v2, v3, rfl, n _ B3 H3 _ k ((s1.ext.trans s2.ext).trans s3.ext) (((F3.setOwn (F.newC n1) (s3.out p (by rw [p2]; simp) b2) (s3.keep p _ p2 (F.notMd (F.newC n1))) (dpall_mono (s2.ext.trans s3.ext) n4) fun j es _ hj => F.noOwn n1 hj).set (dp_mono s3.ext k2)).set k3)⟩
end Ly

/-! LyU: own exceptions over ValueError (through own classes) whose __init__ says super().__init__('text') and keeps one thing. -/
namespace Ly
open PySem PySem.Spec PyProof.Rows L2

section
open PySem.W PySem.Calls
variable {prog : Program} {w : World} {A : Around} {E : Value → Shared → Prop} {h : Heap} {g : Array GenState} {d : Drawn} {t : Nat} {os : OsState}
variable {nm q : Str} {C N : Addr} {bs bm : List Value} {hdct : Bool} {sn : List Str} {sub : List Value} {ab : Bool} {col : Option Bool} {dd : Option Addr} {k0 k1 k2 k3 k5 : Option Value}
/-- the bound ValueError.__init__, called -/
theorem mw_call {u e t0 : Addr} {rest : List Value} {Q : Value → Shared → Prop}
    (hC : h.get? C = some (excClassObj nm q C N bs bm hdct sn sub ab col dd k0 k1 k2 k3 k5 "ValueError.__new__")) (he : h.get? e = some ({ cls := .ref C, dict := none, data := .fields #[.ref t0, .none, .none, .none, .bool false, .none] } : Obj)) (hu : h.get? u = some (kxs_mw "ValueError.__init__" e)) (hrest : rest.length ≤ sizeLine)
    (hq : ∀ h' t1, (∀ b o, b ≠ e → h.get? b = some o → h'.get? b = some o) → h'.get? e = some ({ cls := .ref C, dict := none, data := .fields #[.ref t1, .none, .none, .none, .bool false, .none] } : Obj) → Q .none ⟨h', g, d, t, os⟩) :
    wpAny (model prog w) A (call (.ref u) rest) Q E ⟨h, g, d, t, os⟩ := by
  refine wpAny_call (codeAny_of_tree ?_)
  show wpAny _ A.in1 (callAny (.ref u) ⟨rest, []⟩) _ _ _
  simp only [callAny]
  refine wpAny_bind (wpAny_load hu ?_)
  simp only [kxs_mw, show (Value.type "method-wrapper" == Value.type "method" || Value.type "method-wrapper" == Value.type "builtin_function_or_method" || Value.type "method-wrapper" == Value.type "method-wrapper") = true by decide, if_true]
  refine KFB.if_so (by decide) ?_
  refine wpAny_bind (PySem.ESX.check_bound F.excBase_ValueError hC he rfl ?_)
  refine wpAny_bind (wpAny_pure (wpAny_pure ?_))
  refine ⟨Code.quiet_builtin _ (by decide +kernel), codeAny_builtin F.excBase_ValueError.initEntry ?_⟩
  rw [Around.under_plainId F.excBase_ValueError.init.plain _]
  wp_walk
  refine hq _ h.objs.size (fun b o hb ho => ?_) ?_
  · rw [Heap.get?_update_other _ _ (Ne.symm hb)]
    exact Heap.get?_push_of_some _ ho
  · rw [Heap.get?_update_self _ (Heap.get?_push_of_some _ he) rfl]
    rfl
end
section
open PySem.W PySem.Calls
/-- super().__init__('text') in an own exception's __init__ (D: the class the def stands in; C: the object's class) -/
theorem sup_at {X : Cx} {pins : List (Addr × Obj)} {σ : L2.St} {H : Hp} {s : Shared} {a C D fI cda cc : Addr} {body : List Stmt} {p0 p1 p2 p3 p4 : Pos} {msg file : Str} {tf : Tok} {j : Nat} {oc ccl cl : Value} {od cdd cld : Option Addr} {osl ccs csl : Array (Option Value)} {fd : FuncData} {ar : Arg} {vs : Array Value} {cdD : ClassData} {pl : Sem Bool}
    (I : Inv X pins σ H s) (e : H a = some (exo a C none)) (T : OexC X.K C) (hfu : X.env.func = some fI) (hco : X.env.code = .ref cda) (lk : X.K.lookup fI = some ⟨oc, od, .func fd, osl⟩) (hp : (fd.params.posonlyargs ++ fd.params.args).head? = some ar)
    (hcd : X.K.lookup cda = some ⟨ccl, cdd, .fields vs, ccs⟩) (hvs : vs[2]? = some (.str file tf)) (hfile : ((X.prog.main.file : Str) == file) = true) (hcell : X.K.lookup cc = some ⟨cl, cld, .cell (some (.ref D)), csl⟩) (hcc : X.env.cells.lookup ("__class__" : Str) = some cc)
    (hD : clsIn X.K D = some cdD) (hsub : mroIn X.K C (.ref D) = some true) (hm : X.mg "super" = none) (hks : X.env.kindOf "super" = some .globalImplicit) (hkc : X.env.kindOf "__class__" = some .free) (hka : X.env.kindOf ar.arg = some .local)
    (hN : X.N[0]? = some ar.arg) (hσ : σ[0]? = some (some (.ref a))) (htop : (X.prog.main.scope.names.lookup ("super" : Str)).isSome = false) (hsup : ks_superIn X.K C D "__init__" = some (some (.builtin "ValueError.__init__"))) (hB : subIn X.K (.ref C) (.type "ValueError") = some true)
    (ho : nsIn X.K cStatics "thirdparty.any" = some none)
    (hc : eval (.Call (.Attribute (.Call (.Name "super" p0) [] [] p1) "__init__" p2) [.Constant (.str msg) j p3] [] p4) X.env = (do
      let ov ← attributeBase (.Call (.Name "super" p0) [] [] p1) "__init__" X.env (eval (.Call (.Name "super" p0) [] [] p1) X.env)
      standAt p2.atName
      let (f, first) ← holding [ov] (getMethod ov "__init__" pl)
      callWith p4 f first (backTo p4 (starEach [.Constant (.str msg) j p3] X.env)) []) := by rfl)
    (hse : starEach [.Constant (.str msg) j p3] X.env = [(false, eval (.Constant (.str msg) j p3) X.env)] := by rfl) (hs0 : starEach [] X.env = [] := by rfl) :
    _root_.PySem.wpAt (model X.prog X.w) X.A (.func body X.env) (eval (.Call (.Attribute (.Call (.Name "super" p0) [] [] p1) "__init__" p2) [.Constant (.str msg) j p3] [] p4) X.env) (fun _ s' => Inv X pins σ H s') X.xe s := by
  obtain ⟨nm, q, N, bs, bm, sn, sub, ab, col, dd, k0, k1, k2, k3, k5, hC, hbm⟩ := T.cls
  have hcl : PySem.W.clsIn X.K C = some { name := nm, bases := bs, mro := .ref C :: bm, ns := N, qualname := q, hasDict := true, slotNames := sn, subclasses := sub, abstract := ab, collection := col, hasDel := false } := by unfold PySem.W.clsIn; rw [hC] <;> rfl
  obtain ⟨hh, g, d, t, os⟩ := s
  obtain ⟨oD, hD1, hD2⟩ : ∃ oD, hh.get? D = some oD ∧ oD.data = .cls cdD := by
    unfold clsIn at hD
    split at hD
    · rename_i c d cd' sl ho
      cases hD
      exact ⟨_, I.kIn _ _ ho, rfl⟩
    · cases hD
  have hk := I.ok.kind
  obtain ⟨mb, hb1, hb2⟩ := I.mod.blt
  refine ks_wpAt_MethodCall (pl := pl) ?_ hc
  refine ks_wpAt_super_base (env := X.env) hks hkc (by decide) hfu (I.kIn _ _ lk) rfl hp hco (I.kIn _ _ hcd) rfl hvs hfile htop ?_
  refine ks_loadName_global hk hks (loadGlobal_builtin (by rw [I.ok.glob]; exact I.mod.glob.keeps I.bk) hm (by rw [I.ok.blt]; exact hb1.keeps I.bk) ((hb2 _ (by decide)).trans PyProof.Rows.Boot.«super») ⟨rfl, ?_⟩)
  refine wpAny_loadName_free hk hkc hcc ⟨_, I.kIn _ _ hcell, rfl⟩ ?_
  obtain ⟨m, hn, hl⟩ := I.loc
  obtain ⟨u, r, l⟩ := hl 0 ar.arg (.ref a) hN hσ (Or.inl hka)
  obtain rfl : u = Value.ref a := r
  have hloc : m ar.arg = some (.ref a) := by
    rcases l with ⟨_, hm'⟩ | ⟨hk', _⟩
    · exact hm'
    · rcases hk' with hk' | hk'
      · rw [hka] at hk'
        cases hk'
      · rw [hka] at hk'
        cases hk'
  refine wpAny_loadName_local hk hka hn hloc ?_
  refine ks_wpAny_isType_cls hD1 hD2 ⟨rfl, ?_⟩
  obtain ⟨t1, he⟩ := exo_at I.hok e
  have hI : ∀ {h' : Heap}, (∀ b o, hh.get? b = some o → h'.get? b = some o) → Looks (model X.prog X.w) h' (isInstance (.ref a) (.type "ValueError")) true := fun {h'} k =>
    (W.InstAt.type (h := h') (x := a) (C := C) (od := none) ⟨k _ _ he, rfl, rfl, trivial⟩).andThen (looks_subIn (I.kIn.keeps k) hB)
  refine ks_wpAny_call_super hD1 hD2 he rfl (fun c z => by cases z) (looks_mroIn I.kIn hsub) (fun h' hso k => ?_)
  have I1 : Inv X pins σ H ⟨h', g, d, t, os⟩ := I.kept k
  have hm2 := hsup
  unfold ks_superIn at hm2
  rw [hcl] at hm2
  refine kxs_getMethod kxs_ValueError hso (looks_opaque I1.kIn ho) (l₀ := .ref C :: bm) ?_ rfl I1.kIn hm2 (hI k) (ks_ne I1.kIn (⟨k _ _ he, rfl, rfl, trivial⟩ : InstAt h' a _ C none) hcl) (by decide) ?_
  · exact fun A Q E s k q => wpAny_bind ((looks_clsIn I1.kIn hcl) A _ E s k (wpAny_pure q))
  have kp : ∀ b o, h'.get? b = some o → (h'.push (kxs_mw "ValueError.__init__" a)).get? b = some o := fun b o z => Heap.get?_push_of_some _ z
  have I2 : Inv X pins σ H ⟨h'.push (kxs_mw "ValueError.__init__" a), g, d, t + 1, os⟩ := I1.kept kp
  have hu : (h'.push (kxs_mw "ValueError.__init__" a)).get? h'.objs.size = some (kxs_mw "ValueError.__init__" a) := Heap.get?_push_at rfl rfl
  rw [hse]
  refine kxs_callWith (i := "ValueError.__init__") (x := a) rfl (evalArgs_plain ?_)
  refine spliced_cons (Calls.Constant_str (pos := p3) (k := j) ?_)
  refine spliced_nil ?_
  refine ⟨hu, ?_⟩
  refine mw_call (C := C) (I2.kIn _ _ hC) (kp _ _ (k _ _ he)) hu (by simp [sizeLine_eq]) (fun h3 t2 k3 hx => ?_)
  have J := I2.write (t' := t + 1 + 1) (x := a) (e := a) (o := exo a C none) (by rw [e]; exact True.intro) (.inl rfl) k3 ⟨_, hx⟩ (exo_ok hx)
  have eu : upd H a (exo a C none) = H := by
    funext b
    by_cases hb : b = a
    · rw [hb, upd_same, e]
    · rw [upd_ne hb]
  rw [eu] at J
  exact J
end
end Ly

/-! LyV: the promise of an own exception's __init__(self, at). -/
namespace Ly
open PySem PySem.Spec PyProof.Rows L2 NdefX
section
open PySem.W PySem.Calls
variable {CX : CXT} {P : Program} {w : World} {K : PySem.W.Frag} {mg : Str → Option Value} {base : Heap}
abbrev nAt (fld : Str) : List Str := ["self", fld, "__class__"]
abbrev pAt (fld : Str) : List Str := ["self", fld]
abbrev fAt : List Str := ["__class__"]
def stSup (p0 p1 p2 p3 p4 q0 : Pos) (msg : Str) (j : Nat) : Stmt := .Expr (.Call (.Attribute (.Call (.Name "super" p0) [] [] p1) "__init__" p2) [.Constant (.str msg) j p3] [] p4) q0
def stAt (q1 q2 q3 q4 : Pos) (fld : Str) : Stmt := .Assign [.Attribute (.Name "self" q1) fld q2] (.Name fld q3) q4
/-- __init__(self, fld): the field is kept -/
def SpAt (K : PySem.W.Frag) (D : Addr) (fld : Str) : Sp := fun vs H Q _ => ∃ (a C : Addr) (v : V), vs = [.ref a, v] ∧ OexC K C ∧ mroIn K C (.ref D) = some true ∧ ks_superIn K C D "__init__" = some (some (.builtin "ValueError.__init__")) ∧ subIn K (.ref C) (.type "ValueError") = some true ∧ H a = some (exo a C none) ∧
  PySem.W.findIn K (.ref C) fld = some none ∧ ∀ dx, H dx = none → dx ≠ a → Q .non (upd (upd H dx (exd dx [(fld, v)])) a (exo a C (some dx)))
theorem oinit_fn {k : Nat} {f D cda cc : Addr} {name qual fld msg file : Str} {params : Arguments} {scope : Scope} {dV kV doc pm ct oc ccl cl : Value} {an od cdd cld : Option Addr} {osl ccs csl : Array (Option Value)} {vs0 : Array Value} {tf : Tok} {j : Nat} {p0 p1 p2 p3 p4 q0 q1 q2 q3 q4 : Pos} {ar : Arg} {cdD : ClassData}
    (lk : K.lookup f = some ⟨oc, od, .func (PySem.W.fnX name qual params [stSup p0 p1 p2 p3 p4 q0 msg j, stAt q1 q2 q3 q4 fld] scope [(("__class__" : Str), cc)] dV kV doc pm an (.ref cda) ct), osl⟩) (hcd : PySem.W.codeIn K (.ref cda) qual = true)
    (S : NScope (nAt fld) (pAt fld) fAt scope) (hp : (params.posonlyargs ++ params.args).head? = some ar) (har : ar.arg = ("self" : Str))
    (hcda : K.lookup cda = some ⟨ccl, cdd, .fields vs0, ccs⟩) (hvs : vs0[2]? = some (.str file tf)) (hfile : ((P.main.file : Str) == file) = true) (hcell : K.lookup cc = some ⟨cl, cld, .cell (some (.ref D)), csl⟩)
    (hD : clsIn K D = some cdD) (hm : mg "super" = none) (hks : scope.names.lookup ("super" : Str) = some .globalImplicit) (htop : (P.main.scope.names.lookup ("super" : Str)).isSome = false) (ho : nsIn K cStatics "thirdparty.any" = some none)
    (hd1 : (fld == ("__debug__" : Str)) = false) (hd2 : (fld == ("__classdict__" : Str)) = false) (hne : ("__class__" : Str) ≠ fld)
    (hc : ∀ env : Env, ∃ pl : Sem Bool, eval (.Call (.Attribute (.Call (.Name "super" p0) [] [] p1) "__init__" p2) [.Constant (.str msg) j p3] [] p4) env = (do
      let ov ← attributeBase (.Call (.Name "super" p0) [] [] p1) "__init__" env (eval (.Call (.Name "super" p0) [] [] p1) env)
      standAt p2.atName
      let (f, first) ← holding [ov] (getMethod ov "__init__" pl)
      callWith p4 f first (backTo p4 (starEach [.Constant (.str msg) j p3] env)) []))
    (hs1 : ∀ env : Env, swapsWith (.Call (.Attribute (.Call (.Name "super" p0) [] [] p1) "__init__" p2) [.Constant (.str msg) j p3] [] p4) none q0.line env = pure false)
    (hs2 : ∀ env : Env, swapsWith (.Name fld q3) (some (.Attribute (.Name "self" q1) fld q2)) q4.line env = pure false) :
    FnOk P w K mg base CX (k + 1) f (PySem.W.fnX name qual params [stSup p0 p1 p2 p3 p4 q0 msg j, stAt q1 q2 q3 q4 fld] scope [(("__class__" : Str), cc)] dV kV doc pm an (.ref cda) ct) (pAt fld) (SpAt K D fld) := by
  refine ⟨fun vs H Q E ⟨a, C, v, e, _⟩ => by rw [e] <;> rfl, fun A outer s H args us vs Q E hr e0 hb r hsp => ?_⟩
  obtain ⟨a, C, v, ev, T, hsub, hsup, hB, ea, hno, hq⟩ := hsp
  subst ev
  have KX : K.In s.heap := e0.mod.kin.keeps fun b o e => (e0.bs b o e).1
  have lim : s.heap.NoLimit := e0.mod.nolimit.keeps fun b o e => (e0.bs b o e).1
  refine ks_codeAny_call_defAt (binds := (pAt fld).zip us) (body := [stSup p0 p1 p2 p3 p4 q0 msg j, stAt q1 q2 q3 q4 fld]) hr.depth (KX _ _ lk) rfl lim (PySem.W.codeRec_of KX hcd) rfl hb S.nocell (fun ⟨n, _⟩ hy => S.par n (List.of_mem_zip hy).1) (fun h₁ hns kp => ?_) S.co S.gen S.kind
  have CA : CellsAt [(("__class__" : Str), cc)] fAt [none] s.heap H := by
    have z : ∀ (y : Str) (c : Addr), List.lookup y [(("__class__" : Str), cc)] = some c → y = "__class__" ∧ c = cc := fun y c e => by
      have := PySem.mem_of_lookup e
      simp at this
      exact this
    refine ⟨rfl, fun y c e => ?_, fun x y c e1 e2 => (z _ _ e1).1.trans (z _ _ e2).1.symm, fun i y hi => ?_⟩
    · obtain ⟨_, rfl⟩ := z _ _ e
      have hbs := e0.bs _ _ (e0.mod.kin _ _ hcell)
      exact ⟨hbs.2, _, _, hbs.1, rfl⟩
    · match i, hi with
      | 0, hi =>
        cases hi
        exact ⟨cc, rfl, fun v z => by cases z⟩
      | i + 1, hi => cases hi
  let F : NF := ⟨name, qual, params, [stSup p0 p1 p2 p3 p4 q0 msg j, stAt q1 q2 q3 q4 fld], scope, [(("__class__" : Str), cc)], cda⟩
  have I : Inv (ncx CX P w K mg base (nAt fld) F f A outer s H E) [] (startF (nAt fld) [.ref a, v] [none]) H { s with heap := h₁, toks := s.toks + ((pAt fld).zip us).length } :=
    inv_startN (ps := (pAt fld)) (fr := fAt) (F := F) S hr.hd e0 rfl r CA hns kp
  show _root_.PySem.wpAt (model P w) (A.deeper (envF F f s.heap.objs.size)) (.func F.body (envF F f s.heap.objs.size)) (execs [stSup p0 p1 p2 p3 p4 q0 msg j, stAt q1 q2 q3 q4 fld] (envF F f s.heap.objs.size)) _ _ _
  refine ks_wpAt_execs_cons ?_
  have hka : scope.names.lookup ("self" : Str) = some .local := S.par _ (by simp)
  have hkf : scope.names.lookup fld = some .local := S.par _ (by simp)
  obtain ⟨pl, hpl⟩ := hc (envF F f s.heap.objs.size)
  have hS := sup_at (X := ncx CX P w K mg base (nAt fld) F f A outer s H E) (C := C) (D := D) (fI := f) (cda := cda) (cc := cc) (body := F.body) (p0 := p0) (p1 := p1) (p2 := p2) (p3 := p3) (p4 := p4) (msg := msg) (j := j) I ea T rfl rfl lk hp hcda hvs hfile hcell rfl hD hsub hm hks (S.frk _ (by simp)) (by rw [har]; exact hka) (by rw [har]; rfl) rfl htop hsup hB ho (pl := pl) (hc := hpl)
  have hin : interactive (envF F f s.heap.objs.size) = false := by
    have hk : (envF F f s.heap.objs.size).scope.kind = .function := S.kind
    unfold interactive
    rw [hk]
    rfl
  refine ks_wpAt_Expr_any (ks_wpAt_mono hS (fun v1 s1 J => ?_) fun e s' h => h) hin (hs1 _)
  show _root_.PySem.wpAt _ _ _ (execs [stAt q1 q2 q3 q4 fld] _) _ _ _
  refine wpAt_of_wpAny ?_
  have vSelf : Vis scope ("self" : Str) := Or.inl hka
  have vFld : Vis scope fld := Or.inl hkf
  have st : PSs (ncx CX P w K mg base (nAt fld) F f A outer s H E) [stAt q1 q2 q3 q4 fld] (tOst K fld (tVar 0) (tVar 1)) :=
    pss_one (ps_ost (X := ncx CX P w K mg base (nAt fld) F f A outer s H E) (pe_var (i := 0) rfl vSelf) (pe_var (i := 1) rfl vFld hd1 hd2) (hs2 _))
  refine wpAny_mono (st.run [] s1 _ H { nx := fun _ H' => Q .non H', rt := Q } J ?_) (fun fl s' hs => ?_) fun e s' hs => hs
  · exact ⟨v, rfl, .ref a, rfl, a, C, rfl, T, hno, Or.inl ⟨ea, hq⟩⟩
  have fin : ∀ {σ' : L2.St} {H' : Hp} {v : V} {u : Value}, Inv (ncx CX P w K mg base (nAt fld) F f A outer s H E) [] σ' H' s' → L2.RelV v u → Q v H' → CE outer P w H s Q u s' :=
    fun {σ' H' v u} J rv q => ⟨v, H', J.os, J.bare, J.base, J.hok, rv, q⟩
  cases fl with
  | ret u =>
    obtain ⟨v, σ', H', J, rv, q⟩ := hs
    exact fin J rv q
  | next =>
    obtain ⟨σ', H', J, q⟩ := hs
    exact fin (v := V.non) (u := Value.none) J rfl q
  | brk =>
    obtain ⟨_, _, _, q⟩ := hs
    exact False.elim q
  | cont =>
    obtain ⟨_, _, _, q⟩ := hs
    exact False.elim q
end
end Ly

/-! LyW: promises with a second way out: an own exception whose field is told. -/
namespace Ly
open PySem PySem.Spec PyProof.Rows L2

/-- data in; data out, or an exception of the class at C let out whose field fld is told -/
def Px (K : PySem.W.Frag) (C : Addr) (fld : Str) (P : List D → Prop) (R : List D → D → Prop) (W : List D → D → Prop) : Sp := fun vs H Q E => ∃ B ds, Same B H ∧ DqAll K B vs ds ∧ P ds ∧
  (∀ d v B' H', R ds d → Stp none B H B' H' → Dq K B' v d → Q v H') ∧
  ∀ n dx v B' H', W ds n → Stp none B H B' H' → H' dx = some (.xd [(fld, v)]) → Dq K B' v n → E (.ref C) (some dx) H'
section
variable {P0 : Program} {w : World} {K : PySem.W.Frag} {mg : Str → Option Value} {base : Heap} {k : Nat} {f C : Addr} {fd : FuncData} {ps N : List Str} {x qual fld : Str} {st : Stmt} {P : List D → Prop} {R W : List D → D → Prop}
/-- a def of two ways out, by its body -/
theorem px_ok (n : Nat) (F : Fun K x qual st f fd) (S : FnScope N ps (defScope st)) (hl : ∀ ds, P ds → ds.length = ps.length) (hn : ps.length + n = N.length)
    (body : ∀ (cdv : Value) (A : Around) (outer : List Env) (s : Shared) (H : Hp) (E : XK), (cxOf (L2.CX P0 w) P0 w K mg base N qual (defScope st) f cdv A outer s H E).A.guards = some [] → Room k (cxOf (L2.CX P0 w) P0 w K mg base N qual (defScope st) f cdv A outer s H E).A →
      Takes (cxOf (L2.CX P0 w) P0 w K mg base N qual (defScope st) f cdv A outer s H E) (fun cls d _ H => E cls d H) →
      ∃ t, PSs (cxOf (L2.CX P0 w) P0 w K mg base N qual (defScope st) f cdv A outer s H E) (defBody st) t ∧ ∀ B H ds, P ds → (∀ n dx v B' H', W ds n → Stp none B H B' H' → H' dx = some (.xd [(fld, v)]) → Dq K B' v n → E (.ref C) (some dx) H') →
        VS ⟨K, B, H, none⟩ t (slots ds n) { nx := fun _ => R ds .none, rt := R ds }) :
    GOk P0 w K mg base (L2.CX P0 w) (k + 1) f fd ps (Px K C fld P R W) := by
  refine gok_of F S (fun {vs H Q E} ⟨B, ds, _, h1, h2, _⟩ => (dpall_len h1).trans (hl ds h2)) fun cdv A outer s H vs Q E hg hr ⟨B, ds, hs, h1, h2, hq, he⟩ => ?_
  obtain ⟨t, ht, hv⟩ := body cdv A outer s H E hg hr (takes_of rfl rfl rfl rfl)
  refine ⟨t, ht, hv B H ds h2 he B H (L2.start N vs) _ (fm_start hs h1 (by rw [hl ds h2]; exact hn)) ?_ ?_ (fun _ _ _ _ e => e.elim) fun _ _ _ _ e => e.elim⟩
  · exact fun Γ' B' H' σ' r _ F' => hq _ _ B' H' r F'.st .non
  · exact fun d v B' H' r s' kd => hq d v B' H' r s' kd
end
section
open PySem.W
/-- what a class of the text must be, for SpAt's promise -/
structure XC (K : Frag) (C D : Addr) (fld : Str) : Prop where
  o : OexC K C
  sub : mroIn K C (.ref D) = some true
  sup : ks_superIn K C D "__init__" = some (some (.builtin "ValueError.__init__"))
  ve : subIn K (.ref C) (.type "ValueError") = some true
  no : PySem.W.findIn K (.ref C) fld = some none
variable {c : Cn} {ta : TA} {Γ : List Sl} {po : Po} {C D : Addr} {fld : Str} {n : Ly.D} {E : XK}
/-- raise C(e) -/
theorem vs_raise (x : XC c.K C D fld) (h : VA c ta Γ (Is [n])) (hE : ∀ dx v B' H', Stp c.dl c.B c.H B' H' → H' dx = some (.xd [(fld, v)]) → Dq c.K B' v n → E (.ref C) (some dx) H') :
    VS c (fun _ σ H => tMkO C (SpAt c.K D fld) [] ta σ H fun cls d H' => E cls d H') Γ po := fun B H σ En F _ _ _ _ => by
  refine h B H σ F _ fun ds vs B1 H1 e1 s1 k1 => ?_
  cases e1
  cases k1 with
  | @cons v vs' _ _ kv kn =>
    cases kn
    refine ⟨by simp, fun a ha => ⟨a, C, v, rfl, x.o, x.sub, x.sup, x.ve, upd_same, x.no, fun dx hdx hne => ⟨rfl, dx, [(fld, v)], upd_same, ?_, ?_, ?_⟩⟩⟩
    · rw [upd_ne hne, upd_same]
    · rw [upd_ne hne] at hdx
      exact hdx
    · rw [upd_ne hne] at hdx
      have F1 := F.step s1
      have e : upd (del (upd (upd (upd H1 a (exo a C none)) dx (exd dx [(fld, v)])) a (exo a C (some dx))) a) dx (.xd [(fld, v)]) = upd H1 dx (.xd [(fld, v)]) := by
        funext b
        by_cases hb : b = dx
        · rw [hb, upd_same, upd_same]
        · rw [upd_ne hb, upd_ne hb]
          by_cases hba : b = a
          · rw [hba, del_same, ha]
          · rw [del_ne hba, upd_ne hba, upd_ne hb, upd_ne hba]
      rw [e]
      exact hE dx v B1 _ (F1.st.trans (fun p q e => (F.dl p q e).1) (Stp.newM F1.sub hdx)) upd_same kv
end
section
variable {C0 : Cn} {A A' : TA} {Γ : List Sl} {C : Addr} {fld : Str} {P : List D → Prop} {R W : List D → D → Prop} {E : XK} {ds : List D}
/-- f(..), f of two ways out: what it lets out, E must take -/
theorem ve_callX (h : VA C0 A Γ (Is ds)) (hP : P ds) (hE : ∀ n dx v B' H', W ds n → Stp C0.dl C0.B C0.H B' H' → H' dx = some (.xd [(fld, v)]) → Dq C0.K B' v n → E (.ref C) (some dx) H') :
    VE C0 (tCallK (Px C0.K C fld P R W) (fun vs _ => vs) E A tNil) Γ (R ds) := fun B H σ F Q q =>
  h B H σ F _ fun es vs B1 H1 e1 s1 k1 => by
    cases e1
    have F1 := F.step s1
    exact ⟨B1, ds, F1.sub, k1, hP, fun d v B3 H3 r3 s3 k3 => q d v B3 H3 r3 (s1.trans F.dlNow s3.any) k3,
      fun n dx v B3 H3 w3 s3 hd k3 => hE n dx v B3 H3 w3 (F1.st.trans (fun p q e => (F.dl p q e).1) s3.any) hd k3⟩
end
end Ly

/-! LyX: a def that calls what it got and catches an own exception: return [wrong.fld]. -/
namespace Ly
open PySem PySem.Spec PyProof.Rows L2 LamX
/-- told: try: return a() / except C as n: return [n.fld] -/
def TToldF (K : PySem.W.Frag) (C : Addr) (fld : Str) : (XK → Hp → VK → Prop) → Hp → VK → Prop := fun tl H Q =>
  tl (fun cls d H' => PySem.W.exmOne K cls (.ref C) = some true ∧ cls = .ref C ∧ ∃ (dd : Addr) (fs : List (Str × V)) (v : V), d = some dd ∧ H' dd = some (.xd fs) ∧ fs.lookup fld = some v ∧ ∀ p, H' p = none → Q (.ref p) (upd H' p (.lst [v]))) H Q
theorem takes_len {X : Cx} {W : WX} (tk : Takes X W) : Takes X (fun c d σ H => σ.length = X.N.length → W c d σ H) := fun u s' ⟨a, B, sI, pins, σ, H, cls, d, e, I, nb, up, sky, na, os, ag, w⟩ =>
  tk u s' ⟨a, B, sI, pins, σ, H, cls, d, e, I, nb, up, sky, na, os, ag, w I.len⟩
theorem told_givesF {X : Cx} {Ng : List Str} {x a e q n fld : Str} {sg : Scope} {g C : Addr} {cdg : Value} {p1 p2 p3 p4 p5 p6 p7 p8 p9 p10 : Pos} (hge : sg.names.lookup e = some .globalImplicit) (hme : X.mg e = some (.ref C)) (hde : (e == ("__debug__" : Str)) = false) (h0 : ∀ f : Addr, (L2.start Ng [V.ref f])[0]? = some (some (V.ref f)))
    (hN : Ng.Nodup) (hi : Ng[1]? = some n) (hln : sg.names.lookup n = some .local) (T : XfC X.K C) (hno : PySem.W.findIn X.K (.ref C) fld = some none) (hd1 : (n == ("__debug__" : Str)) = false) (hd2 : (n == ("__classdict__" : Str)) = false)
    (hb : ∀ env : Env, attributeBase (.Name n p5) fld env (eval (.Name n p5) env) = eval (.Name n p5) env) (hse : ∀ env : Env, starEach [.Attribute (.Name n p5) fld p6] env = [(false, eval (.Attribute (.Name n p5) fld p6) env)]) (hs0 : ∀ env : Env, starEach [] env = []) :
    GivesTo X Ng x sg g cdg [.Try [.Return (some (.Call (.Name a p1) [] [] p2)) p3] [.ExceptHandler (some (.Name e p4)) (some n) [.Return (some (.List [.Attribute (.Name n p5) fld p6] p7)) p8] p9] [] [] p10] a q (TToldF X.K C fld) := by
  intro f c' s H Q tl act hc h
  have hgl : Gl (cxOf C8.CX0 X.prog X.w X.K X.mg X.base Ng x sg g cdg X.A X.stack s H C8.E0).nox e := hge
  have hpl : PA (cxOf C8.CX0 X.prog X.w X.K X.mg X.base Ng x sg g cdg X.A X.stack s H C8.E0).nox [] tNil := pa_nil
  refine ⟨_, pss_one (ps_try_as (X := (cxOf C8.CX0 X.prog X.w X.K X.mg X.base Ng x sg g cdg X.A X.stack s H C8.E0).nox) (c := .ref C) (i := 1)
      (tb := fun W D σ H => ∃ Ech : XK, (∀ (cls : Value) (d : Option Addr) (σ' : L2.St) (H' : Hp), Ech cls d H' → σ'.length = Ng.length → W cls d σ' H') ∧ σ[0]? = some (some (.ref f)) ∧ H c' = some (CodeO c' q) ∧ tl Ech H D.rt)
      (ts := fun a' cls d => tRet (tLst (tCons (tXf a' cls d C fld (tVar 1)) tNil)))
      rfl rfl hN hi hln ⟨hgl, hde, .inl hme⟩ takes0 (fun W pn xe tk _ => ?_) (fun a' oe cls d pn hz hf => pss_one (ps_ret (pe_lst (pa_cons (pe_xf T hno hz hf (pe_var hi (Or.inl hln) hd1 hd2) (hb _)) pa_nil (hse _)))))), ?_⟩
  · refine ⟨fun pins s' σ H' D I h' => ?_⟩
    obtain ⟨Ech, hW, h1, h2, h3⟩ := h'
    have hp := act _ pn xe Ech p1 p2 (takes_len tk) fun cls d σ' H' he hl => hW cls d σ' H' he hl
    have hq := pss_one (ps_ret (pos := p3) hp)
    exact hq.run pins s' σ H' D I ⟨h1, h2, h3⟩
  · refine ⟨fun cls d H' => PySem.W.exmOne X.K cls (.ref C) = some true ∧ cls = .ref C ∧ ∃ (dd : Addr) (fs : List (Str × V)) (v : V), d = some dd ∧ H' dd = some (.xd fs) ∧ fs.lookup fld = some v ∧ ∀ p, H' p = none → Q (.ref p) (upd H' p (.lst [v])), fun cls d σ' H' ⟨e1, e2, dd, fs, v, e3, e4, e5, e6⟩ hl => ⟨true, e1, fun _ a' _ => ?_, fun z => by cases z⟩, h0 f, hc, h⟩
    refine ⟨.ref a', ?_, rfl, e2, dd, fs, v, e3, e4, e5, by simp [sizeLine_eq], e6⟩
    have hlt : 1 < σ'.length := by
      have := (List.getElem?_eq_some_iff.mp hi).1
      omega
    exact List.getElem?_set_self hlt
end Ly

/-! LyY: a lambda made, with all that changes told. -/
namespace Ly
open PySem PySem.Spec PyProof.Rows L2 LamX
/-- a lambda was made: the table at P alone has changed, and tells code objects of the name q still -/
structure Made (P : Addr) (q : Str) (H H1 : Hp) : Prop where
  tab : TabS H1 P q
  rest : ∀ a o, a ≠ P → H a = some o → H1 a = some o
theorem stp_made {dl : Option (Addr × Addr)} {P : Addr} {B H H1 : Hp} (s : Same B H) (nt : ∀ a ps, B a ≠ some (.tbl ps)) (hP : TabS H P qLam) (m : Made P qLam H H1) : Stp dl B H B H1 := by
  obtain ⟨ps, hp, _, _⟩ := hP
  have k : ∀ a o, H a = some o → (∀ ps, o ≠ .tbl ps) → H1 a = some o := fun a o e n => m.rest a o (fun z => by rw [z, hp] at e; exact n ps (Option.some.inj e).symm) e
  refine ⟨Same.refl B, fun a o e => k a o (s a o e) fun ps z => nt a ps (z ▸ e), fun a o e _ n => k a o e n, fun a _ e => e, fun p q _ d => ?_, fun a n => ?_, fun P' t => ?_, fun h => h⟩
  · obtain ⟨ne, ns, b, h1, h2, r⟩ := d
    exact ⟨ne, ns, b, k _ _ h1 (fun ps h => by cases h), k _ _ h2 (fun ps h => by cases h), r⟩
  · by_cases ha : a = P
    · obtain ⟨ps1, h1, _⟩ := m.tab
      rw [ha, h1]
      simp
    · cases e : H a with
      | none => exact absurd e n
      | some o =>
        rw [m.rest a o ha e]
        simp
  · by_cases ha : P' = P
    · rw [ha]
      exact m.tab
    · obtain ⟨ps1, h1, h2, h3⟩ := t
      refine ⟨ps1, m.rest _ _ ha h1, h2, fun pos cv hc => ?_⟩
      obtain ⟨c, e1, e2⟩ := h3 pos cv hc
      exact ⟨c, e1, k _ _ e2 codeO_ne⟩
section
variable {X : Cx} {pins : List (Addr × Obj)} {σ : L2.St} {H : Hp} {s : Shared}
theorem lam_mk {c P : Addr} {params : Arguments} {body : Expr} {scope : Scope} {pos : Pos} {E : Value → Shared → Prop} {Q : Value → Shared → Prop} (I : Inv X pins σ H s) (TB : TabB X.base X.mg c P) (hcode : X.env.code = .ref c)
    (hT : TabS H P (X.env.qual ++ "<lambda>")) (hdef : defaultsOf params X.env = ([], [])) (hfree : ∀ y ∈ scope.names, y.2 = .free → ∃ c, X.env.cells.lookup y.1 = some c)
    (h : ∀ (f c' : Addr) (pm ctv : Value) (H1 : Hp) (s' : Shared), Inv X pins σ H1 s' → Made P (X.env.qual ++ "<lambda>") H H1 →
      s'.heap.get? f = some (PySem.W.kla_obj "<lambda>" (X.env.qual ++ "<lambda>") params body scope (cloFrom X.env.cells scope.names []) pm c' ctv) → H1 f = none → f ∉ frs X.stack → H1 c' = some (CodeO c' (X.env.qual ++ "<lambda>")) → Q (.ref f) s') :
    wpAny (model X.prog X.w) X.A (eval (.Lambda params body scope pos) X.env) Q E s := by
  obtain ⟨ps, hP, tok, known⟩ := hT
  have hPh : s.heap.get? P = some { cls := .none, data := .fields ps } := I.hok P _ hP
  have far : ∀ f, s.heap.objs.size ≤ f → f ∉ frs X.stack := by
    intro f hf z
    cases List.mem_cons.mp (I.stkSub _ z) with
    | inl e => exact absurd (Nat.lt_of_lt_of_le (e ▸ I.lt) hf) (Nat.lt_irrefl _)
    | inr e => exact I.nofs hf e
  apply PySem.W.kla_eval hdef
  cases hit : codeAmong pos ps.toList with
  | some cv =>
    obtain ⟨c', rfl, hc'⟩ := known pos cv hit
    apply PySem.W.kla_makeFunctionHit (mg := X.mg) (c := c) (P := P) (ps := ps) (closure_ok hfree) I.ok.glob (I.mod.glob.keeps I.bk) hcode (TB.code.keeps I.bk) hPh tok hit (TB.bm.keeps I.bk)
    intro ctv h' tk grow size
    have J := I.kept (t' := tk) (h' := h'.push (PySem.W.kla_obj "<lambda>" (X.env.qual ++ "<lambda>") params body scope (cloFrom X.env.cells scope.names []) ((X.mg "__name__").getD .none) c' ctv)) fun b o e => Heap.get?_push_of_some _ (grow b o e)
    exact h _ c' _ ctv H _ J ⟨⟨ps, hP, tok, known⟩, fun _ _ _ e => e⟩ (Heap.get?_push_size _ rfl) (I.hok.fresh size) (far _ size) hc'
  | none =>
    apply PySem.W.kla_makeFunction (mg := X.mg) (c := c) (P := P) (ps := ps) (closure_ok hfree) I.ok.glob (I.mod.glob.keeps I.bk) hcode (TB.code.keeps I.bk) hPh tok hit TB.gP (TB.bm.keeps I.bk)
    rintro c' ctv h' tk grow ge lt ⟨c2, oc, vs, t, e2, hoc, hd, hv⟩ tb
    cases e2
    have fresh : H c' = none := I.hok.fresh ge
    have size : s.heap.objs.size ≤ h'.objs.size := Nat.le_trans ge (Nat.le_of_lt lt)
    have J := inv_table (t' := tk) (more := #[rawInt pos.line, rawInt pos.col, .ref c']) (h' := h'.push (PySem.W.kla_obj "<lambda>" (X.env.qual ++ "<lambda>") params body scope (cloFrom X.env.cells scope.names []) ((X.mg "__name__").getD .none) c' ctv)) I hP
      (fun b o hb e => Heap.get?_push_of_some _ (grow b o hb e)) (Heap.get?_push_of_some _ tb) ge ⟨oc, vs, t, Heap.get?_push_of_some _ hoc, hd, hv⟩
    have rest : ∀ a o, a ≠ P → H a = some o → upd (upd H P (.tbl (ps ++ #[rawInt pos.line, rawInt pos.col, .ref c']))) c' (CodeO c' (X.env.qual ++ "<lambda>")) a = some o := fun a o n e => by
      rw [upd_ne (ne_of_none e fresh), upd_ne n]
      exact e
    have nP : ∀ a, H a = some (CodeO a (X.env.qual ++ "<lambda>")) → a ≠ P := fun a e z => by
      rw [z, hP] at e
      exact codeO_ne ps (Option.some.inj e).symm
    have list : (ps ++ #[rawInt pos.line, rawInt pos.col, .ref c']).toList = ps.toList ++ [rawInt pos.line, rawInt pos.col, .ref c'] := by simp
    refine h _ c' _ ctv _ _ J ⟨⟨_, by rw [upd_ne (ne_of_none hP fresh), upd_same], by rw [list]; exact PySem.TriplesOk_snoc _ _ _ _ tok, fun p' cv hcv => ?_⟩, rest⟩ (Heap.get?_push_size _ rfl) ?_ (far _ size) upd_same
    · rw [list] at hcv
      cases among_app _ tok hcv with
      | inl z =>
        obtain ⟨c0, e1, e2⟩ := known p' cv z
        exact ⟨c0, e1, rest _ _ (nP c0 e2) e2⟩
      | inr z => exact ⟨c', z, upd_same⟩
    · rw [upd_ne (Nat.ne_of_gt lt), upd_ne (Nat.ne_of_gt (Nat.lt_of_lt_of_le (Heap.lt_size hPh) size))]
      exact I.hok.fresh size
end
end Ly

/-! LyZ: x(lambda: e), where no repr is under way. -/
namespace Ly
open PySem PySem.Spec PyProof.Rows L2 LamX
section
variable {X : Cx} {pins : List (Addr × Obj)} {σ : L2.St} {H : Hp} {s : Shared}
/-- the def that got the lambda, its context -/
abbrev gotCx (X : Cx) (Ng : List Str) (x : Str) (sg : Scope) (g : Addr) (cdg : Value) (s : Shared) (H : Hp) : Cx := cxOf C8.CX0 X.prog X.w X.K X.mg X.base Ng x sg g cdg X.A X.stack s H C8.E0
/-- a() there: the lambda's body runs -/
theorem pe_actG {Ng : List Str} {x : Str} {sg : Scope} {g f c' : Addr} {cdg pm ctv : Value} {params : Arguments} {body : Expr} {scope : Scope} {k i : Nat} {a : Str} {pn : List (Addr × Obj)} {xe : Value → Shared → Prop} {W : WX} {E : XK} {tb : TE} {p1 p2 : Pos}
    (I : Inv X pins σ H s) (gd : X.A.guards = some []) (L : LamS X.env.scope scope) (hf : s.heap.get? f = some (PySem.W.kla_obj "<lambda>" (X.env.qual ++ "<lambda>") params body scope (cloFrom X.env.cells scope.names []) pm c' ctv)) (hfn : H f = none) (hfr : f ∉ frs X.stack)
    (hbind : bindArgs (PySem.W.kla_fn "<lambda>" (X.env.qual ++ "<lambda>") params body scope (cloFrom X.env.cells scope.names []) pm (.ref c') ctv) ⟨[], []⟩ = pure [])
    (tk : Takes ((gotCx X Ng x sg g cdg s H).tr pn xe) W) (hW : ∀ cls d σ' H', E cls d H' → W cls d σ' H') (hr : Room (k + 1) (X.A.deeper (envOfC x sg s.heap.objs.size g cdg)))
    (hbody : ∀ (A : Around) (outer : List Env) (s : Shared) (H : Hp), (A.deeper (lamEnv X scope s.heap.objs.size f c')).guards = some [] → Room k (A.deeper (lamEnv X scope s.heap.objs.size f c')) → PE (lamCx X A outer s H E scope f c') body tb)
    (hN : Ng[i]? = some a) (hv : Vis sg a) (hd : (a == ("__debug__" : Str)) = false := by decide) (hcd : (a == ("__classdict__" : Str)) = false := by decide) :
    PE ((gotCx X Ng x sg g cdg s H).tr pn xe) (.Call (.Name a p1) [] [] p2)
      (fun σZ HZ Q => σZ[i]? = some (some (.ref f)) ∧ HZ c' = some (CodeO c' (X.env.qual ++ "<lambda>")) ∧ tb σ HZ Q) := by
  constructor
  rintro pinsZ sZ σZ HZ Q IZ ⟨hs, hc, ht⟩
  have hname := (pe_var (X := (gotCx X Ng x sg g cdg s H).tr pn xe) (pos := p1) (i := i) hN hv hd hcd).run pinsZ sZ σZ HZ (fun v H1 => v = .ref f ∧ H1 = HZ) IZ ⟨.ref f, hs, rfl, rfl⟩
  refine wpAny_Call_Name_kw (thn hname ?_)
  rintro u s1 ⟨v, H1, J, rv, rfl, rfl⟩
  obtain rfl : u = Value.ref f := rv
  have obj : s1.heap.get? f = _ := J.base.keep f _ hf hfn hfr (fun z => nomatch (show f ∈ ([] : List Addr) from z))
  have un : Un (frs X.stack) [] H H1 s.heap s1.heap := J.base
  have run : codeAny (model X.prog X.w) (X.A.deeper (envOfC x sg s.heap.objs.size g cdg)) (.call (.ref f) ⟨[], []⟩) (CR (L2.CX X.prog X.w) (envOfC x sg s.heap.objs.size g cdg :: X.stack) X.prog X.w H1 s1 Q E) s1 := by
    obtain ⟨⟨oc, ws, t, hoc, hdc, hvc⟩, _, _⟩ := J.hok c' _ hc
    apply PySem.W.kla_callFunE hr.depth obj rfl L.co L.gen rfl ⟨c', oc, ws, t, rfl, hoc, hdc, hvc⟩
    rw [hbind]
    refine wpAny_pure (wpAny_newFunctionEnv (fun y hy => (L.own y hy).2) (fun y hy => absurd hy (by simp)) (fun h₁ hns hsb => ⟨J.nolimit.fresh _ hsb, ?_⟩) L.kind)
    show codeAny _ _ (.expr body (lamEnv X scope s1.heap.objs.size f c')) _ _
    have start := lam_start2 (E := E) (f := f) (c' := c') (tk := s1.toks + ([] : List (Str × Value)).length) I L J.env0 hr.hd un hns fun b o e => hsb.extBut b o (Nat.ne_of_lt (Heap.lt_size e)) (Heap.get?_push_of_some _ e)
    have bodyOk := (hbody _ _ s1 H1 (deeper_guards (deeper_guards gd)) (hr.deeper _)).run [] _ _ H1 Q start ht
    refine PySem.W.kla_codeExpr (wpAny_mono bodyOk ?_ fun e s' q => q)
    rintro v s' ⟨w', H', J', rv', q⟩
    exact ⟨w', H', J'.os, J'.bare, J'.base, J'.hok, rv', q⟩
  refine PySem.W.callWith_F0 ⟨_, _, _, _, obj⟩ ?_
  refine wpAny_call (codeAny_mono run ?_)
  intro r s' q
  rcases r with e | fl
  · exact passes_call tk hW pinsZ σZ H1 s1 e s' J q
  · cases fl with
    | ret u => exact J.after q
    | next => exact q.elim
    | brk => exact q.elim
    | cont => exact q.elim
end
section
variable {X : Cx}
/-- x(lambda: e): what is asked of the lambda's reading -/
def tLamM (P : Addr) (q : Str) (TT : (XK → Hp → VK → Prop) → Hp → VK → Prop) (t : XK → TE) : TE := fun σ H Q => TabS H P q ∧ ∀ H1, Made P q H H1 → TT (fun E H' Q' => t E σ H' Q') H1 Q
/-- x(lambda: body) -/
theorem pe_lamcallM {TT : (XK → Hp → VK → Prop) → Hp → VK → Prop} {x a : Str} {g c P : Addr} {k : Nat} {pg : Arguments} {bg : List Stmt} {sg : Scope} {dV kV doc pm cdv ct oc : Value} {an od : Option Addr} {osl : Array (Option Value)} {Ng : List Str}
    {params : Arguments} {body : Expr} {scope : Scope} {t : XK → TE} {p lpos pos : Pos} (gd : X.A.guards = some []) (hg : Gl X x) (hm : X.mg x = some (.ref g)) (hk : PySem.W.keepIn X.K (.ref g) = true)
    (lk : X.K.lookup g = some ⟨oc, od, .func (PySem.W.fnOf x x pg bg sg dV kV doc pm an cdv ct), osl⟩) (hcg : PySem.W.codeIn X.K cdv x = true) (hb : L2.Binds X.K (PySem.W.fnOf x x pg bg sg dV kV doc pm an cdv ct) [a] []) (Sg : FnScope Ng [a] sg) (hNg : Ng[0]? = some a) (hva : Vis sg a)
    (hG : GivesTo X Ng x sg g cdv bg a (X.env.qual ++ "<lambda>") TT)
    (TB : TabB X.base X.mg c P) (hcode : X.env.code = .ref c) (hr : Room (k + 2) X.A) (L : LamS X.env.scope scope) (hdef : defaultsOf params X.env = ([], []))
    (hbind : ∀ (q : Str) (cl : List (Str × Addr)) (pm cv ctv : Value), bindArgs (PySem.W.kla_fn "<lambda>" q params body scope cl pm cv ctv) ⟨[], []⟩ = pure [])
    (hbody : ∀ (A : Around) (outer : List Env) (s : Shared) (H : Hp) (E : XK) (f c' : Addr), (A.deeper (lamEnv X scope s.heap.objs.size f c')).guards = some [] → Room k (A.deeper (lamEnv X scope s.heap.objs.size f c')) → PE (lamCx X A outer s H E scope f c') body (t E))
    (hdb : (x == ("__debug__" : Str)) = false := by decide) (hd : (a == ("__debug__" : Str)) = false := by decide) (hcd : (a == ("__classdict__" : Str)) = false := by decide) :
    PE X (.Call (.Name x p) [.Lambda params body scope lpos] [] pos) (tLamM P (X.env.qual ++ "<lambda>") TT t) := by
  refine ⟨fun pins s σ H Q I ⟨hT, h⟩ => ?_⟩
  refine wpAny_Call_Name_kw (ld_glob I hg hm ?_ hdb)
  refine PySem.W.callWith_K (h₀ := X.base) I.ok.mod.kin hk ?_ (by rfl) (by rfl)
  show wpAny _ _ (spliced ((false, eval (.Lambda params body scope lpos) X.env) :: backTo pos (starEach [] X.env))) _ _ s
  refine Calls.spliced_cons (lam_mk I TB hcode hT hdef (L.has I.ok) fun f c' pm' ctv H1 s' I1 m hf hfn hfr hco => ?_)
  refine Calls.spliced_nil ⟨I1.kIn, ?_⟩
  have rc : codeAny (model X.prog X.w) X.A (.call (.ref g) ⟨[.ref f], []⟩) (CR C8.CX0 X.stack X.prog X.w H1 s' Q C8.E0) s' := by
    refine run_ofS (N := Ng) (ps := [a]) (us := [.ref f]) (vs := [.ref f]) lk hcg Sg hr I1.env0 (hb s' [.ref f] I1.kIn rfl) (.cons rfl .nil) rfl fun hr' => ?_
    obtain ⟨t', ht', hq'⟩ := hG f c' s' H1 Q (fun E H' Q' => t E σ H' Q')
      (fun W pn xe E p1 p2 tk hW => pe_actG (i := 0) I1 gd L hf hfn hfr (hbind _ _ _ _ _) tk hW hr' (fun A outer s H g2 hr2 => hbody A outer s H E f c' g2 hr2) hNg hva hd hcd) hco (h H1 m)
    exact ⟨t', ht'.nox, hq'⟩
  refine wpAny_call (codeAny_mono rc fun r s2 hq => ?_)
  cases r with
  | error e => exact (show False from hq).elim
  | ok fl =>
    cases fl with
    | ret u => exact I1.after hq
    | next => exact False.elim hq
    | brk => exact False.elim hq
    | cont => exact False.elim hq
/-- what leaves a lambda's body is taken -/
theorem lam_takes {A : Around} {outer : List Env} {s : Shared} {H : Hp} {E : XK} {scope : Scope} {f c' : Addr} : Takes (lamCx X A outer s H E scope f c') (fun cls d _ H => E cls d H) := takes_of rfl rfl rfl rfl
theorem lam_passes {A : Around} {outer : List Env} {s : Shared} {H : Hp} {E : XK} {scope : Scope} {f c' : Addr} : Passes (L2.CX X.prog X.w) (lamCx X A outer s H E scope f c') E := passes_call lam_takes fun _ _ _ _ h => h
end

/-! ### readings of two ways out, as data -/
/-- data, or an exception of the class at C whose field is told -/
def VX (C0 : Cn) (C : Addr) (fld : Str) (t : XK → TE) (Γ : List Sl) (R W : D → Prop) : Prop := ∀ B H σ, Fm C0 B H σ Γ → ∀ (Q : VK) (E : XK), (∀ d v B' H', R d → Stp C0.dl B H B' H' → Dq C0.K B' v d → Q v H') →
  (∀ n dx v B' H', W n → Stp C0.dl B H B' H' → H' dx = some (.xd [(fld, v)]) → Dq C0.K B' v n → E (.ref C) (some dx) H') → t E σ H Q
section
variable {C0 : Cn} {A A' : TA} {Γ : List Sl} {C P : Addr} {fld : Str} {Pp : List D → Prop} {R W : List D → D → Prop} {S S' : List D → Prop} {R1 W1 R2 W2 : D → Prop} {t : XK → TE} {ds es : List D} {gV : List V → List V → List V}
theorem VX.imp (h : VX C0 C fld t Γ R1 W1) (i : ∀ d, R1 d → R2 d) (j : ∀ d, W1 d → W2 d) : VX C0 C fld t Γ R2 W2 := fun B H σ F Q E q e => h B H σ F Q E (fun d v B' H' r => q d v B' H' (i d r)) fun n dx v B' H' r => e n dx v B' H' (j n r)
theorem vx_call2 (gD : List D → List D → List D) (h : VA C0 A Γ (Is ds)) (h' : VA C0 A' Γ (Is es)) (hg : ∀ B vs zs ds es, DqAll C0.K B vs ds → DqAll C0.K B zs es → DqAll C0.K B (gV vs zs) (gD ds es)) (hP : Pp (gD ds es)) :
    VX C0 C fld (fun E => tCallK (Px C0.K C fld Pp R W) gV E A A') Γ (R (gD ds es)) (W (gD ds es)) := fun B H σ F Q E q e =>
  h B H σ F _ fun xs vs B1 H1 e1 s1 k1 => h' B1 H1 σ (F.step s1) _ fun ys zs B2 H2 e2 s2 k2 => by
    cases e1
    cases e2
    have F2 := (F.step s1).step s2
    have s12 := s1.trans F.dlNow s2
    exact ⟨B2, gD ds es, F2.sub, hg B2 vs zs ds es (dpall_mono s2.ext k1) k2, hP, fun d v B3 H3 r3 s3 k3 => q d v B3 H3 r3 (s12.trans F.dlNow s3.any) k3,
      fun n dx v B3 H3 w3 s3 hd k3 => e n dx v B3 H3 w3 (s12.trans F.dlNow s3.any) hd k3⟩
theorem vx_call (h : VA C0 A Γ (Is ds)) (hP : Pp ds) : VX C0 C fld (fun E => tCallK (Px C0.K C fld Pp R W) (fun vs _ => vs) E A tNil) Γ (R ds) (W ds) :=
  vx_call2 (fun ds _ => ds) h va_nil (fun _ _ _ _ _ k _ => k) hP
/-- told: the data, or a list of what the exception keeps -/
theorem ve_told (hT : TabS C0.H P qLam) (hB : ∀ a ps, C0.B a ≠ some (.tbl ps)) (hx : PySem.W.exmOne C0.K (.ref C) (.ref C) = some true) (h : VX C0 C fld t Γ R1 W1) :
    VE C0 (tLamM P qLam (TToldF C0.K C fld) t) Γ (fun d => R1 d ∨ ∃ n, W1 n ∧ d = .list [n]) := fun B H σ F Q q => by
  have hP := F.st.tab P hT
  refine ⟨hP, fun H1 m => ?_⟩
  have s0 : Stp C0.dl B H B H1 := stp_made F.sub (F.st.bt hB) hP m
  have F1 := F.step s0
  refine h B H1 σ F1 Q _ (fun d v B' H' r s k => q d v B' H' (Or.inl r) (s0.trans F.dlNow s) k) fun n dx v B' H' wn s hd k => ?_
  refine ⟨hx, rfl, dx, [(fld, v)], v, rfl, hd, by simp [List.lookup], fun p hp => ?_⟩
  have F2 := F1.step s
  have s3 : Stp C0.dl B' H' (upd B' p (.lst [v])) (upd H' p (.lst [v])) := Stp.new F2.sub hp
  exact q _ _ _ _ (Or.inr ⟨n, wn, rfl⟩) ((s0.trans F.dlNow s).trans F.dlNow s3) (.lst (Or.inl upd_same) (.cons (dp_mono s3.ext k) .nil))
end
end Ly

/-! Lya: dicts of one's own and as data; starred dicts and lists; sorted(set(a tuple of ints)). -/
namespace Ly
open PySem PySem.Spec PyProof.Rows L2

abbrev dictD (kvs : List (Key × D)) : D := .dict (kvs.map fun p => (kD p.1, p.2))
def getK (kvs : List (Key × D)) (k : Key) : Option D := (kvs.find? fun kv => decide (kv.1 = k)).map (·.2)
theorem getK_pos {p : Key × D} {r : List (Key × D)} {k : Key} (e : p.1 = k) : getK (p :: r) k = some p.2 := by simp [getK, List.find?_cons, e]
theorem getK_neg {p : Key × D} {r : List (Key × D)} {k : Key} (e : ¬ p.1 = k) : getK (p :: r) k = getK r k := by simp [getK, List.find?_cons, e]
theorem kD_inj : ∀ {a b : Key}, kD a = kD b → a = b
  | .inl _, .inl _, e => by cases e; rfl
  | .inr _, .inr _, e => by cases e; rfl
  | .inl _, .inr _, e => by cases e
  | .inr _, .inl _, e => by cases e
theorem dictD_inj : ∀ {a b : List (Key × D)}, (a.map fun p => (kD p.1, p.2)) = b.map (fun p => (kD p.1, p.2)) → a = b
  | [], [], _ => rfl
  | [], _ :: _, e => by cases e
  | _ :: _, [], e => by cases e
  | (k, x) :: a, (j, y) :: b, e => by
    simp only [List.map_cons, List.cons.injEq, Prod.mk.injEq] at e
    obtain ⟨⟨e1, e2⟩, e3⟩ := e
    rw [kD_inj e1, e2, dictD_inj e3]
section
variable {K : PySem.W.Frag} {H : Hp}
theorem dp_dct {v : V} {kvs : List (Key × D)} (h : Dq K H v (dictD kvs)) : ∃ a ws, v = .ref a ∧ Rd H a (.dK ws) ∧ ws.map Prod.fst = kvs.map Prod.fst ∧ DqAll K H (ws.map Prod.snd) (kvs.map Prod.snd) := by
  generalize e : dictD kvs = d at h
  cases h with
  | dct h e1 k =>
    obtain rfl := dictD_inj (PyData.dict.inj e)
    exact ⟨_, _, rfl, h, e1, k⟩
  | non => cases e
  | bl => cases e
  | int => cases e
  | str => cases e
  | lst => cases e
  | tup => cases e
theorem dp_key {v : V} {k : Key} (h : Dq K H v (kD k)) : v = kV k := by
  cases k with
  | inl i => exact dp_int h
  | inr x => exact dp_str h
theorem dq_key (k : Key) : Dq K H (kV k) (kD k) := by
  cases k with
  | inl i => exact .int i
  | inr x => exact .str x
theorem get_some : ∀ {ws : List (Key × V)} {kvs : List (Key × D)} {k : Key} {d : D}, ws.map Prod.fst = kvs.map Prod.fst → DqAll K H (ws.map Prod.snd) (kvs.map Prod.snd) → getK kvs k = some d → ∃ v, valV ws k = some v ∧ Dq K H v d
  | [], [], _, _, _, _, h => by cases h
  | [], _ :: _, _, _, e, _, _ => by cases e
  | _ :: _, [], _, _, e, _, _ => by cases e
  | w :: ws, p :: kvs, k, d, e, a, h => by
    simp only [List.map_cons, List.cons.injEq] at e
    simp only [List.map_cons] at a
    cases a with
    | cons h1 h2 =>
      by_cases q : p.1 = k
      · rw [getK_pos q] at h
        cases h
        exact ⟨w.2, valV_pos (e.1.trans q), h1⟩
      · rw [getK_neg q] at h
        rw [valV_neg (fun z => q (e.1.symm.trans z))]
        exact get_some e.2 h2 h
theorem get_none : ∀ {ws : List (Key × V)} {kvs : List (Key × D)} {k : Key}, ws.map Prod.fst = kvs.map Prod.fst → (valV ws k).isSome = (getK kvs k).isSome
  | [], [], _, _ => rfl
  | [], _ :: _, _, e => by cases e
  | _ :: _, [], _, e => by cases e
  | w :: ws, p :: kvs, k, e => by
    simp only [List.map_cons, List.cons.injEq] at e
    by_cases q : p.1 = k
    · rw [getK_pos q, valV_pos (e.1.trans q)]
      rfl
    · rw [getK_neg q, valV_neg (fun z => q (e.1.symm.trans z))]
      exact get_none e.2
end

/-! ### walk rules -/
def rInK : R2 := fun y x H Q => ∃ a r, x = .ref a ∧ DGet H a y r ∧ Q (.bl r.isSome) H
def rNotInK : R2 := fun y x H Q => ∃ a r, x = .ref a ∧ DGet H a y r ∧ Q (.bl (!r.isSome)) H
section
variable {X : Cx} {pins : List (Addr × Obj)} {σ : L2.St} {H : Hp} {s : Shared}
theorem op_inK (hu : X.A.units + 1 < cLine) : OpR X (compareOp .In) rInK := by
  intro pins s σ H x y v u Q I rx ry h
  obtain ⟨a, r, rfl, g, q⟩ := h
  cases ry
  exact d_in hu I g rx fun s' I' => ⟨.bl r.isSome, H, I', rfl, q⟩
theorem op_notInK (hu : X.A.units + 1 < cLine) : OpR X (compareOp .NotIn) rNotInK := by
  intro pins s σ H x y v u Q I rx ry h
  obtain ⟨a, r, rfl, g, q⟩ := h
  cases ry
  exact d_notIn hu I g rx fun s' I' => ⟨.bl (!r.isSome), H, I', rfl, q⟩
theorem star_dk {a : Addr} {kvs : List (Key × V)} {E : Value → Shared → Prop} {Q : List Value → Shared → Prop} (hc : X.calm = true) (I : Inv X pins σ H s) (h : Rd H a (.dK kvs)) (hQ : ∀ us s', Inv X pins σ H s' → Vals (kvs.map fun kv => kV kv.1) us → Q us s') :
    PySem.W.StarOf (model X.prog X.w) X.A E (.ref a) Q s := by
  obtain ⟨z, lo, vs, rk, hd⟩ := dk_rd I.hok h
  obtain ⟨ep, hat⟩ := hd.dictAt
  have hl : kvs.length = vs.length := Paired.length rk
  unfold PySem.W.StarOf notIterableAtAll
  refine wpAny_bind (wpAny_specialOf hd.typeIs PySem.F.slot_dict_iter.lookup (wpAny_pure ⟨rfl, ?_⟩))
  refine PySem.W.kdu_collect (PySem.W.kdl_dict (knd := mixKind X.prog X.w) (kvs := vs) (ep := ep) lo) (I.ok.hd hc) hat (by rw [← hl]; exact z) fun h' tk acc hk hacc => ?_
  refine hQ _ _ (I.kept (t' := tk) hk) (vals_of_at ?_ fun j x u h1 h2 => ?_)
  · rw [List.length_map, Array.length_toList]
    exact hl.trans hacc.1.symm
  · obtain ⟨k, y, hky, hi⟩ := hacc.2 j u (by rw [← Array.getElem?_toList]; exact h2)
    have e1 : (kvs.map Prod.fst)[j]? = some k := by
      have := congrArg (fun l => l[j]?) (KV.keys rk)
      simp only [List.getElem?_map] at this ⊢
      rw [this, hky]
      rfl
    have e2 : (kvs.map fun kv => kV kv.1)[j]? = some (kV k) := by
      rw [List.getElem?_map] at e1 ⊢
      cases q : kvs[j]? with
      | none =>
        rw [q] at e1
        cases e1
      | some p =>
        rw [q] at e1
        cases e1
        rfl
    rw [e2] at h1
    cases h1
    exact keyIs_rel hi
/-- *d among the items of a display -/
def tStarK (te : TE) (t : TA) : TA := fun σ H Q => te σ H fun x H1 => ∃ a ws, x = V.ref a ∧ Rd H1 a (.dK ws) ∧ t σ H1 fun ys H2 => Q ((ws.map fun kv => kV kv.1) ++ ys) H2
theorem pa_starK {e : Expr} {es : List Expr} {p : Pos} {te : TE} {t : TA} (hc : X.calm = true) (he : PE X e te) (hr : PA X es t) (hs : starEach (.Starred e p :: es) X.env = (true, eval e X.env) :: starEach es X.env := by rfl) : PA X (.Starred e p :: es) (tStarK te t) := by
  refine ⟨fun pos pins s σ H Q I h => ?_⟩
  refine PySem.W.items_star (thn (he.run pins s σ H _ I h) fun v s1 ⟨y, H1, I1, ry, a, ws, ey, hx, q⟩ => ?_) hs
  cases ey
  obtain rfl : v = Value.ref a := ry
  exact star_dk hc I1 hx fun us s2 I2 rv => thn (hr.run pos pins s2 σ H1 _ I2 q) fun zs s3 ⟨vs, H3, I3, r3, q3⟩ => ⟨_, H3, I3, rv.append r3, q3⟩
/-- set(a tuple of ints) -/
def rSetTI (K : PySem.W.Frag) (w : World) : List V → Hp → VK → Prop := fun xs H Q => ∃ (l : Addr) (ns : List Int), xs = [.ref l] ∧ SqT K H l (ns.map V.int) ∧ ns.length ≤ 4000 ∧ ∀ p c, H p = none → c ≤ ns.length → Q (.ref p) (upd H p (SetO w p (fun j => decide (j ∈ ns)) c))
theorem cr_setTI (hc : X.calm = true) : CallR X (.type "set") (rSetTI X.K X.w) := by
  intro pins s σ H xs us Q I r h
  obtain ⟨l, ns, rfl, hl, hn, q⟩ := h
  rw [Vals.ref1 r]
  obtain ⟨its, rv, pl, hz⟩ := I.tuple hl
  refine call_set_tupI ns (I.ok.hd hc) pl (by simpa using RZ.intsAre_vals rv) (by unfold scanBound; omega) fun h' tk c R hc' hk => ?_
  have hnone : H s.heap.objs.size = none := I.hok.fresh (Nat.le_refl _)
  exact ⟨.ref s.heap.objs.size, _, I.laid (t' := tk) hk (Nat.le_refl _) (setO_new R), rfl, q _ c hnone hc'⟩
end

/-! ### dicts in frames -/
section
variable {C : Cn} {B H B' H' : Hp} {σ : L2.St} {Γ : List Sl} {p a : Addr} {i j : Nat} {kvs es : List (Key × D)} {ws : List (Key × V)}
theorem Fm.notMdK (F : Fm C B H σ Γ) (h : Rd H a (.dK ws)) : ¬ Md C.dl a := by
  rintro ⟨p, q, e, m⟩
  obtain ⟨_, ns, b, h1, h2, _⟩ := F.dlNow p q e
  rcases m with rfl | rfl
  · rcases h with h | ⟨o, h⟩
    · rw [h1] at h; cases h
    · rw [h1] at h; cases h
  · rcases h with h | ⟨o, h⟩
    · rw [h2] at h; cases h
    · rw [h2] at h; cases h
theorem Fm.rdK (F : Fm C B H σ Γ) (s : Stp C.dl B H B' H') (h : Rd H a (.dK ws)) : Rd H' a (.dK ws) := by
  have n := F.notMdK h
  rcases h with h | ⟨o, h⟩
  · exact Or.inl (s.keep a _ h n)
  · exact Or.inr ⟨o, s.keep a _ h n⟩
/-- a name gets a new dict of its own -/
theorem Fm.setDk (F : Fm C B H σ Γ) (hC : C.H p = none) (hB : B p = none) (hp : H p = some (.dK ws)) (e : ws.map Prod.fst = kvs.map Prod.fst) (hd : DqAll C.K B (ws.map Prod.snd) (kvs.map Prod.snd)) :
    Fm C B H (σ.set i (some (.ref p))) (Γ.set i (.odk kvs)) := by
  have F0 := F.drop (i := i) (some (.ref p))
  refine ⟨F.st, F.dl, by rw [List.length_set, List.length_set]; exact F.len, fun j sl z => ?_, fun a b r xs ys h1 h2 h3 h4 => ?_⟩
  · by_cases hj : i = j
    · subst hj
      have hl : i < Γ.length := by
        have := (List.getElem?_eq_some_iff.mp z).1
        rw [List.length_set] at this
        exact this
      rw [List.getElem?_set_self hl] at z
      cases z
      exact ⟨p, ws, List.getElem?_set_self (by rw [F.len]; exact hl), hC, hB, hp, e, hd⟩
    · rw [List.getElem?_set_ne hj] at z
      rw [List.getElem?_set_ne hj]
      exact F.slot j sl z
  · have key : ∀ (c : Nat) zs, (Γ.set i (.odk kvs))[c]? = some (.own zs) → i ≠ c := fun c zs h z => by
      subst z
      have hl : i < Γ.length := by
        have := (List.getElem?_eq_some_iff.mp h).1
        rw [List.length_set] at this
        exact this
      rw [List.getElem?_set_self hl] at h
      cases h
    have na := key a xs h1
    have nb := key b ys h2
    rw [List.getElem?_set_ne na] at h1 h3
    rw [List.getElem?_set_ne nb] at h2 h4
    exact F.inj a b r xs ys h1 h2 h3 h4
/-- one's own dict changes, the only one -/
theorem Fm.mutDk {us : List (Key × V)} (F : Fm C B H σ Γ) (hi : Γ[i]? = some (.odk kvs)) (ho : ∀ j zs, j ≠ i → Γ[j]? ≠ some (.odk zs)) (hs : σ[i]? = some (some (.ref p))) (e : us.map Prod.fst = es.map Prod.fst) (hd : DqAll C.K B (us.map Prod.snd) (es.map Prod.snd)) :
    Fm C B (upd H p (.dK us)) σ (Γ.set i (.odk es)) := by
  obtain ⟨p', ws, e', hC, hB, hp, hw, _⟩ := F.hasDk hi
  rw [hs] at e'
  injection e' with e'
  injection e' with e'
  injection e' with e'
  subst e'
  have hM : ¬ Md C.dl p := F.notMd hC
  have st : Stp C.dl C.B C.H B (upd H p (.dK us)) := F.st.poke (fun p q e => (F.dl p q e).1) hC hB (np_dk hp)
  refine ⟨st, F.dl, by rw [List.length_set]; exact F.len, fun j sl z => ?_, fun a b r xs ys h1 h2 h3 h4 => ?_⟩
  · by_cases hj : i = j
    · subst hj
      have hl : i < Γ.length := (List.getElem?_eq_some_iff.mp hi).1
      rw [List.getElem?_set_self hl] at z
      cases z
      exact ⟨p, us, hs, hC, hB, upd_same, e, hd⟩
    · rw [List.getElem?_set_ne hj] at z
      have k := F.slot j sl z
      cases sl with
      | no => trivial
      | dat d => exact k
      | own xs =>
        obtain ⟨r, zs, k1, k2, k3, k4, k5⟩ := k
        have nr : r ≠ p := fun z => by
          subst z
          rw [hp] at k4
          cases k4
        exact ⟨r, zs, k1, k2, k3, by rw [upd_ne nr]; exact k4, k5⟩
      | deal => exact k
      | rd vs => exact k
      | exr a => exact k
      | odk zs => exact absurd z (ho j zs (fun q => hj q.symm))
  · have own : ∀ (c : Nat) zs, (Γ.set i (.odk es))[c]? = some (.own zs) → Γ[c]? = some (.own zs) := fun c zs h => by
      by_cases hc : i = c
      · subst hc
        rw [List.getElem?_set_self (List.getElem?_eq_some_iff.mp hi).1] at h
        cases h
      · rw [List.getElem?_set_ne hc] at h
        exact h
    exact F.inj a b r xs ys (own a xs h1) (own b ys h2) h3 h4
/-- one's own dict stands for good from now on -/
theorem Fm.freezeDk (F : Fm C B H σ Γ) (hi : Γ[i]? = some (.odk kvs)) : ∃ B' v, Stp C.dl C.B C.H B' H ∧ Same B B' ∧ σ[i]? = some (some v) ∧ Dq C.K B' v (dictD kvs) := by
  obtain ⟨p, ws, hs, hC, hB, hp, e, hd⟩ := F.hasDk hi
  have sm : Same B (upd B p (.dK ws)) := fun a o e => by
    rw [upd_ne (ne_of_none e hB)]
    exact e
  exact ⟨upd B p (.dK ws), .ref p, F.st.fix hC hp hB, sm, hs, .dct (Or.inl upd_same) e (dpall_mono sm hd)⟩
end

/-! ### by data -/
/-- a value that is a dict now -/
def VD (C : Cn) (t : TE) (Γ : List Sl) (kvs : List (Key × D)) : Prop := ∀ B H σ, Fm C B H σ Γ → ∀ Q : VK, (∀ a ws B' H', Stp C.dl B H B' H' → Rd H' a (.dK ws) → ws.map Prod.fst = kvs.map Prod.fst → DqAll C.K B' (ws.map Prod.snd) (kvs.map Prod.snd) → Q (.ref a) H') → t σ H Q
/-- a new dict -/
def VN (C : Cn) (t : TE) (Γ : List Sl) (kvs : List (Key × D)) : Prop := ∀ B H σ, Fm C B H σ Γ → ∀ Q : VK, (∀ p ws B' H', Stp C.dl B H B' H' → H p = none → B' p = none → H' p = some (.dK ws) → ws.map Prod.fst = kvs.map Prod.fst → DqAll C.K B' (ws.map Prod.snd) (kvs.map Prod.snd) → Q (.ref p) H') → t σ H Q
section
variable {C : Cn} {Γ : List Sl} {t te td ty ta tb : TE} {A : TA} {kvs : List (Key × D)} {k : Key} {d : D} {ds es : List D} {i j : Nat} {P : Po} {u : TS}
theorem vd_own (h : Γ[i]? = some (.odk kvs)) : VD C (tVar i) Γ kvs := fun B H σ F Q q => by
  obtain ⟨p, ws, e, h1, h2, h3, h4, h5⟩ := F.hasDk h
  exact ⟨_, e, q p ws B H (Stp.refl F.sub) (Or.inl h3) h4 h5⟩
theorem vd_dat (h : VE C t Γ (Is (dictD kvs))) : VD C t Γ kvs := fun B H σ F Q q => h B H σ F Q fun d v B' H' e s kd => by
  cases e
  obtain ⟨a, ws, rfl, h1, h2, h3⟩ := dp_dct kd
  exact q a ws B' H' s (same_rd (F.step s).sub h1) h2 h3
theorem vn_new : VN C tDNewK Γ [] := fun B H σ F Q q p hp => q p [] B _ (Stp.newM F.sub hp) hp (F.sub.free hp) upd_same rfl .nil
theorem VN.e (h : VN C t Γ kvs) : VE C t Γ (Is (dictD kvs)) := fun B H σ F Q q => h B H σ F Q fun p ws B' H' s k1 k2 k3 k4 k5 =>
  q _ _ (upd B' p (.dK ws)) H' rfl (s.fix k1 k3 k2) (.dct (Or.inl upd_same) k4 (dpall_mono (fun a o e => by rw [upd_ne (ne_of_none e k2)]; exact e) k5))
theorem ve_inK (h1 : VE C ty Γ (Is (kD k))) (h2 : VD C td Γ kvs) : VE C (tOp rInK ty td) Γ (Is (.bool (getK kvs k).isSome)) := fun B H σ F Q q => h1 B H σ F _ fun d v B1 H1 e s1 k1 => h2 B1 H1 σ (F.step s1) _ fun a ws B2 H2 s2 r2 e2 k2 => by
  cases e
  obtain rfl := dp_key k1
  refine ⟨a, valV ws k, rfl, Or.inl ⟨ws, k, r2, rfl, rfl⟩, ?_⟩
  rw [get_none e2]
  exact q _ _ B2 H2 rfl (s1.trans F.dlNow s2) (.bl _)
theorem ve_notInK (h1 : VE C ty Γ (Is (kD k))) (h2 : VD C td Γ kvs) : VE C (tOp rNotInK ty td) Γ (Is (.bool (!(getK kvs k).isSome))) := fun B H σ F Q q => h1 B H σ F _ fun d v B1 H1 e s1 k1 => h2 B1 H1 σ (F.step s1) _ fun a ws B2 H2 s2 r2 e2 k2 => by
  cases e
  obtain rfl := dp_key k1
  refine ⟨a, valV ws k, rfl, Or.inl ⟨ws, k, r2, rfl, rfl⟩, ?_⟩
  rw [get_none e2]
  exact q _ _ B2 H2 rfl (s1.trans F.dlNow s2) (.bl _)
theorem ve_dgetK (h1 : VD C td Γ kvs) (h2 : VE C ty Γ (Is (kD k))) (hk : getK kvs k = some d) : VE C (tDGet td ty) Γ (Is d) := fun B H σ F Q q => h1 B H σ F _ fun a ws B1 H1 s1 r1 e1 k1 => h2 B1 H1 σ (F.step s1) _ fun d' v B2 H2 e s2 k2 => by
  cases e
  obtain rfl := dp_key k2
  obtain ⟨v, hv, hd⟩ := get_some e1 k1 hk
  exact ⟨a, v, rfl, Or.inl ⟨ws, k, (F.step s1).rdK s2 r1, rfl, hv.symm⟩, q _ _ B2 H2 rfl (s1.trans F.dlNow s2) (dp_mono s2.ext hd)⟩
/-- d[k] = e, k new -/
theorem vs_putNew (hi : Γ[i]? = some (.odk kvs)) (ho : ∀ j zs, j ≠ i → Γ[j]? ≠ some (.odk zs)) (h : VE C te Γ (Is d)) (hx : VE C ty Γ (Is (kD k))) (hk : getK kvs k = none) (hz : kvs.length < 100000) (q : P.nx (Γ.set i (.odk (kvs ++ [(k, d)])))) :
    VS C (tAsg te (gSub (tVar i) ty rSetD)) Γ P := fun B H σ E F n r b c => h B H σ F _ fun d' v B1 H1 e1 s1 k1 => by
  cases e1
  obtain ⟨p, ws, e, hC, hB, hp, hw, hd⟩ := F.hasDk hi
  have F1 := F.step s1
  refine ⟨.ref p, e, hx B1 H1 σ F1 _ fun x w B2 H2 ex s2 k2 => ?_⟩
  cases ex
  obtain rfl := dp_key k2
  have hp' := s2.keep p _ (s1.keep p _ hp (F.notMd hC)) (F.notMd hC)
  have hl : ws.length = kvs.length := by
    have := congrArg List.length hw
    simpa using this
  have hv : valV ws k = none := by
    have := get_none (k := k) hw
    rw [hk] at this
    cases q : valV ws k with
    | none => rfl
    | some y => rw [q] at this; cases this
  refine ⟨p, _, rfl, Or.inl ⟨ws, k, hp', rfl, sz6 (by rw [hl]; exact hz), rfl⟩, ?_⟩
  rw [L2.putK_new v hv]
  refine n _ B2 _ σ q (s1.ext.trans s2.ext) ((F1.step s2).mutDk hi ho e ?_ ?_)
  · rw [List.map_append, List.map_append, hw]
    rfl
  · rw [List.map_append, List.map_append]
    exact dpall_app (dpall_mono (s1.ext.trans s2.ext) hd) (dpall_one (dp_mono s2.ext k1))
theorem vs_retDk (i : Nat) (hi : Γ[i]? = some (.odk kvs)) (k : P.rt (dictD kvs)) : VS C (tRet (tVar i)) Γ P := fun B H σ E F n r b c => by
  obtain ⟨B', v, st, _, hs, kd⟩ := F.freezeDk hi
  exact ⟨v, hs, r _ v B' H k st kd⟩
/-- a, b = {}, [..] -/
theorem vs_parNL {S : List D → Prop} (h1 : VN C ta Γ kvs) (h2 : VL C tb Γ S) (k : ∀ y, S y → P.nx ((Γ.set i (.odk kvs)).set j (.own y))) : VS C (tPar i j (tCons ta (tCons tb tNil))) Γ P := fun B H σ E F n r b c =>
  h1 B H σ F _ fun p ws B1 H1 s1 e1 e2 e3 e4 e5 => h2 B1 H1 σ (F.step s1) _ fun ds q us B2 H2 r2 s2 g1 g2 g3 g4 => ⟨_, _, rfl, n _ B2 H2 _ (k ds r2) (s1.ext.trans s2.ext) ((((F.step s1).step s2).setDk (F.newC e1) (s2.out p (by rw [e3]; simp) e2)
    (s2.keep p _ e3 (F.notMd (F.newC e1))) e4 (dpall_mono s2.ext e5)).setOwn ((F.step s1).newC g1) g2 g3 g4 fun j' xs nj hj => by
      by_cases hij : i = j'
      · subst hij
        by_cases hl : i < Γ.length
        · rw [List.getElem?_set_self hl] at hj
          cases hj
        · rw [List.getElem?_eq_none_iff.mpr (by rw [List.length_set]; omega)] at hj
          cases hj
      · rw [List.getElem?_set_ne hij] at hj
        rw [List.getElem?_set_ne hij]
        exact (F.step s1).noOwn g1 hj)⟩
/-! starred things -/
theorem keys_all {K : PySem.W.Frag} {H : Hp} : ∀ {ws : List (Key × V)} {kvs : List (Key × D)}, ws.map Prod.fst = kvs.map Prod.fst → DqAll K H (ws.map fun kv => kV kv.1) (kvs.map fun kv => kD kv.1)
  | [], [], _ => .nil
  | [], _ :: _, e => by cases e
  | _ :: _, [], e => by cases e
  | w :: ws, p :: kvs, e => by
    simp only [List.map_cons, List.cons.injEq] at e
    obtain ⟨e1, e2⟩ := e
    rw [List.map_cons, List.map_cons, ← e1]
    exact .cons (dq_key _) (keys_all e2)
theorem va_starK (h : VD C te Γ kvs) (k : VA C A Γ (Is ds)) : VA C (tStarK te A) Γ (Is ((kvs.map fun kv => kD kv.1) ++ ds)) := fun B H σ F Q q => h B H σ F _ fun a ws B1 H1 s1 r1 e1 k1 => ⟨a, ws, rfl, r1, k B1 H1 σ (F.step s1) _ fun xs vs B2 H2 e2 s2 k2 => by
  cases e2
  exact q _ _ B2 H2 rfl (s1.trans F.dlNow s2) (dpall_app (keys_all e1) k2)⟩
theorem va_starL (h : VV C te Γ (Is (.list es))) (k : VA C A Γ (Is ds)) : VA C (StX.tStar C.K te A) Γ (Is (es ++ ds)) := fun B H σ F Q q => h B H σ F _ fun d v B1 H1 e1 s1 k1 => by
  cases e1
  obtain ⟨a, xs, rfl, h1, h2⟩ := k1.lst (F.step s1).sub
  exact ⟨a, xs, rfl, Or.inr h1, k B1 H1 σ (F.step s1) _ fun ys vs B2 H2 e2 s2 k2 => by
    cases e2
    exact q _ _ B2 H2 rfl (s1.trans F.dlNow s2) (dpall_app (dpall_mono s2.ext h2) k2)⟩
/-- sorted(set(t)), t a tuple of ints -/
theorem vl_sortedSet {w : World} {ns : List Int} (h : VE C te Γ (Is (.tuple (ns.map .int)))) (hn : ns.length < 64) :
    VL C (tCB (rSortedSet w) (tCons (tCB (rSetTI C.K w) (tCons te tNil)) tNil)) Γ (fun ds => ∃ ms : List Int, ds = ms.map .int ∧ ms.Pairwise (· < ·) ∧ ∀ k, k ∈ ms ↔ k ∈ ns) := fun B H σ F Q q => h B H σ F _ fun d v B1 H1 e1 s1 k1 => by
  cases e1
  obtain ⟨a, xs, rfl, h1, h2⟩ := dp_tup k1
  rw [dpall_ints h2] at h1
  have F1 := F.step s1
  refine ⟨a, ns, rfl, same_t F1.sub h1, by omega, fun p c hp hc => ?_⟩
  have s2 : Stp C.dl B1 H1 B1 (upd H1 p (SetO w p (fun j => decide (j ∈ ns)) c)) := Stp.newM F1.sub hp
  have F2 := F1.step s2
  refine ⟨p, _, c, rfl, upd_same, by omega, fun ms r hs hm hl hr => ?_⟩
  have s3 : Stp C.dl B1 (upd H1 p (SetO w p (fun j => decide (j ∈ ns)) c)) B1 (upd (upd H1 p (SetO w p (fun j => decide (j ∈ ns)) c)) r (.lst (ms.map V.int))) := Stp.newM F2.sub hr
  have s := (s1.trans F.dlNow s2).trans F.dlNow s3
  exact q _ r (ms.map V.int) B1 _ ⟨ms, rfl, hs, fun k => by rw [hm k, decide_eq_true_eq]⟩ s (back_none F (s1.trans F.dlNow s2) hr) (F2.sub.free hr) upd_same (dpall_map _ _ (fun x => .int x) ms)
end
end Ly

/-! Lyb: the end of a law whose own def makes lambdas: its code object at c, the table of it at P. -/
namespace Ly
open PySem PySem.Spec PyProof.Rows L2 LamX
/-- the script and the table are tracked at the law's own call -/
abbrev HT (K : PySem.W.Frag) (a : Addr) (o : Obj) (xs : List V) (P : Addr) : Hp := upd (H1 K a o xs) P (.tbl #[])
section
variable {Pg : Program} {w : World} {K : PySem.W.Frag} {mg mb : Str → Option Value} {k : Nat} {fa a c P : Addr} {fd : FuncData} {x : Str} {sp : Sp} {s₁ : Shared} {vs : List Value} {ns : List Int}
theorem law_gT (KX : K.In s₁.heap) (hns : s₁.heap.Ns mainGlobals mg) (hb : s₁.heap.Ns builtinsNs mb) (hbb : ∀ x : Str, x ≠ "__name__" → mb x = bootBuiltins x) (hlim : s₁.heap.NoLimit) (hg : s₁.gens = #[])
    (hT : s₁.heap.get? P = some (PySem.W.tabObj #[])) (nT : K.lookup P = none) (hC : PySem.W.codeHdIn K c P = true)
    (hbm : ∃ (bm : Addr) (ob : Obj), mg "__builtins__" = some (.ref bm) ∧ bm ≠ builtinsNs ∧ s₁.heap.get? bm = some ob ∧ ob.cls = .type "module" ∧ ob.dict = some builtinsNs ∧ ob.data = .plain)
    (ha : s₁.heap.get? a = some { cls := .type "list", data := .seq vs.toArray }) (hi : IntsAre vs ns) (hl : ns.length ≤ sizeLine) (hr : Room k callerA)
    (F : ∀ base : Heap, K.In base → base.Ns mainGlobals mg → TabB base mg c P → GOk Pg w K mg base CX0 k fa fd [x] sp) (hbind : ∀ (s : Shared) (u : Value), BindsTo s fd ⟨[u], []⟩ [(x, u)])
    (hsp : ∀ B H : Hp, Same B H → (∀ b ps, B b ≠ some (.tbl ps)) → H P = some (.tbl #[]) → SqL K B a (ns.map V.int) → sp [.ref a] H (fun v _ => v = .bl true) E0) :
    codeAny (model Pg w) callerA (.call (.ref fa) ⟨[.ref a], []⟩) (fun r s' => r = .ok (.ret (.bool true)) ∧ OldK s₁.heap s'.heap ∧ s'.os = s₁.os ∧ AllBare s'.gens) s₁ := by
  have rv : Vals (ns.map V.int) vs := vals_ints hi
  have lv : vs.length = ns.length := by
    have := rv.length
    rw [List.length_map] at this
    exact this.symm
  let o : Obj := { cls := .type "list", data := .seq vs.toArray }
  let B : Hp := H1 K a o (ns.map V.int)
  let H : Hp := HT K a o (ns.map V.int) P
  have aP : a ≠ P := fun z => by
    rw [← z, ha] at hT
    cases hT
  have BP : B P = none := by
    cases q : B P with
    | none => rfl
    | some u => exact absurd (h1_only q).1 (Ne.symm aP)
  have BH : Same B H := fun b u e => (upd_ne (ne_of_none e BP)).trans e
  have HP : H P = some (.tbl #[]) := upd_same
  have cases_ : ∀ {b : Addr} {u : HO}, H b = some u → (b = P ∧ u = .tbl #[]) ∨ (b = a ∧ b ≠ P ∧ K.lookup a = none ∧ u = .frz o (.lst (ns.map V.int))) := fun {b u} e => by
    by_cases hb : b = P
    · refine Or.inl ⟨hb, ?_⟩
      rw [hb, HP] at e
      cases e
      rfl
    · have e' : B b = some u := (upd_ne hb).symm.trans e
      obtain ⟨h1, h2, h3⟩ := h1_only e'
      exact Or.inr ⟨h1, hb, h2, h3⟩
  have ok : HOk Pg w H s₁.heap := fun b u e => by
    rcases cases_ e with ⟨rfl, rfl⟩ | ⟨rfl, _, _, rfl⟩
    · exact hT
    · exact ⟨ha, by rw [List.length_map]; exact hl, vs, _, rv, ha⟩
  have sq : SqL K B a (ns.map V.int) := by
    cases e : K.lookup a with
    | none => exact Or.inl (Or.inr ⟨o, h1_at e⟩)
    | some u =>
      have e2 := KX a u e
      rw [ha] at e2
      cases e2
      exact Or.inr ⟨_, vs.toArray, _, e, rfl, rfl, rfl, by rw [List.size_toArray, lv]; exact hl, by simpa using rv⟩
  have clear : ∀ {b : Addr} {u : Obj}, s₁.heap.get? b = some u → (∀ is n, u.data ≠ .seq is n) → u.data ≠ .fields #[] → H b = none := fun {b u} e n1 n2 => by
    cases q : H b with
    | none => rfl
    | some v =>
      rcases cases_ q with ⟨rfl, _⟩ | ⟨rfl, _⟩
      · rw [hT] at e
        cases e
        exact absurd rfl n2
      · rw [ha] at e
        cases e
        exact absurd rfl (n1 _ _)
  have ns1 : ∀ {b : Addr} {m : Str → Option Value}, s₁.heap.Ns b m → (hidT s₁.heap H).Ns b m := by
    rintro b m ⟨u, es, ep, e, d, r⟩
    refine ⟨u, es, ep, hidT_get e (clear e (fun is n z => ?_) fun z => ?_), d, r⟩
    · rw [d] at z; cases z
    · rw [d] at z; cases z
  have kin : K.In (hidT s₁.heap H) := fun b u e => hidT_get (KX b u e) (by
    cases q : H b with
    | none => rfl
    | some v =>
      rcases cases_ q with ⟨rfl, _⟩ | ⟨rfl, _, z, _⟩
      · rw [nT] at e
        cases e
      · rw [z] at e
        cases e)
  have tb : TabB (hidT s₁.heap H) mg c P := by
    refine ⟨PySem.W.codeHd_of_K kin hC, ?_, fun z => ?_⟩
    · obtain ⟨bm, ob, m1, m2, m3, m4, m5, m6⟩ := hbm
      refine ⟨bm, ob, m1, m2, fun z => ?_, fun z => ?_, hidT_get m3 (clear m3 (fun is n z => ?_) fun z => ?_), m4, m5, m6⟩
      · obtain ⟨u, es, ep, e, d, _⟩ := hns
        rw [← z, m3] at e
        cases e
        rw [m6] at d
        cases d
      · rw [z, hT] at m3
        cases m3
        cases m6
      · rw [m6] at z; cases z
      · rw [m6] at z; cases z
    · obtain ⟨u, es, ep, e, d, _⟩ := hns
      rw [z, hT] at e
      cases e
      cases d
  obtain ⟨mc, hc1, hc2⟩ := hlim
  have hm : Mod K mg (hidT s₁.heap H) := ⟨kin, ns1 hns, ⟨mb, ns1 hb, hbb⟩, mc, ns1 hc1, hc2⟩
  have none_in : ∀ b : Addr, b ∉ frs ([] : List Env) := fun b hb => nomatch hb
  have e0 : Env0 Pg w K mg (hidT s₁.heap H) callerA [] s₁ H :=
    { frames := rfl, mod := hm, bs := fun b u e => of_hidT e, bsz := Nat.le_of_eq (hidT_size _ _), funs := trivial, frf := fun b hb => absurd hb (none_in b), hok := ok, bare := .of_eq hg }
  have nt : ∀ b ps, B b ≠ some (.tbl ps) := fun b ps z => by
    have := (h1_only z).2.2
    cases this
  refine codeAny_mono ((F _ kin (ns1 hns) tb).does (us := [.ref a]) (vs := [.ref a]) (E := E0) rfl hr e0 (hbind s₁ (.ref a)) (.cons rfl .nil) (hsp B H BH nt HP sq)) fun r s' h => ?_
  cases r with
  | error e => exact False.elim h
  | ok fl =>
    cases fl with
    | next => exact False.elim h
    | brk => exact False.elim h
    | cont => exact False.elim h
    | ret u =>
      obtain ⟨v, H', os, bare, un, ok', rr, q⟩ := h
      obtain rfl : v = .bl true := q
      obtain rfl : u = Value.bool true := rr
      obtain ⟨more, hmore⟩ := un.tbls P #[] HP
      have hP' : s'.heap.get? P = some (PySem.W.tabObj more) := by
        have z := ok' P _ hmore
        rw [Array.empty_append] at z
        exact z
      have rest : ∀ b u, b ≠ P → s₁.heap.get? b = some u → s'.heap.get? b = some u := fun b u hb e => by
        cases q : H b with
        | none => exact un.keep b u e q (none_in b) (fun z => nomatch z)
        | some y =>
          rcases cases_ q with ⟨z, _⟩ | ⟨rfl, _, _, rfl⟩
          · exact absurd z hb
          · obtain ⟨e2, _⟩ := ok' b _ (un.frzs b _ _ q)
            rw [e2, ← e, ha]
      refine ⟨rfl, ⟨fun b u e => ?_, fun b u e => ?_⟩, os, bare⟩
      · by_cases hb : b = P
        · subst hb
          rw [hT] at e
          cases e
          exact .inr (.inl ⟨((PySem.W.codeHd_of_K KX hC).tab hT).isCodeTable, rfl, #[], more, rfl, by rw [Array.empty_append]; exact hP'⟩)
        · exact .inl (rest b u hb e)
      · by_cases hb : b = P
        · subst hb
          exact ⟨_, hP'⟩
        · exact ⟨u, rest b u hb e⟩
end
/-- what the head must tell of a law whose def makes lambdas -/
structure LamLaw (K : PySem.W.Frag) (fa : Addr) (c P : Addr) : Prop where
  code : ∃ (o : Obj) (fd : FuncData) (e : Value) (dd : Option Addr) (vs : Array Value) (sl : Array (Option Value)), K.lookup fa = some o ∧ o.data = .func fd ∧ fd.code = .ref c ∧ K.lookup c = some ⟨e, dd, .fields vs, sl⟩ ∧ vs[11]? = some (.ref P)
  no : K.lookup P = none
  hd : PySem.W.codeHdIn K c P = true
theorem walk_gT {l : PySem.W.OpenLaw} {n k : Nat} {q : Program} {loose : List Str} {XP : (Str → Option Value) → Heap → Prop} {YP : World → Heap → Prop} {d : DefRec} {K : Params → PySem.W.Frag} {sp : PySem.W.Frag → Addr → Sp} {x : Str}
    (hn : l.most = some n) (hn2 : n ≤ sizeLine) (hdf : d.params.defaults = []) (hr : Room k callerA) (hrec : ((recsOf q).any fun e => e.name == d.name) = true)
    (hY : ∀ (w : World) (h : Heap), YP w h → (K w.params).In h)
    (F : ∀ (w : World) (mg : Str → Option Value) (fa : Addr) (h : Heap), (K w.params).In h → h.Ns mainGlobals mg → mg d.name = some (.ref fa) →
      ∃ (fd : FuncData) (c P : Addr), LamLaw (K w.params) fa c P ∧ (∀ (s : Shared) (u : Value), BindsTo s fd ⟨[u], []⟩ [(x, u)]) ∧
        ∀ base : Heap, (K w.params).In base → base.Ns mainGlobals mg → TabB base mg c P → GOk l.prog w (K w.params) mg base CX0 k fa fd [x] (sp (K w.params) P))
    (hsp : ∀ (K : PySem.W.Frag) (P : Addr) (B H : Hp) (a : Addr) (ns : List Int), ns.length ≤ n → Same B H → (∀ b ps, B b ≠ some (.tbl ps)) → H P = some (.tbl #[]) → SqL K B a (ns.map V.int) → sp K P [.ref a] H (fun v _ => v = .bl true) E0) :
    PySem.W.WalkO q loose XP YP l.row.toRowW d [] (fun f vs => PySem.call f vs) := by
  apply Att.attach_callB hn hdf
  intro w s₀ s₁ mg mb fa o pm cd doc a vs ns G Y ho hd hcd hmg hobj hints hlen _ hg
  obtain ⟨fd, c, P, L, hb, hF⟩ := F w mg fa _ (hY w _ Y) G.T.g hmg
  have KX := hY w _ Y
  have hT : s₁.heap.get? P = some (PySem.W.tabObj #[]) := by
    obtain ⟨o1, fd1, e, dd, vs1, sl, g1, g2, g3, g4, g5⟩ := L.code
    obtain ⟨r, hr1, hr2⟩ := List.any_eq_true.mp hrec
    have er : r.name = d.name := beq_iff_eq.mp hr2
    obtain ⟨a2, o2, fd2, c2, P2, t1, t2, t3, t4, t5, t6⟩ := G.T.tab r hr1
    rw [er, hmg] at t1
    cases t1
    have z1 := (KX _ _ g1).symm.trans t2
    cases z1
    have z2 := g2.symm.trans t3
    cases z2
    have z3 := g3.symm.trans t4
    cases z3
    obtain ⟨⟨oc, vc, y1, _, y3, y4⟩, y5⟩ := t6
    have z4 := (KX _ _ g4).symm.trans y1
    cases z4
    cases y3
    have z5 := g5.symm.trans y4
    cases z5
    exact y5
  exact law_gT KX G.T.g G.T.b G.T.builtins G.T.nolimit hg hT L.no L.hd G.T.bmain hobj hints (Nat.le_trans hlen hn2) hr hF hb fun B H e nt hP hS => hsp _ P B H a ns hlen e nt hP hS
/-- such a law's own promise -/
def LwT (K : PySem.W.Frag) (P : Addr) : Sp := fun vs H Q _ => ∃ (a : Addr) (ns : List Int) (B : Hp), vs = [.ref a] ∧ Same B H ∧ (∀ b ps, B b ≠ some (.tbl ps)) ∧ H P = some (.tbl #[]) ∧ SqL K B a (ns.map V.int) ∧ ns.length ≤ 63 ∧ ∀ H', Q (.bl true) H'
section
variable {P0 : Program} {w : World} {K : PySem.W.Frag} {mg : Str → Option Value} {base : Heap} {k : Nat} {f P : Addr} {fd : FuncData} {N : List Str} {x qual : Str} {st : Stmt}
theorem fm_lawT {K : PySem.W.Frag} {B H : Hp} {a : Addr} {xs : List V} {N : List Str} {n : Nat} (e : Same B H) (hS : SqL K B a xs) (hn : 1 + n = N.length) : Fm ⟨K, B, H, none⟩ B H (L2.start N [.ref a]) (.rd xs :: List.replicate n .no) := by
  have no : ∀ (i : Nat) sl, (List.replicate n Sl.no)[i]? = some sl → sl = .no := fun i sl h => by
    rw [List.getElem?_replicate] at h
    split at h
    · exact (Option.some.inj h).symm
    · cases h
  refine ⟨Stp.refl e, (fun p q e => nomatch e), ?_, fun i sl h => ?_, fun i j p ds es h => ?_⟩
  · rw [start_len (by rw [List.length_singleton]; omega), List.length_cons, List.length_replicate]
    omega
  · cases i with
    | zero =>
      cases h
      exact ⟨a, rfl, hS⟩
    | succ i =>
      rw [no i sl h]
      trivial
  · cases i with
    | zero => cases h
    | succ i => cases no i _ h
theorem law_okT (n : Nat) (F : Fun K x qual st f fd) (S : FnScope N ["script"] (defScope st)) (hn : 1 + n = N.length)
    (body : ∀ (cdv : Value) (A : Around) (outer : List Env) (s : Shared) (H : Hp) (E : XK), fd.code = cdv → (cxOf CX0 P0 w K mg base N qual (defScope st) f cdv A outer s H E).A.guards = some [] → Room k (cxOf CX0 P0 w K mg base N qual (defScope st) f cdv A outer s H E).A →
      ∃ t, PSs (cxOf CX0 P0 w K mg base N qual (defScope st) f cdv A outer s H E).nox (defBody st) t ∧
        ∀ B H (ns : List Int), ns.length ≤ 63 → Same B H → (∀ b ps, B b ≠ some (.tbl ps)) → TabS H P qLam → VS ⟨K, B, H, none⟩ t (.rd (ns.map V.int) :: List.replicate n .no) { nx := fun _ => False, rt := Is (.bool true) }) :
    GOk P0 w K mg base CX0 (k + 1) f fd ["script"] (LwT K P) := by
  obtain ⟨_, _, _, _, _, _, _, _, _, hfd, _⟩ := F.ex
  refine gok_ofC F S (fun {vs H Q E} ⟨a, ns, B, e, _⟩ => by rw [e]; rfl) fun cdv A outer s H vs Q E hcode hg hr ⟨a, ns, B, e, eB, nt, hP, hS, hl, hq⟩ => ?_
  subst e
  obtain ⟨t, ht, hv⟩ := body cdv A outer s H E hcode hg hr
  refine ⟨t, ht.nox, hv B H ns hl eB nt (TabS.nil hP) B H _ _ (fm_lawT eB hS hn) (fun _ _ _ _ e => e.elim) ?_ (fun _ _ _ _ e => e.elim) fun _ _ _ _ e => e.elim⟩
  intro d v B' H' e _ kd
  cases e
  obtain rfl := dp_bl kd
  exact hq H'
end
end Ly

/-! Lyc: own exception classes as the head tells them; raise; promises of two ways out by a parameter. -/
namespace Ly
open PySem PySem.Spec PyProof.Rows L2 NdefX
/-- an own exception class behind the top, with its __init__(self, fld) -/
structure XT (P : Program) (K : PySem.W.Frag) (mg : Str → Option Value) (name fld : Str) where
  C : Addr
  fI : Addr
  fdI : FuncData
  m : mg name = some (.ref C)
  x : XC K C C fld
  init : ∀ (w : World) (base : Heap), FnOk P w K mg base CX0 1 fI fdI (pAt fld) (SpAt K C fld)
  fi : PySem.W.findIn K (.ref C) "__init__" = some (some (.ref fI))
  ti : PySem.W.typeIn K (.ref fI) = some (.type "function")
  b : Binds K fdI (pAt fld) []
  f : XfC K C
  ex : PySem.W.exmOne K (.ref C) (.ref C) = some true
def xt_mk {P : Program} {K : PySem.W.Frag} {h : Heap} {mg : Str → Option Value} {name fld : Str} (X : K.In h) (G : h.Ns mainGlobals mg)
    {C f cda cc : Addr} {qual msg file nm q : Str} {params : Arguments} {scope : Scope} {dV kV doc pm ct oc ccl cl : Value} {an od cdd cld : Option Addr} {osl ccs csl : Array (Option Value)} {vs0 : Array Value} {tf : Tok} {j : Nat} {p0 p1 p2 p3 p4 q0 q1 q2 q3 q4 : Pos} {ar : Arg} {cdD : ClassData}
    {N : Addr} {bs bm : List Value} {sn : List Str} {sub : List Value} {ab : Bool} {col : Option Bool} {dd : Option Addr} {k0 k1 k2 k3 k5 : Option Value}
    (ca : PySem.W.nsIn K mainGlobals name = some (some (.ref C)))
    (cl0 : K.lookup C = some (excClassObj nm q C N bs bm true sn sub ab col dd k0 k1 k2 k3 k5 "ValueError.__new__")) (cbm : PySem.HandSPX.refsVE bm = true)
    (csa : PySem.W.findIn K (.ref C) "__setattr__" = some (some (.builtin "object.__setattr__"))) (cex : PySem.W.subIn K (.ref C) (.type "BaseException") = some true) (cty : PySem.W.typeIn K (.ref C) = some (.type "type")) (ck : PySem.W.keepIn K (.ref C) = true)
    (cmr : PySem.W.mroIn K C (.ref C) = some true) (csu : PySem.W.ks_superIn K C C "__init__" = some (some (.builtin "ValueError.__init__"))) (cve : PySem.W.subIn K (.ref C) (.type "ValueError") = some true) (cno : PySem.W.findIn K (.ref C) fld = some none)
    (cfi : PySem.W.findIn K (.ref C) "__init__" = some (some (.ref f))) (cti : PySem.W.typeIn K (.ref f) = some (.type "function"))
    (cga : PySem.W.findIn K (.ref C) "__getattribute__" = some (some (.builtin "BaseException.__getattribute__"))) (cgg : PySem.W.findIn K (.ref C) "__getattr__" = some none) (chd : PySem.W.hasDictIn K C = true) (css : PySem.W.subIn K (.ref C) (.ref C) = some true)
    (clk : K.lookup f = some ⟨oc, od, .func (PySem.W.fnX "__init__" qual params [stSup p0 p1 p2 p3 p4 q0 msg j, stAt q1 q2 q3 q4 fld] scope [(("__class__" : Str), cc)] dV kV doc pm an (.ref cda) ct), osl⟩) (ccd : PySem.W.codeIn K (.ref cda) qual = true)
    (cS : nscB (nAt fld) (pAt fld) fAt scope = true) (cp : (params.posonlyargs ++ params.args).head? = some ar) (car : ar.arg = ("self" : Str))
    (cda0 : K.lookup cda = some ⟨ccl, cdd, .fields vs0, ccs⟩) (cvs : vs0[2]? = some (.str file tf)) (cfile : ((P.main.file : Str) == file) = true) (ccell : K.lookup cc = some ⟨cl, cld, .cell (some (.ref C)), csl⟩)
    (ccl0 : PySem.W.clsIn K C = some cdD) (cms : PySem.W.nsIn K mainGlobals "super" = some none) (cks : scope.names.lookup ("super" : Str) = some .globalImplicit) (ctop : (P.main.scope.names.lookup ("super" : Str)).isSome = false) (cno3 : PySem.W.nsIn K cStatics "thirdparty.any" = some none)
    (cb : ∀ us : List Value, us.length = 2 → bindArgs (PySem.W.fnX "__init__" qual params [stSup p0 p1 p2 p3 p4 q0 msg j, stAt q1 q2 q3 q4 fld] scope [(("__class__" : Str), cc)] dV kV doc pm an (.ref cda) ct) ⟨us, []⟩ = pure ((pAt fld).zip us))
    (chc : ∀ env : Env, ∃ pl : Sem Bool, eval (.Call (.Attribute (.Call (.Name "super" p0) [] [] p1) "__init__" p2) [.Constant (.str msg) j p3] [] p4) env = (do
      let ov ← attributeBase (.Call (.Name "super" p0) [] [] p1) "__init__" env (eval (.Call (.Name "super" p0) [] [] p1) env)
      standAt p2.atName
      let (f, first) ← holding [ov] (getMethod ov "__init__" pl)
      callWith p4 f first (backTo p4 (starEach [.Constant (.str msg) j p3] env)) []))
    (chs1 : ∀ env : Env, swapsWith (.Call (.Attribute (.Call (.Name "super" p0) [] [] p1) "__init__" p2) [.Constant (.str msg) j p3] [] p4) none q0.line env = pure false)
    (chs2 : ∀ env : Env, swapsWith (.Name fld q3) (some (.Attribute (.Name "self" q1) fld q2)) q4.line env = pure false)
    (hd1 : (fld == ("__debug__" : Str)) = false := by decide) (hd2 : (fld == ("__classdict__" : Str)) = false := by decide) (hne : ("__class__" : Str) ≠ fld := by decide) : XT P K mg name fld where
  C := C
  fI := f
  fdI := _
  m := PySem.W.mg_of X G ca
  x := ⟨⟨⟨nm, q, N, bs, bm, sn, sub, ab, col, dd, k0, k1, k2, k3, k5, cl0, cbm⟩, csa, cex, cty, ck⟩, cmr, csu, cve, cno⟩
  init := fun w base => oinit_fn (k := 0) clk ccd (nscope_by cS) cp car cda0 cvs cfile ccell ccl0 (PySem.W.mg_none_of X G cms) cks ctop cno3 hd1 hd2 hne chc chs1 chs2
  fi := cfi
  ti := cti
  b := Binds.all cb
  f := ⟨cga, cgg, cex, chd⟩
  ex := PySem.W.exm_ref cex chd cty css
/-- raise C(e) -/
def tRz (K : PySem.W.Frag) (C : Addr) (fld : Str) (ta : TA) (E : XK) : TS := fun _ σ H => tMkO C (SpAt K C fld) [] ta σ H fun cls d H' => E cls d H'
theorem ps_raiseX {X : Cx} {name fld : Str} {E : XK} {e : Expr} {es : List Expr} {ta : TA} {p pos pos' : Pos} (T : XT X.prog X.K X.mg name fld) (tk : Takes X (fun cls d _ H => E cls d H)) (hr : Room 2 X.A) (hg : Gl X name) (ha : PA X (e :: es) ta)
    (hc : X.calm = true := by rfl) (hdb : (name == ("__debug__" : Str)) = false := by decide) (he : starEach (e :: es) X.env = (false, eval e X.env) :: starEach es X.env := by rfl) (hpl : (backTo pos (starEach es X.env)).any (·.1) = false := by rfl) :
    PS X (.Raise (some (.Call (.Name name p) (e :: es) [] pos)) none pos') (tRz X.K T.C fld ta E) :=
  ps_raise hc tk (pmk_oex (X := X) T.x.o T.fi T.ti (T.init X.w X.base) hr T.b .nil pass0 hg T.m ha hdb he hpl)
section
variable {c : Cn} {ta : TA} {Γ : List Sl} {po : Po} {P : Program} {mg : Str → Option Value} {name fld : Str} {n : D} {E : XK}
/-- what E takes: an exception of the class at C whose field is told -/
def Tks (c : Cn) (C : Addr) (fld : Str) (W : D → Prop) (E : XK) : Prop := ∀ n dx v B' H', W n → Stp c.dl c.B c.H B' H' → H' dx = some (.xd [(fld, v)]) → Dq c.K B' v n → E (.ref C) (some dx) H'
theorem vs_rz {W : D → Prop} (T : XT P c.K mg name fld) (t : Tks c T.C fld W E) (h : VA c ta Γ (Is [n])) (w : W n) : VS c (tRz c.K T.C fld ta E) Γ po :=
  vs_raise T.x h fun dx v B' H' s hd k => t n dx v B' H' w s hd k
end
/-- data in by a parameter; two ways out -/
def Pxa {α : Type} (K : PySem.W.Frag) (C : Addr) (fld : Str) (Ar : α → List D) (P : α → Prop) (R : α → D → Prop) (W : α → D → Prop) : Sp :=
  fun vs H Q E => ∃ B a, Same B H ∧ DqAll K B vs (Ar a) ∧ P a ∧ (∀ d v B' H', R a d → Stp none B H B' H' → Dq K B' v d → Q v H') ∧ ∀ n dx v B' H', W a n → Stp none B H B' H' → H' dx = some (.xd [(fld, v)]) → Dq K B' v n → E (.ref C) (some dx) H'
section
variable {α : Type} {P0 : Program} {w : World} {K : PySem.W.Frag} {mg : Str → Option Value} {base : Heap} {k : Nat} {f C : Addr} {fd : FuncData} {ps N : List Str} {x qual fld : Str} {st : Stmt} {Ar : α → List D} {P : α → Prop} {R W : α → D → Prop}
theorem pxa_ok (n : Nat) (F : Fun K x qual st f fd) (S : FnScope N ps (defScope st)) (hl : ∀ a, (Ar a).length = ps.length) (hn : ps.length + n = N.length)
    (body : ∀ (cdv : Value) (A : Around) (outer : List Env) (s : Shared) (H : Hp) (E : XK), (cxOf (L2.CX P0 w) P0 w K mg base N qual (defScope st) f cdv A outer s H E).A.guards = some [] → Room k (cxOf (L2.CX P0 w) P0 w K mg base N qual (defScope st) f cdv A outer s H E).A →
      Takes (cxOf (L2.CX P0 w) P0 w K mg base N qual (defScope st) f cdv A outer s H E) (fun cls d _ H => E cls d H) →
      ∃ t, PSs (cxOf (L2.CX P0 w) P0 w K mg base N qual (defScope st) f cdv A outer s H E) (defBody st) t ∧ ∀ B H a, P a → Tks ⟨K, B, H, none⟩ C fld (W a) E →
        VS ⟨K, B, H, none⟩ t (slots (Ar a) n) { nx := fun _ => R a .none, rt := R a }) :
    GOk P0 w K mg base (L2.CX P0 w) (k + 1) f fd ps (Pxa K C fld Ar P R W) := by
  refine gok_of F S (fun {vs H Q E} ⟨B, a, _, h1, h2, _⟩ => (dpall_len h1).trans (hl a)) fun cdv A outer s H vs Q E hg hr ⟨B, a, hs, h1, h2, hq, he⟩ => ?_
  obtain ⟨t, ht, hv⟩ := body cdv A outer s H E hg hr (takes_of rfl rfl rfl rfl)
  refine ⟨t, ht, hv B H a h2 he B H (L2.start N vs) _ (fm_start hs h1 (by rw [hl a]; exact hn)) ?_ ?_ (fun _ _ _ _ e => e.elim) fun _ _ _ _ e => e.elim⟩
  · exact fun Γ' B' H' σ' r _ F' => hq _ _ B' H' r F'.st .non
  · exact fun d v B' H' r s' kd => hq d v B' H' r s' kd
end
section
variable {α : Type} {C0 : Cn} {A A' : TA} {Γ : List Sl} {C : Addr} {fld : Str} {Ar : α → List D} {P : α → Prop} {R W : α → D → Prop} {ds es : List D} {gV : List V → List V → List V} {E : XK} {a : α}
theorem vx_a2 (a : α) (gD : List D → List D → List D) (h : VA C0 A Γ (Is ds)) (h' : VA C0 A' Γ (Is es)) (hg : ∀ B vs zs ds es, DqAll C0.K B vs ds → DqAll C0.K B zs es → DqAll C0.K B (gV vs zs) (gD ds es)) (e : gD ds es = Ar a) (hP : P a) :
    VX C0 C fld (fun E => tCallK (Pxa C0.K C fld Ar P R W) gV E A A') Γ (R a) (W a) := fun B H σ F Q E q ex =>
  h B H σ F _ fun xs vs B1 H1 e1 s1 k1 => h' B1 H1 σ (F.step s1) _ fun ys zs B2 H2 e2 s2 k2 => by
    cases e1
    cases e2
    have F2 := (F.step s1).step s2
    have s12 := s1.trans F.dlNow s2
    exact ⟨B2, a, F2.sub, e ▸ hg B2 vs zs ds es (dpall_mono s2.ext k1) k2, hP, fun d v B3 H3 r3 s3 k3 => q d v B3 H3 r3 (s12.trans F.dlNow s3.any) k3,
      fun n dx v B3 H3 w3 s3 hd k3 => ex n dx v B3 H3 w3 (s12.trans F.dlNow s3.any) hd k3⟩
theorem vx_a (a : α) (h : VA C0 A Γ (Is (Ar a))) (hP : P a) : VX C0 C fld (fun E => tCallK (Pxa C0.K C fld Ar P R W) (fun vs _ => vs) E A tNil) Γ (R a) (W a) :=
  vx_a2 a (fun ds _ => ds) h va_nil (fun _ _ _ _ _ k _ => k) rfl hP
/-- within a def that lets the same out -/
theorem ve_xa {W1 : D → Prop} (a : α) (h : VA C0 A Γ (Is (Ar a))) (hP : P a) (t : Tks C0 C fld W1 E) (i : ∀ n, W a n → W1 n) : VE C0 (tCallK (Pxa C0.K C fld Ar P R W) (fun vs _ => vs) E A tNil) Γ (R a) := fun B H σ F Q q =>
  vx_a (C0 := C0) (R := R) (W := W) a h hP B H σ F Q E q fun n dx v B' H' wn s hd k => t n dx v B' H' (i n wn) (F.st.trans (fun p q e => (F.dl p q e).1) s) hd k
end
end Ly

/-! Lyd: enumerate(a tuple); a lambda handed to a def, by what the head tells of that def. -/
namespace Ly
open PySem PySem.Spec PyProof.Rows L2 LamX
/-! ### enumerate of a tuple -/
set_option maxHeartbeats 1000000 in
theorem meets_enumB {v : Value} {o : Obj} {H : Heap → Prop} (B : Begins v o H) :
    Meets (Builtin.«enumerate.__new__» ⟨[.type "enumerate", v], []⟩) (fun _ R s => H s.heap ∧
      R (.ok (.ret (.ref (s.heap.push o).objs.size))) { s with heap := (s.heap.push o).push { cls := .type "enumerate", data := .fields #[.none, .bool false, .ref s.heap.objs.size, rawInt 0, .none, .none] } }) := by
  refine .of_wp ?_
  rintro prog w A R ⟨hp, g, d, tk, os⟩ ⟨b, r⟩
  have sub := sub_enumerate
  have go : ∀ {A' : Around} {E : Value → Shared → Prop} {Q : Value → Shared → Prop}, Q (.ref hp.objs.size) ⟨hp.push o, g, d, tk, os⟩ → wpAny (model prog w) A' (pyIter v) Q E ⟨hp, g, d, tk, os⟩ := fun q => B.iter prog w _ _ ⟨hp, g, d, tk, os⟩ _ b q
  wp_walk using go
  refine wpAny_stack_any fun _ => wpAny_pure ?_
  split
  · rename_i cl _ _ _ _ _
    cases (cl == Value.type "enumerate") <;> (wp_walk using go; exact ⟨_, rfl, r⟩)
  · wp_walk using go
    exact ⟨_, rfl, r⟩
theorem call_enumB {prog : Program} {w : World} {A : Around} {E : Value → Shared → Prop} {s : Shared} {v : Value} {o : Obj} {H : Heap → Prop} {Q : Value → Shared → Prop} (B : Begins v o H) (h1 : H s.heap)
    (h : ∀ h', IsEnum h' (s.heap.objs.size + 1) s.heap.objs.size 0 .none → h'.get? s.heap.objs.size = some o → (∀ b o, s.heap.get? b = some o → h'.get? b = some o) → Q (.ref (s.heap.objs.size + 1)) { s with heap := h' }) :
    wpAny (model prog w) A (call (.type "enumerate") [v]) Q E s := by
  have hz : (s.heap.push o).objs.size = s.heap.objs.size + 1 := Heap.size_push ..
  apply callType_new F.called_enumerate (by decide) (F.typeCall_enumerate_1 _) (F.newCall_enumerate_1 _) (fun obj => F.args_object_init_2 obj _) F.entry_enumerate_new (meets_enumB B)
  refine ⟨h1, ?_⟩
  show _ ∧ _
  have he := Heap.get?_push_size (s.heap.push o) (o := { cls := .type "enumerate", data := .fields #[.none, .bool false, .ref s.heap.objs.size, rawInt 0, .none, .none] }) rfl
  rw [hz] at he ⊢
  exact ⟨⟨_, he, rfl⟩, h _ he (Heap.get?_push_of_some _ (Heap.get?_push_size _ B.free)) fun b u e => Heap.get?_push_of_some _ (Heap.get?_push_of_some _ e)⟩
def ItT (K : PySem.W.Frag) (a : Addr) : It :=
  ⟨fun i H => ∃ (xs : List V) (x : V), SqT K H a xs ∧ xs[i]? = some x, fun i H v H' => ∃ T x, v = .ref T ∧ H T = none ∧ H' = upd H T (.tup [.int (i : Nat), x]) ∧ ∀ xs, SqT K H a xs → xs[i]? = some x, fun i H => ∃ xs : List V, SqT K H a xs ∧ xs.length = i⟩
theorem walk_enumT {K : PySem.W.Frag} {a : Addr} {xs : List V} : Walk (ItT K a) xs.length (fun H => SqT K H a xs) (fun i H v H' => ∃ T x, v = .ref T ∧ H T = none ∧ H' = upd H T (.tup [.int (i : Nat), x]) ∧ xs[i]? = some x) :=
  ⟨fun i _ hi q => ⟨xs, xs[i], q, List.getElem?_eq_getElem hi⟩, fun _ q => ⟨xs, q, rfl⟩, fun i H v H' _ q ⟨T, x, h1, h2, h3, h4⟩ => ⟨T, x, h1, h2, h3, h4 xs q⟩⟩
theorem turn_enumT {P : Program} {w : World} {K : PySem.W.Frag} {elts : List Expr} {kk : Nat} {tpos : Pos} (a e it : Addr) (hae : a ≠ e) (hai : a ≠ it) :
    Turn P w K (.Tuple elts kk tpos) (ItT K a) [e, it] e (fun i h => (∃ old, IsEnum h e it ((i : Nat) : Int) old) ∧ h.IsTupleIter it a i ∧ e ≠ it) := by
  refine ⟨by simp, ?_, ?_, ?_, ?_, ?_⟩
  · rintro i h ⟨⟨old, he⟩, ⟨o, ho, hc, hd⟩, _⟩ b hb
    rcases List.mem_cons.mp hb with rfl | hb
    · exact ⟨_, he, fun v q => nomatch q⟩
    · rw [List.mem_singleton] at hb
      subst hb
      exact ⟨o, ho, fun v q => by rw [hd] at q; cases q⟩
  · rintro i h h' ⟨⟨old, he⟩, ⟨o, ho, r⟩, hne⟩ k
    exact ⟨⟨old, k e (by simp) _ he⟩, ⟨o, k it (by simp) o ho, r⟩, hne⟩
  · rintro X rfl rfl rfl hc i pins s σ H E I hf ⟨⟨old, he⟩, hit, hne⟩ ⟨xs, x, hq, hx⟩
    obtain ⟨its, rv, p, hz⟩ := I.tuple hq
    obtain ⟨u, hu, ru⟩ := rv.get hx
    have hlt : i < its.toArray.size := by
      have := (List.getElem?_eq_some_iff.mp hu).1
      simpa using this
    have hel : e < s.heap.objs.size := Heap.lt_size he
    have hil : it < s.heap.objs.size := by
      obtain ⟨_, q, _⟩ := hit
      exact Heap.lt_size q
    refine wpAny_pyNext_enum_itemD (Draws.tuple (by simpa using I.ok.hd hc) it a hai its.toArray) he ⟨hit, p⟩ hlt hne (fun z => ?_) fun y h' tk hP ho hit' hT hsz hk => ?_
    · rcases List.mem_cons.mp z with z | z
      · exact hne z
      · exact hae (List.mem_singleton.mp z).symm
    have ey : y = u := by
      have : its[i]? = some y := by simpa using hP
      rw [hu] at this
      exact (Option.some.inj this).symm
    subst ey
    refine ⟨_, rfl, wpAny_letOwnedTupleGo_enum (s := { s with heap := h', toks := tk + 1 }) ho fun h'' he' sb => ?_⟩
    have hT2 := (sb.2 s.heap.objs.size (Nat.ne_of_gt hel)).trans hT
    have new : ObjOk X.prog X.w (upd H s.heap.objs.size (.tup [.int (i : Nat), x])) h'' s.heap.objs.size (.tup [.int (i : Nat), x]) :=
      ⟨by show 2 ≤ sizeLine; decide, _, .cons ⟨_, rfl⟩ (.cons ru .nil), ⟨_, hT2, rfl, _, rfl⟩⟩
    have J := I.turnedNew (ch := [e, it]) (t' := tk + 1) (fun b ob hb q => (sb.2 b (fun y => hb (by simp [y]))).trans (hk b ob (fun y => hb (by simp [y])) (fun y => hb (by simp [y])) q)) hf (Nat.le_refl _) new
    refine ⟨.ref s.heap.objs.size, _, J, rfl, ⟨_, x, rfl, I.hok.fresh (Nat.le_refl _), rfl, fun ys hy => by rw [I.tuple_inj hy hq]; exact hx⟩, ⟨⟨y, ?_⟩, ?_, hne⟩, fun b hb => ?_⟩
    · rw [show ((i + 1 : Nat) : Int) = (i : Int) + 1 by omega]
      exact he'
    · obtain ⟨⟨o, ho', r⟩, _⟩ := hit'
      exact ⟨o, (sb.2 it (Ne.symm hne)).trans ho', r⟩
    · have hb' : b < s.heap.objs.size := by
        rcases List.mem_cons.mp hb with y | y
        · rw [y]
          exact hel
        · rw [List.mem_singleton.mp y]
          exact hil
      rw [upd_ne (Nat.ne_of_lt hb')]
      exact (hf b hb).1
  · rintro X rfl rfl rfl hc i pins s σ H E I hf ⟨⟨old, he⟩, hit, hne⟩ ⟨xs, hq, hx⟩
    obtain ⟨its, rv, p, hz⟩ := I.tuple hq
    obtain ⟨f0, f1, f2, f3, f4, f5⟩ := hf it (by simp)
    have hl : i = its.toArray.size := by
      rw [List.size_toArray, ← rv.length]
      exact hx.symm
    subst hl
    exact wpAny_pyNext_enum_endD (Draws.tuple (by simpa using I.ok.hd hc) it a hai its.toArray) he ⟨hit, p⟩ fun h' eb => ⟨rfl, I.turned (t' := s.toks) (fun b o hb q => eb b o hb q) f0 f1 f3 f4 f5⟩
  · rintro A i s Q E ⟨⟨_, he⟩, _⟩ h
    exact wpAny_pyIter_enum he h
def iEnumT (K : PySem.W.Frag) (ta : TA) : TI := fun σ H R => ta σ H fun vs H1 => ∃ a xs, vs = [.ref a] ∧ SqT K H1 a xs ∧ R (ItT K a) H1
theorem pi_enumT {X : Cx} {e : Expr} {ta : TA} {p pos tpos : Pos} {elts : List Expr} {kk : Nat} (hg : Gl X "enumerate") (hm : X.mg "enumerate" = none) (ha : PA X [e] ta) (hs : starEach [e] X.env = [(false, eval e X.env)] := by rfl) :
    PI X (.Tuple elts kk tpos) (.Call (.Name "enumerate" p) [e] [] pos) (iEnumT X.K ta) := by
  constructor
  intro pins s σ H R I h
  refine Call_ (ld_blt I hg hm boot_enumerate ?_)
  refine PyProof.Rows.callWith_type1 ?_ hs rfl
  refine thn (ha.run pos pins s σ H _ I h) ?_
  rintro us s1 ⟨vs, H1, I1, r1, a, xs, ex, hq, q⟩
  subst ex
  obtain ⟨u, rfl, ru⟩ := vals1 r1
  obtain rfl : u = Value.ref a := ru
  obtain ⟨its, rv, p', hz⟩ := I1.tuple hq
  have hal : a < s1.heap.objs.size := by
    obtain ⟨o, ho, _⟩ := p'
    exact Heap.lt_size ho
  refine call_enumB (begins_tuple a its.toArray) p' fun h' he hit hk => wpAny_pyIter_enum he ?_
  have J : L2.Inv X pins σ H1 { s1 with heap := h' } := I1.kept (t' := s1.toks) hk
  refine ⟨_, [s1.heap.objs.size + 1, s1.heap.objs.size], _, _, H1, rfl, J, turn_enumT a (s1.heap.objs.size + 1) s1.heap.objs.size (Nat.ne_of_lt (Nat.lt_succ_of_lt hal)) (Nat.ne_of_lt hal), ⟨⟨.none, he⟩, ⟨_, hit, rfl, rfl⟩, Nat.succ_ne_self _⟩, fun b hb => ?_, q⟩
  have hle : s1.heap.objs.size ≤ b := by
    rcases List.mem_cons.mp hb with y | y
    · rw [y]
      exact Nat.le_succ _
    · rw [List.mem_singleton.mp y]
      exact Nat.le_refl _
  exact I1.fpOk hle (I1.hok.fresh hle)
/-- the pairs of a place and what stands there -/
def enumD (ds : List D) : List D := (List.range ds.length).map fun i => .tuple [.int (i : Nat), ds.getD i .none]
theorem enumD_len (ds : List D) : (enumD ds).length = ds.length := by simp [enumD]
theorem enumD_get {ds : List D} {i : Nat} {d : D} (h : (enumD ds)[i]? = some d) : ∃ x, ds[i]? = some x ∧ d = .tuple [.int (i : Nat), x] := by
  unfold enumD at h
  rw [List.getElem?_map] at h
  by_cases hi : i < ds.length
  · rw [List.getElem?_range hi] at h
    cases h
    refine ⟨ds[i], List.getElem?_eq_getElem hi, ?_⟩
    show PyData.tuple [PyData.int (i : Nat), ds.getD i .none] = _
    rw [List.getD_eq_getElem?_getD, List.getElem?_eq_getElem hi]
    rfl
  · rw [List.getElem?_eq_none_iff.mpr (by simpa using hi)] at h
    cases h
theorem vi_enumT {C : Cn} {Γ : List Sl} {te : TE} {ds : List D} (h : VE C te Γ (Is (.tuple ds))) : VI C (iEnumT C.K (tCons te tNil)) Γ (Is (enumD ds)) := fun B H σ F T q => h B H σ F _ fun d v B1 H1 r s k => by
  cases r
  obtain ⟨a, xs, rfl, h1, h2⟩ := dp_tup k
  refine ⟨a, xs, rfl, same_t (F.step s).sub h1, q _ _ B1 H1 _ _ rfl s (by rw [enumD_len, ← dpall_len h2]; exact walk_enumT) (fun B2 H2 e1 e2 => same_t e2 (same_t e1 h1)) ?_⟩
  rintro i x H2 H2' ⟨T, y, rfl, hT, rfl, hy⟩ B2 d e1 e2 hd
  obtain ⟨z, hz, rfl⟩ := enumD_get hd
  obtain ⟨v, hv, kv⟩ := dpall_get h2 hz
  rw [hy] at hv
  cases hv
  have st := Stp.new (dl := C.dl) (o := .tup [.int (i : Nat), y]) e2 hT
  exact ⟨_, st, .tup (Or.inl (Or.inl upd_same)) (.cons (.int _) (.cons (dp_mono st.ext (dp_mono e1 kv)) .nil))⟩
/-! ### x(lambda: e) -/
theorem pe_lamF {X : Cx} {TT : (XK → Hp → VK → Prop) → Hp → VK → Prop} {x a q : Str} {st : Stmt} {g c P : Addr} {gd : FuncData} {k : Nat} {Ng : List Str} {params : Arguments} {body : Expr} {scope : Scope} {t : XK → TE} {p lpos pos : Pos} (F : Fun X.K x x st g gd) (gu : X.A.guards = some []) (hg : Gl X x) (hm : X.mg x = some (.ref g))
    (hb : KBinds X.K gd [a] [] (fun us _ => us) (fun vs _ => vs)) (Sg : FnScope Ng [a] (defScope st)) (hNg : Ng[0]? = some a) (hva : Vis (defScope st) a) (hq : X.env.qual ++ "<lambda>" = q)
    (hG : ∀ cdv, GivesTo X Ng x (defScope st) g cdv (defBody st) a q TT)
    (TB : TabB X.base X.mg c P) (hcode : X.env.code = .ref c) (hr : Room (k + 2) X.A) (L : LamS X.env.scope scope) (hdef : defaultsOf params X.env = ([], []))
    (hbind : ∀ (q : Str) (cl : List (Str × Addr)) (pm cv ctv : Value), bindArgs (PySem.W.kla_fn "<lambda>" q params body scope cl pm cv ctv) ⟨[], []⟩ = pure [])
    (hbody : ∀ (A : Around) (outer : List Env) (s : Shared) (H : Hp) (E : XK) (f c' : Addr), (A.deeper (lamEnv X scope s.heap.objs.size f c')).guards = some [] → Room k (A.deeper (lamEnv X scope s.heap.objs.size f c')) → PE (lamCx X A outer s H E scope f c') body (t E))
    (hdb : (x == ("__debug__" : Str)) = false := by decide) (hd : (a == ("__debug__" : Str)) = false := by decide) (hcd : (a == ("__classdict__" : Str)) = false := by decide) :
    PE X (.Call (.Name x p) [.Lambda params body scope lpos] [] pos) (tLamM P q TT t) := by
  subst hq
  obtain ⟨oc, od, kV, doc, pm, an, cdv, ct, osl, rfl, lk, hcd'⟩ := F.ex
  refine pe_lamcallM gu hg hm F.kp lk hcd' ?_ Sg hNg hva (hG cdv) TB hcode hr L hdef hbind hbody hdb hd hcd
  intro s us hK hl
  rw [List.append_nil] at hl ⊢
  exact hb.to s us [] hK hl
end Ly

/-! Lye: sorted(a tuple of ints). -/
namespace Ly
open PySem PySem.Spec PyProof.Rows L2
section
variable {P : Program} {w : World} {A : Around} {E : Value → Shared → Prop} {s : Shared} {a : Addr}
theorem sorted_tupI {its : List Value} {ns : List Int} {Q : Value → Shared → Prop} (hl : s.heap.IsTuple a its.toArray) (hI : IntsAre its ns) (hz : its.length ≤ sizeLine)
    (hQ : ∀ (h1 h' : Heap) (out : Array Value) (c : Nat) (ms : List Int), (∀ b o, s.heap.get? b = some o → h1.get? b = some o) → (∀ b o, h1.get? b = some o → h'.get? b = some o) → h'.get? h1.objs.size = some (seqObj "list" out c) → IntsAre out.toList ms → ms.Perm ns → ms.Pairwise (· ≤ ·) → Q (.ref h1.objs.size) { s with heap := h' }) :
    wpAny (model P w) A (call (.builtin "sorted") [.ref a]) Q E s := by
  obtain ⟨o, ho, hc, n, hd⟩ := hl
  apply Calls.call_function_entry kind_sorted plain_sorted entry_sorted (args_sorted1 _)
  unfold Builtin.«sorted»
  apply wpAny_bind (m := checkCount "sorted" 1 1 _)
  apply wpAny_pure
  apply wpAny_bind
  apply wpAny_collect_seq a (.inr rfl) ho hc hd (fun h1 k1 => ?_) (by rw [List.size_toArray]; exact hz)
  have et : its.toArray.toList = its := by simp
  rw [et]
  apply wpAny_bind
  apply wpAny_newList ?_ hz
  have hL : (h1.push (seqObj "list" its.toArray 0)).get? h1.objs.size = some (seqObj "list" its.toArray 0) := Heap.get?_push_size _ rfl
  apply wpAny_bind
  apply wpAny_holding
  refine wpAny_call_entry slot_list_sort (show Shared.TypeIs { s with heap := h1.push (seqObj "list" its.toArray 0) } _ _ from ⟨_, hL, rfl⟩) entry_list_sort ?_ (args_list_sort _)
  refine list_sort_treeAny (s := { s with heap := h1.push (seqObj "list" its.toArray 0) }) hL hI hz fun out ms r1 r2 r3 => ⟨_, rfl, ?_⟩
  obtain ⟨c, e⟩ := sortedHeap_at (vs := its) (out := out) hL
  refine wpAny_pure ⟨_, rfl, hQ h1 _ out c ms k1 (fun b u g => ?_) e r1 r2 r3⟩
  have lt := Heap.lt_size g
  show (sortedHeap (h1.push (seqObj "list" its.toArray 0)) h1.objs.size its out).get? b = some u
  rw [sortedHeap_old (Nat.ne_of_lt lt) (by rw [size_push']; exact Nat.lt_succ_of_lt lt)]
  exact Heap.get?_push_of_some _ g
end
def rSortedTI (K : PySem.W.Frag) : List V → Hp → VK → Prop := fun vs H Q => ∃ (a : Addr) (ns : List Int), vs = [V.ref a] ∧ SqT K H a (ns.map V.int) ∧
  ∀ (ms : List Int) (p : Addr), ms.Perm ns → ms.Pairwise (· ≤ ·) → H p = none → Q (.ref p) (upd H p (.lst (ms.map V.int)))
theorem cr_sortedTI {X : Cx} : CallR X (.builtin "sorted") (rSortedTI X.K) := by
  intro pins s σ H vs us Q I r h
  obtain ⟨a, ns, rfl, hs, q⟩ := h
  obtain ⟨its, rv, hl, hz⟩ := I.tuple hs
  rw [Vals.ref1 r]
  have hi := rv.ints
  refine sorted_tupI hl hi (by rw [← rv.length]; exact hz) fun h1 h' out c ms k1 k2 e r1 r2 r3 => ?_
  have I1 : Inv X pins σ H { s with heap := h1 } := I.kept (t' := s.toks) k1
  have hn : H h1.objs.size = none := I1.hok.fresh (Nat.le_refl _)
  have hlen : (ms.map V.int).length ≤ sizeLine := by
    rw [List.length_map, r2.length_eq]
    rw [List.length_map] at hz
    exact hz
  exact ⟨.ref h1.objs.size, _, I1.laid (t' := s.toks) k2 (Nat.le_refl _) (show ObjOk X.prog X.w _ _ _ (.lst (ms.map V.int)) from ⟨hlen, out.toList, c, vals_of_ints r1, e⟩), rfl, q ms _ r2 r3 hn⟩
/-- sorted(t), t a tuple of numbers -/
theorem vl_sortedTN {C : Cn} {te : TE} {Γ : List Sl} {ns : List Nat} (h : VE C te Γ (Is (tnD ns))) : VL C (tCB (rSortedTI C.K) (tCons te tNil)) Γ (fun ds => ∃ ms : List Nat, ds = nsD ms ∧ ms.Perm ns ∧ ms.Pairwise (· ≤ ·)) := fun B H σ F Q q => h B H σ F _ fun d v B1 H1 e1 s1 k1 => by
  cases e1
  obtain ⟨a, xs, rfl, g1, g2⟩ := dp_tup k1
  rw [ns_cast] at g2
  rw [dpall_ints g2] at g1
  refine ⟨a, _, rfl, same_t (F.step s1).sub g1, fun ms p hp hs hn => ?_⟩
  obtain ⟨zs, rfl, hz⟩ := perm_map_inv hp ns rfl
  refine q (nsD zs) p _ B1 _ ⟨zs, rfl, hz, ?_⟩ (s1.trans F.dlNow (Stp.newM (F.step s1).sub hn)) (back_none F s1 hn) ((F.step s1).sub.free hn) upd_same ?_
  · rw [List.pairwise_map] at hs
    exact hs.imp fun h => by omega
  · rw [ns_cast]
    exact dpall_map _ _ (fun i => .int i) _
end Ly

/-! Lyf: the first statement of a law that makes lambdas; told, by what is checked. -/
namespace Ly
open PySem PySem.Spec PyProof.Rows L2 LamX
theorem vs_beginT {K : PySem.W.Frag} {B0 H0 : Hp} {P : Addr} {ns : List Int} {n : Nat} {t : TS} {R : D → Prop} {s : Int} (hn : ns.length ≤ 63) (hT : TabS H0 P qLam) (hB : ∀ a ps, B0 a ≠ some (.tbl ps)) (h0 : 0 ≤ s := by decide) (h1 : s ≤ 1000 := by decide)
    (k : ∀ B H p q, TabS H P qLam → (∀ a ps, B a ≠ some (.tbl ps)) → VS ⟨K, B, H, some (p, q)⟩ t (.rd (ns.map V.int) :: .deal :: List.replicate n .no) { nx := fun _ => False, rt := R }) :
    VS ⟨K, B0, H0, none⟩ (tSeq (tAsg (tCallK (Dr K) (fun vs _ => vs) E0 (tCons (tVar 0) (tCons (tC (.int s)) tNil)) tNil) (gName 1)) t) (.rd (ns.map V.int) :: .no :: List.replicate n .no) { nx := fun _ => False, rt := R } := fun B H1 σ E F n' r b c => by
  obtain ⟨a, ea, hS⟩ := F.slot 0 _ rfl
  have no : ∀ (i : Nat) sl, (List.replicate n Sl.no)[i]? = some sl → sl = .no := fun i sl h => by
    rw [List.getElem?_replicate] at h
    split at h
    · exact (Option.some.inj h).symm
    · cases h
  refine ⟨.ref a, ea, B, a, ns, s, rfl, F.sub, hS, h0, h1, hn, fun p q B' H' st hp hq hBp hBq hd => ?_⟩
  have tb := st.tab P (F.st.tab P hT)
  have nb := st.bt (F.st.bt hB)
  refine k B' H' p q tb nb B' H' _ E ⟨Stp.refl st.sub, fun p' q' e => ?_, ?_, fun i sl h => ?_, fun i j x ds es h => ?_⟩ (fun _ _ _ _ e => e.elim) (fun d v B2 H2 rd s2 kd => ?_) (fun _ _ _ _ e => e.elim) fun _ _ _ _ e => e.elim
  · cases e
    exact ⟨hd, hBp, hBq⟩
  · rw [List.length_set]
    exact F.len
  · match i, h with
    | 0, h =>
      cases h
      refine ⟨a, ?_, same_l st.ext hS⟩
      rw [List.getElem?_set_ne (by decide)]
      exact ea
    | 1, h =>
      cases h
      refine ⟨p, q, rfl, ?_⟩
      rw [List.getElem?_set_self (by rw [F.len]; exact Nat.succ_lt_succ (Nat.succ_pos _))]
    | i + 2, h =>
      rw [no i sl h]
      trivial
  · exfalso
    match i, h with
    | 0, h => cases h
    | 1, h => cases h
    | i + 2, h => cases no i _ h
  · refine r d v B2 H2 rd ?_ kd
    have keep : ∀ a o, H1 a = some o → (∀ ps, o ≠ .tbl ps) → H2 a = some o := fun a o e nt => by
      refine s2.keepN a o (st.keepN a o e (fun ⟨_, _, z, _⟩ => nomatch z) nt) (fun ⟨p', q', e1, e2⟩ => ?_) nt
      cases e1
      rcases e2 with e2 | e2
      · subst e2
        rw [hp] at e
        cases e
      · subst e2
        rw [hq] at e
        cases e
    have s0 : Stp none B H1 B2 H2 := ⟨st.ext.trans s2.ext, s2.sub, fun a o e _ nt => keep a o e nt, fun a ha hb => s2.out a (st.there (fun _ _ e => nomatch e) ha) (st.out a ha hb), (fun _ _ e => nomatch e), fun a h => s2.stay a (st.stay a h), fun T t => s2.tab T (st.tab T t), fun h => s2.bt (st.bt h)⟩
    exact F.st.trans (fun _ _ e => nomatch e) s0
end Ly

/-! Lyg: // by any positive number; the end of a law whose numbers are that great. -/
namespace Ly
open PySem PySem.Spec PyProof.Rows L2

section
variable {X : Cx}
/-- // where the library's own long division may be asked -/
theorem op_fdivP {k : Nat} (hN : X.base.NoSeer) (ht : X.prog.given.tree = none) (hs : X.stack = X.env :: X.outer) (hg : X.env.scope.isGenerator = false) (hc : X.env.scope.isCoroutine = false) (hr : Room k X.A) (hk : 32 ≤ k) :
    OpR X (binaryOp .FloorDiv) (rI (fun _ j => 0 < j) fun i j => .int (i / j)) := by
  intro pins s σ H x y v u Q I rx ry h
  obtain ⟨i, j, rfl, rfl, h0, q⟩ := h
  have h0 : (0 : Int) < j := h0
  obtain ⟨t, rfl⟩ := rx
  obtain ⟨t', rfl⟩ := ry
  have seer : SeerAt (model X.prog X.w) X.A s.heap := SeerAt.of (hN.keeps I.bk) ht (by rw [I.ok.frames, hs]) hg hc I.ok.blt I.ok.glob
  have room : PylongRoom (model X.prog X.w) X.A s := PylongRoom.of I.nolimit (by have := hr.dp; show X.A.depth + 100 < _; omega) seer
  refine floordiv_int (by omega) ?_ (.inr room)
  rw [Int.fdiv_eq_ediv_of_nonneg i (by omega)]
  exact ⟨.int (i / j), H, I.tok _, ⟨_, rfl⟩, q⟩
end
end Ly

/-! Lyh: a tuple turned round, set(a list of ints), len(a set), repr(an int) anywhere. -/
namespace Ly
open PySem PySem.Spec PyProof.Rows L2

section
variable {prog : Program} {w : World} {A : Around} {E : Value → Shared → Prop} {s : Shared}
theorem revPick (xs : Array Value) : ((List.range xs.size).filterMap fun (m : Nat) => xs[(((xs.size : Int) - 1) + (m : Int) * (-1)).toNat]?).toArray = xs.toList.reverse.toArray := by
  congr 1
  have e : ((List.range xs.size).map fun (m : Nat) => xs[(((xs.size : Int) - 1) + (m : Int) * (-1)).toNat]?) = xs.toList.reverse.map some := by
    apply List.ext_getElem?
    intro i
    rw [List.getElem?_map, List.getElem?_map]
    by_cases hi : i < xs.size
    · rw [List.getElem?_range hi, List.getElem?_reverse (by rw [Array.length_toList]; exact hi), Array.length_toList]
      have e2 : (((xs.size : Int) - 1) + (i : Int) * (-1)).toNat = xs.size - 1 - i := by omega
      simp only [Option.map_some, e2, Array.getElem?_toList]
      rw [Array.getElem?_eq_getElem (by omega)]
      rfl
    · rw [List.getElem?_eq_none_iff.mpr (by simpa using hi), List.getElem?_eq_none_iff.mpr (by simpa using hi)]
      rfl
  have e3 := congrArg (fun l => List.filterMap id l) e
  simp only [List.filterMap_map] at e3
  rw [show (fun (m : Nat) => xs[(((xs.size : Int) - 1) + (m : Int) * (-1)).toNat]?) = (id ∘ fun (m : Nat) => xs[(((xs.size : Int) - 1) + (m : Int) * (-1)).toNat]?) from rfl, e3]
  rw [show (id ∘ some : Value → Option Value) = some from rfl, List.filterMap_some]
theorem slicedBack {sl : Addr} {vl vu vs : Value} {n : Nat} {Q : Int × Int × Nat → Shared → Prop} (hs : s.heap.IsSliceOf sl vl vu vs) (pl : IsPart vl none) (pu : IsPart vu none) (ps : IsPart vs (some (-1)))
    (h : Q ((n : Int) - 1, -1, n) s) : wpAny (model prog w) A (Builtin.Slice.sliceApplied (.ref sl) (pure (n : Int))) Q E s := by
  obtain ⟨os, f1, f2, f3⟩ := id hs
  unfold Builtin.Slice.sliceApplied Builtin.Slice.sliceFields
  refine wpAny_bind (wpAny_bind (wpAny_field f1 f3 (x := vl) rfl (wpAny_bind (wpAny_field f1 f3 (x := vu) rfl (wpAny_bind (wpAny_field f1 f3 (x := vs) rfl (wpAny_pure ?back)))))))
  refine wpAny_bind (HT.slicePart_ ps ?_)
  rw [if_neg (show ¬ (((some (-1) : Option Int).getD 1 == 0) = true) by decide)]
  refine wpAny_bind (HT.slicePart_ pl (wpAny_bind (HT.slicePart_ pu (wpAny_bind (wpAny_pure (wpAny_pure ?fin))))))
  have e : Builtin.Slice.slicePlaces ((n : Int) - 1) (-1) (-1) = n := by
    unfold Builtin.Slice.slicePlaces
    rw [if_neg (by omega)]
    by_cases hn : n = 0
    · subst hn
      decide
    · rw [if_pos (by omega)]
      have e2 : ((n : Int) - 1 - -1 - 1) / -(-1) + 1 = (n : Int) := by
        rw [show -(-1 : Int) = 1 from rfl, Int.ediv_one]
        omega
      rw [e2]
      rfl
  show Q (_, -1, Builtin.Slice.slicePlaces ((n : Int) - 1) (-1) (-1)) s
  rw [e]
  exact h
theorem getRev {t sl : Addr} {items : Array Value} {vl vu vs : Value} {Q : Value → Shared → Prop} (ht : IsTup s.heap t items) (hs : s.heap.IsSliceOf sl vl vu vs) (pl : IsPart vl none) (pu : IsPart vu none) (ps : IsPart vs (some (-1)))
    (h : Q (.ref s.heap.objs.size) { s with heap := s.heap.push { cls := .type "tuple", data := .seq items.toList.reverse.toArray } })
    (hsz : items.size ≤ sizeLine) : wpAny (model prog w) A (getItem (.ref t) (.ref sl)) Q E s := by
  have fits : sizeOk (.seq items.toList.reverse.toArray) := by
    show items.toList.reverse.toArray.size ≤ sizeLine
    rw [List.size_toArray, List.length_reverse, Array.length_toList]
    exact hsz
  obtain ⟨os, f1, f2, f3⟩ := id hs
  have hTs : s.TypeIs (.ref sl) "slice" := ⟨os, f1, f2⟩
  unfold getItem
  try with_reducible refine wpAny_holding ?_
  first | refine wpAny_bind (wpAny_pure ?_) | skip
  refine wpAny_bind (wpAny_sequenceKey ht.typeIs (by decide) (wpAny_bind (wpAny_callSpecial?_slot (name := Str.ofString "__getitem__") ht.typeIs PyProof.Rows.slot_tuple_getitem
    (wpAny_call_entry PyProof.Rows.slot_tuple_getitem ht.typeIs entry_tuple_getitem ?_ (args_tuple_getitem _ _)))))
  show wpAny _ _ (Builtin.Tuple.tupleItemsOf (.ref t) >>= _) _ _ s
  refine wpAny_bind (tupleItemsOf_ ht (wpAny_bind (wpAny_typeOf hTs ?_)))
  rw [if_pos (by decide)]
  refine wpAny_bind (slicedBack hs pl pu ps ?_)
  have no : ¬ ((((items.size : Int) - 1) == 0 && (-1 : Int) == 1 && items.size == items.size) = true) := by
    intro q
    rw [Bool.and_eq_true, Bool.and_eq_true] at q
    exact absurd q.1.2 (by decide)
  show wpAny _ _ (if (((items.size : Int) - 1) == 0 && (-1 : Int) == 1 && items.size == items.size) = true then _ else _) _ _ s
  rw [if_neg no, revPick]
  first
    | exact wpAny_bind (m := Builtin.Tuple.tupleExact _) (wpAny_newObj_type (wpAny_pure ⟨_, rfl, wpAny_pure h⟩) fits)
    | exact wpAny_bind (m := Builtin.Tuple.tupleExact _) (wpAny_newObj_type (wpAny_bind (wpAny_pure (wpAny_pure ⟨_, rfl, wpAny_pure h⟩))) fits)
    | exact wpAny_bind (wpAny_bind (m := Builtin.Tuple.tupleExact _) (wpAny_newObj_type (wpAny_pure (wpAny_pure ⟨_, rfl, wpAny_pure h⟩)) fits))
    | exact wpAny_bind (wpAny_bind (m := Builtin.Tuple.tupleExact _) (wpAny_newObj_type (wpAny_pure ⟨_, rfl, wpAny_pure h⟩) fits))
end
section
variable {X : Cx}
/-- t[::-1] -/
def tRevT (K : PySem.W.Frag) (te : TE) : TE := fun σ H Q => te σ H fun x H1 => ∃ a xs, x = .ref a ∧ SqT K H1 a xs ∧ ∀ p, H1 p = none → Q (.ref p) (upd H1 p (.tup xs.reverse))
theorem pe_revT {e : Expr} {te : TE} {k : Nat} {p1 p2 p3 pos : Pos} (he : PE X e te) : PE X (.Subscript e (.Slice none none (some (.UnaryOp .USub (.Constant (.int 1) k p1) p2)) p3) pos) (tRevT X.K te) := by
  refine ⟨fun pins s σ H Q I h => Subscript_ (thn (he.run pins s σ H _ I h) fun v s1 ⟨x, H1, I1, r1, a, xs, ex, hx, q⟩ => ?_)⟩
  subst ex
  cases r1
  have back : PO X (some (.UnaryOp .USub (.Constant (.int 1) k p1) p2)) (tPart (tUn (rU fun i => .int (-i)) (tC (.int 1)))) := po_some (pe_un un_neg pe_int)
  refine wpAny_Slice (thn (po_none.run pins s1 σ H1 (fun o H2 => o = none ∧ H2 = H1) I1 ⟨rfl, rfl⟩) fun vl s2 ⟨l, H2, I2, pl, z1, z2⟩ => ?_)
  subst z1 z2
  refine thn (po_none.run pins s2 σ H2 (fun o H3 => o = none ∧ H3 = H2) I2 ⟨rfl, rfl⟩) fun vu s3 ⟨u, H3, I3, pu, z3, z4⟩ => ?_
  subst z3 z4
  refine thn (back.run pins s3 σ H3 (fun o H4 => o = some (-1) ∧ H4 = H3) I3 ⟨1, rfl, -1, rfl, rfl, rfl⟩) fun vs s4 ⟨o, H4, I4, ps, z5, z6⟩ => ?_
  subst z5 z6
  have I5 : Inv X pins σ H4 { s4 with heap := s4.heap.push { cls := .type "slice", data := .fields #[vl, vu, vs] } } := I4.kept (t' := s4.toks) fun b ob q => Heap.get?_push_of_some _ q
  obtain ⟨its, r, ht, hz⟩ := I5.tuple hx
  have hlen := r.length
  show wpAny (model X.prog X.w) X.A (subscriptTail e (.Slice none none (some (.UnaryOp .USub (.Constant (.int 1) k p1) p2)) p3) (.ref a) (.ref s4.heap.objs.size)) (EP X pins σ Q) X.xe { s4 with heap := s4.heap.push { cls := .type "slice", data := .fields #[vl, vu, vs] } }
  refine tail_any (ops := [.ref a, .ref s4.heap.objs.size]) ht.typeIs PyProof.Rows.slot_tuple_getitem.lookup ?_ (by with_unfolding_all rfl)
  refine getRev ht (Heap.IsSliceOf.new _ vl vu vs) pl pu ps ?_ (by rw [List.size_toArray]; omega)
  refine ⟨.ref _, _, I5.laid (t' := s4.toks) (o := .tup xs.reverse) (fun b ob q => Heap.get?_push_of_some _ q) (Nat.le_refl _) ?_, rfl, q _ (I5.hok.fresh (Nat.le_refl _))⟩
  exact ⟨by rw [List.length_reverse]; exact hz, _, r.reverse, IsTup.new _ _⟩
/-- repr(an int), also within an except suite -/
def rReprI : List V → Hp → VK → Prop := fun xs H Q => ∃ i : Int, xs = [.int i] ∧ (PyData.int i).showable = true ∧ Q (.str (PyData.int i).shown) H
theorem cr_reprI : CallR X (.builtin "repr") rReprI := by
  intro pins s σ H xs us Q I r h
  obtain ⟨i, rfl, hs, q⟩ := h
  obtain ⟨u, rfl, ru⟩ := vals1 r
  obtain ⟨t, rfl⟩ := ru
  refine PySem.P.repr_of_int (by simpa [PyData.showable] using hs) ?_
  refine ⟨.str _, H, I.tok _, ⟨_, rfl⟩, ?_⟩
  simp only [PyData.shown] at q
  exact q
/-- len(a set of ints) -/
def rLenSet (w : World) : List V → Hp → VK → Prop := fun xs H Q => ∃ (a : Addr) (S : Int → Bool) (n : Nat), xs = [.ref a] ∧ H a = some (SetO w a S n) ∧ ((∃ l : List Int, l.Nodup ∧ (∀ k, k ∈ l ↔ S k = true) ∧ l.length = n) → Q (.int (n : Nat)) H)
theorem cr_lenSet : CallR X (.builtin "len") (rLenSet X.w) := by
  intro pins s σ H xs us Q I r h
  obtain ⟨a, S, n, rfl, ha, q⟩ := h
  rw [Vals.ref1 r]
  obtain ⟨o, es, ep, t, ho, hx, hd, g, nd, hm, hb, hf, hn, _⟩ := setO_get I ha
  have q := q ⟨es.toList.map keyOf, nd, fun k => (hm k).symm, by rw [List.length_map, Array.length_toList, hn]⟩
  refine call_len_set ho hx hd hf (by rw [hn] at hb ⊢; unfold scanBound at hb; omega) ⟨.int (n : Nat), H, I.tok _, ⟨_, by rw [hn]⟩, q⟩
end
end Ly

/-! Lyi: set(a list of ints). -/
namespace Ly
open PySem PySem.Spec PyProof.Rows L2
section
variable {P : Program} {w : World} {A : Around} {E : Value → Shared → Prop} {s : Shared}
/-- the empty set that set() begins with -/
abbrev set0 (w : World) : Obj := { cls := .type "set", dict := none, data := .set #[] 0 (.fresh 0 0 (!w.params.followText "set-order")) }
abbrev withSet0 (w : World) (s : Shared) : Shared := { s with heap := s.heap.push (set0 w) }
/-- what the filling of the set gives -/
def Filled (w : World) (s : Shared) (ns : List Int) (r : Value) (s' : Shared) : Prop :=
  r = .none ∧ ∃ h' tk c, s' = { s with heap := h', toks := tk } ∧ SetR w h' s.heap.objs.size (fun j => decide (j ∈ ns)) c ∧ c ≤ ns.length ∧ ∀ b o, s.heap.get? b = some o → h'.get? b = some o
/-- the filling itself -/
theorem fill_run {l : Addr} {items : Array Value} (ns : List Int) (hA : A.in1.handled = none) (lt : l < s.heap.objs.size) (hl : (withSet0 w s).heap.IsList l items) (hit : IntsAre items.toList ns) (hb : ns.length + 1 < scanBound) (hz : items.size = ns.length) :
    codeAny (model P w) A (.builtin "set.update.loop" ⟨[.ref s.heap.objs.size, .ref (withSet0 w s).heap.objs.size], []⟩) (wants (Filled w s ns) E)
      { withSet0 w s with heap := (withSet0 w s).heap.push { cls := .type "list_iterator", data := .fields #[.ref l, .int 0 0] } } := by
  have sz : (withSet0 w s).heap.objs.size = s.heap.objs.size + 1 := Heap.size_push ..
  have nI : l ≠ (withSet0 w s).heap.objs.size := by rw [sz]; exact Nat.ne_of_lt (Nat.lt_succ_of_lt lt)
  have out : s.heap.objs.size ∉ [(withSet0 w s).heap.objs.size, l] := by
    rw [sz]
    simp only [List.mem_cons, List.not_mem_nil, or_false, not_or]
    exact ⟨Nat.ne_of_lt (Nat.lt_succ_self _), Nat.ne_of_gt lt⟩
  have val : ∀ (i : Nat) (v : Value), items[i]? = some v → ∃ k t, ns[i]? = some k ∧ v = .int k t := fun i v hv => by
    have hi : i < ns.length := hz ▸ (Array.getElem?_eq_some_iff.mp hv).1
    obtain ⟨t, e⟩ := PyProof.Rows.IntsAre.int_at hit i v (by rw [Array.getElem?_toList]; exact hv)
    have e2 : ns[i]? = some ns[i] := List.getElem?_eq_getElem hi
    exact ⟨ns[i], t, e2, by rw [e, List.getD_eq_getElem?_getD, e2]; rfl⟩
  refine set_update_ints ((Walks.list hA _ l nI items).toS) s.heap.objs.size out ns hz hb val (items.size - 0) 0 _ (by omega) (Nat.zero_le _) ⟨⟨_, Heap.get?_push_size _ rfl, rfl, rfl⟩, hl.push _⟩ ⟨0, Nat.le_refl 0, setR_new_at (Heap.get?_push_of_some _ (Heap.get?_push_size _ rfl))⟩ ?_
  intro s' c m hc hS
  obtain ⟨h', g2, d', tk', os'⟩ := s'
  have eg : g2 = s.gens := m.gens
  have ed : d' = s.drawn := m.drawn
  have eo : os' = s.os := m.os
  subst eg ed eo
  refine ⟨rfl, h', tk', c, rfl, hS, by omega, fun b o e => ?_⟩
  have b0 : b < s.heap.objs.size := Heap.lt_size e
  refine m.heap b o ?_ (Heap.get?_push_of_some _ (Heap.get?_push_of_some _ e))
  simp only [List.mem_cons, List.not_mem_nil, or_false, not_or]
  exact ⟨Nat.ne_of_lt b0, by rw [sz]; exact Nat.ne_of_lt (Nat.lt_succ_of_lt b0)⟩
set_option maxHeartbeats 3200000 in
theorem fill_init {l : Addr} {items : Array Value} (ns : List Int) (hh : A.handled = none) (hl : s.heap.IsList l items) (hit : IntsAre items.toList ns) (hb : ns.length + 1 < scanBound) :
    codeAny (model P w) A (.call (.builtin "set.__init__") ⟨[.ref s.heap.objs.size, .ref l], []⟩) (wants (Filled w s ns) E) (withSet0 w s) := by
  have hz : items.size = ns.length := by
    have := IntsAre.length hit
    rwa [Array.length_toList] at this
  have own : (withSet0 w s).TypeIs (.ref s.heap.objs.size) "set" := ⟨set0 w, Heap.get?_push_size _ rfl, rfl⟩
  refine codeAny_call_builtin F.called_set.init.plain F.entry_set_init (check_set_init_1 own ?_)
  obtain ⟨ol, hol, hcl, nl, hdl⟩ := id hl
  have lt : l < s.heap.objs.size := Heap.lt_size hol
  have hl1 : (withSet0 w s).heap.IsList l items := hl.push _
  obtain ⟨ocls, odict, odata, oslots⟩ := ol
  simp only at hcl hdl
  subst hcl hdl
  have hol1 : (withSet0 w s).heap.get? l = some { cls := .type "list", dict := odict, data := .seq items nl, slots := oslots } := Heap.get?_push_of_some _ hol
  have q1 := F.sub_list_set
  have q2 := F.sub_list_frozenset
  have q3 : (Value.type "list" == Value.type "dict") = false := by decide
  unfold Builtin.«set.__init__» noKeywords Builtin.Frozenset.updateFrom
  generalize hPI : pyIter = PI
  wp_walk
  subst hPI
  refine wpAny_pyIter_list hl1 (wpAny_bind (wpAny_runValue ?_))
  refine codeAny_mono (fill_run (P := P) (E := E) ns (by simp [hh]) lt hl1 hit hb hz) fun r s' hr => ?_
  cases r with
  | error e => exact hr
  | ok fl =>
    cases fl with
    | ret v =>
      refine wpAny_pure ?_
      show wpAny _ _ (ret Value.none) _ _ _
      obtain ⟨_, rest⟩ := hr
      exact wpAny_pure ⟨rfl, rest⟩
    | next => exact hr.elim
    | brk => exact hr.elim
    | cont => exact hr.elim
set_option maxHeartbeats 3200000 in
theorem setListI {l : Addr} {items : Array Value} (ns : List Int) {Q : Value → Shared → Prop} (hh : A.handled = none) (hl : s.heap.IsList l items) (hit : IntsAre items.toList ns) (hb : ns.length + 1 < scanBound)
    (h : ∀ (h' : Heap) (tk c : Nat), SetR w h' s.heap.objs.size (fun j => decide (j ∈ ns)) c → c ≤ ns.length → (∀ b o, s.heap.get? b = some o → h'.get? b = some o) → Q (.ref s.heap.objs.size) { s with heap := h', toks := tk }) :
    wpAny (model P w) A (call (.type "set") [.ref l]) Q E s := by
  obtain ⟨m1, m2, hm⟩ := F.called_set.mro
  have k1 := F.called_set.made
  have k2 := F.called_set.sub
  have k3 := F.called_set.notType
  have k4 := F.called_set.canCreate
  have k5 := F.typeCall_set_1 (.ref l)
  refine wpAny_call (codeAny_of_tree ?_)
  show wpAny _ _ (callAny (.type "set") _) _ _ _
  refine wpAny_pure ⟨Code.quiet_builtin _ (by decide +kernel), codeAny_builtin F.entry_type_call ?_⟩
  rw [Around.under_plain (weight_type_call_type "set" [.ref l] []) rfl]
  repeat (any_goals (first | assumption | wp_step))
  refine codeAny_mono (code_set_led1 (.ref l) (E := E) (Q₁ := fun v s₁ => v = .ref s.heap.objs.size ∧ s₁ = withSet0 w s) ⟨rfl, rfl⟩) fun r s₁ hr => ?_
  cases r with
  | error e => exact hr
  | ok fl =>
    cases fl with
    | next => exact hr.elim
    | brk => exact hr.elim
    | cont => exact hr.elim
    | ret v =>
      obtain ⟨rfl, rfl⟩ := hr
      have own : (withSet0 w s).TypeIs (.ref s.heap.objs.size) "set" := ⟨set0 w, Heap.get?_push_size _ rfl, rfl⟩
      have i1 := F.called_set.init.lookup
      have i2 := F.called_set.init.bind (.ref s.heap.objs.size)
      repeat (any_goals (first | assumption | wp_step))
      refine codeAny_mono (fill_init (P := P) (E := E) ns (by simp [hh]) hl hit hb) fun r₂ s₂ hr₂ => ?_
      cases r₂ with
      | error e => exact hr₂
      | ok fl₂ =>
        cases fl₂ with
        | next => exact hr₂.elim
        | brk => exact hr₂.elim
        | cont => exact hr₂.elim
        | ret v₂ =>
          obtain ⟨rfl, h', tk, c, rfl, z1, z2, z3⟩ := hr₂
          repeat (any_goals (first | assumption | wp_step))
          exact h _ _ _ z1 z2 z3
end
section
variable {X : Cx}
/-- set(a list of ints) -/
def rSetLI (K : PySem.W.Frag) (w : World) : List V → Hp → VK → Prop := fun xs H Q => ∃ (l : Addr) (ns : List Int), xs = [.ref l] ∧ SqL K H l (ns.map V.int) ∧ ns.length ≤ 4000 ∧ ∀ p c, H p = none → c ≤ ns.length → Q (.ref p) (upd H p (SetO w p (fun j => decide (j ∈ ns)) c))
theorem cr_setLI (hc : X.calm = true) : CallR X (.type "set") (rSetLI X.K X.w) := by
  intro pins s σ H xs us Q I r h
  obtain ⟨l, ns, rfl, hl, hn, q⟩ := h
  rw [Vals.ref1 r]
  obtain ⟨its, rv, pl, hz⟩ := I.list hl
  refine setListI ns (I.ok.hd hc) pl.isList (by simpa using RZ.intsAre_vals rv) (by unfold scanBound; omega) fun h' tk c R hc' hk => ?_
  have new : H s.heap.objs.size = none := I.hok.fresh (Nat.le_refl _)
  exact ⟨.ref s.heap.objs.size, _, I.laid (t' := tk) hk (Nat.le_refl _) (setO_new R), rfl, q _ c new hc'⟩
end
end Ly

/-! Lyj: try: a call / except C as n: return repr(n.fld); calls of defs of two ways out where none is taken; dict(pairs); the like, by data. -/
namespace Ly
open PySem PySem.Spec PyProof.Rows L2 LamX

/-! ### try -/
def tTryR (K : PySem.W.Frag) (C : Addr) (fld : Str) (tb : XK → TE) : TS := fun D σ H => tb (fun cls d H' => PySem.W.exmOne K cls (.ref C) = some true ∧ cls = .ref C ∧ ∃ (dd : Addr) (fs : List (Str × V)) (i : Int), d = some dd ∧ H' dd = some (.xd fs) ∧ fs.lookup fld = some (.int i) ∧
  (PyData.int i).showable = true ∧ D.rt (.str (PyData.int i).shown) H') σ H fun _ H1 => D.nx σ H1
theorem ps_tryR {X : Cx} {x n fld : Str} {C : Addr} {i : Nat} {call : Expr} {tb : XK → TE} {p1 p4 p5 p6 p7 p8 p9 p10 p11 : Pos} (hs : X.stack = X.env :: X.outer) (hf : X.env.frame = some X.env.locals) (hN : X.N.Nodup) (hi : X.N[i]? = some n) (hln : X.env.kindOf n = some .local)
    (hgx : Gl X x) (hmx : X.mg x = some (.ref C)) (T : XfC X.K C) (hno : PySem.W.findIn X.K (.ref C) fld = some none) (hgr : Gl X "repr") (hmr : X.mg "repr" = none)
    (hb : ∀ (W : WX) (pn : List (Addr × Obj)) (xe : Value → Shared → Prop) (E : XK), Takes (X.tr pn xe) W → (∀ cls d σ H, E cls d H → W cls d σ H) → PE (X.tr pn xe) call (tb E))
    (hdx : (x == ("__debug__" : Str)) = false := by decide) (hd1 : (n == ("__debug__" : Str)) = false := by decide) (hd2 : (n == ("__classdict__" : Str)) = false := by decide)
    (hab : ∀ env : Env, attributeBase (.Name n p5) fld env (eval (.Name n p5) env) = eval (.Name n p5) env := by exact fun _ => rfl) (hse : ∀ env : Env, starEach [.Attribute (.Name n p5) fld p6] env = [(false, eval (.Attribute (.Name n p5) fld p6) env)] := by exact fun _ => rfl) (hs0 : ∀ env : Env, starEach [] env = [] := by exact fun _ => rfl)
    (hsw : ∀ env : Env, swapsWith call none p1.line env = pure false := by exact fun _ => rfl) :
    PS X (.Try [.Expr call p1] [.ExceptHandler (some (.Name x p4)) (some n) [.Return (some (.Call (.Name "repr" p11) [.Attribute (.Name n p5) fld p6] [] p7)) p8] p9] [] [] p10) (tTryR X.K C fld tb) := by
  have main := ps_try_as (X := X) (x := x) (n := n) (c := .ref C) (i := i) (np := p4) (pos := p10) (pos' := p9) (body := [.Expr call p1])
    (tb := fun W D σ H => ∃ Ech : XK, (∀ (cls : Value) (d : Option Addr) (σ' : L2.St) (H' : Hp), Ech cls d H' → σ'.length = X.N.length → W cls d σ' H') ∧ tDrop (tb Ech) D σ H)
    (ts := fun a' cls d => tRet (tCB rReprI (tCons (tXf a' cls d C fld (tVar i)) tNil)))
    hs hf hN hi hln ⟨hgx, hdx, .inl hmx⟩ takes0 (fun W pn xe tk _ => pss_one ?_)
    (fun a' oe cls d pn hz hf' => pss_one (ps_ret (pos := p8) (pe_callB (p := p11) (pos := p7) cr_reprI hgr hmr (by decide +kernel) (pa_cons (pe_xf (pos := p6) T hno hz hf' (pe_var (pos := p5) hi (Or.inl hln) hd1 hd2) (hab _)) pa_nil (hse _)) (he := by rw [hse, hs0]) (hpl := by rw [hs0]; rfl))))
  · refine ⟨fun pins s σ H D I h => main.run pins s σ H D I ?_⟩
    refine ⟨_, fun cls d σ' H' ⟨e1, e2, dd, fs, k, e3, e4, e5, e6, e7⟩ hl => ⟨true, e1, fun _ a' _ => ?_, fun z => by cases z⟩, h⟩
    have hlt : i < σ'.length := by
      have := (List.getElem?_eq_some_iff.mp hi).1
      omega
    exact ⟨.ref a', List.getElem?_set_self hlt, rfl, e2, dd, fs, .int k, e3, e4, e5, k, rfl, e6, e7⟩
  · refine ⟨fun pins s' σ H' D I h' => ?_⟩
    obtain ⟨Ech, hW, h1⟩ := h'
    have pe := hb _ pn xe Ech (takes_len tk) fun cls d σ' H' he hl => hW cls d σ' H' he hl
    exact (ps_expr (pos := p1) pe (hs := hsw _)).run pins s' σ H' D I h1
section
variable {C0 : Cn} {Γ : List Sl} {C : Addr} {fld : Str} {t : XK → TE} {R W : D → Prop} {P : Po}
theorem vs_tryR (hx : PySem.W.exmOne C0.K (.ref C) (.ref C) = some true) (h : VX C0 C fld t Γ R W) (k1 : ∀ d, R d → P.nx Γ) (k2 : ∀ n, W n → ∃ i : Int, n = .int i ∧ i.natAbs < 1000 ∧ P.rt (.str (PyData.int i).shown)) : VS C0 (tTryR C0.K C fld t) Γ P := fun B H σ E F n r b c => by
  refine h B H σ F _ _ (fun d v B' H' rd s kd => n Γ B' H' σ (k1 d rd) s.ext (F.step s)) fun m dx v B' H' wm s hd kd => ?_
  obtain ⟨i, rfl, hi, hr⟩ := k2 m wm
  obtain rfl := dp_int kd
  refine ⟨hx, rfl, dx, _, i, rfl, hd, by simp [List.lookup], ?_, r _ _ B' H' hr (F.st.trans (fun p q e => (F.dl p q e).1) s) (.str _)⟩
  show decide (i.natAbs.log2 < 1920) = true
  have : i.natAbs.log2 < 10 := by
    by_cases z : i.natAbs = 0
    · rw [z]; decide
    · exact (Nat.log2_lt z).mpr (by omega)
  exact decide_eq_true (by omega)
end
/-! ### defs of two ways out, called where the other way is not taken -/
section
variable {α : Type} {C0 : Cn} {A A' : TA} {Γ : List Sl} {C : Addr} {fld : Str} {Ar : α → List D} {P : α → Prop} {R W : α → D → Prop} {ds es : List D} {gV : List V → List V → List V}
theorem passes0 {X : Cx} : Passes (L2.CX X.prog X.w) X E0 := passes_call takes0 fun _ _ _ _ h => h
theorem ve_xa2 (a : α) (gD : List D → List D → List D) (h : VA C0 A Γ (Is ds)) (h' : VA C0 A' Γ (Is es)) (hg : ∀ B vs zs ds es, DqAll C0.K B vs ds → DqAll C0.K B zs es → DqAll C0.K B (gV vs zs) (gD ds es)) (e : gD ds es = Ar a) (hP : P a) (no : ∀ n, ¬ W a n) :
    VE C0 (tCallK (Pxa C0.K C fld Ar P R W) gV E0 A A') Γ (R a) := fun B H σ F Q q =>
  vx_a2 (C0 := C0) (R := R) (W := W) a gD h h' hg e hP B H σ F Q E0 q fun n dx v B' H' wn _ _ _ => absurd wn (no n)
theorem ve_xa0 (a : α) (h : VA C0 A Γ (Is (Ar a))) (hP : P a) (no : ∀ n, ¬ W a n) : VE C0 (tCallK (Pxa C0.K C fld Ar P R W) (fun vs _ => vs) E0 A tNil) Γ (R a) :=
  ve_xa2 a (fun ds _ => ds) h va_nil (fun _ _ _ _ _ k _ => k) rfl hP no
end
/-! ### sets -/
section
variable {C : Cn} {Γ : List Sl} {te : TE} {w : World} {ns : List Int} {ds : List D}
theorem vl_sortedSetL (h : VV C te Γ (Is (.list (ns.map .int)))) (hn : ns.length < 64) :
    VL C (tCB (rSortedSet w) (tCons (tCB (rSetLI C.K w) (tCons te tNil)) tNil)) Γ (fun ds => ∃ ms : List Int, ds = ms.map .int ∧ ms.Pairwise (· < ·) ∧ ∀ k, k ∈ ms ↔ k ∈ ns) := fun B H σ F Q q => h B H σ F _ fun d v B1 H1 e1 s1 k1 => by
  cases e1
  have F1 := F.step s1
  obtain ⟨a, xs, rfl, h1, h2⟩ := k1.lst F1.sub
  rw [dpall_ints h2] at h1
  refine ⟨a, ns, rfl, h1, by omega, fun p c hp hc => ?_⟩
  have s2 : Stp C.dl B1 H1 B1 (upd H1 p (SetO w p (fun j => decide (j ∈ ns)) c)) := Stp.newM F1.sub hp
  have F2 := F1.step s2
  refine ⟨p, _, c, rfl, upd_same, by omega, fun ms r hs hm hl hr => ?_⟩
  have s3 : Stp C.dl B1 (upd H1 p (SetO w p (fun j => decide (j ∈ ns)) c)) B1 (upd (upd H1 p (SetO w p (fun j => decide (j ∈ ns)) c)) r (.lst (ms.map V.int))) := Stp.newM F2.sub hr
  have s := (s1.trans F.dlNow s2).trans F.dlNow s3
  exact q _ r (ms.map V.int) B1 _ ⟨ms, rfl, hs, fun k => by rw [hm k, decide_eq_true_eq]⟩ s (back_none F (s1.trans F.dlNow s2) hr) (F2.sub.free hr) upd_same (dpall_map _ _ (fun x => .int x) ms)
/-- len(set(t)), t a tuple of ints, all unlike -/
theorem ve_lenSetT (h : VE C te Γ (Is (.tuple (ns.map .int)))) (hn : ns.length ≤ 4000) (nd : ns.Nodup) : VE C (tCB (rLenSet w) (tCons (tCB (rSetTI C.K w) (tCons te tNil)) tNil)) Γ (Is (.int (ns.length : Nat))) := fun B H σ F Q q => h B H σ F _ fun d v B1 H1 e1 s1 k1 => by
  cases e1
  obtain ⟨a, xs, rfl, h1, h2⟩ := dp_tup k1
  rw [dpall_ints h2] at h1
  have F1 := F.step s1
  refine ⟨a, ns, rfl, same_t F1.sub h1, by omega, fun p c hp hc => ?_⟩
  have s2 : Stp C.dl B1 H1 B1 (upd H1 p (SetO w p (fun j => decide (j ∈ ns)) c)) := Stp.newM F1.sub hp
  refine ⟨p, _, c, rfl, upd_same, fun ⟨l, l1, l2, l3⟩ => ?_⟩
  have e : c = ns.length := by
    rw [← l3]
    refine List.Perm.length_eq ((List.perm_ext_iff_of_nodup l1 nd).mpr fun k => ?_)
    rw [l2 k, decide_eq_true_eq]
  rw [e]
  exact q _ _ B1 _ rfl (s1.trans F.dlNow (by rw [e] at s2; exact s2)) (.int _)
theorem ve_revT (h : VE C te Γ (Is (.tuple ds))) : VE C (tRevT C.K te) Γ (Is (.tuple ds.reverse)) := fun B H σ F Q q => h B H σ F _ fun d v B1 H1 e1 s1 k1 => by
  cases e1
  obtain ⟨a, xs, rfl, h1, h2⟩ := dp_tup k1
  have F1 := F.step s1
  refine ⟨a, xs, rfl, same_t F1.sub h1, fun p hp => ?_⟩
  have s2 : Stp C.dl B1 H1 (upd B1 p (.tup xs.reverse)) (upd H1 p (.tup xs.reverse)) := Stp.new F1.sub hp
  exact q _ _ _ _ rfl (s1.trans F.dlNow s2) (.tup (Or.inl (Or.inl upd_same)) (dpall_mono s2.ext (dpall_rev h2)))
end
/-! ### targets -/
theorem vg_lst {C : Cn} {Γ Γ' : List Sl} {ds : List D} {n : Nat} {gs : TGs} {js : List Nat} (h : VGs C gs ds Γ Γ' js) (n1 : ds.length = n) : VG C (gLst C.K n gs) (.list ds) Γ Γ' js := by
  refine ⟨fun {B H σ v} F hd Q q => ?_, h.own⟩
  obtain ⟨a, xs, rfl, h1, h2⟩ := dp_lst hd
  exact ⟨a, xs, rfl, same_l F.sub h1, (dpall_len h2).trans n1, h.run F h2 Q q⟩
/-! ### dict(pairs) -/
def rDictP (K : PySem.W.Frag) : List V → Hp → VK → Prop := fun xs H Q => ∃ (a : Addr) (ps : List Addr) (kvs : List (Key × V)), xs = [.ref a] ∧ SqL K H a (ps.map V.ref) ∧ Paired (fun p kv => SqT K H p [kV kv.1, kv.2]) ps kvs ∧ ∀ p, H p = none → Q (.ref p) (upd H p (.dK (mergeK [] kvs)))
theorem cr_dictP {X : Cx} (hc : X.calm = true) : CallR X (.type "dict") (rDictP X.K) := call_dictP hc
theorem pairs_dq {C : Cn} {B H : Hp} (e : Same B H) : ∀ {kvs : List (Key × D)} {vs : List V}, DqAll C.K B vs (kvs.map fun p => .tuple [kD p.1, p.2]) →
    ∃ (ps : List Addr) (ws : List (Key × V)), vs = ps.map V.ref ∧ Paired (fun p kv => SqT C.K H p [kV kv.1, kv.2]) ps ws ∧ ws.map Prod.fst = kvs.map Prod.fst ∧ DqAll C.K B (ws.map Prod.snd) (kvs.map Prod.snd)
  | [], _, .nil => ⟨[], [], rfl, .nil, rfl, .nil⟩
  | p :: kvs, _, .cons h t => by
    obtain ⟨ps, ws, rfl, h1, h2, h3⟩ := pairs_dq e t
    obtain ⟨a, xs, rfl, g1, g2⟩ := dp_tup h
    cases g2 with
    | cons k1 k2 =>
      cases k2 with
      | cons k2 k3 =>
        cases k3
        obtain rfl := dp_key k1
        exact ⟨a :: ps, (p.1, _) :: ws, rfl, .cons (same_t e g1) h1, by rw [List.map_cons, List.map_cons, h2], .cons k2 h3⟩
theorem vn_dictP {C : Cn} {Γ : List Sl} {te : TE} {kvs : List (Key × D)} (h : VV C te Γ (Is (.list (kvs.map fun p => .tuple [kD p.1, p.2])))) (nd : (kvs.map Prod.fst).Nodup) : VN C (tCB (rDictP C.K) (tCons te tNil)) Γ kvs := fun B H σ F Q q => h B H σ F _ fun d v B1 H1 e1 s1 k1 => by
  cases e1
  have F1 := F.step s1
  obtain ⟨a, xs, rfl, h1, h2⟩ := k1.lst F1.sub
  obtain ⟨ps, ws, rfl, g1, g2, g3⟩ := pairs_dq F1.sub h2
  refine ⟨a, ps, ws, rfl, h1, g1, fun p hp => ?_⟩
  have em : mergeK [] ws = ws := by
    rw [Ly.mergeK_new ws [] (fun _ h => nomatch h) (by rw [show ws.map (·.1) = kvs.map Prod.fst from g2]; exact nd)]
    rfl
  rw [em]
  exact q p ws B1 _ (s1.trans F.dlNow (Stp.newM F1.sub hp)) (back_none F s1 hp) (F1.sub.free hp) upd_same g2 g3
/-- a name gets a new dict -/
theorem vs_setN {C : Cn} {Γ : List Sl} {te : TE} {kvs : List (Key × D)} {i : Nat} {P : Po} (h : VN C te Γ kvs) (k : P.nx (Γ.set i (.odk kvs))) : VS C (tAsg te (gName i)) Γ P := fun B H σ E F n r b c =>
  h B H σ F _ fun p ws B1 H1 s1 e1 e2 e3 e4 e5 => n _ B1 H1 _ k s1.ext ((F.step s1).setDk (F.newC e1) e2 e3 e4 e5)
/-- d[k] = e, k there -/
theorem vs_putOld {C : Cn} {Γ : List Sl} {te ty : TE} {kvs : List (Key × D)} {k : Key} {R : D → Prop} {i : Nat} {P : Po} (hi : Γ[i]? = some (.odk kvs)) (ho : ∀ j zs, j ≠ i → Γ[j]? ≠ some (.odk zs)) (h : VE C te Γ R) (hx : VE C ty Γ (Is (kD k))) (hk : (getK kvs k).isSome = true) (hz : kvs.length < 100000)
    (q : ∀ d, R d → P.nx (Γ.set i (.odk (kvs.map fun p => if p.1 = k then (p.1, d) else p)))) : VS C (tAsg te (gSub (tVar i) ty rSetD)) Γ P := fun B H σ E F n r b c => h B H σ F _ fun d v B1 H1 rd s1 k1 => by
  obtain ⟨p, ws, e, hC, hB, hp, hw, hd⟩ := F.hasDk hi
  have F1 := F.step s1
  refine ⟨.ref p, e, hx B1 H1 σ F1 _ fun x w B2 H2 ex s2 k2 => ?_⟩
  cases ex
  obtain rfl := dp_key k2
  have hp' := s2.keep p _ (s1.keep p _ hp (F.notMd hC)) (F.notMd hC)
  have hl : ws.length = kvs.length := by
    have := congrArg List.length hw
    simpa using this
  refine ⟨p, _, rfl, Or.inl ⟨ws, k, hp', rfl, sz6 (by rw [hl]; exact hz), rfl⟩, ?_⟩
  have ep : L2.putK ws k v = ws.map fun kv => if kv.1 = k then (kv.1, v) else kv := by
    unfold L2.putK
    rw [L2.valV_any, get_none hw, hk]
    rfl
  rw [ep]
  have both : ∀ {ws : List (Key × V)} {kvs : List (Key × D)}, ws.map Prod.fst = kvs.map Prod.fst → DqAll C.K B2 (ws.map Prod.snd) (kvs.map Prod.snd) →
      (ws.map fun kv => if kv.1 = k then (kv.1, v) else kv).map Prod.fst = (kvs.map fun p => if p.1 = k then (p.1, d) else p).map Prod.fst ∧ DqAll C.K B2 ((ws.map fun kv => if kv.1 = k then (kv.1, v) else kv).map Prod.snd) ((kvs.map fun p => if p.1 = k then (p.1, d) else p).map Prod.snd) := by
    intro ws
    induction ws with
    | nil =>
      intro kvs e1 e2
      cases kvs with
      | nil => exact ⟨rfl, .nil⟩
      | cons _ _ => cases e1
    | cons a ws ih =>
      intro kvs e1 e2
      cases kvs with
      | nil => cases e1
      | cons b kvs =>
        simp only [List.map_cons, List.cons.injEq] at e1
        simp only [List.map_cons] at e2
        cases e2 with
        | cons x1 x2 =>
          obtain ⟨y1, y2⟩ := ih e1.2 x2
          by_cases z : b.1 = k
          · have za := e1.1.trans z
            simp only [List.map_cons, if_pos z, if_pos za]
            exact ⟨by rw [y1, e1.1], .cons (dp_mono s2.ext k1) y2⟩
          · have za : ¬ a.1 = k := fun y => z (e1.1.symm.trans y)
            simp only [List.map_cons, if_neg z, if_neg za]
            exact ⟨by rw [y1, e1.1], .cons x1 y2⟩
  obtain ⟨y1, y2⟩ := both hw (dpall_mono (s1.ext.trans s2.ext) hd)
  exact n _ B2 _ σ (q d rd) (s1.ext.trans s2.ext) ((F1.step s2).mutDk hi ho e y1 y2)
end Ly

/-! Lyk: the end of a law whose numbers may be so great that the library's own long division is asked. -/
namespace Ly
open PySem PySem.Spec PyProof.Rows L2
section
variable {P : Program} {w : World} {K : PySem.W.Frag} {mg mb : Str → Option Value} {k : Nat} {fa a : Addr} {fd : FuncData} {x : Str} {sp : Sp} {s₁ : Shared} {vs : List Value} {ns : List Int}
theorem law_gN (KX : K.In s₁.heap) (hns : s₁.heap.Ns mainGlobals mg) (hN : s₁.heap.NoSeer) (hb : s₁.heap.Ns builtinsNs mb) (hbb : ∀ x : Str, x ≠ "__name__" → mb x = bootBuiltins x) (hlim : s₁.heap.NoLimit) (hg : s₁.gens = #[])
    (ha : s₁.heap.get? a = some { cls := .type "list", data := .seq vs.toArray }) (hi : IntsAre vs ns) (hl : ns.length ≤ sizeLine) (hr : Room k callerA)
    (F : ∀ base : Heap, K.In base → base.Ns mainGlobals mg → base.NoSeer → GOk P w K mg base CX0 k fa fd [x] sp) (hbind : ∀ (s : Shared) (u : Value), BindsTo s fd ⟨[u], []⟩ [(x, u)])
    (hsp : ∀ H : Hp, SqL K H a (ns.map V.int) → sp [.ref a] H (fun v _ => v = .bl true) E0) :
    codeAny (model P w) callerA (.call (.ref fa) ⟨[.ref a], []⟩) (fun r s' => r = .ok (.ret (.bool true)) ∧ OldK s₁.heap s'.heap ∧ s'.os = s₁.os ∧ AllBare s'.gens) s₁ := by
  have rv : Vals (ns.map V.int) vs := vals_ints hi
  have lv : vs.length = ns.length := by
    have := rv.length
    rw [List.length_map] at this
    exact this.symm
  let o : Obj := { cls := .type "list", data := .seq vs.toArray }
  let H : Hp := H1 K a o (ns.map V.int)
  have ok : HOk P w H s₁.heap := fun b u e => by
    obtain ⟨rfl, _, rfl⟩ := h1_only e
    exact ⟨ha, by rw [List.length_map]; exact hl, vs, _, rv, ha⟩
  have sq : SqL K H a (ns.map V.int) := by
    cases e : K.lookup a with
    | none => exact Or.inl (Or.inr ⟨o, h1_at e⟩)
    | some u =>
      have e2 := KX a u e
      rw [ha] at e2
      cases e2
      exact Or.inr ⟨_, vs.toArray, _, e, rfl, rfl, rfl, by rw [List.size_toArray, lv]; exact hl, by simpa using rv⟩
  have free : ∀ {b : Addr} {u : Obj} {es : Array DictEntry} {ep : Nat}, s₁.heap.get? b = some u → u.data = .dict es ep → H b = none := fun {b u es ep} e d => by
    cases q : H b with
    | none => rfl
    | some v =>
      obtain ⟨rfl, _, _⟩ := h1_only q
      rw [ha] at e
      cases e
      cases d
  have ns1 : ∀ {b : Addr} {m : Str → Option Value}, s₁.heap.Ns b m → (hidT s₁.heap H).Ns b m := by
    rintro b m ⟨u, es, ep, e, d, r⟩
    exact ⟨u, es, ep, hidT_get e (free e d), d, r⟩
  have kin : K.In (hidT s₁.heap H) := fun b u e => hidT_get (KX b u e) (by
    cases q : H b with
    | none => rfl
    | some v =>
      obtain ⟨rfl, z, _⟩ := h1_only q
      rw [z] at e
      cases e)
  have seer : (hidT s₁.heap H).NoSeer := by
    obtain ⟨⟨m1, x1, y1⟩, ⟨m2, x2, y2⟩, ⟨m3, x3, y3⟩, mg4, bm, ob, x4, y4, z4, c4, d4⟩ := hN
    refine ⟨⟨m1, ns1 x1, y1⟩, ⟨m2, ns1 x2, y2⟩, ⟨m3, ns1 x3, y3⟩, mg4, bm, ob, ns1 x4, y4, hidT_get z4 ?_, c4, d4⟩
    cases q : H bm with
    | none => rfl
    | some v =>
      obtain ⟨rfl, _, _⟩ := h1_only q
      rw [ha] at z4
      cases z4
      exact absurd (show Value.type "list" = Value.type "module" from c4) (by decide)
  obtain ⟨mc, hc1, hc2⟩ := hlim
  have hm : Mod K mg (hidT s₁.heap H) := ⟨kin, ns1 hns, ⟨mb, ns1 hb, hbb⟩, mc, ns1 hc1, hc2⟩
  have none_in : ∀ b : Addr, b ∉ frs ([] : List Env) := fun b hb => nomatch hb
  have e0 : Env0 P w K mg (hidT s₁.heap H) callerA [] s₁ H :=
    { frames := rfl, mod := hm, bs := fun b u e => of_hidT e, bsz := Nat.le_of_eq (hidT_size _ _), funs := trivial, frf := fun b hb => absurd hb (none_in b), hok := ok, bare := .of_eq hg }
  refine codeAny_mono ((F _ kin (ns1 hns) seer).does (us := [.ref a]) (vs := [.ref a]) (E := E0) rfl hr e0 (hbind s₁ (.ref a)) (.cons rfl .nil) (hsp H sq)) fun r s' h => ?_
  cases r with
  | error e => exact False.elim h
  | ok fl =>
    cases fl with
    | next => exact False.elim h
    | brk => exact False.elim h
    | cont => exact False.elim h
    | ret u =>
      obtain ⟨v, H', os, bare, un, ok', rr, q⟩ := h
      obtain rfl : v = .bl true := q
      obtain rfl : u = Value.bool true := rr
      refine ⟨rfl, OldK.of_keep fun b u e => ?_, os, bare⟩
      cases q : H b with
      | none => exact un.keep b u e q (none_in b) (fun z => nomatch z)
      | some y =>
        obtain ⟨rfl, _, rfl⟩ := h1_only q
        obtain ⟨e2, _⟩ := ok' b _ (un.frzs b _ _ q)
        rw [e2, ← e, ha]
end
/-- the goal that k_head leaves, from a law's promise over GOk -/
theorem walk_gN {l : PySem.W.OpenLaw} {n k : Nat} {q : Program} {loose : List Str} {XP : (Str → Option Value) → Heap → Prop} {YP : World → Heap → Prop} {d : DefRec} {K : Params → PySem.W.Frag} {sp : PySem.W.Frag → Sp} {x : Str}
    (hn : l.most = some n) (hn2 : n ≤ sizeLine) (hdf : d.params.defaults = []) (hr : Room k callerA) (hi : importsNone q = true)
    (hY : ∀ (w : World) (h : Heap), YP w h → (K w.params).In h)
    (F : ∀ (w : World) (mg : Str → Option Value) (fa : Addr) (h : Heap), (K w.params).In h → h.Ns mainGlobals mg → mg d.name = some (.ref fa) →
      ∃ fd : FuncData, (∀ (s : Shared) (u : Value), BindsTo s fd ⟨[u], []⟩ [(x, u)]) ∧ ∀ base : Heap, (K w.params).In base → base.Ns mainGlobals mg → base.NoSeer → GOk l.prog w (K w.params) mg base CX0 k fa fd [x] (sp (K w.params)))
    (hsp : ∀ (K : PySem.W.Frag) (H : Hp) (a : Addr) (ns : List Int), ns.length ≤ n → SqL K H a (ns.map V.int) → sp K [.ref a] H (fun v _ => v = .bl true) E0) :
    PySem.W.WalkO q loose XP YP l.row.toRowW d [] (fun f vs => PySem.call f vs) := by
  apply Att.attach_call hn hdf
  intro w s₀ s₁ mg mb fa o pm cd doc a vs ns G Y ho hd hcd hmg hobj hints hlen hg
  obtain ⟨fd, hb, hF⟩ := F w mg fa _ (hY w _ Y) G.T.g hmg
  exact law_gN (hY w _ Y) G.T.g (G.T.seer hi) G.T.b G.T.builtins G.T.nolimit hg hobj hints (Nat.le_trans hlen hn2) hr hF hb fun H hS => hsp _ H a ns hlen hS

end Ly

/-! Lyl: C(fld = u), C an own exception class over ValueError. -/
namespace PySem
namespace LyKw
open Builtin Builtin.ObjectAttr HandSPX
section
variable {prog : Program} {w : World} {A : Around} {E : Value → Shared → Prop} {R : Result → Shared → Prop} {h : Heap} {g : Array GenState} {d : Drawn} {t : Nat} {os : OsState}
variable {nm q fld : Str} {C N : Addr} {bs bm bmB : List Value} {hdct : Bool} {sn : List Str} {sub : List Value} {ab : Bool} {col : Option Bool} {dd : Option Addr} {k0 k1 k2 k3 k5 : Option Value} {B newId initId : String} {u : Value}
theorem new_check_kw {M : Model} (F : ExcBaseFacts B newId initId bmB) (hT : ∀ X : String, bm.contains (.type X) = bmB.contains (.type X)) {Q : Unit → Shared → Prop}
    (hC : h.get? C = some (excClassObj nm q C N bs bm hdct sn sub ab col dd k0 k1 k2 k3 k5 newId)) (hq : Q () ⟨h, g, d, t, os⟩) : wpAny M A (checkBuiltinCall newId ⟨[.ref C], [(fld, u)]⟩) Q E ⟨h, g, d, t, os⟩ := by
  have c1 : (Value.ref C :: bm).contains (.type B) = true := by rw [List.contains_cons, hT, F.hasB, Bool.or_true]
  have c2 := F.noStar
  simp only [checkBuiltinCall, F.newKind, F.newSplit, F.newRow]
  repeat (first | refine wpAny_staticBase_exc hC ?_ | refine wpAny_madeBy_exc hC ?_ | (refine wpAny_isSubtype_exc hC ?_; rw [c1]) | refine wpAny_loadPart_at hC ?_ | simp only [bne_self_eq_false, Bool.false_eq_true, if_false] | wp_step)
  exact hq
theorem new_kw (F : ExcBaseFacts B newId initId bmB) (hT : ∀ X : String, bm.contains (.type X) = bmB.contains (.type X))
    (hC : h.get? C = some (excClassObj nm q C N bs bm hdct sn sub ab col dd k0 k1 k2 k3 k5 newId))
    (hq : R (.ok (.ret (.ref (h.objs.size + 1)))) ⟨(h.push { cls := .type "tuple", data := .seq ([] : List Value).toArray }).push (excO C h.objs.size), g, d, t, os⟩) :
    codeAny (model prog w) A (.builtin newId ⟨[.ref C], [(fld, u)]⟩) R ⟨h, g, d, t, os⟩ := by
  have he := F.ends
  have c1 : (Value.ref C :: bm).contains (.type B) = true := by rw [List.contains_cons, hT, F.hasB, Bool.or_true]
  have c2 : (Value.ref C :: bm).contains (.type "AttributeError") = false := by rw [List.contains_cons, hT, F.noAttr]; rfl
  have c3 : (Value.ref C :: bm).contains (.type "NameError") = false := by rw [List.contains_cons, hT, F.noName]; rfl
  refine codeAny_builtinAt F.entry ?_
  unfold Builtin.«BaseException.__new__»
  refine wpAt_bind ?_
  show wpAt _ _ _ (stack >>= _) _ _ _
  refine wpAt_bind (wpAt_stack fun p below => wpAt_of_wpAny ?_)
  wp_walk
  refine wpAt_of_wpAny ?_
  rw [F.owner]
  repeat (first | with_reducible refine wpAny_madeHere_exc F.canon hC ?_ | with_reducible refine wpAny_loadPart_at hC ?_ | (with_reducible refine wpAny_isSubtype_exc hC ?_; first | rw [c1] | rw [c2] | rw [c3]) | wp_step)
  show R _ _
  rw [Heap.size_push]
  exact hq
theorem tcheck_kw {M : Model} {Q : Unit → Shared → Prop} (hC : h.get? C = some (excClassObj nm q C N bs bm hdct sn sub ab col dd k0 k1 k2 k3 k5 newId))
    (hq : Q () ⟨h, g, d, t, os⟩) : wpAny M A (checkBuiltinCall "type.__call__" ⟨[.ref C], [(fld, u)]⟩) Q E ⟨h, g, d, t, os⟩ := by
  have f3 := tc_sub
  have hT : (⟨h, g, d, t, os⟩ : Shared).TypeIs (.ref C) "type" := ⟨_, hC, rfl⟩
  simp only [checkBuiltinCall, tc_kind, tc_split]
  repeat (any_goals (first | assumption | with_reducible refine wpAny_map ?_ | with_reducible refine wpAny_onRaise ?_ | with_reducible refine wpAny_loadPart_at hC ?_ | wp_step))
theorem tcall_kw (F : ExcBaseFacts B newId initId bmB) (hT : ∀ X : String, bm.contains (.type X) = bmB.contains (.type X)) {fI : Addr} {Q : Fin → Shared → Prop}
    (hC : h.get? C = some (excClassObj nm q C N bs bm hdct sn sub ab col dd k0 k1 k2 k3 k5 newId))
    (hi : W.Looks (model prog w) h (typeLookup (.ref C) "__init__") (some (.ref fI))) (hb : ∀ self, W.Looks (model prog w) h (bindSpecial (.ref fI) self) (.ref fI, [self]))
    (hq : codeAny (model prog w) A (.call (.ref fI) ⟨[.ref (h.objs.size + 1)], [(fld, u)]⟩)
      (fun r s' => match r with | .ok (.ret v) => v = .none ∧ Q (.done (.ret (.ref (h.objs.size + 1)))) s' | .ok _ => False | .error e => E e s')
      ⟨(h.push (W.kdv_tup [])).push (excO C h.objs.size), g, d, t, os⟩) :
    wpAny (model prog w) A (Builtin.«type.__call__» ⟨[.ref C], [(fld, u)]⟩) Q E ⟨h, g, d, t, os⟩ := by
  repeat (first | with_reducible refine wpAny_madeBy_exc hC ?_ | with_reducible refine wpAny_loadPart_at hC ?_ | wp_step)
  refine codeAny_call_builtin_code (Code.quiet_builtin _ F.quiet) (new_check_kw F hT hC (new_kw F hT hC ?_))
  show wpAny _ _ _ _ _ _
  have up : ∀ b o, h.get? b = some o → ((h.push (W.kdv_tup [])).push (excO C h.objs.size)).get? b = some o := fun _ _ z => Heap.get?_push_of_some _ (Heap.get?_push_of_some _ z)
  have hC1 := up _ _ hC
  have at1 : ((h.push (W.kdv_tup [])).push (excO C h.objs.size)).get? (h.objs.size + 1) = some (excO C h.objs.size) := by heap_get
  have cC : (Value.ref C :: bm).contains (.ref C) = true := by simp
  have i1 := hi.keeps up
  have b1 := (hb (.ref (h.objs.size + 1))).keeps up
  unfold isInstance
  repeat (first | (with_reducible refine wpAny_isSubtype_exc hC1 ?_; rw [cC]) | with_reducible refine wpAny_loadPart_at at1 ?_ | wp_step)
  show wpAny _ _ (typeLookup (.ref C) _) _ _ _
  refine i1.at (wpAny_holding (wpAny_bind (b1.at (wpAny_bind (wpAny_call (codeAny_mono hq fun r s' z => ?_))))))
  rcases r with e | (v | _ | _ | _) <;> first | exact z | exact z.elim | skip
  obtain ⟨rfl, z⟩ := z
  first
    | exact wpAny_pure (wpAny_pure z)
    | (wp_walk; exact z)
/-- C(fld = u) -/
theorem call_kw (F : ExcBaseFacts B newId initId bmB) (hT : ∀ X : String, bm.contains (.type X) = bmB.contains (.type X)) {fI : Addr}
    (hC : h.get? C = some (excClassObj nm q C N bs bm hdct sn sub ab col dd k0 k1 k2 k3 k5 newId))
    (hi : W.Looks (model prog w) h (typeLookup (.ref C) "__init__") (some (.ref fI))) (hb : ∀ self, W.Looks (model prog w) h (bindSpecial (.ref fI) self) (.ref fI, [self]))
    (hq : codeAny (model prog w) (A.under (.builtin "type.__call__" ⟨[.ref C], [(fld, u)]⟩)) (.call (.ref fI) ⟨[.ref (h.objs.size + 1)], [(fld, u)]⟩) (W.InitBack (h.objs.size + 1) R)
      ⟨(h.push (W.kdv_tup [])).push (excO C h.objs.size), g, d, t, os⟩) :
    codeAny (model prog w) A (.call (.ref C) ⟨[], [(fld, u)]⟩) R ⟨h, g, d, t, os⟩ := by
  have f1 := tc_lookup
  have f2 := tc_bind (.ref C)
  have isT : (⟨h, g, d, t, os⟩ : Shared).TypeIs (.ref C) "type" := ⟨_, hC, rfl⟩
  refine codeAny_of_tree ?_
  show wpAny _ _ (callAny (.ref C) _) _ _ _
  repeat (any_goals (first | assumption | with_reducible refine wpAny_loadPart_at hC ?_ | wp_step))
  refine ⟨rfl, codeAny_call_builtin_at (Code.quiet_builtin _ (by decide +kernel)) entry_typeCall (tcheck_kw hC (tcall_kw F hT hC hi hb ?_))⟩
  refine codeAny_mono hq fun r s' z => ?_
  rcases r with e | (v | _ | _ | _) <;> exact z
end
end LyKw
end PySem

/-! Lym: own exceptions with no field; own exceptions made where their context is known to be None; C(fld = e).fld. -/
namespace Ly
open PySem PySem.Spec PyProof.Rows L2 NdefX
/-! ### __init__(self) of an own exception -/
section
open PySem.W PySem.Calls
variable {CX : CXT} {P : Program} {w : World} {K : PySem.W.Frag} {mg : Str → Option Value} {base : Heap}
abbrev nAt0 : List Str := ["self", "__class__"]
abbrev pAt0 : List Str := ["self"]
/-- __init__(self): nothing is kept -/
def SpAt0 (K : PySem.W.Frag) (D : Addr) : Sp := fun vs H Q _ => ∃ (a C : Addr), vs = [.ref a] ∧ OexC K C ∧ mroIn K C (.ref D) = some true ∧ ks_superIn K C D "__init__" = some (some (.builtin "ValueError.__init__")) ∧ subIn K (.ref C) (.type "ValueError") = some true ∧ H a = some (exo a C none) ∧ Q .non H
theorem oinit0_fn {k : Nat} {f D cda cc : Addr} {name qual msg file : Str} {params : Arguments} {scope : Scope} {dV kV doc pm ct oc ccl cl : Value} {an od cdd cld : Option Addr} {osl ccs csl : Array (Option Value)} {vs0 : Array Value} {tf : Tok} {j : Nat} {p0 p1 p2 p3 p4 q0 : Pos} {ar : Arg} {cdD : ClassData}
    (lk : K.lookup f = some ⟨oc, od, .func (PySem.W.fnX name qual params [stSup p0 p1 p2 p3 p4 q0 msg j] scope [(("__class__" : Str), cc)] dV kV doc pm an (.ref cda) ct), osl⟩) (hcd : PySem.W.codeIn K (.ref cda) qual = true)
    (S : NScope nAt0 pAt0 fAt scope) (hp : (params.posonlyargs ++ params.args).head? = some ar) (har : ar.arg = ("self" : Str))
    (hcda : K.lookup cda = some ⟨ccl, cdd, .fields vs0, ccs⟩) (hvs : vs0[2]? = some (.str file tf)) (hfile : ((P.main.file : Str) == file) = true) (hcell : K.lookup cc = some ⟨cl, cld, .cell (some (.ref D)), csl⟩)
    (hD : clsIn K D = some cdD) (hm : mg "super" = none) (hks : scope.names.lookup ("super" : Str) = some .globalImplicit) (htop : (P.main.scope.names.lookup ("super" : Str)).isSome = false) (ho : nsIn K cStatics "thirdparty.any" = some none)
    (hc : ∀ env : Env, ∃ pl : Sem Bool, eval (.Call (.Attribute (.Call (.Name "super" p0) [] [] p1) "__init__" p2) [.Constant (.str msg) j p3] [] p4) env = (do
      let ov ← attributeBase (.Call (.Name "super" p0) [] [] p1) "__init__" env (eval (.Call (.Name "super" p0) [] [] p1) env)
      standAt p2.atName
      let (f, first) ← holding [ov] (getMethod ov "__init__" pl)
      callWith p4 f first (backTo p4 (starEach [.Constant (.str msg) j p3] env)) []))
    (hs1 : ∀ env : Env, swapsWith (.Call (.Attribute (.Call (.Name "super" p0) [] [] p1) "__init__" p2) [.Constant (.str msg) j p3] [] p4) none q0.line env = pure false) :
    FnOk P w K mg base CX (k + 1) f (PySem.W.fnX name qual params [stSup p0 p1 p2 p3 p4 q0 msg j] scope [(("__class__" : Str), cc)] dV kV doc pm an (.ref cda) ct) pAt0 (SpAt0 K D) := by
  refine ⟨fun vs H Q E ⟨a, C, e, _⟩ => by rw [e] <;> rfl, fun A outer s H args us vs Q E hr e0 hb r hsp => ?_⟩
  obtain ⟨a, C, ev, T, hsub, hsup, hB, ea, hq⟩ := hsp
  subst ev
  have KX : K.In s.heap := e0.mod.kin.keeps fun b o e => (e0.bs b o e).1
  have lim : s.heap.NoLimit := e0.mod.nolimit.keeps fun b o e => (e0.bs b o e).1
  refine ks_codeAny_call_defAt (binds := pAt0.zip us) (body := [stSup p0 p1 p2 p3 p4 q0 msg j]) hr.depth (KX _ _ lk) rfl lim (PySem.W.codeRec_of KX hcd) rfl hb S.nocell (fun ⟨n, _⟩ hy => S.par n (List.of_mem_zip hy).1) (fun h₁ hns kp => ?_) S.co S.gen S.kind
  have CA : CellsAt [(("__class__" : Str), cc)] fAt [none] s.heap H := by
    have z : ∀ (y : Str) (c : Addr), List.lookup y [(("__class__" : Str), cc)] = some c → y = "__class__" ∧ c = cc := fun y c e => by
      have := PySem.mem_of_lookup e
      simp at this
      exact this
    refine ⟨rfl, fun y c e => ?_, fun x y c e1 e2 => (z _ _ e1).1.trans (z _ _ e2).1.symm, fun i y hi => ?_⟩
    · obtain ⟨_, rfl⟩ := z _ _ e
      have hbs := e0.bs _ _ (e0.mod.kin _ _ hcell)
      exact ⟨hbs.2, _, _, hbs.1, rfl⟩
    · match i, hi with
      | 0, hi =>
        cases hi
        exact ⟨cc, rfl, fun v z => by cases z⟩
      | i + 1, hi => cases hi
  let F : NF := ⟨name, qual, params, [stSup p0 p1 p2 p3 p4 q0 msg j], scope, [(("__class__" : Str), cc)], cda⟩
  have I : Inv (ncx CX P w K mg base nAt0 F f A outer s H E) [] (startF nAt0 [.ref a] [none]) H { s with heap := h₁, toks := s.toks + (pAt0.zip us).length } :=
    inv_startN (ps := pAt0) (fr := fAt) (F := F) S hr.hd e0 rfl r CA hns kp
  show _root_.PySem.wpAt (model P w) (A.deeper (envF F f s.heap.objs.size)) (.func F.body (envF F f s.heap.objs.size)) (execs [stSup p0 p1 p2 p3 p4 q0 msg j] (envF F f s.heap.objs.size)) _ _ _
  refine ks_wpAt_execs_cons ?_
  have hka : scope.names.lookup ("self" : Str) = some .local := S.par _ (by simp)
  obtain ⟨pl, hpl⟩ := hc (envF F f s.heap.objs.size)
  have hS := sup_at (X := ncx CX P w K mg base nAt0 F f A outer s H E) (C := C) (D := D) (fI := f) (cda := cda) (cc := cc) (body := F.body) (p0 := p0) (p1 := p1) (p2 := p2) (p3 := p3) (p4 := p4) (msg := msg) (j := j) I ea T rfl rfl lk hp hcda hvs hfile hcell rfl hD hsub hm hks (S.frk _ (by simp)) (by rw [har]; exact hka) (by rw [har]; rfl) rfl htop hsup hB ho (pl := pl) (hc := hpl)
  have hin : interactive (envF F f s.heap.objs.size) = false := by
    have hk : (envF F f s.heap.objs.size).scope.kind = .function := S.kind
    unfold interactive
    rw [hk]
    rfl
  refine ks_wpAt_Expr_any (ks_wpAt_mono hS (fun v1 s1 J => ?_) fun e s' h => h) hin (hs1 _)
  show _root_.PySem.wpAt _ _ _ (execs [] _) _ _ _
  refine wpAt_of_wpAny ?_
  have J' : Inv (ncx CX P w K mg base nAt0 F f A outer s H E) [] (startF nAt0 [.ref a] [none]) H s1 := J
  exact wpAny_execs_nil (show CE outer P w H s Q Value.none s1 from ⟨V.non, H, J'.os, J'.bare, J'.base, J'.hok, rfl, hq⟩)
end
/-! ### C(e, ..) and C() in a raise; what is made has no context -/
/-- C(), C's own __init__ keeping sp -/
def tMk0 (C : Addr) (sp : Sp) : L2.St → Hp → XK → Prop := fun _ H Q => ∀ a, H a = none → sp [.ref a] (upd H a (exo a C none)) (fun v H2 => v = .non ∧ H2 = upd H a (exo a C none) ∧ Q (.ref C) none H) (fun _ _ _ => False)
section
variable {X : Cx} {CX : CXT} {x : Str} {C fI : Addr} {k : Nat} {fd : FuncData} {ps : List Str} {sp : Sp} {e : Expr} {es : List Expr} {ta : TA} {p pos : Pos}
/-- the exception's object is laid, its __init__ run -/
theorem run_oex {pins : List (Addr × Obj)} {σ : L2.St} {H1 : Hp} {Rr : Value → Shared → Prop} {us : List Value} {vs : List V} {hp : Heap} {g : Array GenState} {dr : Drawn} {tk : Nat} {os : OsState} {Qs : VK}
    (T : OexC X.K C) (iC : PySem.W.findIn X.K (.ref C) "__init__" = some (some (.ref fI))) (tI : PySem.W.typeIn X.K (.ref fI) = some (.type "function"))
    (F1 : FnOk X.prog X.w X.K X.mg X.base CX k fI fd ps sp) (hr : Room (k + 1) X.A) (hb : Binds X.K fd ps []) (hx : Passes CX X (fun _ _ _ => False)) (I1 : Inv X pins σ H1 ⟨hp, g, dr, tk, os⟩) (r1 : Vals vs us) (hz : vs.length ≤ 1000)
    (hq : sp (V.ref (hp.objs.size + 1) :: vs) (upd H1 (hp.objs.size + 1) (exo (hp.objs.size + 1) C none)) Qs (fun _ _ _ => False))
    (hn : ∀ v H2, Qs v H2 → v = .non)
    (fin : ∀ (hp1 : Heap) (H2 : Hp) (s' : Shared), (∀ b o, hp.get? b = some o → hp1.get? b = some o) → s'.os = os → AllBare s'.gens → Un (frs X.stack) [] (upd H1 (hp.objs.size + 1) (exo (hp.objs.size + 1) C none)) H2 hp1 s'.heap → HOk X.prog X.w H2 s'.heap → Qs .non H2 → Rr (.ref (hp.objs.size + 1)) s') :
    wpAny (model X.prog X.w) X.A (call (.ref C) us) Rr X.xe ⟨hp, g, dr, tk, os⟩ := by
  obtain ⟨nm, q, N, bs, bm, sn, sub, ab, col, dd, k0, k1, k2, k3, k5, hC, hbm⟩ := T.cls
  have up1 : ∀ b o, hp.get? b = some o → ((hp.push (PySem.W.kdv_tup us)).push (PySem.HandSPX.excO C hp.objs.size)).get? b = some o := fun _ _ z => Heap.get?_push_of_some _ (Heap.get?_push_of_some _ z)
  have at1 : ((hp.push (PySem.W.kdv_tup us)).push (PySem.HandSPX.excO C hp.objs.size)).get? (hp.objs.size + 1) = some (PySem.HandSPX.excO C hp.objs.size) := by heap_get
  have J1 := I1.laid (t' := tk) (o := exo (hp.objs.size + 1) C none) up1 (Nat.le_succ hp.objs.size) (exo_ok at1)
  have rr : Vals (V.ref (hp.objs.size + 1) :: vs) (Value.ref (hp.objs.size + 1) :: us) := .cons rfl r1
  have n1 : (Value.ref (hp.objs.size + 1) :: us).length = ps.length := rr.length.symm.trans (F1.len _ _ _ _ hq)
  have n2 : us.length ≤ sizeLine := by
    have := Paired.length r1
    rw [sizeLine_eq]
    omega
  have b2 := hb _ (Value.ref (hp.objs.size + 1) :: us) J1.kIn (by rw [List.append_nil]; exact n1)
  rw [List.append_nil] at b2
  apply wpAny_call
  apply PySem.HandSPX.call_own F.excBase_ValueError (fun Y => PySem.HandSPX.refsVE_contains Y bm hbm) (I1.kIn _ _ hC) (PySem.W.looks_findIn I1.kIn iC) (fun self => PySem.W.bind_fn I1.kIn self tI) n2
  apply codeAny_mono (F1.run _ X.stack _ _ ⟨Value.ref (hp.objs.size + 1) :: us, []⟩ _ _ _ (fun _ _ _ => False) (hr.make C us []) (J1.env0.make C us []) b2 rr hq)
  intro o s' z
  rcases o with er | fl
  · exact hx pins σ _ _ er s' J1 z
  · cases fl with
    | ret u =>
      obtain ⟨v, H2, z1, z2, z3, z4, z5, z6⟩ := z
      obtain rfl := hn _ _ z6
      exact ⟨z5, fin _ H2 s' up1 z1 z2 z3 z4 z6⟩
    | next => exact z.elim
    | brk => exact z.elim
    | cont => exact z.elim
/-- C(e, ..), the context told -/
theorem pmkN_oex (T : OexC X.K C) (iC : PySem.W.findIn X.K (.ref C) "__init__" = some (some (.ref fI))) (tI : PySem.W.typeIn X.K (.ref fI) = some (.type "function"))
    (F1 : FnOk X.prog X.w X.K X.mg X.base CX k fI fd ps sp) (hr : Room (k + 1) X.A) (hb : Binds X.K fd ps []) (hx : Passes CX X (fun _ _ _ => False)) (hg : Gl X x) (hm : X.mg x = some (.ref C)) (ha : PA X (e :: es) ta)
    (hdb : (x == ("__debug__" : Str)) = false := by decide) (he : starEach (e :: es) X.env = (false, eval e X.env) :: starEach es X.env := by rfl) (hpl : (backTo pos (starEach es X.env)).any (·.1) = false := by rfl) :
    L2N.PMk X (.Call (.Name x p) (e :: es) [] pos) (tMkO C sp [] ta) := by
  intro pins s σ H Q I h
  apply wpAny_Call_Name_kw
  refine ld_glob I hg hm ?_ hdb
  refine PySem.W.callWith_K (h₀ := X.base) I.ok.mod.kin T.kC (thn (ha.run pos pins s σ H _ I h) ?_) he hpl
  rintro us ⟨hp, g, dr, tk, os⟩ ⟨vs, H1, I1, r1, hz, q1⟩
  refine ⟨I1.kIn, ?_⟩
  have hq := q1 (hp.objs.size + 1) (I1.hok.fresh (Nat.le_succ _))
  rw [List.append_nil] at hq
  refine run_oex T iC tI F1 hr hb hx I1 r1 hz hq (fun v H2 z => z.1) fun hp1 H2 s' up1 z1 z2 z3 z4 ⟨_, d, fs, ea, ed, hd1, q2⟩ => ?_
  obtain ⟨h2, g2, d2, t2, os'⟩ := s'
  obtain ⟨t0, G, J, kG, ge, hoe, na⟩ := mk_end0 (d2 := d2) (t2 := t2) I1 (Nat.le_succ _) up1 z3 z4 z1 z2 ea ed hd1
  refine ⟨_, _, _, ⟨G, g2, d2, t2, os'⟩, _, .ref C, some d, rfl, J, kG, ge, hoe, ⟨rfl, rfl, fun vs e => ?_⟩, rfl, rfl, na, rfl, z2, raises_own T.exC T.tyC, q2⟩
  cases e
  rfl
/-- the end of C(): nothing was kept -/
theorem mk_end00 {pins : List (Addr × Obj)} {σ : L2.St} {H1 : Hp} {hp hp2 h2 : Heap} {g1 g2 : Array GenState} {d1 d2 : Drawn} {t1 t2 : Nat} {os1 os2 : OsState} {a : Addr} (I1 : Inv X pins σ H1 ⟨hp, g1, d1, t1, os1⟩)
    (ha : hp.objs.size ≤ a) (k : ∀ b o, hp.get? b = some o → hp2.get? b = some o) (un : Un (frs X.stack) [] (upd H1 a (exo a C none)) (upd H1 a (exo a C none)) hp2 h2) (hok : HOk X.prog X.w (upd H1 a (exo a C none)) h2) (ho : os2 = os1) (hb : AllBare g2) :
    ∃ (t0 : Addr) (G : Heap), Inv X pins σ H1 ⟨G, g2, d2, t2, os2⟩ ∧ (∀ b o, G.get? b = some o → h2.get? b = some o) ∧ G.get? a = none ∧
      h2.get? a = some ({ cls := .ref C, dict := none, data := .fields #[.ref t0, .none, .none, .none, .bool false, .none] } : Obj) ∧ H1 a = none := by
  have hn : H1 a = none := I1.hok.fresh ha
  obtain ⟨t0, hoe⟩ := exo_at hok upd_same
  obtain ⟨G, g1', g2'⟩ := restrict h2 fun b => decide (b ≠ a)
  have gk : ∀ b, b ≠ a → G.get? b = h2.get? b := fun b hb => g1' b (decide_eq_true hb)
  have ge : G.get? a = none := g2' a (by simp)
  have off : ∀ {b : Addr} {o : Obj}, hp.get? b = some o → b ≠ a := fun {b o} z => Nat.ne_of_lt (Nat.lt_of_lt_of_le (Heap.lt_size z) ha)
  have U : Un (frs X.stack) [] H1 H1 hp G := by
    refine ⟨fun b o z n hf hx => ?_, fun b o z n hf hx => ?_, fun b o z n hx => n, fun b o z hx => ?_, fun b xs z => z, fun b o v z => z, fun b ps z => ⟨#[], by simpa using z⟩⟩
    · rw [gk b (off z)]
      exact un.keep b o (k b o z) (by rw [upd_ne (off z)]; exact n) hf hx
    · rw [gk b (off z)]
      exact un.slot b o (k b o z) (by rw [upd_ne (off z)]; exact n) hf hx
    · rw [gk b (off z)]
      exact un.there b o (k b o z) hx
  have hok3 : HOk X.prog X.w H1 G := fun b o z => by
    have hba : b ≠ a := fun e => by
      rw [e, hn] at z
      cases z
    have noa : ∀ {c : Addr}, H1 c = some (.own b) → c ≠ a := fun {c} hc e => by
      rw [e, hn] at hc
      cases hc
    refine (hok b o (by rw [upd_ne hba]; exact z)).stay (fun c v hc y => ?_) (fun c hc => ?_) (fun c xs hc => ?_)
    · have hca : c ≠ a := by
        rcases hc with hc | hc
        · rw [hc]
          exact hba
        · intro e
          rw [e, upd_same] at hc
          cases hc
      rw [gk c hca]
      exact y
    · have hca : c ≠ a := fun e => by
        rw [e, upd_same] at hc
        cases hc
      rw [upd_ne hca] at hc
      exact hc
    · have hca : c ≠ a := fun e => by
        rw [e, upd_same] at hc
        cases hc
      rw [upd_ne hca] at hc
      exact hc
  refine ⟨t0, G, I1.call' (ch := []) ho U hok3 hb (fun b z => absurd z (by simp)), fun b o z => ?_, ge, hoe, hn⟩
  by_cases hba : b = a
  · rw [hba, ge] at z
    cases z
  · exact (gk b hba).symm.trans z
/-- C(), the context told -/
theorem pmkN_oex0 (T : OexC X.K C) (iC : PySem.W.findIn X.K (.ref C) "__init__" = some (some (.ref fI))) (tI : PySem.W.typeIn X.K (.ref fI) = some (.type "function"))
    (F1 : FnOk X.prog X.w X.K X.mg X.base CX k fI fd ps sp) (hr : Room (k + 1) X.A) (hb : Binds X.K fd ps []) (hx : Passes CX X (fun _ _ _ => False)) (hg : Gl X x) (hm : X.mg x = some (.ref C))
    (hdb : (x == ("__debug__" : Str)) = false := by decide) : L2N.PMk X (.Call (.Name x p) [] [] pos) (tMk0 C sp) := by
  intro pins s σ H Q I h
  apply wpAny_Call_Name_kw
  refine ld_glob I hg hm ?_ hdb
  obtain ⟨hp, g, dr, tk, os⟩ := s
  have hq := h (hp.objs.size + 1) (I.hok.fresh (Nat.le_succ _))
  refine PySem.W.callWith_K0 I.kIn T.kC (run_oex T iC tI F1 hr hb hx I .nil (by simp) hq (fun v H2 z => z.1) fun hp1 H2 s' up1 z1 z2 z3 z4 ⟨_, eH, q2⟩ => ?_)
  subst eH
  obtain ⟨h2, g2, d2, t2, os'⟩ := s'
  obtain ⟨t0, G, J, kG, ge, hoe, na⟩ := mk_end00 (d2 := d2) (t2 := t2) I (Nat.le_succ _) up1 z3 z4 z1 z2
  refine ⟨_, _, _, ⟨G, g2, d2, t2, os'⟩, _, .ref C, none, rfl, J, kG, ge, hoe, ⟨rfl, rfl, fun vs e => ?_⟩, rfl, rfl, na, rfl, z2, raises_own T.exC T.tyC, q2⟩
  cases e
  rfl
end
/-! ### C(fld = e).fld -/
def tKwAt (C : Addr) (sp : Sp) (fld : Str) (tk : TA) : TE := fun σ H Q => tk σ H fun zs H1 => ∃ y, zs = [y] ∧ ∀ a, H1 a = none → sp [.ref a, y] (upd H1 a (exo a C none)) (fun v H2 => v = .non ∧ ∃ (d : Addr) (fs : List (Str × V)) (u : V), H2 a = some (exo a C (some d)) ∧ H2 d = some (exd d fs) ∧ H1 d = none ∧ fs.lookup fld = some u ∧ Q u (upd (del H2 a) d (.xd fs))) (fun _ _ _ => False)
section
variable {X : Cx} {CX : CXT} {x fld : Str} {C fI : Addr} {k : Nat} {fd : FuncData} {ps : List Str} {sp : Sp} {kws : List Keyword} {tk : TA} {p pos apos : Pos}
theorem pe_kwAt (T : OexC X.K C) (iC : PySem.W.findIn X.K (.ref C) "__init__" = some (some (.ref fI))) (tI : PySem.W.typeIn X.K (.ref fI) = some (.type "function"))
    (F1 : FnOk X.prog X.w X.K X.mg X.base CX k fI fd ps sp) (hr : Room (k + 1) X.A) (hb : ∀ u y : Value, bindArgs fd ⟨[u], [(fld, y)]⟩ = pure (ps.zip [u, y])) (hx : Passes CX X (fun _ _ _ => False)) (hg : Gl X x) (hm : X.mg x = some (.ref C)) (xf : XfC X.K C) (hno : PySem.W.findIn X.K (.ref C) fld = some none) (hw : PK X kws tk)
    (hks : (backToKw pos (keywordEach kws X.env)).filterMap (·.1) = [fld] := by rfl) (hall : (backToKw pos (keywordEach kws X.env)).all (·.1.isSome) = true := by rfl) (hdb : (x == ("__debug__" : Str)) = false := by decide)
    (hpl : ((backTo pos (starEach [] X.env)).any (·.1) || (backToKw pos (keywordEach kws X.env)).any (·.1.isNone)) = false := by rfl)
    (hab : attributeBase (.Call (.Name x p) [] kws pos) fld X.env (eval (.Call (.Name x p) [] kws pos) X.env) = eval (.Call (.Name x p) [] kws pos) X.env := by rfl) :
    PE X (.Attribute (.Call (.Name x p) [] kws pos) fld apos) (tKwAt C sp fld tk) := by
  refine ⟨fun pins s σ H Q I h => attr_of hab ?_⟩
  obtain ⟨nm, q, N, bs, bm, sn, sub, ab, col, dd, k0, k1, k2, k3, k5, hC, hbm⟩ := T.cls
  apply wpAny_Call_Name_kw
  refine ld_glob I hg hm ?_ hdb
  refine PySem.W.callWith_KW0 (h₀ := X.base) I.ok.mod.kin T.kC hall (thn (hw.run pos pins s σ H _ I h) ?_) hpl
  rintro ws ⟨hp, g, dr, tk0, os⟩ ⟨zs, H1, I1, r1, y, ez, q1⟩
  subst ez
  refine ⟨I1.kIn, ?_⟩
  rw [hks]
  cases r1 with
  | @cons _ u _ us ru rr =>
    cases rr
    have hq := q1 (hp.objs.size + 1) (I1.hok.fresh (Nat.le_succ _))
    have up1 : ∀ b o, hp.get? b = some o → ((hp.push (PySem.W.kdv_tup [])).push (PySem.HandSPX.excO C hp.objs.size)).get? b = some o := fun _ _ z => Heap.get?_push_of_some _ (Heap.get?_push_of_some _ z)
    have at1 : ((hp.push (PySem.W.kdv_tup [])).push (PySem.HandSPX.excO C hp.objs.size)).get? (hp.objs.size + 1) = some (PySem.HandSPX.excO C hp.objs.size) := by heap_get
    have J1 := I1.laid (t' := tk0) (o := exo (hp.objs.size + 1) C none) up1 (Nat.le_succ hp.objs.size) (exo_ok at1)
    have rr : Vals [V.ref (hp.objs.size + 1), y] [Value.ref (hp.objs.size + 1), u] := .cons rfl (.cons ru .nil)
    apply wpAny_call
    apply PySem.LyKw.call_kw F.excBase_ValueError (fun Y => PySem.HandSPX.refsVE_contains Y bm hbm) (I1.kIn _ _ hC) (PySem.W.looks_findIn I1.kIn iC) (fun self => PySem.W.bind_fn I1.kIn self tI)
    apply codeAny_mono (F1.run _ X.stack _ _ ⟨[Value.ref (hp.objs.size + 1)], [(fld, u)]⟩ _ _ _ (fun _ _ _ => False) (hr.make C [] [(fld, u)]) (J1.env0.make C [] [(fld, u)]) (.of_eq (hb _ _)) rr hq)
    intro o s' z
    rcases o with er | fl
    · exact hx pins σ _ _ er s' J1 z
    · cases fl with
      | ret w =>
        obtain ⟨v, H2, z1, z2, z3, z4, z5, z6⟩ := z
        obtain ⟨ev, d, fs, fv, ea, ed, hd1, el, qq⟩ := z6
        subst ev
        obtain ⟨h2, g2, d2, t2, os'⟩ := s'
        obtain ⟨t0, G, J, kG, ge, hoe, na⟩ := mk_end0 (d2 := d2) (t2 := t2) I1 (Nat.le_succ _) up1 z3 z4 z1 z2 ea ed hd1
        refine ⟨z5, ?_⟩
        have J2 : Inv X pins σ (upd (del H2 (hp.objs.size + 1)) d (.xd fs)) ⟨h2, g2, d2, t2, os'⟩ := J.kept (t' := t2) kG
        obtain ⟨mA, hns, hrr⟩ := J2.hok d (.xd fs) upd_same
        obtain ⟨od, ho, hl⟩ := lookIn_ns hns
        obtain ⟨uu, hu, ru2⟩ := RelO.some_of (v := fv) (o := mA fld) (by rw [← el]; exact hrr fld)
        have IA : PySem.W.InstAt h2 (hp.objs.size + 1) _ C (some od) := ⟨hoe, rfl, rfl, ho⟩
        exact HandSPX.exc_get J2.kIn IA xf.ga xf.gg xf.exC (PySem.W.findObj_own xf.hdC hno rfl (by rw [hl, hu])) (handed_of ru2) ⟨fv, _, J2.tok _, ru2, qq⟩
      | next => exact z.elim
      | brk => exact z.elim
      | cont => exact z.elim
end
end Ly

/-! Lyn: a list comprehension within an except suite. -/
namespace Ly
open PySem PySem.Spec PyProof.Rows L2
/-- the block of a comprehension, the handled exception pinned there too -/
abbrev blkH (X : Cx) (p : Addr × Obj) (s : Shared) (H : Hp) (scope : Scope) (ce : Env) (fp : List Addr) : Cx := { X.blk s H scope ce fp with pn := [p] }
section
variable {X : Cx} {p : Addr × Obj} {elt tg iter : Expr} {scope : Scope} {own : List (Str × Nat)} {pos : Pos} {wi : TI} {g : TG} {te : TE}
theorem blkH_pin {s s' : Shared} {H H' : Hp} {ce : Env} {fp : List Addr} {σ : L2.St} (J : Inv (X.blk s H scope ce fp) [] σ H' s') (h : s'.heap.get? p.1 = some p.2 ∧ H' p.1 = none ∧ p.1 ≠ ce.locals ∧ p.1 ∉ (X.blk s H scope ce fp).fs ∧ ∀ v, p.2.data ≠ .cell v) : Inv (blkH X p s H scope ce fp) [] σ H' s' :=
  { J with ok := { J.ok with }, pin := fun q hq => (show p = q from Eq.symm (by simpa using (show q ∈ [p] ++ ([] : List (Addr × Obj)) from hq))) ▸ h }
theorem pe_lcH (h1 : L2H.Hot1 X.A p) (hp : p ∈ X.pn) (nd : X.N.Nodup) (hi : L2H.PIH X tg iter wi) (ok : BlkOk X.N X.env.scope scope own)
    (hg : ∀ (s : Shared) (H : Hp) (C : Addr) (cl : List (Str × Addr)) (fp : List Addr), PG (blkH X p s H scope (compEnvC scope cl C X.env) fp) tg g)
    (he : ∀ (s : Shared) (H : Hp) (C : Addr) (cl : List (Str × Addr)) (fp : List Addr), PE (blkH X p s H scope (compEnvC scope cl C X.env) fp) elt te) (hs : ∀ x, foldedSetIterable iter X.env x = pure x := by exact fun _ => rfl) :
    PE X (.ListComp elt [⟨tg, iter, [], 0⟩] scope pos) (tLc wi g tYes te (own.map (·.2))) := by
  refine ⟨fun pins s σ H Q J w => ?_⟩
  rw [eval_ListComp]
  have cells : ∀ y ∈ scope.names, y.2 = .free → ∃ c, X.env.cells.lookup y.1 = some c := by
    intro y hy e
    exact (ok.free y hy e).elim (fun k => J.ok.has _ (.inl k)) fun k => J.ok.has _ (.inr k)
  apply wpAny_comprehension_free (use := _) rfl hs (closure_ok cells) ok.kind (fun y hy e => by rw [ok.uniq y hy, e])
  apply thn (hi.run pins s σ H _ J w)
  intro xv s1 hx
  apply thn hx
  rintro itv s2 ⟨it, fp, tn, Jt, H2, rfl, J2, T, t2, f2, q⟩
  refine wpAny_newObj_type (newEnv_comp ?_) (by show 0 ≤ sizeLine; decide)
  generalize hD : s2.heap.objs.size = D
  have freeD : H2 D = none := J2.hok.fresh (Nat.le_of_eq hD)
  obtain ⟨W, ⟨m0, w0⟩, turn⟩ := q D freeD
  generalize e3 : ({ s2 with heap := s2.heap.push { cls := .type "list", data := .seq ([] : List Value).toArray } } : Shared) = s3
  have up3 : ∀ b o, s2.heap.get? b = some o → s3.heap.get? b = some o := fun b o z => by
    rw [← e3]
    exact Heap.get?_push_of_some _ z
  have J3 : Inv X pins σ (upd H2 D (.lst [])) s3 := by
    subst e3
    exact J2.laid (t' := s2.toks) (fun b o z => Heap.get?_push_of_some _ z) (Nat.le_of_eq hD) ⟨Nat.zero_le _, [], 0, .nil, by rw [← hD]; exact Heap.get?_push_size _ rfl⟩
  have size3 : s3.heap.objs.size = s2.heap.objs.size + 1 := by
    subst e3
    exact Heap.size_push ..
  have low : ∀ b ∈ fp, b < s2.heap.objs.size := fun b hb => (T.obj _ _ t2 b hb).elim fun o z => Heap.lt_size z.1
  have f3 : ∀ b ∈ fp, FpOk X pins (upd H2 D (.lst [])) b ∧ b < s3.heap.objs.size := by
    intro b hb
    have l := low b hb
    have n : b ≠ D := by rw [← hD]; exact Nat.ne_of_lt l
    exact ⟨⟨(upd_ne n).trans (f2 b hb).1, (f2 b hb).2⟩, by rw [size3]; exact Nat.lt_succ_of_lt l⟩
  have t3 : tn 0 s3.heap := T.keep _ _ _ t2 fun b _ o z => up3 b o z
  have J4 := block_start J3 ok nd f3
  have P3 := J3.pin p (List.mem_append_left _ hp)
  have pg := hg s3 (upd H2 D (.lst [])) s3.heap.objs.size (cellsFrom (s3.heap.objs.size + 1) scope.names (cloFrom X.env.cells scope.names [])) fp
  have pe := he s3 (upd H2 D (.lst [])) s3.heap.objs.size (cellsFrom (s3.heap.objs.size + 1) scope.names (cloFrom X.env.cells scope.names [])) fp
  show codeAny _ _ (.compStart (.ListComp elt [⟨tg, iter, [], 0⟩] scope pos) 0 (.ref it) (.ref D) (compEnvC scope (cellsFrom (s3.heap.objs.size + 1) scope.names (cloFrom X.env.cells scope.names [])) s3.heap.objs.size X.env)) _ { s3 with heap := pushCells (s3.heap.push { cls := .type "dict", data := .dict #[] }) scope.names }
  have loc : (compEnvC scope (cellsFrom (s3.heap.objs.size + 1) scope.names (cloFrom X.env.cells scope.names [])) s3.heap.objs.size X.env).locals = s3.heap.objs.size := rfl
  generalize compEnvC scope (cellsFrom (s3.heap.objs.size + 1) scope.names (cloFrom X.env.cells scope.names [])) s3.heap.objs.size X.env = ce at J4 pg pe loc ⊢
  have up4 : ∀ b o, s3.heap.get? b = some o → (pushCells (s3.heap.push { cls := .type "dict", data := .dict #[] }) scope.names).get? b = some o := fun b o z => pushCells_keeps _ _ _ _ (Heap.get?_push_of_some _ z)
  generalize eH : upd H2 D (.lst []) = H3 at J3 J4 pg pe w0 f3 P3
  generalize e4 : ({ s3 with heap := pushCells (s3.heap.push { cls := .type "dict", data := .dict #[] }) scope.names } : Shared) = s4 at J4 ⊢
  have t4 : tn 0 s4.heap := T.keep _ _ _ t3 fun b _ o z => by
    rw [← e4]
    exact up4 b o z
  have J5 : Inv (blkH X p s3 H3 scope ce fp) [] (wipe σ (own.map (·.2))) H3 s4 :=
    blkH_pin J4 ⟨by rw [← e4]; exact up4 _ _ P3.1, P3.2.1, by rw [loc]; exact Nat.ne_of_lt (Heap.lt_size P3.1), fun hm => (List.mem_cons.mp (J3.stkSub p.1 hm)).elim P3.2.2.1 P3.2.2.2.1, P3.2.2.2.2⟩
  have hot : L2H.HotC (blkH X p s3 H3 scope ce fp) := ⟨p, h1, List.mem_cons_self⟩
  -- the iterator's objects, in the block
  have its : ∀ {σ' : L2.St} {H' : Hp} {s' : Shared}, Inv (blkH X p s3 H3 scope ce fp) [] σ' H' s' → tn 0 s4.heap → (∀ b ∈ fp, H' b = none) → (∀ b ∈ fp, p.1 ≠ b) → ∀ b ∈ fp, FpOk (blkH X p s3 H3 scope ce fp) [] H' b := fun {σ' H' s'} Jx _ hn np b hb =>
    ⟨hn b hb, (Jx.ok.exf b hb).1, Jx.ok.exfs b hb, .inl hb, fun x c z => (Jx.ok.exf b hb).2 x c z, fun r hr => by
      have e : r = p := by simpa using (show r ∈ [p] ++ ([] : List (Addr × Obj)) from hr)
      rw [e]
      exact np b hb⟩
  have np : ∀ b ∈ fp, p.1 ≠ b := fun b hb => (f3 b hb).1.2.2.2.2.2 p (List.mem_append_left _ hp)
  suffices loop : codeAny (model X.prog X.w) X.A (.compLoop (.ListComp elt [⟨tg, iter, [], 0⟩] scope pos) 0 (.ref it) (.ref D) ce) (compPost (model X.prog X.w) X.A X.xe _ _ (.ref D) s3.heap.objs.size) s4 from
    codeAny_compStart_list loop (T.self X.A 0 _ _ _ t4 loop)
  refine compLoop_any (fun n s' => ∃ i H', Inv (blkH X p s3 H3 scope ce fp) [] (wipe σ (own.map (·.2))) H' s' ∧ tn i s'.heap ∧ (∀ b ∈ fp, H' b = none) ∧ W i n H') ?_ m0 ⟨0, H3, J5, t4, fun b hb => (f3 b hb).1.1, w0⟩
  rintro n s5 ⟨i, H5, J5, t5, n5, w5⟩
  rcases turn i n H5 w5 with ⟨stop, qq⟩ | ⟨go, Nx, hNx, step⟩
  · apply thnF (T.done (blkH X p s3 H3 scope ce fp) rfl rfl rfl hot i [] s5 _ H5 (fun _ _ => False) J5 (its J5 t4 n5 np) t5 stop)
    rintro r s6 ⟨rfl, J6⟩
    have J7 : Inv X pins σ H5 s6 := J3.call' (ch := fp) J6.os J6.base J6.hok J6.bare fun b hb => by
      have z := (f3 b hb).1
      exact ⟨z.2.2.2.1, z.2.1, z.2.2.2.2.1, z.2.2.2.2.2⟩
    have nC : H5 s3.heap.objs.size = none := loc ▸ J6.free
    obtain ⟨mm, hn, _⟩ := J6.loc
    have hn2 : s6.heap.Ns s3.heap.objs.size mm := loc ▸ hn
    refine ⟨mm, hn2, fun h'' sb => ?_⟩
    obtain ⟨g0, g1, g2, g3, g4, g5⟩ := J3.fpOk (Nat.le_refl _) (show H3 s3.heap.objs.size = none from J3.hok.fresh (Nat.le_refl _))
    exact ⟨.ref D, H5, J7.turned (t' := s6.toks) (fun b o hb z => (sb.2 b hb).trans z) nC g1 g3 g4 g5, rfl, qq⟩
  · apply thnF (T.item (blkH X p s3 H3 scope ce fp) rfl rfl rfl hot i [] s5 _ H5 (fun _ _ => False) J5 (its J5 t4 n5 np) t5 go)
    rintro r s6 ⟨u, rfl, h6⟩
    apply thnF h6
    rintro _ s7 ⟨x, H7, J7, r7, y7, t7, n7⟩
    apply thnF (pg.run _ s7 _ H7 x u _ (J7.pinned (its J7 t4 n7 np) (T.obj _ _ t7)) r7 (step x H7 y7))
    rintro _ s8 ⟨σ8, H8, J8, wp8, q8⟩
    have q8' : te σ8 H8 (fun y H4 => ∃ acc, H4 D = some (.lst acc) ∧ acc.length < sizeLine ∧ Nx (upd H4 D (.lst (acc ++ [y])))) := q8
    apply wpAny_tests_nil
    show wpAny _ _ _ _ _ _
    apply thnF (pe.run _ s8 σ8 H8 _ J8 q8')
    rintro z s9 ⟨yv, H9, J9, r9, acc, hD9, hz9, nx⟩
    refine app_ok (X := blkH X p s3 H3 scope ce fp) J9 hD9 hz9 r9 fun s10 J10 => ?_
    obtain ⟨m', lt, w'⟩ := hNx _ nx
    have there : ∀ b ∈ fp, ∀ o, s7.heap.get? b = some o → s10.heap.get? b = some o ∧ (upd H9 D (.lst (acc ++ [yv]))) b = none := fun b hb o e => by
      have z := J10.pin (b, o) (List.mem_append_right _ (List.mem_append_right _ (mem_pinsAt hb e)))
      exact ⟨z.1, z.2.1⟩
    have len8 : (wipe σ (own.map (·.2))).length = σ8.length := by rw [← wp8, wipe_length]
    refine ⟨m', lt, i + 1, _, (J10.unpinned (pins := [])).weak len8 (fun j v e => by rw [← wp8] at e; exact (wipe_some e).1), T.keep _ _ _ t7 fun b hb o e => (there b hb o e).1, fun b hb => ?_, w'⟩
    obtain ⟨o, e, _⟩ := T.obj _ _ t7 b hb
    exact (there b hb o e).2
end
end Ly

/-! Lyo: isinstance of a caught exception, its dict whatever it is; defs called within an except suite with the exception handed over; own exceptions of several classes. -/
namespace PySem.LyIs
open PySem PySem.Spec PySem.Calls PyProof.Rows PySem.W
section
variable {prog : Program} {w : World} {A : Around} {E : Value → Shared → Prop} {s : Shared} {K : Frag} {x D : Addr} {ox : Obj} {od : Option Obj}
theorem find_class (ec : L2.ExcC K D) : findObj K D od "__class__" = some (.bind (.builtin "getset_descriptor.__get__") (.builtin "object.__class__")) := by
  have hc : (clsIn K D).isSome = true := by
    obtain ⟨cd, hc, _⟩ := any_some ec.hd
    rw [hc]
    rfl
  cases od with
  | none => exact findObj_dataN hc ec.ha ec.hn ec.ht
  | some o => exact findObj_data hc ec.ha ec.hn ec.ht
theorem ask_class {Q : Option Value → Shared → Prop} (ec : L2.ExcC K D) (Y : K.In s.heap) (J : InstAt s.heap x ox D od) (h : Q (some (.ref D)) { s with toks := s.toks + 1 }) : wpAny (model prog w) A (getAttr? (.ref x) "__class__") Q E s := by
  obtain ⟨hp, g, d, t, os⟩ := s
  have l0 := J.type (M := model prog w)
  have l1 := looks_findIn (M := model prog w) Y ec.hg
  have l2 := looks_findIn (M := model prog w) Y ec.hk
  have l3 := looks_find (M := model prog w) Y J (find_class ec)
  have isB : Looks (model prog w) hp (isInstance (.ref x) (.type "BaseException")) true := l0.andThen (looks_subIn Y ec.hs)
  have n0 : (false && onTheHeap (Value.builtin "BaseException.__getattribute__")) = false := rfl
  have n1 : (Value.builtin "BaseException.__getattribute__" == Value.builtin "object.__getattribute__") = false := by decide +kernel
  have n2 : (onTheHeap (Value.ref D) && Value.builtin "BaseException.__getattribute__" == Value.builtin "object.__getattribute__") = false := by rw [n1]; rfl
  unfold getAttr? getAttrBy? getAttrBy
  apply wpAny_bind
  apply wpAny_mkText
  apply wpAny_bind
  apply wpAny_attempt
  apply wpAny_holding
  refine wpAny_bind (l0.at (wpAny_bind (l1.at ?_)))
  show wpAny _ _ (if (onTheHeap (Value.ref D) && Value.builtin "BaseException.__getattribute__" == Value.builtin "object.__getattribute__") = true then _ else _) _ _ _
  rw [n2, if_neg Bool.false_ne_true]
  unfold getAttrByItsOwn hookBefore
  apply wpAny_bind
  rw [if_pos (show onTheHeap (Value.ref D) = true from rfl)]
  refine l2.at (wpAny_bind (wpAny_attempt (wpAny_holding ?_)))
  unfold callGetattribute
  rw [n0, if_neg Bool.false_ne_true]
  unfold boundAndCalled
  rw [PySem.F.excAttr_ValueError.ga.bind (.ref x)]
  refine wpAny_bind (wpAny_pure ?_)
  show wpAny _ _ (call (.builtin "BaseException.__getattribute__") [.ref x, .str "__class__" t]) _ _ _
  apply wpAny_call
  refine codeAny_call_builtin PySem.F.excAttr_ValueError.ga.plain PySem.F.entry_bexc_ga ?_
  refine @check_slot (model prog w) _ _ ⟨hp, g, d, t + 1, os⟩ "BaseException.__getattribute__" "BaseException" "__getattribute__" (.ref x) [.str "__class__" t] [] _ (by decide +kernel) (by decide +kernel) isB (PySem.F.args_bexc_ga (.ref x) (.str "__class__" t)) ?_
  unfold Builtin.«object.__getattribute__»
  refine wpAny_bind (wpAny_of_eq (a := ((Value.ref x : Value), [Value.str "__class__" t])) (by first | rfl | (simp only [slotArgs]; rfl)) (wpAny_bind (wpAny_pure (wpAny_bind (l0.at (wpAny_bind (l3.at ?_)))))))
  show wpAny _ _ (holding [Value.builtin "object.__class__"] (call (.builtin "getset_descriptor.__get__") [.builtin "object.__class__", .ref x, .ref D]) >>= ret) _ _ _
  refine wpAny_bind (wpAny_holding (wpAny_call (class_get (s := ⟨hp, g, d, t + 1, os⟩) (ox := ox) (od := od) Y J ec.hm (wpAny_pure ?_))))
  show wpAny _ _ (handedOut (.ref D)) _ _ _
  rw [handedOut_of (v := .ref D) rfl]
  first
    | exact wpAny_pure h
    | exact wpAny_pure (wpAny_pure h)
    | exact wpAny_pure (wpAny_bind (wpAny_pure (wpAny_pure h)))
theorem no_type {C : Addr} (ec : L2.ExcC K C) : ∃ c d cd sl, K.lookup C = some ⟨c, d, .cls cd, sl⟩ := by
  obtain ⟨cd, hc, _⟩ := any_some ec.hd
  unfold clsIn at hc
  split at hc
  · exact ⟨_, _, _, _, by assumption⟩
  · cases hc
theorem kitx (ec : L2.ExcC K D) : KitX K (.ref x) (.ref D) (fun h => InstAt h x ox D od) where
  ty := fun _ _ _ J => J.type
  it := fun _ _ Y _ => by
    obtain ⟨c, d, cd, sl, ho⟩ := no_type ec
    intro A' Q' E' s' k q
    unfold isType loadHead
    exact wpAny_bind (wpAny_loadPart (k _ _ (Y _ _ ho)) (wpAny_pure q))
  ne := fun h tp dd its n sl Y htp => by
    obtain ⟨c, d, cd, sl', ho⟩ := no_type ec
    refine Bool.eq_false_iff.mpr fun q => ?_
    obtain rfl : D = tp := Value.ref.inj (beq_iff_eq.mp q)
    have z := (Y _ _ ho).symm.trans htp
    cases z
  ca := fun Y J k => ask_class ec Y J k
end
end PySem.LyIs
namespace Ly
open PySem PySem.Spec PyProof.Rows L2
/-- the exception's dict, as far as it is told -/
def DOk (d : Option Addr) (H : Hp) : Prop := ∀ dd, d = some dd → ∃ fs, H dd = some (.xd fs)
/-- isinstance(e, c), e an exception that is pinned -/
def rIsX (K : PySem.W.Frag) (D a : Addr) (d : Option Addr) : List V → Hp → VK → Prop := fun xs H Q => ∃ (c : V) (cv : Value) (b : Bool), xs = [.ref a, c] ∧ (∀ u, RelV c u → u = cv) ∧ PySem.W.kitOne K (.ref D) cv = some b ∧ DOk d H ∧ Q (.bl b) H
theorem call_isX {X : Cx} {a D : Addr} {d : Option Addr} {oe : Obj} (ec : ExcC X.K D) (hp : (a, oe) ∈ X.pn) (hz : Zc (.ref D) d oe) (hf : ∃ vs, oe.data = .fields vs) : CallR X (.builtin "isinstance") (rIsX X.K D a d) := by
  rintro pins s σ H xs us Q J r ⟨c, cv, b, rfl, hcv, e, hd, q⟩
  cases r with
  | cons rx rr =>
    cases rr with
    | cons rt rr =>
      cases rr
      cases rx
      obtain rfl := hcv _ rt
      have hget := (J.pin (a, oe) (List.mem_append_left _ hp)).1
      obtain ⟨vs, hv⟩ := hf
      have hI : ∃ od, PySem.W.InstAt s.heap a oe D od := by
        have nc : PySem.W.notCls oe = true := by unfold PySem.W.notCls; rw [hv] <;> rfl
        have n3 := hz.2
        cases hd3 : d with
        | none =>
          subst hd3
          exact ⟨none, hget, hz.1, nc, by rw [n3]; trivial⟩
        | some dd =>
          subst hd3
          obtain ⟨fs, hfs⟩ := hd dd rfl
          obtain ⟨mA, hns, _⟩ := J.hok dd _ hfs
          obtain ⟨od, ho, _⟩ := lookIn_ns hns
          exact ⟨some od, hget, hz.1, nc, by rw [n3]; exact ho⟩
      obtain ⟨od, hI⟩ := hI
      exact PySem.W.kia_one (PySem.LyIs.kitx ec) J.kIn hI e (fun z => nomatch z) fun tk => ⟨.bl b, H, J.kept (t' := tk) fun _ _ z => z, rfl, q⟩
end Ly

/-! Lyp: operators and repr by units alone; defs that get the handled exception; try: a call that lets one of several own exceptions out. -/
namespace Ly
open PySem PySem.Spec PyProof.Rows L2 NdefX
section
variable {X : Cx}
/-- repr of plain data, also within an except suite -/
theorem cq_reprU (hg : X.A.guards = some []) (hu : X.A.units + 200 < cLine) : CallR X (.builtin "repr") (rRepr X.K) := by
  rintro pins s σ H xs us Q I r ⟨x, d, rfl, hd, h1, h2, h3, h4, q⟩
  obtain ⟨u, rfl, ru⟩ := vals1 r
  obtain ⟨as, rd⟩ := Dp.reads I d x u hd ru
  have fin : ∀ (h' : Heap) (tk tk2 : Tok), (∀ b o, s.heap.get? b = some o → h'.get? b = some o) → EP X pins σ Q (.str d.shown tk) { s with heap := h', toks := tk2 } := fun h' tk tk2 hk => ⟨V.str d.shown, H, I.kept hk, ⟨tk, rfl⟩, q⟩
  cases rd with
  | none =>
    simp only [PyData.shown] at fin
    exact PySem.P.repr_of_none (fin s.heap s.toks (s.toks + 1) fun _ _ e => e)
  | bool b =>
    simp only [PyData.shown] at fin
    exact PySem.P.repr_of_bool (fin s.heap s.toks (s.toks + 1) fun _ _ e => e)
  | int i t =>
    simp only [PyData.shown] at fin
    exact PySem.P.repr_of_int (by simpa [PyData.showable] using h1) (fin s.heap s.toks (s.toks + 1) fun _ _ e => e)
  | str z t =>
    simp only [PyData.shown] at fin
    exact PySem.P.repr_of_str (fin s.heap s.toks (s.toks + 1) fun _ _ e => e) (by simpa [PyData.shown] using h4)
  | list e1 e2 e3 e4 => exact repr_of_reads' (.list e1 e2 e3 e4) h1 (fun z => by rw [h2] at z; cases z) hg (by omega) (fun _ _ e => e) (fun h' tk tk2 hk => fin h' tk tk2 hk) h4
  | tuple e1 e2 e3 e4 => exact repr_of_reads' (.tuple e1 e2 e3 e4) h1 (fun z => by rw [h2] at z; cases z) hg (by omega) (fun _ _ e => e) (fun h' tk tk2 hk => fin h' tk tk2 hk) h4
  | dict e1 e2 e3 e4 e5 => simp [PyData.hasDict] at h2
/-- str(an int) -/
def rStrI : List V → Hp → VK → Prop := fun xs H Q => ∃ i, xs = [.int i] ∧ i.natAbs.log2 < 1920 ∧ Q (.str (toString i)) H
theorem cq_strI : CallR X (.type "str") rStrI := call_str_int
theorem oq_eqU (hu : X.A.units + 64 < cLine) : OpR X (compareOp .Eq) (rEqA X.K) := OpR.or op_eq (op_eqD hu)
theorem oq_neU (hu : X.A.units + 64 < cLine) : OpR X (compareOp .NotEq) (rNeA X.K) := OpR.or op_ne (op_neD hu)
end
/-! ### defs that get the handled exception -/
structure FnE (P : Program) (w : World) (K : PySem.W.Frag) (mg : Str → Option Value) (base : Heap) (CX : CXT) (k : Nat) (f : Addr) (fd : FuncData) (ps : List Str) (sp : Addr × Obj → Sp) : Prop where
  size : ∀ {p vs H Q E}, sp p vs H Q E → vs.length = ps.length
  does : ∀ (A : Around) (outer : List Env) (s : Shared) (H : Hp) (args : Args) (us : List Value) (vs : List V) (Q : VK) (E : XK) (p : Addr × Obj), L2H.RoomH k A → L2H.PinOk outer H s p → Env0 P w K mg base A outer s H → BindsTo s fd args (ps.zip us) → Vals vs us → sp p vs H Q E →
    codeAny (model P w) A (.call (.ref f) args) (CR CX outer P w H s Q E) s
section
variable {P : Program} {w : World} {K : PySem.W.Frag} {mg : Str → Option Value} {base : Heap} {CX : CXT} {k : Nat} {f : Addr} {fd : FuncData} {ps : List Str} {sp : Addr × Obj → Sp}
theorem fnE_of {x qual : Str} {st : Stmt} {N : List Str} (F : Fun K x qual st f fd) (S : FnScope N ps (defScope st)) (len : ∀ {p vs H Q E}, sp p vs H Q E → vs.length = ps.length)
    (body : ∀ (cdv : Value) (A : Around) (outer : List Env) (s : Shared) (H : Hp) (vs : List V) (Q : VK) (E : XK) (p : Addr × Obj), sp p vs H Q E →
      ∃ t, PSs (L2H.cxH CX P w K mg base N qual (defScope st) f cdv A outer s H E p) (defBody st) t ∧ t { nx := fun _ H' => Q .non H', rt := Q } (start N vs) H) :
    FnE P w K mg base CX (k + 1) f fd ps sp := by
  obtain ⟨oc, od, kV, doc, pm, an, cdv, ct, osl, rfl, lk, hcd⟩ := F.ex
  constructor
  · exact len
  · intro A outer s H args us vs Q E p hr hpin e0 hb rv hq
    have n1 := len hq
    have kin : K.In s.heap := PySem.W.Frag.In.keeps e0.mod.kin fun b o e => And.left (e0.bs b o e)
    have nol : s.heap.NoLimit := Heap.NoLimit.keeps e0.mod.nolimit fun b o e => And.left (e0.bs b o e)
    have kinds : ∀ y ∈ ps.zip us, (defScope st).names.lookup y.1 = some .local ∨
        ((defScope st).names.lookup y.1 = some .cell ∧ ((cellsFrom (s.heap.objs.size + 1) (defScope st).names []).lookup y.1).isSome = true) := by
      rintro ⟨n, v⟩ hy
      have hn : n ∈ ps := (List.of_mem_zip hy).1
      cases S.par n hn with
      | inl q => exact Or.inl q
      | inr q => exact Or.inr ⟨q, PySem.W.cellsFrom_some _ _ _ (Or.inl q)⟩
    apply codeAny_call_function hr.depth (kin _ _ lk) rfl S.co S.gen rfl (PySem.W.codeRec_of kin hcd)
    apply hb
    apply wpAny_newFunctionEnv_cells S.kind kinds
    rintro env rfl s1 x
    refine ⟨Heap.NoLimit.keeps nol x.toInCall.keep, codeAny_func ?_⟩
    obtain ⟨t, ht, tq⟩ := body cdv A outer s H vs Q E p hq
    have J := L2H.inv_startH (CX := CX) (E := E) S hpin e0 n1 rv x
    apply wpAny_mono (ht.run [] s1 (start N vs) H _ J tq)
    · intro fl s' hs
      cases fl with
      | ret u =>
        obtain ⟨v, σ', H', J', r', q'⟩ := hs
        exact ⟨v, H', J'.os, J'.bare, J'.base, J'.hok, r', q'⟩
      | next =>
        obtain ⟨σ', H', J', q'⟩ := hs
        exact ⟨V.non, H', J'.os, J'.bare, J'.base, J'.hok, rfl, q'⟩
      | brk =>
        obtain ⟨_, _, _, q'⟩ := hs
        exact q'.elim
      | cont =>
        obtain ⟨_, _, _, q'⟩ := hs
        exact q'.elim
    · intro e s' hs
      exact hs
end
section
variable {X : Cx} {CX : CXT} {k : Nat} {f : Addr} {fd : FuncData} {ps : List Str} {E : XK} {x : Str} {q pos : Pos} {e : Expr} {es : List Expr} {t : TA}
/-- f(e, ..), the handled exception p pinned -/
theorem pe_callE {sp : Addr × Obj → Sp} {p : Addr × Obj} (F : FnE X.prog X.w X.K X.mg X.base CX k f fd ps sp) (hr : L2H.RoomH k X.A) (hp : p ∈ X.pn) (hg : Gl X x) (hm : X.mg x = some (.ref f)) (hk : PySem.W.keepIn X.K (.ref f) = true) (hb : Binds X.K fd ps []) (hx : Passes CX X E)
    (ha : PA X (e :: es) t) (hdb : (x == ("__debug__" : Str)) = false := by decide) (he : starEach (e :: es) X.env = (false, eval e X.env) :: starEach es X.env := by rfl) (hpl : (backTo pos (starEach es X.env)).any (·.1) = false := by rfl) :
    PE X (.Call (.Name x q) (e :: es) [] pos) (tCallK (sp p) (fun vs _ => vs) E t tNil) := by
  constructor
  intro pins s σ H Q I h
  apply wpAny_Call_Name_kw
  refine ld_glob I hg hm ?_ hdb
  refine PySem.W.callWith_K (h₀ := X.base) I.ok.mod.kin hk (thn (ha.run pos pins s σ H _ I h) ?_) he hpl
  rintro us s1 ⟨vs, H1, J, r, z⟩
  refine ⟨J.kIn, ?_⟩
  have z' : sp p vs H1 Q E := z
  have n1 : us.length = ps.length := r.length.symm.trans (F.size z')
  have b := hb s1 us J.kIn (by rw [List.append_nil]; exact n1)
  rw [List.append_nil] at b
  have P1 := J.pin p (List.mem_append_left _ hp)
  apply wpAny_call
  apply codeAny_mono (F.does X.A X.stack s1 H1 ⟨us, []⟩ us vs Q E p hr ⟨P1.1, P1.2.1, fun hm => (List.mem_cons.mp (J.stkSub p.1 hm)).elim P1.2.2.1 P1.2.2.2.1, P1.2.2.2.2⟩ J.env0 b r z')
  intro o s' y
  rcases o with er | fl
  · exact hx pins σ H1 s1 er s' J y
  · cases fl with
    | ret u => exact J.after y
    | next => exact y.elim
    | brk => exact y.elim
    | cont => exact y.elim
/-- f(e, ..), what it lets out told by the names' state -/
theorem pe_gS {sp : Sp} {ES : L2.St → XK} (F : GOk X.prog X.w X.K X.mg X.base CX k f fd ps sp) (hA : X.A.guards = some []) (hr : Room k X.A) (hg : Gl X x) (hm : X.mg x = some (.ref f)) (hk : PySem.W.keepIn X.K (.ref f) = true) (hb : Binds X.K fd ps []) (hx : ∀ σ, PassesAt CX X σ (ES σ))
    (ha : PA X (e :: es) t) (hdb : (x == ("__debug__" : Str)) = false := by decide) (he : starEach (e :: es) X.env = (false, eval e X.env) :: starEach es X.env := by rfl) (hpl : (backTo pos (starEach es X.env)).any (·.1) = false := by rfl) :
    PE X (.Call (.Name x q) (e :: es) [] pos) (tCallS sp ES t) := by
  constructor
  intro pins s σ H Q I h
  apply wpAny_Call_Name_kw
  refine ld_glob I hg hm ?_ hdb
  refine PySem.W.callWith_K (h₀ := X.base) I.ok.mod.kin hk (thn (ha.run pos pins s σ H _ I h) ?_) he hpl
  rintro us s1 ⟨vs, H1, J, r, z⟩
  refine ⟨J.kIn, ?_⟩
  have z' : sp vs H1 Q (ES σ) := z
  have n1 : us.length = ps.length := r.length.symm.trans (F.size z')
  have b := hb s1 us J.kIn (by rw [List.append_nil]; exact n1)
  rw [List.append_nil] at b
  apply wpAny_call
  apply codeAny_mono (F.does hA hr J.env0 b r z')
  intro o s' y
  rcases o with er | fl
  · exact hx σ pins H1 s1 er s' J y
  · cases fl with
    | ret u => exact J.after y
    | next => exact y.elim
    | brk => exact y.elim
    | cont => exact y.elim
end
/-! ### an own exception class with no field -/
structure XT0 (P : Program) (K : PySem.W.Frag) (mg : Str → Option Value) (name : Str) where
  C : Addr
  fI : Addr
  fdI : FuncData
  m : mg name = some (.ref C)
  o : OexC K C
  sub : PySem.W.mroIn K C (.ref C) = some true
  sup : PySem.W.ks_superIn K C C "__init__" = some (some (.builtin "ValueError.__init__"))
  ve : PySem.W.subIn K (.ref C) (.type "ValueError") = some true
  init : ∀ (w : World) (base : Heap), FnOk P w K mg base CX0 1 fI fdI pAt0 (SpAt0 K C)
  fi : PySem.W.findIn K (.ref C) "__init__" = some (some (.ref fI))
  ti : PySem.W.typeIn K (.ref fI) = some (.type "function")
  b : Binds K fdI pAt0 []
def xt0_mk {P : Program} {K : PySem.W.Frag} {h : Heap} {mg : Str → Option Value} {name : Str} (X : K.In h) (G : h.Ns mainGlobals mg)
    {C f cda cc : Addr} {qual msg file nm q : Str} {params : Arguments} {scope : Scope} {dV kV doc pm ct oc ccl cl : Value} {an od cdd cld : Option Addr} {osl ccs csl : Array (Option Value)} {vs0 : Array Value} {tf : Tok} {j : Nat} {p0 p1 p2 p3 p4 q0 : Pos} {ar : Arg} {cdD : ClassData}
    {N : Addr} {bs bm : List Value} {sn : List Str} {sub : List Value} {ab : Bool} {col : Option Bool} {dd : Option Addr} {k0 k1 k2 k3 k5 : Option Value}
    (ca : PySem.W.nsIn K mainGlobals name = some (some (.ref C)))
    (cl0 : K.lookup C = some (excClassObj nm q C N bs bm true sn sub ab col dd k0 k1 k2 k3 k5 "ValueError.__new__")) (cbm : PySem.HandSPX.refsVE bm = true)
    (csa : PySem.W.findIn K (.ref C) "__setattr__" = some (some (.builtin "object.__setattr__"))) (cex : PySem.W.subIn K (.ref C) (.type "BaseException") = some true) (cty : PySem.W.typeIn K (.ref C) = some (.type "type")) (ck : PySem.W.keepIn K (.ref C) = true)
    (cmr : PySem.W.mroIn K C (.ref C) = some true) (csu : PySem.W.ks_superIn K C C "__init__" = some (some (.builtin "ValueError.__init__"))) (cve : PySem.W.subIn K (.ref C) (.type "ValueError") = some true)
    (cfi : PySem.W.findIn K (.ref C) "__init__" = some (some (.ref f))) (cti : PySem.W.typeIn K (.ref f) = some (.type "function"))
    (clk : K.lookup f = some ⟨oc, od, .func (PySem.W.fnX "__init__" qual params [stSup p0 p1 p2 p3 p4 q0 msg j] scope [(("__class__" : Str), cc)] dV kV doc pm an (.ref cda) ct), osl⟩) (ccd : PySem.W.codeIn K (.ref cda) qual = true)
    (cS : nscB nAt0 pAt0 fAt scope = true) (cp : (params.posonlyargs ++ params.args).head? = some ar) (car : ar.arg = ("self" : Str))
    (cda0 : K.lookup cda = some ⟨ccl, cdd, .fields vs0, ccs⟩) (cvs : vs0[2]? = some (.str file tf)) (cfile : ((P.main.file : Str) == file) = true) (ccell : K.lookup cc = some ⟨cl, cld, .cell (some (.ref C)), csl⟩)
    (ccl0 : PySem.W.clsIn K C = some cdD) (cms : PySem.W.nsIn K mainGlobals "super" = some none) (cks : scope.names.lookup ("super" : Str) = some .globalImplicit) (ctop : (P.main.scope.names.lookup ("super" : Str)).isSome = false) (cno3 : PySem.W.nsIn K cStatics "thirdparty.any" = some none)
    (cb : ∀ us : List Value, us.length = 1 → bindArgs (PySem.W.fnX "__init__" qual params [stSup p0 p1 p2 p3 p4 q0 msg j] scope [(("__class__" : Str), cc)] dV kV doc pm an (.ref cda) ct) ⟨us, []⟩ = pure (pAt0.zip us))
    (chc : ∀ env : Env, ∃ pl : Sem Bool, eval (.Call (.Attribute (.Call (.Name "super" p0) [] [] p1) "__init__" p2) [.Constant (.str msg) j p3] [] p4) env = (do
      let ov ← attributeBase (.Call (.Name "super" p0) [] [] p1) "__init__" env (eval (.Call (.Name "super" p0) [] [] p1) env)
      standAt p2.atName
      let (f, first) ← holding [ov] (getMethod ov "__init__" pl)
      callWith p4 f first (backTo p4 (starEach [.Constant (.str msg) j p3] env)) []))
    (chs1 : ∀ env : Env, swapsWith (.Call (.Attribute (.Call (.Name "super" p0) [] [] p1) "__init__" p2) [.Constant (.str msg) j p3] [] p4) none q0.line env = pure false) : XT0 P K mg name where
  C := C
  fI := f
  fdI := _
  m := PySem.W.mg_of X G ca
  o := ⟨⟨nm, q, N, bs, bm, sn, sub, ab, col, dd, k0, k1, k2, k3, k5, cl0, cbm⟩, csa, cex, cty, ck⟩
  sub := cmr
  sup := csu
  ve := cve
  init := fun w base => oinit0_fn (k := 0) clk ccd (nscope_by cS) cp car cda0 cvs cfile ccell ccl0 (PySem.W.mg_none_of X G cms) cks ctop cno3 chc chs1
  fi := cfi
  ti := cti
  b := Binds.all cb
/-! ### raise, the context told -/
/-- raise C() -/
def tRz0 (K : PySem.W.Frag) (C : Addr) (E : XK) : TS := fun _ σ H => tMk0 C (SpAt0 K C) σ H fun cls d H' => E cls d H'
section
variable {X : Cx} {name fld : Str} {E : XK} {e : Expr} {es : List Expr} {ta : TA} {p pos pos' : Pos}
theorem ps_raiseN (T : XT X.prog X.K X.mg name fld) (tk : L2N.Takes X (fun cls d _ H => E cls d H)) (hr : Room 2 X.A) (hg : Gl X name) (ha : PA X (e :: es) ta)
    (hc : X.calm = true := by rfl) (hdb : (name == ("__debug__" : Str)) = false := by decide) (he : starEach (e :: es) X.env = (false, eval e X.env) :: starEach es X.env := by rfl) (hpl : (backTo pos (starEach es X.env)).any (·.1) = false := by rfl) :
    PS X (.Raise (some (.Call (.Name name p) (e :: es) [] pos)) none pos') (tRz X.K T.C fld ta E) :=
  L2N.ps_raise hc tk (pmkN_oex (X := X) T.x.o T.fi T.ti (T.init X.w X.base) hr T.b pass0 hg T.m ha hdb he hpl)
theorem ps_raiseN0 (T : XT0 X.prog X.K X.mg name) (tk : L2N.Takes X (fun cls d _ H => E cls d H)) (hr : Room 2 X.A) (hg : Gl X name) (hc : X.calm = true := by rfl) (hdb : (name == ("__debug__" : Str)) = false := by decide) :
    PS X (.Raise (some (.Call (.Name name p) [] [] pos)) none pos') (tRz0 X.K T.C E) :=
  L2N.ps_raise hc tk (pmkN_oex0 (X := X) T.o T.fi T.ti (T.init X.w X.base) hr T.b pass0 hg T.m hdb)
theorem vs_rz0 {c : Cn} {Γ : List Sl} {po : Po} {P : Program} {mg : Str → Option Value} (T : XT0 P c.K mg name) (t : ∀ B' H', Stp c.dl c.B c.H B' H' → E (.ref T.C) none H') : VS c (tRz0 c.K T.C E) Γ po := fun B H σ En F _ _ _ _ =>
  fun a ha => ⟨a, T.C, rfl, T.o, T.sub, T.sup, T.ve, upd_same, rfl, rfl, t B H F.st⟩
/-- C(fld = e).fld -/
theorem pe_kwX {kws : List Keyword} {tk : TA} {apos : Pos} {A : Around} {P : Program} {K : PySem.W.Frag} {mg : Str → Option Value} (T : XT P K mg name fld) (hb : ∀ u y : Value, bindArgs T.fdI ⟨[u], [(fld, y)]⟩ = pure ((pAt fld).zip [u, y])) (hr : Room 2 A) (hg : Gl X name) (hw : PK X kws tk)
    (hA : X.A = A := by rfl) (hP : X.prog = P := by rfl) (hK : X.K = K := by rfl) (hM : X.mg = mg := by rfl)
    (hks : (backToKw pos (keywordEach kws X.env)).filterMap (·.1) = [fld] := by rfl) (hall : (backToKw pos (keywordEach kws X.env)).all (·.1.isSome) = true := by rfl) (hdb : (name == ("__debug__" : Str)) = false := by decide)
    (hpl : ((backTo pos (starEach [] X.env)).any (·.1) || (backToKw pos (keywordEach kws X.env)).any (·.1.isNone)) = false := by rfl)
    (hab : attributeBase (.Call (.Name name p) [] kws pos) fld X.env (eval (.Call (.Name name p) [] kws pos) X.env) = eval (.Call (.Name name p) [] kws pos) X.env := by rfl) :
    PE X (.Attribute (.Call (.Name name p) [] kws pos) fld apos) (tKwAt T.C (SpAt K T.C fld) fld tk) := by
  subst hA hP hK hM
  exact pe_kwAt T.x.o T.fi T.ti (T.init X.w X.base) hr hb pass0 hg T.m T.f T.x.no hw hks hall hdb hpl hab
theorem ve_kwX {c : Cn} {Γ : List Sl} {P : Program} {mg : Str → Option Value} {x : D} (T : XT P c.K mg name fld) (h : VA c ta Γ (Is [x])) : VE c (tKwAt T.C (SpAt c.K T.C fld) fld ta) Γ (Is x) := fun B H σ F Q q => h B H σ F _ fun ds vs B1 H1 e1 s1 k1 => by
  cases e1
  cases k1 with
  | @cons v vs' _ _ kv kn =>
    cases kn
    have F1 := F.step s1
    refine ⟨v, rfl, fun a ha => ⟨a, T.C, v, rfl, T.x.o, T.x.sub, T.x.sup, T.x.ve, upd_same, T.x.no, fun dx hdx hne => ⟨rfl, dx, [(fld, v)], v, upd_same, ?_, ?_, by simp [List.lookup], ?_⟩⟩⟩
    · rw [upd_ne hne, upd_same]
    · rw [upd_ne hne] at hdx
      exact hdx
    · rw [upd_ne hne] at hdx
      have e : upd (del (upd (upd (upd H1 a (exo a T.C none)) dx (exd dx [(fld, v)])) a (exo a T.C (some dx))) a) dx (.xd [(fld, v)]) = upd H1 dx (.xd [(fld, v)]) := by
        funext b
        by_cases hb : b = dx
        · rw [hb, upd_same, upd_same]
        · rw [upd_ne hb, upd_ne hb]
          by_cases hba : b = a
          · rw [hba, del_same, ha]
          · rw [del_ne hba, upd_ne hba, upd_ne hb, upd_ne hba]
      rw [e]
      exact q x v B1 _ rfl (s1.trans F.dlNow (Stp.newM F1.sub hdx)) kv
end
end Ly

namespace Ly.K00
open PySem PySem.Spec PyProof.Rows L2 Ly
abbrev P0 : Program := PySem.Challenge.pw_lookanyhow_k00_errors_and_what_they_keep
/-- the text's own exceptions: seven that keep a thing, one that keeps nothing, all under one base -/
structure Fam (P : Program) (K : PySem.W.Frag) (mg : Str → Option Value) where
  x0 : XT P K mg "InvalidOrder" "at"
  x1 : XT P K mg "InvalidText" "at"
  x2 : XT P K mg "InvalidProgram" "at"
  x3 : XT P K mg "InvalidCode" "at"
  x4 : XT P K mg "InvalidPaper" "at"
  x5 : XT P K mg "InvalidQuestion" "at"
  x6 : XT P K mg "Refused" "at"
  x7 : XT0 P K mg "InvalidCommand"
  k0 : ∀ u y : Value, bindArgs x0.fdI ⟨[u], [("at", y)]⟩ = pure ((pAt "at").zip [u, y])
  k1 : ∀ u y : Value, bindArgs x1.fdI ⟨[u], [("at", y)]⟩ = pure ((pAt "at").zip [u, y])
  k2 : ∀ u y : Value, bindArgs x2.fdI ⟨[u], [("at", y)]⟩ = pure ((pAt "at").zip [u, y])
  k3 : ∀ u y : Value, bindArgs x3.fdI ⟨[u], [("at", y)]⟩ = pure ((pAt "at").zip [u, y])
  k4 : ∀ u y : Value, bindArgs x4.fdI ⟨[u], [("at", y)]⟩ = pure ((pAt "at").zip [u, y])
  k5 : ∀ u y : Value, bindArgs x5.fdI ⟨[u], [("at", y)]⟩ = pure ((pAt "at").zip [u, y])
  k6 : ∀ u y : Value, bindArgs x6.fdI ⟨[u], [("at", y)]⟩ = pure ((pAt "at").zip [u, y])
  L : Addr
  mL : mg "LookError" = some (.ref L)
  cls : Nat → Addr
  c0 : cls 0 = x0.C
  c1 : cls 1 = x1.C
  c2 : cls 2 = x2.C
  c3 : cls 3 = x3.C
  c4 : cls 4 = x4.C
  c5 : cls 5 = x5.C
  c6 : cls 6 = x6.C
  c7 : cls 7 = x7.C
  f : ∀ i, i ≤ 6 → XfC K (cls i) ∧ PySem.W.findIn K (.ref (cls i)) "at" = some none
  ex : ∀ i, i ≤ 7 → PySem.W.exmOne K (.ref (cls i)) (.ref L) = some true
  ec : ∀ i, i ≤ 7 → ExcC K (cls i)
  ki : ∀ i j, i ≤ 7 → j ≤ 7 → PySem.W.kitOne K (.ref (cls i)) (.ref (cls j)) = some (decide (i = j))
  kv : ∀ i, i ≤ 7 → PySem.W.kitOne K (.ref (cls i)) (.type "ValueError") = some true
/-! ### what the head tells of the family, by names alone -/
def clsK (K : PySem.W.Frag) (n : Str) : Option Addr :=
  match PySem.W.nsIn K mainGlobals n with
  | some (some (.ref C)) => some C
  | _ => none
def clsB (K : PySem.W.Frag) (L C : Addr) : Bool :=
  decide (PySem.W.exmOne K (.ref C) (.ref L) = some true) && (decide (PySem.W.findIn K (.ref C) "__getattribute__" = some (some (.builtin "BaseException.__getattribute__"))) && (decide (PySem.W.findIn K (.ref C) "__getattr__" = some none) &&
    (decide (PySem.W.subIn K (.ref C) (.type "BaseException") = some true) && (PySem.W.hasDictIn K C && (decide (PySem.W.findIn K (.ref C) "__class__" = some (some (.builtin "object.__class__"))) &&
    (decide (PySem.W.specialIn K (.builtin "object.__class__") "__get__" = some (some (.builtin "getset_descriptor.__get__"))) && (decide (PySem.W.takesIn K (.builtin "object.__class__") = some true) &&
    (decide (PySem.W.mroIn K C (.type "object") = some true) && decide (PySem.W.kitOne K (.ref C) (.type "ValueError") = some true)))))))))
theorem clsB_ok {K : PySem.W.Frag} {L C : Addr} (h : clsB K L C = true) : PySem.W.exmOne K (.ref C) (.ref L) = some true ∧ ExcC K C ∧ PySem.W.kitOne K (.ref C) (.type "ValueError") = some true := by
  unfold clsB at h
  simp only [Bool.and_eq_true, decide_eq_true_eq] at h
  obtain ⟨h0, h1, h2, h3, h4, h5, h6, h7, h8, h9⟩ := h
  exact ⟨h0, ⟨h1, h2, h3, h4, h5, h6, h7, h8⟩, h9⟩
def famB (K : PySem.W.Frag) : Bool :=
  match clsK K "LookError", clsK K "InvalidOrder", clsK K "InvalidText", clsK K "InvalidProgram", clsK K "InvalidCode", clsK K "InvalidPaper", clsK K "InvalidQuestion", clsK K "Refused", clsK K "InvalidCommand" with
  | some L, some c0, some c1, some c2, some c3, some c4, some c5, some c6, some c7 => ([c0, c1, c2, c3, c4, c5, c6, c7].all (clsB K L)) && (List.range 8).all fun i => (List.range 8).all fun j => decide (PySem.W.kitOne K (.ref ([c0, c1, c2, c3, c4, c5, c6, c7].getD i 0)) (.ref ([c0, c1, c2, c3, c4, c5, c6, c7].getD j 0)) = some (decide (i = j)))
  | _, _, _, _, _, _, _, _, _ => false
theorem clsK_at {K : PySem.W.Frag} {h : Heap} {mg : Str → Option Value} {n : Str} {C : Addr} (Y : K.In h) (G : h.Ns mainGlobals mg) (e : clsK K n = some C) : mg n = some (.ref C) := by
  unfold clsK at e
  split at e
  · rename_i C' he
    cases e
    exact PySem.W.mg_of Y G he
  · cases e
theorem fam_mk {P : Program} {K : PySem.W.Frag} {h : Heap} {mg : Str → Option Value} (Y : K.In h) (G : h.Ns mainGlobals mg) (hb : famB K = true)
    (x0 : XT P K mg "InvalidOrder" "at") (x1 : XT P K mg "InvalidText" "at") (x2 : XT P K mg "InvalidProgram" "at") (x3 : XT P K mg "InvalidCode" "at") (x4 : XT P K mg "InvalidPaper" "at") (x5 : XT P K mg "InvalidQuestion" "at") (x6 : XT P K mg "Refused" "at") (x7 : XT0 P K mg "InvalidCommand")
    (k0 : ∀ u y : Value, bindArgs x0.fdI ⟨[u], [("at", y)]⟩ = pure ((pAt "at").zip [u, y])) (k1 : ∀ u y : Value, bindArgs x1.fdI ⟨[u], [("at", y)]⟩ = pure ((pAt "at").zip [u, y])) (k2 : ∀ u y : Value, bindArgs x2.fdI ⟨[u], [("at", y)]⟩ = pure ((pAt "at").zip [u, y])) (k3 : ∀ u y : Value, bindArgs x3.fdI ⟨[u], [("at", y)]⟩ = pure ((pAt "at").zip [u, y])) (k4 : ∀ u y : Value, bindArgs x4.fdI ⟨[u], [("at", y)]⟩ = pure ((pAt "at").zip [u, y])) (k5 : ∀ u y : Value, bindArgs x5.fdI ⟨[u], [("at", y)]⟩ = pure ((pAt "at").zip [u, y])) (k6 : ∀ u y : Value, bindArgs x6.fdI ⟨[u], [("at", y)]⟩ = pure ((pAt "at").zip [u, y])) : Nonempty (Fam P K mg) := by
  unfold famB at hb
  split at hb
  · rename_i L d0 d1 d2 d3 d4 d5 d6 d7 eL e0 e1 e2 e3 e4 e5 e6 e7
    have same : ∀ {n : Str} {C D : Addr}, mg n = some (.ref C) → clsK K n = some D → D = C := fun h1 h2 => by
      have h3 := (clsK_at Y G h2).symm.trans h1
      cases h3
      rfl
    obtain rfl := same x0.m e0
    obtain rfl := same x1.m e1
    obtain rfl := same x2.m e2
    obtain rfl := same x3.m e3
    obtain rfl := same x4.m e4
    obtain rfl := same x5.m e5
    obtain rfl := same x6.m e6
    obtain rfl := same x7.m e7
    rw [Bool.and_eq_true] at hb
    obtain ⟨ha, hp⟩ := hb
    let cs : List Addr := [x0.C, x1.C, x2.C, x3.C, x4.C, x5.C, x6.C, x7.C]
    have hc : ∀ i, i ≤ 7 → clsB K L (cs.getD i 0) = true := fun i hi => List.all_eq_true.mp ha _ (by
      rw [List.getD_eq_getElem?_getD, List.getElem?_eq_getElem (show i < cs.length by show i < 8; omega)]
      exact List.getElem_mem _)
    have hq : ∀ i j, i ≤ 7 → j ≤ 7 → PySem.W.kitOne K (.ref (cs.getD i 0)) (.ref (cs.getD j 0)) = some (decide (i = j)) := fun i j hi hj =>
      of_decide_eq_true (List.all_eq_true.mp (List.all_eq_true.mp hp i (List.mem_range.mpr (by omega))) j (List.mem_range.mpr (by omega)))
    refine ⟨{ x0 := x0, x1 := x1, x2 := x2, x3 := x3, x4 := x4, x5 := x5, x6 := x6, x7 := x7, k0 := k0, k1 := k1, k2 := k2, k3 := k3, k4 := k4, k5 := k5, k6 := k6, L := L, mL := (clsK_at Y G eL), cls := (fun i => cs.getD i 0), c0 := rfl, c1 := rfl, c2 := rfl, c3 := rfl, c4 := rfl, c5 := rfl, c6 := rfl, c7 := rfl, f := fun i hi => ?_, ex := fun i hi => (clsB_ok (hc i hi)).1, ec := fun i hi => (clsB_ok (hc i hi)).2.1, ki := hq, kv := fun i hi => (clsB_ok (hc i hi)).2.2 }⟩
    match i, hi with
    | 0, _ => exact ⟨x0.f, x0.x.no⟩
    | 1, _ => exact ⟨x1.f, x1.x.no⟩
    | 2, _ => exact ⟨x2.f, x2.x.no⟩
    | 3, _ => exact ⟨x3.f, x3.x.no⟩
    | 4, _ => exact ⟨x4.f, x4.x.no⟩
    | 5, _ => exact ⟨x5.f, x5.x.no⟩
    | 6, _ => exact ⟨x6.f, x6.x.no⟩
    | n + 7, hi => omega
  · cases hb
/-- a thing: small plain data -/
def Thing (d : D) : Prop := Sm d 4 2000
structure AskH where
  k : Nat
  d : D
abbrev A__law_heard : AskH → List D := fun a => [.int (a.k : Nat), a.d]
def P__law_heard : AskH → Prop := fun a => a.k ≤ 7 ∧ Thing a.d
def R__law_heard : AskH → D → Prop := fun _ d => d = .bool true
abbrev A__law_named : D → List D := fun a => [a]
def P__law_named : D → Prop := Thing
def R__law_named : D → D → Prop := fun _ d => d = .bool true
/-- _law_raise(k, d) lets the k-th exception out -/
def SpRz {P : Program} {K : PySem.W.Frag} {mg : Str → Option Value} (F : Fam P K mg) : Sp := fun vs H _ E => ∃ B k d, Same B H ∧ DqAll K B vs [.int ((k : Nat) : Int), d] ∧ k ≤ 7 ∧
  (k ≤ 6 → ∀ dx v B' H', Stp none B H B' H' → H' dx = some (.xd [("at", v)]) → Dq K B' v d → E (.ref (F.cls k)) (some dx) H') ∧
  (k = 7 → ∀ B' H', Stp none B H B' H' → E (.ref (F.cls 7)) none H')
def marks (i : Nat) : D := .list ((List.range 8).map fun j => .bool (decide (i = j)))
/-- _law_marks(e), e the handled exception p -/
def SpMk {P : Program} {K : PySem.W.Frag} {mg : Str → Option Value} (F : Fam P K mg) : Addr × Obj → Sp := fun p vs H Q _ => ∃ B i d, Same B H ∧ vs = [.ref p.1] ∧ i ≤ 7 ∧ Zc (.ref (F.cls i)) d p.2 ∧ (∃ xs, p.2.data = .fields xs) ∧ DOk d H ∧
  ∀ v B' H', Stp none B H B' H' → Dq K B' v (marks i) → Q v H'
end Ly.K00
namespace Ly.K00
open PySem PySem.Spec PyProof.Rows L2 Ly
/-! ### the text -/
def topS (i : Nat) : Stmt := PySem.Challenge.pw_lookanyhow_k00_errors_and_what_they_keep.main.body.getD i (.Pass ⟨0, 0, 0, 0⟩)
abbrev s__law_marks : Stmt := topS 11
theorem sc__law_marks : FnScope ["e", "found"] ["e"] (defScope s__law_marks) := ⟨rfl, rfl, rfl, by decide +kernel, rfl, by decide +kernel, by decide +kernel⟩
abbrev s__law_raise : Stmt := topS 12
theorem sc__law_raise : FnScope ["at", "thing"] ["at", "thing"] (defScope s__law_raise) := ⟨rfl, rfl, rfl, by decide +kernel, rfl, by decide +kernel, by decide +kernel⟩
abbrev s__law_heard : Stmt := topS 13
theorem sc__law_heard : FnScope ["at", "thing", "e", "spot"] ["at", "thing"] (defScope s__law_heard) := ⟨rfl, rfl, rfl, by decide +kernel, rfl, by decide +kernel, by decide +kernel⟩
abbrev s__law_named : Stmt := topS 14
theorem sc__law_named : FnScope ["thing", "made", "one"] ["thing"] (defScope s__law_named) := ⟨rfl, rfl, rfl, by decide +kernel, rfl, by decide +kernel, by decide +kernel⟩
abbrev s_law : Stmt := topS 15
theorem sc_law : FnScope ["script", "k", "cell", "things", "thing", "at"] ["script"] (defScope s_law) := ⟨rfl, rfl, rfl, by decide +kernel, rfl, by decide +kernel, by decide +kernel⟩
/-! ### what stands behind the top -/
structure Top (K : PySem.W.Frag) (mg : Str → Option Value) where
  f__law_marks : Addr
  fd__law_marks : FuncData
  F__law_marks : Fun K "_law_marks" "_law_marks" s__law_marks f__law_marks fd__law_marks
  g__law_marks : mg "_law_marks" = some (.ref f__law_marks)
  f__law_raise : Addr
  fd__law_raise : FuncData
  F__law_raise : Fun K "_law_raise" "_law_raise" s__law_raise f__law_raise fd__law_raise
  g__law_raise : mg "_law_raise" = some (.ref f__law_raise)
  f__law_heard : Addr
  fd__law_heard : FuncData
  F__law_heard : Fun K "_law_heard" "_law_heard" s__law_heard f__law_heard fd__law_heard
  g__law_heard : mg "_law_heard" = some (.ref f__law_heard)
  f__law_named : Addr
  fd__law_named : FuncData
  F__law_named : Fun K "_law_named" "_law_named" s__law_named f__law_named fd__law_named
  g__law_named : mg "_law_named" = some (.ref f__law_named)
  f_law : Addr
  fd_law : FuncData
  F_law : Fun K "law" "law" s_law f_law fd_law
  g_law : mg "law" = some (.ref f_law)
  X : Fam P0 K mg
  n_isinstance : mg "isinstance" = none
  n_repr : mg "repr" = none
  n_range : mg "range" = none
  n_ValueError : mg "ValueError" = none
  n_max : mg "max" = none
  n_min : mg "min" = none
  n_len : mg "len" = none
  n_int : mg "int" = none
  n_str : mg "str" = none
section
variable {K : PySem.W.Frag} {f : Addr} {fd : FuncData}
theorem b__law_marks (F : Fun K "_law_marks" "_law_marks" s__law_marks f fd) : KBinds K fd ["e"] [] (fun us _ => us) (fun vs _ => vs) := binds_pos F fun _ _ _ _ _ _ us hl => match us, hl with | [_], _ => rfl
theorem b__law_raise (F : Fun K "_law_raise" "_law_raise" s__law_raise f fd) : KBinds K fd ["at", "thing"] [] (fun us _ => us) (fun vs _ => vs) := binds_pos F fun _ _ _ _ _ _ us hl => match us, hl with | [_, _], _ => rfl
theorem b__law_heard (F : Fun K "_law_heard" "_law_heard" s__law_heard f fd) : KBinds K fd ["at", "thing"] [] (fun us _ => us) (fun vs _ => vs) := binds_pos F fun _ _ _ _ _ _ us hl => match us, hl with | [_, _], _ => rfl
theorem b__law_named (F : Fun K "_law_named" "_law_named" s__law_named f fd) : KBinds K fd ["thing"] [] (fun us _ => us) (fun vs _ => vs) := binds_pos F fun _ _ _ _ _ _ us hl => match us, hl with | [_], _ => rfl
theorem b_law (F : Fun K "law" "law" s_law f fd) : KBinds K fd ["script"] [] (fun us _ => us) (fun vs _ => vs) := binds_pos F fun _ _ _ _ _ _ us hl => match us, hl with | [_], _ => rfl
end
/-! ### promises -/
abbrev sp__law_heard (K : PySem.W.Frag) : Sp := Pa K A__law_heard P__law_heard R__law_heard
abbrev sp__law_named (K : PySem.W.Frag) : Sp := Pa K A__law_named P__law_named R__law_named
abbrev sp_law (K : PySem.W.Frag) : Sp := Lw K
/-! ### readings and derivations -/
section
variable {w : World} {K : PySem.W.Frag} {mg : Str → Option Value} {base : Heap}
def t__law_raise (T : Top K mg) (E : XK) : TS :=
      (tSeq (tIfS (tTest (tOp (rEqA K) (tVar 0) (tC (.int 0)))) (tRz K T.X.x0.C "at" (tCons (tVar 1) tNil) E) tNext)
      (tSeq (tIfS (tTest (tOp (rEqA K) (tVar 0) (tC (.int 1)))) (tRz K T.X.x1.C "at" (tCons (tVar 1) tNil) E) tNext)
      (tSeq (tIfS (tTest (tOp (rEqA K) (tVar 0) (tC (.int 2)))) (tRz K T.X.x2.C "at" (tCons (tVar 1) tNil) E) tNext)
      (tSeq (tIfS (tTest (tOp (rEqA K) (tVar 0) (tC (.int 3)))) (tRz K T.X.x3.C "at" (tCons (tVar 1) tNil) E) tNext)
      (tSeq (tIfS (tTest (tOp (rEqA K) (tVar 0) (tC (.int 4)))) (tRz K T.X.x4.C "at" (tCons (tVar 1) tNil) E) tNext)
      (tSeq (tIfS (tTest (tOp (rEqA K) (tVar 0) (tC (.int 5)))) (tRz K T.X.x5.C "at" (tCons (tVar 1) tNil) E) tNext)
      (tSeq (tIfS (tTest (tOp (rEqA K) (tVar 0) (tC (.int 6)))) (tRz K T.X.x6.C "at" (tCons (tVar 1) tNil) E) tNext)
      (tRz0 K T.X.x7.C E))))))))
theorem d__law_raise (T : Top K mg)  (cdv : Value) (A : Around) (outer : List Env) (s : Shared) (H : Hp) (E : XK) (hg : (cxOf (L2N.CX P0 w) P0 w K mg base ["at", "thing"] "_law_raise" (defScope s__law_raise) T.f__law_raise cdv A outer s H E).A.guards = some []) (hr : Room 2 (cxOf (L2N.CX P0 w) P0 w K mg base ["at", "thing"] "_law_raise" (defScope s__law_raise) T.f__law_raise cdv A outer s H E).A) (tk : L2N.Takes (cxOf (L2N.CX P0 w) P0 w K mg base ["at", "thing"] "_law_raise" (defScope s__law_raise) T.f__law_raise cdv A outer s H E) (fun cls d _ H => E cls d H)) :
    PSs (cxOf (L2N.CX P0 w) P0 w K mg base ["at", "thing"] "_law_raise" (defScope s__law_raise) T.f__law_raise cdv A outer s H E) (defBody s__law_raise) (t__law_raise T E) :=
      (pss_cons (ps_if (pt_cmpR (oq_eq hr) (pv 0) pe_int (nomark _)) (pss_one (ps_raiseN T.X.x0 tk (hr.mono (by decide)) (by rfl) (pa_cons (pv 1) pa_nil))) pss_nil)
      (pss_cons (ps_if (pt_cmpR (oq_eq hr) (pv 0) pe_int (nomark _)) (pss_one (ps_raiseN T.X.x1 tk (hr.mono (by decide)) (by rfl) (pa_cons (pv 1) pa_nil))) pss_nil)
      (pss_cons (ps_if (pt_cmpR (oq_eq hr) (pv 0) pe_int (nomark _)) (pss_one (ps_raiseN T.X.x2 tk (hr.mono (by decide)) (by rfl) (pa_cons (pv 1) pa_nil))) pss_nil)
      (pss_cons (ps_if (pt_cmpR (oq_eq hr) (pv 0) pe_int (nomark _)) (pss_one (ps_raiseN T.X.x3 tk (hr.mono (by decide)) (by rfl) (pa_cons (pv 1) pa_nil))) pss_nil)
      (pss_cons (ps_if (pt_cmpR (oq_eq hr) (pv 0) pe_int (nomark _)) (pss_one (ps_raiseN T.X.x4 tk (hr.mono (by decide)) (by rfl) (pa_cons (pv 1) pa_nil))) pss_nil)
      (pss_cons (ps_if (pt_cmpR (oq_eq hr) (pv 0) pe_int (nomark _)) (pss_one (ps_raiseN T.X.x5 tk (hr.mono (by decide)) (by rfl) (pa_cons (pv 1) pa_nil))) pss_nil)
      (pss_cons (ps_if (pt_cmpR (oq_eq hr) (pv 0) pe_int (nomark _)) (pss_one (ps_raiseN T.X.x6 tk (hr.mono (by decide)) (by rfl) (pa_cons (pv 1) pa_nil))) pss_nil)
      (pss_one (ps_raiseN0 T.X.x7 tk (hr.mono (by decide)) (by rfl))))))))))
def t__law_named (T : Top K mg) : TS :=
      (tSeq (tAsg (tLst (tCons (tKwAt T.X.x0.C (SpAt K T.X.x0.C "at") "at" (tCons (tVar 0) tNil)) (tCons (tKwAt T.X.x1.C (SpAt K T.X.x1.C "at") "at" (tCons (tVar 0) tNil)) (tCons (tKwAt T.X.x2.C (SpAt K T.X.x2.C "at") "at" (tCons (tVar 0) tNil)) (tCons (tKwAt T.X.x3.C (SpAt K T.X.x3.C "at") "at" (tCons (tVar 0) tNil)) tNil))))) (gName 1))
      (tSeq (tAsg (tOp (rAddA K) (tVar 1) (tLst (tCons (tKwAt T.X.x4.C (SpAt K T.X.x4.C "at") "at" (tCons (tVar 0) tNil)) (tCons (tKwAt T.X.x5.C (SpAt K T.X.x5.C "at") "at" (tCons (tVar 0) tNil)) (tCons (tKwAt T.X.x6.C (SpAt K T.X.x6.C "at") "at" (tCons (tVar 0) tNil)) tNil))))) (gName 1))
      (tRet (tOp (rEqA K) (tLc (iAny K (tVar 1)) (gName 2) (tTest (tOp (rNeA K) (tCB (rRepr K) (tCons (tVar 2) tNil)) (tCB (rRepr K) (tCons (tVar 0) tNil)))) (tVar 2) [2]) (tLst tNil)))))
theorem d__law_named (T : Top K mg)  (cdv : Value) (A : Around) (outer : List Env) (s : Shared) (H : Hp) (E : XK) (hg : (cxOf CX0 P0 w K mg base ["thing", "made", "one"] "_law_named" (defScope s__law_named) T.f__law_named cdv A outer s H E).A.guards = some []) (hr : Room 2 (cxOf CX0 P0 w K mg base ["thing", "made", "one"] "_law_named" (defScope s__law_named) T.f__law_named cdv A outer s H E).A) :
    PSs (cxOf CX0 P0 w K mg base ["thing", "made", "one"] "_law_named" (defScope s__law_named) T.f__law_named cdv A outer s H E).nox (defBody s__law_named) (t__law_named T) :=
      (pss_cons (ps_set (i := 1) sc__law_named.nd rfl (.inl rfl) (pe_lst (pa_cons (pe_kwX T.X.x0 T.X.k0 (hr.mono (by decide)) (by rfl) (pk_cons (pv 0) pk_nil)) (pa_cons (pe_kwX T.X.x1 T.X.k1 (hr.mono (by decide)) (by rfl) (pk_cons (pv 0) pk_nil)) (pa_cons (pe_kwX T.X.x2 T.X.k2 (hr.mono (by decide)) (by rfl) (pk_cons (pv 0) pk_nil)) (pa_cons (pe_kwX T.X.x3 T.X.k3 (hr.mono (by decide)) (by rfl) (pk_cons (pv 0) pk_nil)) pa_nil))))))
      (pss_cons (ps_set (i := 1) sc__law_named.nd rfl (.inl rfl) (pe_op oq_add (pv 1) (pe_lst (pa_cons (pe_kwX T.X.x4 T.X.k4 (hr.mono (by decide)) (by rfl) (pk_cons (pv 0) pk_nil)) (pa_cons (pe_kwX T.X.x5 T.X.k5 (hr.mono (by decide)) (by rfl) (pk_cons (pv 0) pk_nil)) (pa_cons (pe_kwX T.X.x6 T.X.k6 (hr.mono (by decide)) (by rfl) (pk_cons (pv 0) pk_nil)) pa_nil))))))
      (pss_one (ps_ret (pe_cmpR (oq_eq hr) (pe_lc (own := [("one", 2)]) (by rfl) sc__law_named.nd (pi_any (pv 1)) (blkOk_by (own := [("one", 2)]) (N := ["thing", "made", "one"]) (sc := defScope s__law_named) (by decide +kernel)) (fun _ _ _ _ _ => (pg_name (i := 2) sc__law_named.nd rfl (.inl rfl))) (fun _ _ _ _ _ => (pts_one (pt_cmpR (oq_ne hr) (pe_callB (cq_repr hg hr) (by rfl) T.n_repr (by decide +kernel) (pa_cons (pv 2) pa_nil)) (pe_callB (cq_repr hg hr) (by rfl) T.n_repr (by decide +kernel) (pa_cons (pv 0) pa_nil)) (nomark _)))) (fun _ _ _ _ _ => (pv 2))) (pe_lst pa_nil) (nomark _))))))
def t_law (T : Top K mg) : TS :=
      (tSeq (tFor (iRng1 (tCons (tCB rMx (tCons (tC (.int 1)) (tCons (tCB rMn (tCons (tC (.int 4)) (tCons (tCB (rLen K) (tCons (tVar 0) tNil)) tNil))) tNil))) tNil)) (gName 1) (tSeq (tAsg (tIf (tTest (tOp rLtA (tVar 1) (tCB (rLen K) (tCons (tVar 0) tNil)))) (tOp (rIx K) (tVar 0) (tVar 1)) (tC (.int 0))) (gName 2))
        (tSeq (tAsg (tLst (tCons (tOp (rI (fun _ j => 0 < j) fun i j => .int (i % j)) (tCB rInt1 (tCons (tVar 2) tNil)) (tC (.int 1000000007))) (tCons (tOp (rI0 fun i j => .int (i - j)) (tC (.int 0)) (tOp (rI (fun _ j => 0 < j) fun i j => .int (i % j)) (tCB rInt1 (tCons (tVar 2) tNil)) (tC (.int 97)))) (tCons (tCB rStrI (tCons (tOp (rI (fun _ j => 0 < j) fun i j => .int (i % j)) (tCB rInt1 (tCons (tVar 2) tNil)) (tC (.int 1000))) tNil)) (tCons (tC .non) (tCons (tTup (tCons (tOp (rI (fun _ j => 0 < j) fun i j => .int (i % j)) (tCB rInt1 (tCons (tVar 2) tNil)) (tC (.int 7))) (tCons (tC (.str "a")) tNil))) (tCons (tLst (tCons (tOp (rI (fun _ j => 0 < j) fun i j => .int (i % j)) (tCB rInt1 (tCons (tVar 2) tNil)) (tC (.int 11))) tNil)) tNil))))))) (gName 3))
        (tFor (iAny K (tVar 3)) (gName 4) (tSeq (tIfS (tNot (tB (tCallK (sp__law_named K) (fun vs _ => vs) E0 (tCons (tVar 4) tNil) tNil))) (tRet (tC (.bl false))) tNext)
          (tFor (iRng1 (tCons (tC (.int 8)) tNil)) (gName 5) (tIfS (tNot (tB (tCallK (sp__law_heard K) (fun vs _ => vs) E0 (tCons (tVar 5) (tCons (tVar 4) tNil)) tNil))) (tRet (tC (.bl false))) tNext)))))))
      (tRet (tC (.bl true))))
theorem d_law (T : Top K mg) (G__law_named : GOk P0 w K mg base CX0 3 T.f__law_named T.fd__law_named ["thing"] (sp__law_named K)) (G__law_heard : GOk P0 w K mg base CX0 4 T.f__law_heard T.fd__law_heard ["at", "thing"] (sp__law_heard K)) (cdv : Value) (A : Around) (outer : List Env) (s : Shared) (H : Hp) (E : XK) (hg : (cxOf CX0 P0 w K mg base ["script", "k", "cell", "things", "thing", "at"] "law" (defScope s_law) T.f_law cdv A outer s H E).A.guards = some []) (hr : Room 4 (cxOf CX0 P0 w K mg base ["script", "k", "cell", "things", "thing", "at"] "law" (defScope s_law) T.f_law cdv A outer s H E).A) :
    PSs (cxOf CX0 P0 w K mg base ["script", "k", "cell", "things", "thing", "at"] "law" (defScope s_law) T.f_law cdv A outer s H E).nox (defBody s_law) (t_law T) :=
      (pss_cons (ps_for PassesOwn.never rfl (pi_range1 (by rfl) T.n_range (pa_cons (pe_callB (cq_max rfl) (by rfl) T.n_max (by decide +kernel) (pa_cons pe_int (pa_cons (pe_callB (cq_min rfl) (by rfl) T.n_min (by decide +kernel) (pa_cons pe_int (pa_cons (pe_callB cq_len (by rfl) T.n_len (by decide +kernel) (pa_cons (pv 0) pa_nil)) pa_nil))) pa_nil))) pa_nil)) (pg_name (i := 1) sc_law.nd rfl (.inl rfl)) (pss_cons (ps_set (i := 2) sc_law.nd rfl (.inl rfl) (pe_ifExp (pt_cmpR oq_lt (pv 1) (pe_callB cq_len (by rfl) T.n_len (by decide +kernel) (pa_cons (pv 0) pa_nil)) (nomark _)) (pe_ix ix_seq (pv 0) (pv 1) (fun _ _ => rfl)) pe_int))
        (pss_cons (ps_set (i := 3) sc_law.nd rfl (.inl rfl) (pe_lst (pa_cons (pe_op op_mod (pe_callTy cq_int (by rfl) T.n_int (by decide +kernel) (pa_cons (pv 2) pa_nil)) pe_int) (pa_cons (pe_op op_sub pe_int (pe_op op_mod (pe_callTy cq_int (by rfl) T.n_int (by decide +kernel) (pa_cons (pv 2) pa_nil)) pe_int)) (pa_cons (pe_callTy cq_strI (by rfl) T.n_str (by decide +kernel) (pa_cons (pe_op op_mod (pe_callTy cq_int (by rfl) T.n_int (by decide +kernel) (pa_cons (pv 2) pa_nil)) pe_int) pa_nil)) (pa_cons pe_non (pa_cons (pe_tup (pa_cons (pe_op op_mod (pe_callTy cq_int (by rfl) T.n_int (by decide +kernel) (pa_cons (pv 2) pa_nil)) pe_int) (pa_cons pe_str pa_nil))) (pa_cons (pe_lst (pa_cons (pe_op op_mod (pe_callTy cq_int (by rfl) T.n_int (by decide +kernel) (pa_cons (pv 2) pa_nil)) pe_int) pa_nil)) pa_nil))))))))
        (pss_one (ps_for PassesOwn.never rfl (pi_any (pv 3)) (pg_name (i := 4) sc_law.nd rfl (.inl rfl)) (pss_cons (ps_if (pt_not (pt_val (pe_g G__law_named hg (hr.mono (by decide)) (by rfl) T.g__law_named T.F__law_named.kp (b__law_named T.F__law_named) pass0 (pa_cons (pv 4) pa_nil)))) (pss_one (ps_ret pe_bl)) pss_nil)
          (pss_one (ps_for PassesOwn.never rfl (pi_range1 (by rfl) T.n_range (pa_cons pe_int pa_nil)) (pg_name (i := 5) sc_law.nd rfl (.inl rfl)) (pss_one (ps_if (pt_not (pt_val (pe_g G__law_heard hg hr (by rfl) T.g__law_heard T.F__law_heard.kp (b__law_heard T.F__law_heard) pass0 (pa_cons (pv 5) (pa_cons (pv 4) pa_nil))))) (pss_one (ps_ret pe_bl)) pss_nil))))))))))
      (pss_one (ps_ret pe_bl)))
end
/-! ### the top -/
theorem top_mk {K : PySem.W.Frag} {h : Heap} {mg : Str → Option Value} {fa : Addr} (X : K.In h) (G : h.Ns mainGlobals mg) (hfa : mg "law" = some (.ref fa))
    {f0 : Addr} {od0 an0 : Option Addr} {sl0 : Array (Option Value)} {oc0 kV0 dc0 pm0 cd0 ct0 : Value}
    {f1 : Addr} {od1 an1 : Option Addr} {sl1 : Array (Option Value)} {oc1 kV1 dc1 pm1 cd1 ct1 : Value}
    {f2 : Addr} {od2 an2 : Option Addr} {sl2 : Array (Option Value)} {oc2 kV2 dc2 pm2 cd2 ct2 : Value}
    {f3 : Addr} {od3 an3 : Option Addr} {sl3 : Array (Option Value)} {oc3 kV3 dc3 pm3 cd3 ct3 : Value}
    {f4 : Addr} {od4 an4 : Option Addr} {sl4 : Array (Option Value)} {oc4 kV4 dc4 pm4 cd4 ct4 : Value}
    (fam : Fam P0 K mg)
    (a0 : PySem.W.nsIn K mainGlobals "_law_marks" = some (some (.ref f0))) (l0 : K.lookup f0 = some ⟨oc0, od0, .func (PySem.W.fnOf "_law_marks" "_law_marks" (defArgs s__law_marks) (defBody s__law_marks) (defScope s__law_marks) .none kV0 dc0 pm0 an0 cd0 ct0), sl0⟩) (c0 : PySem.W.codeIn K cd0 "_law_marks" = true) (k0 : PySem.W.keepIn K (.ref f0) = true)
    (a1 : PySem.W.nsIn K mainGlobals "_law_raise" = some (some (.ref f1))) (l1 : K.lookup f1 = some ⟨oc1, od1, .func (PySem.W.fnOf "_law_raise" "_law_raise" (defArgs s__law_raise) (defBody s__law_raise) (defScope s__law_raise) .none kV1 dc1 pm1 an1 cd1 ct1), sl1⟩) (c1 : PySem.W.codeIn K cd1 "_law_raise" = true) (k1 : PySem.W.keepIn K (.ref f1) = true)
    (a2 : PySem.W.nsIn K mainGlobals "_law_heard" = some (some (.ref f2))) (l2 : K.lookup f2 = some ⟨oc2, od2, .func (PySem.W.fnOf "_law_heard" "_law_heard" (defArgs s__law_heard) (defBody s__law_heard) (defScope s__law_heard) .none kV2 dc2 pm2 an2 cd2 ct2), sl2⟩) (c2 : PySem.W.codeIn K cd2 "_law_heard" = true) (k2 : PySem.W.keepIn K (.ref f2) = true)
    (a3 : PySem.W.nsIn K mainGlobals "_law_named" = some (some (.ref f3))) (l3 : K.lookup f3 = some ⟨oc3, od3, .func (PySem.W.fnOf "_law_named" "_law_named" (defArgs s__law_named) (defBody s__law_named) (defScope s__law_named) .none kV3 dc3 pm3 an3 cd3 ct3), sl3⟩) (c3 : PySem.W.codeIn K cd3 "_law_named" = true) (k3 : PySem.W.keepIn K (.ref f3) = true)
    (a4 : PySem.W.nsIn K mainGlobals "law" = some (some (.ref f4))) (l4 : K.lookup f4 = some ⟨oc4, od4, .func (PySem.W.fnOf "law" "law" (defArgs s_law) (defBody s_law) (defScope s_law) .none kV4 dc4 pm4 an4 cd4 ct4), sl4⟩) (c4 : PySem.W.codeIn K cd4 "law" = true) (k4 : PySem.W.keepIn K (.ref f4) = true)
    (z_isinstance : PySem.W.nsIn K mainGlobals "isinstance" = some none)
    (z_repr : PySem.W.nsIn K mainGlobals "repr" = some none)
    (z_range : PySem.W.nsIn K mainGlobals "range" = some none)
    (z_ValueError : PySem.W.nsIn K mainGlobals "ValueError" = some none)
    (z_max : PySem.W.nsIn K mainGlobals "max" = some none)
    (z_min : PySem.W.nsIn K mainGlobals "min" = some none)
    (z_len : PySem.W.nsIn K mainGlobals "len" = some none)
    (z_int : PySem.W.nsIn K mainGlobals "int" = some none)
    (z_str : PySem.W.nsIn K mainGlobals "str" = some none) :
    ∃ T : Top K mg, T.f_law = fa ∧ ∀ (s : Shared) (u : Value), BindsTo s T.fd_law ⟨[u], []⟩ [("script", u)] := by
  have e := hfa.symm.trans (PySem.W.mg_of X G a4)
  cases e
  exact ⟨{ X := fam, f__law_marks := f0, fd__law_marks := _, F__law_marks := fun_mk l0 c0 k0, g__law_marks := PySem.W.mg_of X G a0, f__law_raise := f1, fd__law_raise := _, F__law_raise := fun_mk l1 c1 k1, g__law_raise := PySem.W.mg_of X G a1, f__law_heard := f2, fd__law_heard := _, F__law_heard := fun_mk l2 c2 k2, g__law_heard := PySem.W.mg_of X G a2, f__law_named := f3, fd__law_named := _, F__law_named := fun_mk l3 c3 k3, g__law_named := PySem.W.mg_of X G a3, f_law := _, fd_law := _, F_law := fun_mk l4 c4 k4, g_law := PySem.W.mg_of X G a4, n_isinstance := PySem.W.mg_none_of X G z_isinstance, n_repr := PySem.W.mg_none_of X G z_repr, n_range := PySem.W.mg_none_of X G z_range, n_ValueError := PySem.W.mg_none_of X G z_ValueError, n_max := PySem.W.mg_none_of X G z_max, n_min := PySem.W.mg_none_of X G z_min, n_len := PySem.W.mg_none_of X G z_len, n_int := PySem.W.mg_none_of X G z_int, n_str := PySem.W.mg_none_of X G z_str }, rfl, fun s u => .of_eq rfl⟩
end Ly.K00
namespace Ly.K00
open PySem PySem.Spec PyProof.Rows L2 Ly
section
variable {w : World} {K : PySem.W.Frag} {mg : Str → Option Value} {base : Heap} {B H : Hp}
/-! ### _law_raise -/
theorem vs_arm {C : Cn} {Γ : List Sl} {k j : Nat} {d : D} {E : XK} {u : TS} {P : Po} {Pr : Program} {nm : Str} (X : XT Pr C.K mg nm "at") (h0 : Γ[0]? = some (.dat (.int ((k : Nat) : Int)))) (h1 : Γ[1]? = some (.dat d)) (t : k = j → Tks C X.C "at" (Is d) E) (r : k ≠ j → VS C u Γ P) :
    VS C (tSeq (tIfS (tTest (tOp (rEqA C.K) (tVar 0) (tC (.int ((j : Nat) : Int))))) (tRz C.K X.C "at" (tCons (tVar 1) tNil) E) tNext) u) Γ P := by
  have hT : VT C (tTest (tOp (rEqA C.K) (tVar 0) (tC (.int ((j : Nat) : Int))))) Γ (Is (decide (((k : Nat) : Int) = ((j : Nat) : Int)))) := vt_testD (ve_opD (ve_var h0).v ve_int.v od_eqI)
  by_cases e : k = j
  · exact vs_seq (fun _ => False) (vs_ifD hT (fun _ => vs_rz X (t e) (va_consD (ve_var h1) va_nil) rfl) fun z => absurd (by rw [e]) (of_decide_eq_false z)) fun _ f => f.elim
  · exact vs_then Γ (vs_ifD hT (fun z => absurd (Int.ofNat.inj (of_decide_eq_true z)) e) fun _ => vs_next rfl) (r e)
theorem vs_raise_ (T : Top K mg) {k : Nat} {d : D} {E : XK} (hk : k ≤ 7) (e1 : k ≤ 6 → ∀ dx v B' H', Stp none B H B' H' → H' dx = some (.xd [("at", v)]) → Dq K B' v d → E (.ref (T.X.cls k)) (some dx) H')
    (e2 : k = 7 → ∀ B' H', Stp none B H B' H' → E (.ref (T.X.cls 7)) none H') : VS ⟨K, B, H, none⟩ (t__law_raise T E) (slots [.int ((k : Nat) : Int), d] 0) { nx := fun _ => False, rt := fun _ => False } := by
  have tk : ∀ {C : Addr} (j : Nat), j ≤ 6 → T.X.cls j = C → k = j → Tks ⟨K, B, H, none⟩ C "at" (Is d) E := by
    rintro C j hj rfl rfl n dx v B' H' rfl s hd kd
    exact e1 hj dx v B' H' s hd kd
  refine vs_arm (C := ⟨K, B, H, none⟩) (Γ := [.dat (.int ((k : Nat) : Int)), .dat d]) (k := k) (d := d) (j := 0) T.X.x0 rfl rfl (tk 0 (by decide) T.X.c0) fun n0 => ?_
  refine vs_arm (C := ⟨K, B, H, none⟩) (Γ := [.dat (.int ((k : Nat) : Int)), .dat d]) (k := k) (d := d) (j := 1) T.X.x1 rfl rfl (tk 1 (by decide) T.X.c1) fun n1 => ?_
  refine vs_arm (C := ⟨K, B, H, none⟩) (Γ := [.dat (.int ((k : Nat) : Int)), .dat d]) (k := k) (d := d) (j := 2) T.X.x2 rfl rfl (tk 2 (by decide) T.X.c2) fun n2 => ?_
  refine vs_arm (C := ⟨K, B, H, none⟩) (Γ := [.dat (.int ((k : Nat) : Int)), .dat d]) (k := k) (d := d) (j := 3) T.X.x3 rfl rfl (tk 3 (by decide) T.X.c3) fun n3 => ?_
  refine vs_arm (C := ⟨K, B, H, none⟩) (Γ := [.dat (.int ((k : Nat) : Int)), .dat d]) (k := k) (d := d) (j := 4) T.X.x4 rfl rfl (tk 4 (by decide) T.X.c4) fun n4 => ?_
  refine vs_arm (C := ⟨K, B, H, none⟩) (Γ := [.dat (.int ((k : Nat) : Int)), .dat d]) (k := k) (d := d) (j := 5) T.X.x5 rfl rfl (tk 5 (by decide) T.X.c5) fun n5 => ?_
  refine vs_arm (C := ⟨K, B, H, none⟩) (Γ := [.dat (.int ((k : Nat) : Int)), .dat d]) (k := k) (d := d) (j := 6) T.X.x6 rfl rfl (tk 6 (by decide) T.X.c6) fun n6 => ?_
  have e7 : ∀ B' H', Stp none B H B' H' → E (.ref T.X.x7.C) none H' := by
    rw [← T.X.c7]
    exact e2 (by omega)
  exact vs_rz0 (c := ⟨K, B, H, none⟩) T.X.x7 e7
theorem ok__law_raise (T : Top K mg) : GOk P0 w K mg base (L2N.CX P0 w) 3 T.f__law_raise T.fd__law_raise ["at", "thing"] (SpRz T.X) := by
  refine gok_of T.F__law_raise sc__law_raise (fun {vs H Q E} ⟨B, k, d, _, h, _⟩ => dpall_len h) fun cdv A outer s H vs Q E hg hr ⟨B, k, d, hs, h1, hk, e1, e2⟩ => ?_
  refine ⟨t__law_raise T E, d__law_raise T cdv A outer s H E hg hr (L2N.takes_of rfl rfl rfl rfl), ?_⟩
  exact vs_raise_ T hk e1 e2 B H _ _ (fm_start (n := 0) hs h1 rfl) (fun _ _ _ _ f => f.elim) (fun _ _ _ _ f => f.elim) (fun _ _ _ _ f => f.elim) fun _ _ _ _ f => f.elim
/-! ### _law_named -/
theorem vs_named (T : Top K mg) {d : D} (hd : Thing d) : VS ⟨K, B, H, none⟩ (t__law_named T) (slots [d] 2) { nx := fun _ => False, rt := Is (.bool true) } := by
  have kw : ∀ {nm : Str} {Γ : List Sl} (X : XT P0 K mg nm "at"), Γ[0]? = some (.dat d) → VE ⟨K, B, H, none⟩ (tKwAt X.C (SpAt K X.C "at") "at" (tCons (tVar 0) tNil)) Γ (Is d) := fun X h => ve_kwX (c := ⟨K, B, H, none⟩) X (va_consD (ve_var h) va_nil)
  refine vs_then [.dat d, .dat (.list [d, d, d, d]), .no] (vs_asgD (vl_lstD (va_consD (kw T.X.x0 rfl) (va_consD (kw T.X.x1 rfl) (va_consD (kw T.X.x2 rfl) (va_consD (kw T.X.x3 rfl) va_nil))))).ed rfl) ?_
  refine vs_then [.dat d, .dat (.list [d, d, d, d, d, d, d]), .no] (vs_asgD (vl_opD (ve_var rfl).v (vl_lstD (va_consD (kw T.X.x4 rfl) (va_consD (kw T.X.x5 rfl) (va_consD (kw T.X.x6 rfl) va_nil)))).vd (ol_cat (by simp))).ed rfl) ?_
  have lc : VL ⟨K, B, H, none⟩ (tLc (iAny K (tVar 1)) (gName 2) (tTest (tOp (rNeA K) (tCB (rRepr K) (tCons (tVar 2) tNil)) (tCB (rRepr K) (tCons (tVar 0) tNil)))) (tVar 2) [2]) [.dat d, .dat (.list [d, d, d, d, d, d, d]), .no] (Is []) :=
    vl_lcD (ds := [d, d, d, d, d, d, d]) (vs := [2]) (fun _ => false) id (va_listD (ve_var rfl)) (by simp) fun x hx => by
      have ex : x = d := by simpa using hx
      subst ex
      have h2 : VE ⟨K, B, H, none⟩ (tVar 2) [.dat x, .dat (.list [x, x, x, x, x, x, x]), .dat x] (Is x) := ve_var rfl
      have h0 : VE ⟨K, B, H, none⟩ (tVar 0) [.dat x, .dat (.list [x, x, x, x, x, x, x]), .dat x] (Is x) := ve_var rfl
      exact ⟨[.dat x, .dat (.list [x, x, x, x, x, x, x]), .dat x], [2], vg_name, (by decide), vt_testD (ve_opD (ve_reprS h2.v hd).v (ve_reprS h0.v hd).v (od_neSSame rfl)), fun z => nomatch z⟩
  exact vs_retD (ve_opD lc.vd (vl_lstD va_nil).vd (od_eq rfl rfl)) rfl
theorem ok__law_named (T : Top K mg) : GOk P0 w K mg base CX0 3 T.f__law_named T.fd__law_named ["thing"] (sp__law_named K) :=
  pa_ok 2 T.F__law_named sc__law_named (fun a => rfl) rfl fun cdv A outer s H E hg hr => ⟨_, d__law_named T cdv A outer s H E hg hr, fun B H a hP => by
    have h := vs_named (B := B) (H := H) T hP
    exact h.imp (fun _ f => f.elim) (fun x e => by cases e; rfl) (fun _ f => f.elim) fun _ f => f.elim⟩
end
end Ly.K00
namespace Ly.K00
open PySem PySem.Spec PyProof.Rows L2 Ly
section
variable {w : World} {K : PySem.W.Frag} {mg : Str → Option Value} {base : Heap} {B H : Hp}
/-! ### _law_marks -/
def tIs (T : Top K mg) (D a : Addr) (d : Option Addr) (i : Nat) (c : Addr) : TE := tCB (rIsX K D a d) (tCons (tVar i) (tCons (tC (.ref c)) tNil))
def t__law_marks (T : Top K mg) (D a : Addr) (d : Option Addr) : TS :=
  tSeq (tAsg (tLst (tCons (tIs T D a d 0 T.X.x0.C) (tCons (tIs T D a d 0 T.X.x1.C) (tCons (tIs T D a d 0 T.X.x2.C) (tCons (tIs T D a d 0 T.X.x3.C) tNil))))) (gName 1))
    (tRet (tOp (rAddA K) (tVar 1) (tLst (tCons (tIs T D a d 0 T.X.x4.C) (tCons (tIs T D a d 0 T.X.x5.C) (tCons (tIs T D a d 0 T.X.x6.C) (tCons (tIs T D a d 0 T.X.x7.C) tNil)))))))
theorem d__law_marks (T : Top K mg) {i : Nat} (hi : i ≤ 7) {d : Option Addr} (p : Addr × Obj) (hz : Zc (.ref (T.X.cls i)) d p.2) (hf : ∃ vs, p.2.data = .fields vs) (cdv : Value) (A : Around) (outer : List Env) (s : Shared) (H : Hp) (E : XK) :
    PSs (L2H.cxH CX0 P0 w K mg base ["e", "found"] "_law_marks" (defScope s__law_marks) T.f__law_marks cdv A outer s H E p) (defBody s__law_marks) (t__law_marks T (T.X.cls i) p.1 d) := by
  have r : CallR (L2H.cxH CX0 P0 w K mg base ["e", "found"] "_law_marks" (defScope s__law_marks) T.f__law_marks cdv A outer s H E p) (.builtin "isinstance") (rIsX K (T.X.cls i) p.1 d) :=
    call_isX (oe := p.2) (T.X.ec i hi) (List.mem_singleton.mpr rfl) hz hf
  exact (pss_cons (ps_set (i := 1) sc__law_marks.nd rfl (.inl rfl) (pe_lst (pa_cons (pe_callB r (by rfl) T.n_isinstance (by decide +kernel) (pa_cons (pv 0) (pa_cons (pe_glob (by rfl) T.X.x0.m rfl) pa_nil)))
      (pa_cons (pe_callB r (by rfl) T.n_isinstance (by decide +kernel) (pa_cons (pv 0) (pa_cons (pe_glob (by rfl) T.X.x1.m rfl) pa_nil)))
      (pa_cons (pe_callB r (by rfl) T.n_isinstance (by decide +kernel) (pa_cons (pv 0) (pa_cons (pe_glob (by rfl) T.X.x2.m rfl) pa_nil)))
      (pa_cons (pe_callB r (by rfl) T.n_isinstance (by decide +kernel) (pa_cons (pv 0) (pa_cons (pe_glob (by rfl) T.X.x3.m rfl) pa_nil))) pa_nil))))))
    (pss_one (ps_ret (pe_op oq_add (pv 1) (pe_lst (pa_cons (pe_callB r (by rfl) T.n_isinstance (by decide +kernel) (pa_cons (pv 0) (pa_cons (pe_glob (by rfl) T.X.x4.m rfl) pa_nil)))
      (pa_cons (pe_callB r (by rfl) T.n_isinstance (by decide +kernel) (pa_cons (pv 0) (pa_cons (pe_glob (by rfl) T.X.x5.m rfl) pa_nil)))
      (pa_cons (pe_callB r (by rfl) T.n_isinstance (by decide +kernel) (pa_cons (pv 0) (pa_cons (pe_glob (by rfl) T.X.x6.m rfl) pa_nil)))
      (pa_cons (pe_callB r (by rfl) T.n_isinstance (by decide +kernel) (pa_cons (pv 0) (pa_cons (pe_glob (by rfl) T.X.x7.m rfl) pa_nil))) pa_nil)))))))))
theorem ve_isE {C : Cn} {Γ : List Sl} {i : Nat} {a D : Addr} {d : Option Addr} {c : V} {cv : Value} {b : Bool} (hdl : C.dl = none) (hi : Γ[i]? = some (.exr a)) (hd : DOk d C.H) (hc : ∀ u, RelV c u → u = cv) (hk : PySem.W.kitOne C.K (.ref D) cv = some b) :
    VE C (tCB (rIsX C.K D a d) (tCons (tVar i) (tCons (tC c) tNil))) Γ (Is (.bool b)) := fun B H σ F Q q => by
  have e : σ[i]? = some (some (.ref a)) := F.slot i _ hi
  refine ⟨.ref a, e, c, cv, b, rfl, hc, hk, fun dd z => ?_, q _ _ B H rfl (Stp.refl F.sub) (.bl b)⟩
  obtain ⟨fs, h⟩ := hd dd z
  exact ⟨fs, F.st.keep dd _ h (fun ⟨p, q, e, _⟩ => by rw [hdl] at e; cases e)⟩
theorem ve_is (T : Top K mg) {i j : Nat} {a : Addr} {d : Option Addr} {Γ : List Sl} {sl : Nat} {c : Addr} (hi : i ≤ 7) (hj : j ≤ 7) (e : T.X.cls j = c) (hs : Γ[sl]? = some (.exr a)) (hd : DOk d H) : VE ⟨K, B, H, none⟩ (tIs T (T.X.cls i) a d sl c) Γ (Is (.bool (decide (i = j)))) := by
  subst e
  exact ve_isE (C := ⟨K, B, H, none⟩) rfl hs hd (fun u r => r) (T.X.ki i j hi hj)
theorem vs_marks (T : Top K mg) {i : Nat} (hi : i ≤ 7) {a : Addr} {d : Option Addr} (hd : DOk d H) : VS ⟨K, B, H, none⟩ (t__law_marks T (T.X.cls i) a d) [.exr a, .no] { nx := fun _ => False, rt := Is (marks i) } := by
  have k : ∀ {Γ : List Sl} {c : Addr} (j : Nat), j ≤ 7 → T.X.cls j = c → Γ[0]? = some (.exr a) → VE ⟨K, B, H, none⟩ (tIs T (T.X.cls i) a d 0 c) Γ (Is (.bool (decide (i = j)))) := fun j hj e hs => ve_is T hi hj e hs hd
  refine vs_then [.exr a, .dat (.list [.bool (decide (i = 0)), .bool (decide (i = 1)), .bool (decide (i = 2)), .bool (decide (i = 3))])]
    (vs_asgD (vl_lstD (va_consD (k 0 (by decide) T.X.c0 rfl) (va_consD (k 1 (by decide) T.X.c1 rfl) (va_consD (k 2 (by decide) T.X.c2 rfl) (va_consD (k 3 (by decide) T.X.c3 rfl) va_nil))))).ed rfl) ?_
  exact vs_retD ((vl_opD (ve_var rfl).v (vl_lstD (va_consD (k 4 (by decide) T.X.c4 rfl) (va_consD (k 5 (by decide) T.X.c5 rfl) (va_consD (k 6 (by decide) T.X.c6 rfl) (va_consD (k 7 (by decide) T.X.c7 rfl) va_nil))))).vd (ol_cat (by simp))).ed) rfl
theorem ok__law_marks (T : Top K mg) : FnE P0 w K mg base CX0 1 T.f__law_marks T.fd__law_marks ["e"] (SpMk T.X) := by
  refine fnE_of T.F__law_marks sc__law_marks (fun {p vs H Q E} ⟨B, i, d, _, e, _⟩ => by rw [e]; rfl) fun cdv A outer s H vs Q E p ⟨B, i, d, hs, ev, hi, hz, hf, hd, q⟩ => ?_
  subst ev
  refine ⟨_, d__law_marks T hi p hz hf cdv A outer s H E, ?_⟩
  refine vs_marks (B := B) T hi hd B H _ _ ⟨Stp.refl hs, (fun p q e => nomatch e), rfl, fun n sl h => ?_, fun n m r xs ys h => ?_⟩ (fun _ _ _ _ f => f.elim) (fun x v B' H' e s k => ?_) (fun _ _ _ _ f => f.elim) fun _ _ _ _ f => f.elim
  · match n, h with
    | 0, h =>
      cases h
      exact rfl
    | 1, h =>
      cases h
      trivial
  · match n, h with
    | 0, h => cases h
    | 1, h => cases h
  · cases e
    exact q v B' H' s k
end
end Ly.K00
namespace Ly.K00
open PySem PySem.Spec PyProof.Rows L2 Ly
section
variable {w : World} {K : PySem.W.Frag} {mg : Str → Option Value} {base : Heap} {B H : Hp}
/-! ### _law_heard -/
theorem takes0N {X : Cx} : L2N.Takes X (fun _ _ _ _ => False) := fun u s' ⟨_, _, _, _, _, _, _, _, _, _, _, _, _, _, _, _, z⟩ => z.elim
theorem binds_k {fd : FuncData} {ps : List Str} {gV : List V → List V → List V} (h : KBinds K fd ps [] (fun us _ => us) gV) : Binds K fd ps [] := fun s us Y hl => by
  rw [List.append_nil] at hl ⊢
  exact h.to s us [] Y hl
/-- _law_marks(e) in the suite -/
def tMk (T : Top K mg) (k : Nat) (a : Addr) (d : Option Addr) : TE := fun σ H Q => σ[2]? = some (some (.ref a)) ∧ ∃ B, Same B H ∧ DOk d H ∧ ∀ v B' H', Stp none B H B' H' → Dq K B' v (marks k) → Q v H'
def t_suite (T : Top K mg) (k : Nat) (a : Addr) (d : Option Addr) : TS :=
  tSeq (tIfS (tOr (tTest (tOp (rNeA K) (tMk T k a d) (tLc (iRng1 (tCons (tC (.int 8)) tNil)) (gName 3) tYes (tOp (rEqA K) (tVar 3) (tVar 0)) [3]))) (tNot (tB (tCB (rIsX K (T.X.cls k) a d) (tCons (tVar 2) (tCons (tC (.ty "ValueError")) tNil))))))
      (tRet (tC (.bl false))) tNext)
    (tRet (tOrV (tOp (rI0 fun i j => .bl (decide (j < i))) (tVar 0) (tC (.int 6))) (tOp (rEqA K) (tCB (rRepr K) (tCons (tXf a (.ref (T.X.cls k)) d (T.X.cls (min k 6)) "at" (tVar 2)) tNil)) (tCB (rRepr K) (tCons (tVar 1) tNil)))))
def t_caught (T : Top K mg) (a : Addr) (cls : Value) (d : Option Addr) : TS := fun D σ H => ∃ k, k ≤ 7 ∧ cls = .ref (T.X.cls k) ∧ t_suite T k a d D σ H
def t_try (T : Top K mg) : TS := fun D σ H => tDrop (tCallS (SpRz T.X) (WE (wAs K (.ref T.X.L) 2 (t_caught T) (fun _ _ _ _ => False) D)) (tCons (tVar 0) (tCons (tVar 1) tNil))) D σ H
def t__law_heard (T : Top K mg) : TS := tSeq (t_try T) (tRet (tC (.bl false)))
abbrev nH : List Str := ["at", "thing", "e", "spot"]
abbrev cH (T : Top K mg) (w : World) (base : Heap) (cdv : Value) (A : Around) (outer : List Env) (s : Shared) (H : Hp) (E : XK) : Cx := cxOf CX0 P0 w K mg base nH "_law_heard" (defScope s__law_heard) T.f__law_heard cdv A outer s H E
theorem pe_mk (T : Top K mg) (G : FnE P0 w K mg base CX0 1 T.f__law_marks T.fd__law_marks ["e"] (SpMk T.X)) {cdv : Value} {A : Around} {outer : List Env} {s : Shared} {H : Hp} {E : XK} (hr : Room 3 (cH T w base cdv A outer s H E).A)
    {a : Addr} {oe : Obj} {d : Option Addr} {pn : List (Addr × Obj)} {k : Nat} (hk : k ≤ 7) (hz : L2N.Zn (.ref (T.X.cls k)) d oe) (hf : ∃ vs, oe.data = .fields vs) {q q2 pos : Pos} :
    PE ((cH T w base cdv A outer s H E).nox.suite a ((a, oe) :: pn)) (.Call (.Name "_law_marks" q) [.Name "e" q2] [] pos) (tMk T k a d) := by
  have pe : PE ((cH T w base cdv A outer s H E).nox.suite a ((a, oe) :: pn)) (.Call (.Name "_law_marks" q) [.Name "e" q2] [] pos) (tCallK (SpMk T.X (a, oe)) (fun vs _ => vs) E0 (tCons (tVar 2) tNil) tNil) :=
    pe_callE (p := (a, oe)) G (L2H.roomH_mark (hr.mono (by decide)) _) List.mem_cons_self (by rfl) T.g__law_marks T.F__law_marks.kp (binds_k (b__law_marks T.F__law_marks)) pass0 (pa_cons (pv 2) pa_nil)
  refine ⟨fun pins s σ H Q I h => pe.run pins s σ H Q I ?_⟩
  obtain ⟨h1, B, h2, h3, h4⟩ := h
  exact ⟨.ref a, h1, B, k, d, h2, rfl, hk, hz.zc, hf, h3, h4⟩
theorem d__law_heard (T : Top K mg) (G : FnE P0 w K mg base CX0 1 T.f__law_marks T.fd__law_marks ["e"] (SpMk T.X)) (G2 : GOk P0 w K mg base (L2N.CX P0 w) 3 T.f__law_raise T.fd__law_raise ["at", "thing"] (SpRz T.X)) (cdv : Value) (A : Around) (outer : List Env) (s : Shared) (H : Hp) (E : XK)
    (hg : (cH T w base cdv A outer s H E).A.guards = some []) (hr : Room 3 (cH T w base cdv A outer s H E).A) : PSs (cH T w base cdv A outer s H E).nox (defBody s__law_heard) (t__law_heard T) := by
  refine pss_cons (L2N.ps_try_as (X := (cH T w base cdv A outer s H E).nox) (x := "LookError") (n := "e") (c := .ref T.X.L) (i := 2) (tb := fun W => tDrop (tCallS (SpRz T.X) (WE W) (tCons (tVar 0) (tCons (tVar 1) tNil)))) (ts := t_caught T) (Wout := fun _ _ _ _ => False)
    rfl rfl sc__law_heard.nd rfl rfl ⟨by rfl, by decide, .inl T.X.mL⟩ takes0N
    (fun W pn xe tk _ => pss_one (ps_expr (pe_gS G2 hg hr (by rfl) T.g__law_raise T.F__law_raise.kp (binds_k (b__law_raise T.F__law_raise)) (fun σ => L2N.passAt tk σ) (pa_cons (pv 0) (pa_cons (pv 1) pa_nil)))))
    (fun a oe cls d pn hz hf => ⟨fun pins s' σ H' D I h => ?_⟩)) (pss_one (ps_ret pe_bl))
  obtain ⟨k, hk, rfl, h⟩ := h
  have hu : ((cH T w base cdv A outer s H E).nox.suite a ((a, oe) :: pn)).A.units + 200 < cLine := by
    have := hr.un
    show (cH T w base cdv A outer s H E).A.units + 200 < cLine
    omega
  have hu2 : ((cH T w base cdv A outer s H E).nox.suite a ((a, oe) :: pn)).A.units + 64 < cLine := by omega
  have hot : L2H.Hot1 ((cH T w base cdv A outer s H E).nox.suite a ((a, oe) :: pn)).A (a, oe) := by
    obtain ⟨vs, hd⟩ := hf
    exact ⟨rfl, vs, hd, hz.2.2 vs hd⟩
  have isR : CallR ((cH T w base cdv A outer s H E).nox.suite a ((a, oe) :: pn)) (.builtin "isinstance") (rIsX K (T.X.cls k) a d) := call_isX (oe := oe) (T.X.ec k hk) List.mem_cons_self hz.zc hf
  obtain ⟨xf, hno⟩ := T.X.f (min k 6) (by omega)
  refine (pss_cons (ps_if (PW.pt (pw_or (pt_cmpR (oq_neU hu2) (pe_mk T G hr hk hz hf)
        (pe_lcH (own := [("spot", 3)]) hot List.mem_cons_self sc__law_heard.nd (L2H.pi_range1H (by rfl) T.n_range (pa_cons pe_int pa_nil)) (blkOk_by (own := [("spot", 3)]) (N := nH) (sc := defScope s__law_heard) (by decide +kernel))
          (fun _ _ _ _ _ => (pg_name (i := 3) sc__law_heard.nd rfl (.inl rfl))) (fun _ _ _ _ _ => (pe_cmpR (oq_eqU (by exact hu2)) (pv 3) (pv 0) (nomark _)))) (nomark _))
      (pw_or1 (pt_not (pt_val (pe_callB isR (by rfl) T.n_isinstance (by decide +kernel) (pa_cons (pv 2) (pa_cons (pe_bltn (v := .ty "ValueError") (by rfl) T.n_ValueError (by decide +kernel) rfl) pa_nil)))))))) (pss_one (ps_ret pe_bl)) pss_nil)
    (pss_one (ps_ret (pe_or (pe_cmpR op_gt (pv 0) pe_int (nomark _)) (pe_one (pe_cmpR (oq_eqU hu2) (pe_callB (cq_reprU hg hu) (by rfl) T.n_repr (by decide +kernel) (pa_cons (pe_xf xf hno hz.zc hf (pv 2)) pa_nil))
      (pe_callB (cq_reprU hg hu) (by rfl) T.n_repr (by decide +kernel) (pa_cons (pv 1) pa_nil)) (nomark _))))))).run pins s' σ H' D I h
end
end Ly.K00
namespace Ly.K00
open PySem PySem.Spec PyProof.Rows L2 Ly
section
variable {w : World} {K : PySem.W.Frag} {mg : Str → Option Value} {base : Heap} {B H : Hp}
theorem marks_sm (k : Nat) : Sm (marks k) 2 100 := by
  refine Sm.list (k := 1) ((SmA.of (ds := (List.range 8).map fun j => PyData.bool (decide (k = j))) (k := 1) (n := 0) fun d hd => ?_).monoW (by simp))
  obtain ⟨j, _, rfl⟩ := List.mem_map.mp hd
  exact sm_bool
/-- what the caught exception is -/
def Caught (K : PySem.W.Frag) (B H : Hp) (k : Nat) (d : D) (dd : Option Addr) : Prop := (k = 7 ∧ dd = none) ∨ (k ≤ 6 ∧ ∃ dx v, dd = some dx ∧ H dx = some (.xd [("at", v)]) ∧ Dq K B v d)
theorem Caught.ok {k : Nat} {d : D} {dd : Option Addr} (h : Caught K B H k d dd) : DOk dd H := fun x e => by
  rcases h with ⟨_, h⟩ | ⟨_, dx, v, h, hx, _⟩
  · rw [h] at e
    cases e
  · rw [h] at e
    cases e
    exact ⟨_, hx⟩
theorem vs_suite (T : Top K mg) {k : Nat} (hk : k ≤ 7) {d : D} (hd : Thing d) {a : Addr} {dd : Option Addr} (h : Caught K B H k d dd) :
    VS ⟨K, B, H, none⟩ (t_suite T k a dd) [.dat (.int ((k : Nat) : Int)), .dat d, .exr a, .no] { nx := fun _ => False, rt := Is (.bool true) } := by
  have mk : VE ⟨K, B, H, none⟩ (tMk T k a dd) [.dat (.int ((k : Nat) : Int)), .dat d, .exr a, .no] (Is (marks k)) := fun B1 H1 σ F Q q => by
    refine ⟨F.slot 2 _ rfl, B1, F.sub, fun x e => ?_, fun v B' H' s kd => q _ v B' H' rfl s kd⟩
    obtain ⟨fs, hx⟩ := h.ok x e
    exact ⟨fs, F.st.keep x _ hx (fun ⟨p, q, e, _⟩ => by cases e)⟩
  have lc : VL ⟨K, B, H, none⟩ (tLc (iRng1 (tCons (tC (.int 8)) tNil)) (gName 3) tYes (tOp (rEqA K) (tVar 3) (tVar 0)) [3]) [.dat (.int ((k : Nat) : Int)), .dat d, .exr a, .no] (Is ((List.range 8).map fun j => .bool (decide (k = j)))) :=
    vl_mapM (xs := List.range 8) (m := fun (i : Nat) => PyData.int ((i : Nat) : Int)) (vs := [3]) (fun j => .bool (decide (k = j))) (vi_rngM (n := 8) (ve_int.to rfl) (by decide)) (by simp) fun x hx => by
      have h3 : VE ⟨K, B, H, none⟩ (tVar 3) [.dat (.int ((k : Nat) : Int)), .dat d, .exr a, .dat (.int ((x : Nat) : Int))] (Is (.int ((x : Nat) : Int))) := ve_var rfl
      have h0 : VE ⟨K, B, H, none⟩ (tVar 0) [.dat (.int ((k : Nat) : Int)), .dat d, .exr a, .dat (.int ((x : Nat) : Int))] (Is (.int ((k : Nat) : Int))) := ve_var rfl
      refine ⟨[.dat (.int ((k : Nat) : Int)), .dat d, .exr a, .dat (.int ((x : Nat) : Int))], [3], vg_name, (by decide), (ve_opD h3.v h0.v od_eqI).to ?_⟩
      have e : (((x : Nat) : Int) = ((k : Nat) : Int)) ↔ k = x := by omega
      simp only [e]
  have isV : VE ⟨K, B, H, none⟩ (tCB (rIsX K (T.X.cls k) a dd) (tCons (tVar 2) (tCons (tC (.ty "ValueError")) tNil))) [.dat (.int ((k : Nat) : Int)), .dat d, .exr a, .no] (Is (.bool true)) :=
    ve_isE (C := ⟨K, B, H, none⟩) rfl rfl h.ok (fun u r => r) (T.X.kv k hk)
  refine vs_then [.dat (.int ((k : Nat) : Int)), .dat d, .exr a, .no] (vs_ifD (x := false) ((vt_orD (vt_testD (ve_opD mk.v lc.vd (od_neSame (marks_sm k) rfl))) fun _ => vt_notD (vt_BD isV)).to rfl) (fun z => nomatch z) fun _ => vs_next rfl) ?_
  have big : VE ⟨K, B, H, none⟩ (tOp (rI0 fun i j => .bl (decide (j < i))) (tVar 0) (tC (.int 6))) [.dat (.int ((k : Nat) : Int)), .dat d, .exr a, .no] (Is (.bool (decide ((6 : Int) < ((k : Nat) : Int))))) := ve_opD (ve_var rfl).v ve_int.v od_gt
  refine vs_retD ((ve_orD (c := true) big fun e => ?_).to (by rw [Bool.or_true])) rfl
  have h6 := of_decide_eq_false e
  rcases h with ⟨rfl, _⟩ | ⟨h6', dx, v, rfl, hx, kd⟩
  · omega
  have atV : VE ⟨K, B, H, none⟩ (tXf a (.ref (T.X.cls k)) (some dx) (T.X.cls (min k 6)) "at" (tVar 2)) [.dat (.int ((k : Nat) : Int)), .dat d, .exr a, .no] (Is d) := fun B1 H1 σ F Q q => by
    have em : min k 6 = k := by omega
    refine ⟨.ref a, F.slot 2 _ rfl, rfl, by rw [em], dx, _, v, rfl, F.st.keep dx _ hx (fun ⟨p, q, e, _⟩ => by cases e), by simp [List.lookup], q d v B1 H1 rfl (Stp.refl F.sub) (dp_mono F.st.ext kd)⟩
  exact (ve_opD (ve_reprS atV.v hd).v (ve_reprS (ve_var rfl : VE ⟨K, B, H, none⟩ (tVar 1) [.dat (.int ((k : Nat) : Int)), .dat d, .exr a, .no] (Is d)).v hd).v od_eqS).to (by simp)
theorem vs_heard (T : Top K mg) {k : Nat} {d : D} (hk : k ≤ 7) (hd : Thing d) : VS ⟨K, B, H, none⟩ (t__law_heard T) (slots [.int ((k : Nat) : Int), d] 2) { nx := fun _ => False, rt := Is (.bool true) } := by
  refine vs_seq (fun _ => False) (fun B1 H1 σ E F n r b c => ?_) fun _ f => f.elim
  obtain ⟨v0, e0, k0⟩ := F.has (i := 0) (d := .int ((k : Nat) : Int)) rfl
  obtain ⟨v1, e1, k1⟩ := F.has (i := 1) (d := d) rfl
  have len := F.len
  have caught : ∀ (dd : Option Addr) (B' H' : Hp), Stp none B1 H1 B' H' → Caught K B' H' k d dd → wAs K (.ref T.X.L) 2 (t_caught T) (fun _ _ _ _ => False) E (.ref (T.X.cls k)) dd σ H' := fun dd B' H' s hc => by
    refine ⟨true, T.X.ex k hk, fun _ a ha => ⟨k, hk, rfl, ?_⟩, fun z => nomatch z⟩
    refine vs_suite T hk hd hc B' H' _ _ ⟨Stp.refl s.sub, (fun p q e => nomatch e), by rw [List.length_set]; exact len, fun i sl h => ?_, fun i j p ds es h => ?_⟩ (fun _ _ _ _ f => f.elim) (fun x v B2 H2 e s2 kd => ?_) (fun _ _ _ _ f => f.elim) fun _ _ _ _ f => f.elim
    · match i, h with
      | 0, h =>
        cases h
        exact ⟨v0, by rw [List.getElem?_set_ne (by decide)]; exact e0, dp_mono s.ext k0⟩
      | 1, h =>
        cases h
        exact ⟨v1, by rw [List.getElem?_set_ne (by decide)]; exact e1, dp_mono s.ext k1⟩
      | 2, h =>
        cases h
        exact List.getElem?_set_self (by rw [len]; show 2 < 4; decide)
      | 3, h =>
        cases h
        trivial
    · match i, h with
      | 0, h => cases h
      | 1, h => cases h
      | 2, h => cases h
      | 3, h => cases h
      | n + 4, h => cases h
    · exact r x v B2 H2 e ((F.st.trans (dl := none) (fun _ _ e => by cases e) s).trans (fun _ _ e => by cases e) s2) kd
  refine ⟨v0, e0, v1, e1, B1, k, d, F.sub, .cons k0 (.cons k1 .nil), hk, fun h6 dx v B' H' s hx kd => caught _ B' H' s (.inr ⟨h6, dx, v, rfl, hx, kd⟩), fun h7 B' H' s => ?_⟩
  have := caught none B' H' s (.inl ⟨h7, rfl⟩)
  rw [h7] at this
  exact this
theorem ok__law_heard (T : Top K mg) : GOk P0 w K mg base CX0 4 T.f__law_heard T.fd__law_heard ["at", "thing"] (sp__law_heard K) :=
  pa_ok 2 T.F__law_heard sc__law_heard (fun a => rfl) rfl fun cdv A outer s H E hg hr => ⟨_, d__law_heard T (ok__law_marks T) (ok__law_raise T) cdv A outer s H E hg hr, fun B H a hP => by
    have h := vs_heard (B := B) (H := H) T hP.1 hP.2
    exact h.imp (fun _ f => f.elim) (fun x e => by cases e; rfl) (fun _ f => f.elim) fun _ f => f.elim⟩
end
end Ly.K00
namespace Ly.K00
open PySem PySem.Spec PyProof.Rows L2 Ly
section
variable {C : Cn} {Γ : List Sl} {te tk : TE} {i : Nat}
/-! ### the law -/
theorem ve_lenRd {vs : List V} (h : Γ[i]? = some (.rd vs)) : VE C (tCB (rLen C.K) (tCons (tVar i) tNil)) Γ (Is (.int vs.length)) := fun B H σ F Q q => by
  obtain ⟨a, e, hs⟩ := F.slot i _ h
  exact ⟨.ref a, e, _, vs.length, rfl, Or.inl ⟨vs, same_l F.sub hs, rfl⟩, q _ _ B H rfl (Stp.refl F.sub) (.int _)⟩
theorem ve_ixRd {ns : List Int} {j : Nat} {z : Int} (h : Γ[i]? = some (.rd (ns.map V.int))) (hk : VE C tk Γ (Is (.int ((j : Nat) : Int)))) (hz : ns[j]? = some z) : VE C (tOp (rIx C.K) (tVar i) tk) Γ (Is (.int z)) := fun B H σ F Q q => by
  obtain ⟨a, e, hs⟩ := F.slot i _ h
  refine ⟨.ref a, e, hk B H σ F _ fun d v B1 H1 r s k => ?_⟩
  cases r
  obtain rfl := dp_int k
  exact Or.inl ⟨a, ns.map V.int, _, .int z, rfl, rfl, same_l (F.step s).sub (same_l s.ext hs), atI_pos (by rw [List.getElem?_map, hz]; rfl), q _ _ B1 H1 rfl s (.int z)⟩
theorem ve_strI {n : Int} (h : VE C te Γ (Is (.int n))) (hn : n.natAbs.log2 < 1920) : VE C (tCB rStrI (tCons te tNil)) Γ (Is (.str (toString n))) := ve_cbD (vw_consD h.v vw_nil) fun B H vs e k Q q => by
  cases k with
  | cons k k' =>
    cases k'
    obtain rfl := k.int
    exact ⟨n, rfl, hn, q _ _ B H rfl (Stp.refl e) (.str _)⟩
end
def things (z : Int) : List D := [.int (z % 1000000007), .int (0 - z % 97), .str (toString (z % 1000)), .none, .tuple [.int (z % 7), .str "a"], .list [.int (z % 11)]]
theorem strs_ok : ∀ n : Fin 1000, ((toString ((n.val : Nat) : Int) : Str).cps.toList.all fun c => decide (c < 0x110000)) = true ∧ (toString ((n.val : Nat) : Int) : Str).length ≤ 10 := by
  decide +kernel
theorem thing_ok {z : Int} : ∀ d ∈ things z, Thing d := by
  intro d hd
  have m : ∀ b : Int, 0 < b → 0 ≤ z % b ∧ z % b < b := fun b hb => ⟨Int.emod_nonneg _ (by omega), Int.emod_lt_of_pos _ hb⟩
  have small : ∀ {x : Int}, -2000000000 ≤ x → x ≤ 2000000000 → ∀ {k : Nat}, Sm (.int x) k 41 := fun h1 h2 => sm_int (by omega)
  have m1 := m 1000000007 (by decide)
  have m2 := m 97 (by decide)
  have m3 := m 1000 (by decide)
  have m4 := m 7 (by decide)
  have m5 := m 11 (by decide)
  simp only [things, List.mem_cons, List.not_mem_nil, or_false] at hd
  rcases hd with rfl | rfl | rfl | rfl | rfl | rfl
  · exact (small (by omega) (by omega) (k := 0)).mono
  · exact (small (by omega) (by omega) (k := 0)).mono
  · obtain ⟨n, hn⟩ := Int.eq_ofNat_of_zero_le m3.1
    have hn2 : n < 1000 := by omega
    obtain ⟨h1, h2⟩ := strs_ok ⟨n, hn2⟩
    rw [hn]
    exact sm_str (fun c hc => of_decide_eq_true (List.all_eq_true.mp h1 c hc)) (Nat.le_trans h2 (by decide))
  · exact sm_non
  · exact (Sm.tup (SmA.cons (small (by omega) (by omega) (k := 0)) (SmA.cons (sm_str (n := 1) (by decide) (by decide)) (SmA.nil (n := 0))))).mono
  · exact (Sm.list (SmA.cons (small (by omega) (by omega) (k := 0)) (SmA.nil (n := 0)))).mono
section
variable {w : World} {K : PySem.W.Frag} {mg : Str → Option Value} {base : Heap} {B H : Hp}
theorem vs_law (T : Top K mg) {ns : List Int} (hn : ns.length ≤ 63) : VS ⟨K, B, H, none⟩ (t_law T) (.rd (ns.map V.int) :: List.replicate 5 .no) { nx := fun _ => False, rt := Is (.bool true) } := by
  have len : ∀ {Γ : List Sl}, Γ[0]? = some (.rd (ns.map V.int)) → VE ⟨K, B, H, none⟩ (tCB (rLen K) (tCons (tVar 0) tNil)) Γ (Is (.int ((ns.length : Nat) : Int))) := fun h => (ve_lenRd h).to (by rw [List.length_map])
  refine vs_seq (fun Γ => True) ?_ fun Γ _ => vs_retD ve_bl rfl
  have rng : VI ⟨K, B, H, none⟩ (iRng1 (tCons (tCB rMx (tCons (tC (.int 1)) (tCons (tCB rMn (tCons (tC (.int 4)) (tCons (tCB (rLen K) (tCons (tVar 0) tNil)) tNil))) tNil))) tNil)) (.rd (ns.map V.int) :: List.replicate 5 .no) (fun ds => ∃ n, ds = upTo 0 n) :=
    (vi_rng1 (S := fun ds => ∃ n, ds = upTo 0 n) (R := fun n => 1 ≤ n ∧ n ≤ 64) ((ve_max ve_int (ve_min ve_int (len rfl))).imp fun d e => ⟨_, e, by split <;> omega, by split <;> (try split) <;> omega⟩) fun n hn => ⟨by omega, by omega, _, rfl⟩)
  refine vs_for rng fun ds ⟨n, e⟩ => ?_
  subst e
  refine ⟨fun _ Γ => ∃ x1 x2 x3 x4 x5, Γ = [.rd (ns.map V.int), x1, x2, x3, x4, x5], ⟨_, _, _, _, _, rfl⟩, ?_, fun _ _ => trivial⟩
  rintro k d Γ' hd ⟨x1, x2, x3, x4, x5, rfl⟩
  obtain ⟨_, rfl⟩ := upTo_get hd
  refine ⟨[.rd (ns.map V.int), .dat (.int (0 + ((k : Nat) : Int))), x2, x3, x4, x5], [1], vg_name, ?_⟩
  rw [Int.zero_add]
  refine vs_seq (fun Γ => ∃ z : Int, Γ = [.rd (ns.map V.int), .dat (.int ((k : Nat) : Int)), .dat (.int z), x3, x4, x5]) ?_ ?_
  · refine vs_asg (R := fun d => ∃ z : Int, d = .int z) (ve_if (vt_testD (ve_opD (ve_var rfl).v (len rfl).v od_lt)) (fun h => ?_) fun _ => ve_int.imp fun d e => ⟨_, e⟩) fun d ⟨z, e⟩ => ⟨z, by rw [e]; rfl⟩
    have hk : k < ns.length := by
      have := of_decide_eq_true (show decide (((k : Nat) : Int) < ((ns.length : Nat) : Int)) = true from Eq.symm h)
      omega
    exact (ve_ixRd (ns := ns) rfl (ve_var rfl) (List.getElem?_eq_getElem hk)).imp fun d e => ⟨_, e⟩
  rintro Γ ⟨z, rfl⟩
  have mod : ∀ (m : Int), 0 < m → VE ⟨K, B, H, none⟩ (tOp (rI (fun _ j => 0 < j) fun i j => .int (i % j)) (tCB rInt1 (tCons (tVar 2) tNil)) (tC (.int m))) [.rd (ns.map V.int), .dat (.int ((k : Nat) : Int)), .dat (.int z), x3, x4, x5] (Is (.int (z % m))) :=
    fun m hm => ve_opD (ve_int1 (ve_var rfl)).v ve_int.v (od_mod hm)
  have lg : (z % 1000).natAbs.log2 < 1920 := by
    have h1 : 0 ≤ z % 1000 := Int.emod_nonneg _ (by decide)
    have h2 : z % 1000 < 1000 := Int.emod_lt_of_pos _ (by decide)
    have : (z % 1000).natAbs.log2 < 10 := by
      by_cases e : (z % 1000).natAbs = 0
      · rw [e]; decide
      · exact (Nat.log2_lt e).mpr (by omega)
    omega
  refine vs_then [.rd (ns.map V.int), .dat (.int ((k : Nat) : Int)), .dat (.int z), .dat (.list (things z)), x4, x5] (vs_asgD (vl_lstD (ds := things z) (va_consD (mod 1000000007 (by decide)) (va_consD (ve_opD ve_int.v (mod 97 (by decide)).v od_sub) (va_consD (ve_strI (mod 1000 (by decide)) lg)
    (va_consD ve_non (va_consD (ve_tupD (va_consD (mod 7 (by decide)) (va_consD ve_str va_nil))) (va_consD (vl_lstD (va_consD (mod 11 (by decide)) va_nil)).ed va_nil)))))) (by show 6 ≤ 100000; decide)).ed rfl) ?_
  refine vs_for (va_listD (ve_var rfl)) fun ds e => ?_
  cases e
  refine ⟨fun _ Γ => ∃ x4 x5, Γ = [.rd (ns.map V.int), .dat (.int ((k : Nat) : Int)), .dat (.int z), .dat (.list (things z)), x4, x5], ⟨_, _, rfl⟩, ?_, fun Γ ⟨x4, x5, e⟩ => ⟨_, _, _, _, _, e⟩⟩
  rintro i d Γ' hd ⟨x4, x5, rfl⟩
  have ht : Thing d := thing_ok d (List.mem_of_getElem? hd)
  refine ⟨[.rd (ns.map V.int), .dat (.int ((k : Nat) : Int)), .dat (.int z), .dat (.list (things z)), .dat d, x5], [4], vg_name, ?_⟩
  refine vs_then [.rd (ns.map V.int), .dat (.int ((k : Nat) : Int)), .dat (.int z), .dat (.list (things z)), .dat d, x5] (vs_ifD (x := false) ((vt_notD (b := true) (vt_BD ((ve_callA (R := R__law_named) d (va_consD (ve_var rfl) va_nil) ht).imp fun d e => (e : d = .bool true)))).to rfl) (fun h => nomatch h) fun _ => vs_next rfl) ?_
  refine vs_for (vi_rng1D (n := 8) ve_int) fun ds e => ?_
  cases e
  refine ⟨fun _ Γ => ∃ x5, Γ = [.rd (ns.map V.int), .dat (.int ((k : Nat) : Int)), .dat (.int z), .dat (.list (things z)), .dat d, x5], ⟨_, rfl⟩, ?_, fun Γ ⟨x5, e⟩ => ⟨_, _, e⟩⟩
  rintro j d2 Γ' hd2 ⟨x5, rfl⟩
  obtain ⟨hj, rfl⟩ := upTo_get hd2
  refine ⟨[.rd (ns.map V.int), .dat (.int ((k : Nat) : Int)), .dat (.int z), .dat (.list (things z)), .dat d, .dat (.int (0 + ((j : Nat) : Int)))], [5], vg_name, ?_⟩
  rw [Int.zero_add]
  have hj7 : j ≤ 7 := by
    have : j < 8 := hj
    omega
  exact vs_ifD (x := false) ((vt_notD (b := true) (vt_BD ((ve_callA (R := R__law_heard) (⟨j, d⟩ : AskH) (va_consD (ve_var rfl) (va_consD (ve_var rfl) va_nil)) ⟨hj7, ht⟩).imp fun d e => (e : d = .bool true)))).to rfl) (fun h => nomatch h) fun _ => vs_next ⟨_, rfl⟩
theorem ok_law (T : Top K mg) : GOk P0 w K mg base CX0 5 T.f_law T.fd_law ["script"] (sp_law K) :=
  law_ok 5 T.F_law sc_law rfl fun cdv A outer s H E hg hr => ⟨_, d_law T (ok__law_named T) (ok__law_heard T) cdv A outer s H E hg hr, fun H ns hn => vs_law T hn⟩
end
end Ly.K00
open PySem PySem.W PyProof.Rows
set_option maxRecDepth 100000 in
set_option maxHeartbeats 0 in
theorem PySem.Challenge.cw_lookanyhow_k00_errors_and_what_they_keep_holds : PySem.Challenge.rw_lookanyhow_k00_errors_and_what_they_keep.Holds := by
  w_on; o_law; k_head; (case hw => w_witness2)
  k_fill
  refine Ly.walk_g (l := PySem.Challenge.rw_lookanyhow_k00_errors_and_what_they_keep) (n := 63) (k := 5) (x := "script") (sp := Ly.Lw) rfl (by decide) rfl ⟨rfl, by decide, by decide⟩ (fun w h Y => PySem.W.kIn_of Y) ?F (fun K H a ns hl hS => ⟨a, ns, rfl, hS, hl, fun _ => rfl⟩)
  case F =>
    intro w mg fa h KX G hmg
    obtain ⟨x0, k0⟩ : ∃ x : Ly.XT Ly.K00.P0 _ mg "InvalidOrder" "at", ∀ u y : Value, bindArgs x.fdI ⟨[u], [("at", y)]⟩ = pure ((Ly.pAt "at").zip [u, y]) := by
      refine' ⟨Ly.xt_mk KX G ?ca ?cl0 ?cbm ?csa ?cex ?cty ?ck ?cmr ?csu ?cve ?cno ?cfi ?cti ?cga ?cgg ?chd ?css ?clk ?ccd ?cS ?cp ?car ?cda0 ?cvs ?cfile ?ccell ?ccl0 ?cms ?cks ?ctop ?cno3 ?cb ?chc ?chs1 ?chs2, ?kb⟩
      (case ca => k_is)
      (case cl0 => k_is)
      (case csa => k_is)
      (case cex => k_is)
      (case cty => k_is)
      (case ck => k_is)
      (case cmr => k_is)
      (case cve => k_is)
      (case cno => k_is)
      (case cfi => k_is)
      (case cti => k_is)
      (case cga => k_is)
      (case cgg => k_is)
      (case chd => k_is)
      (case css => k_is)
      (case clk => k_is)
      (case ccd => k_is)
      (case cda0 => k_is)
      (case ccell => k_is)
      (case ccl0 => k_is)
      (case cms => k_is)
      (case cno3 => k_is)
      (case cbm => first | rfl | decide)
      (case csu => kernel_rfl)
      (case cS => decide +kernel)
      (case cp => rfl)
      (case car => rfl)
      (case cvs => rfl)
      (case cfile => first | rfl | decide +kernel)
      (case cks => rfl)
      (case ctop => first | rfl | decide +kernel)
      (case cb => exact fun us hl => match us, hl with | [_, _], _ => rfl)
      (case chc => exact fun env => ⟨_, rfl⟩)
      (case chs1 => exact fun env => rfl)
      (case chs2 => exact fun env => rfl)
      (case kb => exact fun u y => rfl)
    obtain ⟨x1, k1⟩ : ∃ x : Ly.XT Ly.K00.P0 _ mg "InvalidText" "at", ∀ u y : Value, bindArgs x.fdI ⟨[u], [("at", y)]⟩ = pure ((Ly.pAt "at").zip [u, y]) := by
      refine' ⟨Ly.xt_mk KX G ?ca ?cl0 ?cbm ?csa ?cex ?cty ?ck ?cmr ?csu ?cve ?cno ?cfi ?cti ?cga ?cgg ?chd ?css ?clk ?ccd ?cS ?cp ?car ?cda0 ?cvs ?cfile ?ccell ?ccl0 ?cms ?cks ?ctop ?cno3 ?cb ?chc ?chs1 ?chs2, ?kb⟩
      (case ca => k_is)
      (case cl0 => k_is)
      (case csa => k_is)
      (case cex => k_is)
      (case cty => k_is)
      (case ck => k_is)
      (case cmr => k_is)
      (case cve => k_is)
      (case cno => k_is)
      (case cfi => k_is)
      (case cti => k_is)
      (case cga => k_is)
      (case cgg => k_is)
      (case chd => k_is)
      (case css => k_is)
      (case clk => k_is)
      (case ccd => k_is)
      (case cda0 => k_is)
      (case ccell => k_is)
      (case ccl0 => k_is)
      (case cms => k_is)
      (case cno3 => k_is)
      (case cbm => first | rfl | decide)
      (case csu => kernel_rfl)
      (case cS => decide +kernel)
      (case cp => rfl)
      (case car => rfl)
      (case cvs => rfl)
      (case cfile => first | rfl | decide +kernel)
      (case cks => rfl)
      (case ctop => first | rfl | decide +kernel)
      (case cb => exact fun us hl => match us, hl with | [_, _], _ => rfl)
      (case chc => exact fun env => ⟨_, rfl⟩)
      (case chs1 => exact fun env => rfl)
      (case chs2 => exact fun env => rfl)
      (case kb => exact fun u y => rfl)
    obtain ⟨x2, k2⟩ : ∃ x : Ly.XT Ly.K00.P0 _ mg "InvalidProgram" "at", ∀ u y : Value, bindArgs x.fdI ⟨[u], [("at", y)]⟩ = pure ((Ly.pAt "at").zip [u, y]) := by
      refine' ⟨Ly.xt_mk KX G ?ca ?cl0 ?cbm ?csa ?cex ?cty ?ck ?cmr ?csu ?cve ?cno ?cfi ?cti ?cga ?cgg ?chd ?css ?clk ?ccd ?cS ?cp ?car ?cda0 ?cvs ?cfile ?ccell ?ccl0 ?cms ?cks ?ctop ?cno3 ?cb ?chc ?chs1 ?chs2, ?kb⟩
      (case ca => k_is)
      (case cl0 => k_is)
      (case csa => k_is)
      (case cex => k_is)
      (case cty => k_is)
      (case ck => k_is)
      (case cmr => k_is)
      (case cve => k_is)
      (case cno => k_is)
      (case cfi => k_is)
      (case cti => k_is)
      (case cga => k_is)
      (case cgg => k_is)
      (case chd => k_is)
      (case css => k_is)
      (case clk => k_is)
      (case ccd => k_is)
      (case cda0 => k_is)
      (case ccell => k_is)
      (case ccl0 => k_is)
      (case cms => k_is)
      (case cno3 => k_is)
      (case cbm => first | rfl | decide)
      (case csu => kernel_rfl)
      (case cS => decide +kernel)
      (case cp => rfl)
      (case car => rfl)
      (case cvs => rfl)
      (case cfile => first | rfl | decide +kernel)
      (case cks => rfl)
      (case ctop => first | rfl | decide +kernel)
      (case cb => exact fun us hl => match us, hl with | [_, _], _ => rfl)
      (case chc => exact fun env => ⟨_, rfl⟩)
      (case chs1 => exact fun env => rfl)
      (case chs2 => exact fun env => rfl)
      (case kb => exact fun u y => rfl)
    obtain ⟨x3, k3⟩ : ∃ x : Ly.XT Ly.K00.P0 _ mg "InvalidCode" "at", ∀ u y : Value, bindArgs x.fdI ⟨[u], [("at", y)]⟩ = pure ((Ly.pAt "at").zip [u, y]) := by
      refine' ⟨Ly.xt_mk KX G ?ca ?cl0 ?cbm ?csa ?cex ?cty ?ck ?cmr ?csu ?cve ?cno ?cfi ?cti ?cga ?cgg ?chd ?css ?clk ?ccd ?cS ?cp ?car ?cda0 ?cvs ?cfile ?ccell ?ccl0 ?cms ?cks ?ctop ?cno3 ?cb ?chc ?chs1 ?chs2, ?kb⟩
      (case ca => k_is)
      (case cl0 => k_is)
      (case csa => k_is)
      (case cex => k_is)
      (case cty => k_is)
      (case ck => k_is)
      (case cmr => k_is)
      (case cve => k_is)
      (case cno => k_is)
      (case cfi => k_is)
      (case cti => k_is)
      (case cga => k_is)
      (case cgg => k_is)
      (case chd => k_is)
      (case css => k_is)
      (case clk => k_is)
      (case ccd => k_is)
      (case cda0 => k_is)
      (case ccell => k_is)
      (case ccl0 => k_is)
      (case cms => k_is)
      (case cno3 => k_is)
      (case cbm => first | rfl | decide)
      (case csu => kernel_rfl)
      (case cS => decide +kernel)
      (case cp => rfl)
      (case car => rfl)
      (case cvs => rfl)
      (case cfile => first | rfl | decide +kernel)
      (case cks => rfl)
      (case ctop => first | rfl | decide +kernel)
      (case cb => exact fun us hl => match us, hl with | [_, _], _ => rfl)
      (case chc => exact fun env => ⟨_, rfl⟩)
      (case chs1 => exact fun env => rfl)
      (case chs2 => exact fun env => rfl)
      (case kb => exact fun u y => rfl)
    obtain ⟨x4, k4⟩ : ∃ x : Ly.XT Ly.K00.P0 _ mg "InvalidPaper" "at", ∀ u y : Value, bindArgs x.fdI ⟨[u], [("at", y)]⟩ = pure ((Ly.pAt "at").zip [u, y]) := by
      refine' ⟨Ly.xt_mk KX G ?ca ?cl0 ?cbm ?csa ?cex ?cty ?ck ?cmr ?csu ?cve ?cno ?cfi ?cti ?cga ?cgg ?chd ?css ?clk ?ccd ?cS ?cp ?car ?cda0 ?cvs ?cfile ?ccell ?ccl0 ?cms ?cks ?ctop ?cno3 ?cb ?chc ?chs1 ?chs2, ?kb⟩
      (case ca => k_is)
      (case cl0 => k_is)
      (case csa => k_is)
      (case cex => k_is)
      (case cty => k_is)
      (case ck => k_is)
      (case cmr => k_is)
      (case cve => k_is)
      (case cno => k_is)
      (case cfi => k_is)
      (case cti => k_is)
      (case cga => k_is)
      (case cgg => k_is)
      (case chd => k_is)
      (case css => k_is)
      (case clk => k_is)
      (case ccd => k_is)
      (case cda0 => k_is)
      (case ccell => k_is)
      (case ccl0 => k_is)
      (case cms => k_is)
      (case cno3 => k_is)
      (case cbm => first | rfl | decide)
      (case csu => kernel_rfl)
      (case cS => decide +kernel)
      (case cp => rfl)
      (case car => rfl)
      (case cvs => rfl)
      (case cfile => first | rfl | decide +kernel)
      (case cks => rfl)
      (case ctop => first | rfl | decide +kernel)
      (case cb => exact fun us hl => match us, hl with | [_, _], _ => rfl)
      (case chc => exact fun env => ⟨_, rfl⟩)
      (case chs1 => exact fun env => rfl)
      (case chs2 => exact fun env => rfl)
      (case kb => exact fun u y => rfl)
    obtain ⟨x5, k5⟩ : ∃ x : Ly.XT Ly.K00.P0 _ mg "InvalidQuestion" "at", ∀ u y : Value, bindArgs x.fdI ⟨[u], [("at", y)]⟩ = pure ((Ly.pAt "at").zip [u, y]) := by
      refine' ⟨Ly.xt_mk KX G ?ca ?cl0 ?cbm ?csa ?cex ?cty ?ck ?cmr ?csu ?cve ?cno ?cfi ?cti ?cga ?cgg ?chd ?css ?clk ?ccd ?cS ?cp ?car ?cda0 ?cvs ?cfile ?ccell ?ccl0 ?cms ?cks ?ctop ?cno3 ?cb ?chc ?chs1 ?chs2, ?kb⟩
      (case ca => k_is)
      (case cl0 => k_is)
      (case csa => k_is)
      (case cex => k_is)
      (case cty => k_is)
      (case ck => k_is)
      (case cmr => k_is)
      (case cve => k_is)
      (case cno => k_is)
      (case cfi => k_is)
      (case cti => k_is)
      (case cga => k_is)
      (case cgg => k_is)
      (case chd => k_is)
      (case css => k_is)
      (case clk => k_is)
      (case ccd => k_is)
      (case cda0 => k_is)
      (case ccell => k_is)
      (case ccl0 => k_is)
      (case cms => k_is)
      (case cno3 => k_is)
      (case cbm => first | rfl | decide)
      (case csu => kernel_rfl)
      (case cS => decide +kernel)
      (case cp => rfl)
      (case car => rfl)
      (case cvs => rfl)
      (case cfile => first | rfl | decide +kernel)
      (case cks => rfl)
      (case ctop => first | rfl | decide +kernel)
      (case cb => exact fun us hl => match us, hl with | [_, _], _ => rfl)
      (case chc => exact fun env => ⟨_, rfl⟩)
      (case chs1 => exact fun env => rfl)
      (case chs2 => exact fun env => rfl)
      (case kb => exact fun u y => rfl)
    obtain ⟨x6, k6⟩ : ∃ x : Ly.XT Ly.K00.P0 _ mg "Refused" "at", ∀ u y : Value, bindArgs x.fdI ⟨[u], [("at", y)]⟩ = pure ((Ly.pAt "at").zip [u, y]) := by
      refine' ⟨Ly.xt_mk KX G ?ca ?cl0 ?cbm ?csa ?cex ?cty ?ck ?cmr ?csu ?cve ?cno ?cfi ?cti ?cga ?cgg ?chd ?css ?clk ?ccd ?cS ?cp ?car ?cda0 ?cvs ?cfile ?ccell ?ccl0 ?cms ?cks ?ctop ?cno3 ?cb ?chc ?chs1 ?chs2, ?kb⟩
      (case ca => k_is)
      (case cl0 => k_is)
      (case csa => k_is)
      (case cex => k_is)
      (case cty => k_is)
      (case ck => k_is)
      (case cmr => k_is)
      (case cve => k_is)
      (case cno => k_is)
      (case cfi => k_is)
      (case cti => k_is)
      (case cga => k_is)
      (case cgg => k_is)
      (case chd => k_is)
      (case css => k_is)
      (case clk => k_is)
      (case ccd => k_is)
      (case cda0 => k_is)
      (case ccell => k_is)
      (case ccl0 => k_is)
      (case cms => k_is)
      (case cno3 => k_is)
      (case cbm => first | rfl | decide)
      (case csu => kernel_rfl)
      (case cS => decide +kernel)
      (case cp => rfl)
      (case car => rfl)
      (case cvs => rfl)
      (case cfile => first | rfl | decide +kernel)
      (case cks => rfl)
      (case ctop => first | rfl | decide +kernel)
      (case cb => exact fun us hl => match us, hl with | [_, _], _ => rfl)
      (case chc => exact fun env => ⟨_, rfl⟩)
      (case chs1 => exact fun env => rfl)
      (case chs2 => exact fun env => rfl)
      (case kb => exact fun u y => rfl)
    obtain ⟨x7⟩ : Nonempty (Ly.XT0 Ly.K00.P0 _ mg "InvalidCommand") := by
      refine' ⟨Ly.xt0_mk KX G ?ca ?cl0 ?cbm ?csa ?cex ?cty ?ck ?cmr ?csu ?cve ?cfi ?cti ?clk ?ccd ?cS ?cp ?car ?cda0 ?cvs ?cfile ?ccell ?ccl0 ?cms ?cks ?ctop ?cno3 ?cb ?chc ?chs1⟩
      (case ca => k_is)
      (case cl0 => k_is)
      (case csa => k_is)
      (case cex => k_is)
      (case cty => k_is)
      (case ck => k_is)
      (case cmr => k_is)
      (case cve => k_is)
      (case cfi => k_is)
      (case cti => k_is)
      (case clk => k_is)
      (case ccd => k_is)
      (case cda0 => k_is)
      (case ccell => k_is)
      (case ccl0 => k_is)
      (case cms => k_is)
      (case cno3 => k_is)
      (case cbm => first | rfl | decide)
      (case csu => kernel_rfl)
      (case cS => decide +kernel)
      (case cp => rfl)
      (case car => rfl)
      (case cvs => rfl)
      (case cfile => first | rfl | decide +kernel)
      (case cks => rfl)
      (case ctop => first | rfl | decide +kernel)
      (case cb => exact fun us hl => match us, hl with | [_], _ => rfl)
      (case chc => exact fun env => ⟨_, rfl⟩)
      (case chs1 => exact fun env => rfl)
    obtain ⟨fam⟩ := Ly.K00.fam_mk KX G (by first | kernel_rfl | decide +kernel) x0 x1 x2 x3 x4 x5 x6 x7 k0 k1 k2 k3 k4 k5 k6
    obtain ⟨T, e, hb⟩ : ∃ T : Ly.K00.Top _ mg, T.f_law = fa ∧ ∀ (s : Shared) (u : Value), BindsTo s T.fd_law ⟨[u], []⟩ [("script", u)] := by
      refine' Ly.K00.top_mk KX G hmg fam ?a0 ?l0 ?c0 ?k0 ?a1 ?l1 ?c1 ?k1 ?a2 ?l2 ?c2 ?k2 ?a3 ?l3 ?c3 ?k3 ?a4 ?l4 ?c4 ?k4 ?z_isinstance ?z_repr ?z_range ?z_ValueError ?z_max ?z_min ?z_len ?z_int ?z_str
      (case a0 => k_is)
      (case l0 => k_is)
      (case c0 => k_is)
      (case k0 => k_is)
      (case a1 => k_is)
      (case l1 => k_is)
      (case c1 => k_is)
      (case k1 => k_is)
      (case a2 => k_is)
      (case l2 => k_is)
      (case c2 => k_is)
      (case k2 => k_is)
      (case a3 => k_is)
      (case l3 => k_is)
      (case c3 => k_is)
      (case k3 => k_is)
      (case a4 => k_is)
      (case l4 => k_is)
      (case c4 => k_is)
      (case k4 => k_is)
      (case z_isinstance => k_is)
      (case z_repr => k_is)
      (case z_range => k_is)
      (case z_ValueError => k_is)
      (case z_max => k_is)
      (case z_min => k_is)
      (case z_len => k_is)
      (case z_int => k_is)
      (case z_str => k_is)
    subst e
    exact ⟨T.fd_law, hb, fun base _ _ => Ly.K00.ok_law T⟩
