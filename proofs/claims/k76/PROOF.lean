import PyProof.Rows.All
import Wide.All
import OpenK.AllK
import Wide.FinOn
import HandS.ForMost
import HandS.Wide
import HandS.Walk
import HandS.IsInst
import PyProof.ReprRoads
import HandS.Lambda
import HandS.Deep
import HandS.TupAny
import HandS.Style
import HandS.Conv
import HandS.TupMul
import HandS.SortInts
import HandS.Strs
import HandS.Dict
import HandS.Zip
import HandS.Iter
import KE.LtSeq
import HandS.ExcInit
import HandS.ExcSuper
import HandS.ExcField
import HandS.TryOnly
import HandS.Nested
import KE.KExcSuper
import KE.KSuper
import HandS.Star
import HandS.SetFor
import HandS.Small
import HandS.EndOwn
import KE.KDictSum
import KE.KNestM
import HandS.ExcIs
import KE.GoesEnum
import PyProof.Rows.SortShellAny
import PySem.Challenge.RW_lookanyhow_k76_whole_twelve_levels_and_l
set_option autoImplicit false
set_option Elab.async false
set_option linter.all false
set_option maxRecDepth 100000
/-! LyA: defs that are called where nothing is being shown (no repr under way): GOk, its body's rule, calls. -/
namespace Ly
open PySem PySem.Spec PyProof.Rows L2

/-- a promise of a def, for calls around which no repr is under way -/
structure GOk (P : Program) (w : World) (K : PySem.W.Frag) (mg : Str → Option Value) (base : Heap) (CX : CXT) (k : Nat) (f : Addr) (fd : FuncData) (ps : List Str) (sp : Sp) : Prop where
  size : ∀ {vs : List V} {H : Hp} {Q : VK} {E : XK}, sp vs H Q E → vs.length = ps.length
  does : ∀ {A : Around} {outer : List Env} {s : Shared} {H : Hp} {args : Args} {us : List Value} {vs : List V} {Q : VK} {E : XK}, A.guards = some [] → Room k A →
    Env0 P w K mg base A outer s H → BindsTo s fd args (ps.zip us) → Vals vs us → sp vs H Q E → codeAny (model P w) A (.call (.ref f) args) (CR CX outer P w H s Q E) s

theorem deeper_guards {A : Around} {e : Env} (h : A.guards = some []) : (A.deeper e).guards = some [] := by
  first | exact h | simpa [Around.deeper] using h

section
variable {P : Program} {w : World} {K : PySem.W.Frag} {mg : Str → Option Value} {base : Heap} {CX : CXT} {k : Nat} {f : Addr} {fd : FuncData} {ps : List Str} {sp : Sp}
theorem GOk.up {j : Nat} (F : GOk P w K mg base CX j f fd ps sp) (h : j ≤ k) : GOk P w K mg base CX k f fd ps sp :=
  ⟨F.size, fun g r => F.does g (r.mono h)⟩
theorem GOk.of (F : FnOk P w K mg base CX k f fd ps sp) : GOk P w K mg base CX k f fd ps sp :=
  ⟨fun q => F.len _ _ _ _ q, fun _ r e0 b rv q => F.run _ _ _ _ _ _ _ _ _ r e0 b rv q⟩
theorem GOk.weaker {sp' : Sp} (F : GOk P w K mg base CX k f fd ps sp) (h : ∀ vs H Q E, sp' vs H Q E → sp vs H Q E) : GOk P w K mg base CX k f fd ps sp' :=
  ⟨fun q => F.size (h _ _ _ _ q), fun g r e0 b rv q => F.does g r e0 b rv (h _ _ _ _ q)⟩

/-- the rule for a def of the text: its body as a term of rules, its reading; around it no repr is under way -/
theorem gok_ofC {x qual : Str} {st : Stmt} {N : List Str} (F : Fun K x qual st f fd) (S : FnScope N ps (defScope st)) (len : ∀ {vs H Q E}, sp vs H Q E → vs.length = ps.length)
    (body : ∀ (cdv : Value) (A : Around) (outer : List Env) (s : Shared) (H : Hp) (vs : List V) (Q : VK) (E : XK), fd.code = cdv →
      (A.deeper (envOfC qual (defScope st) s.heap.objs.size f cdv)).guards = some [] → Room k (A.deeper (envOfC qual (defScope st) s.heap.objs.size f cdv)) → sp vs H Q E →
      ∃ t, PSs (cxOf CX P w K mg base N qual (defScope st) f cdv A outer s H E) (defBody st) t ∧ t { nx := fun _ H' => Q .non H', rt := Q } (start N vs) H) :
    GOk P w K mg base CX (k + 1) f fd ps sp := by
  obtain ⟨oc, od, kV, doc, pm, an, cdv, ct, osl, rfl, lk, hcd⟩ := F.ex
  constructor
  · exact len
  · intro A outer s H args us vs Q E hg hr e0 hb rv hq
    have n1 := len hq
    have kin : K.In s.heap := PySem.W.Frag.In.keeps e0.mod.kin fun b o e => And.left (e0.bs b o e)
    have nol : s.heap.NoLimit := Heap.NoLimit.keeps e0.mod.nolimit fun b o e => And.left (e0.bs b o e)
    have kinds : ∀ y ∈ ps.zip us, (defScope st).names.lookup y.1 = some .local ∨
        ((defScope st).names.lookup y.1 = some .cell ∧ ((cellsFrom (s.heap.objs.size + 1) (defScope st).names []).lookup y.1).isSome = true) := by
      rintro ⟨n, v⟩ hy
      have hn : n ∈ ps := (List.of_mem_zip hy).1
      cases S.par n hn with
      | inl q => exact Or.inl q
      | inr q => exact Or.inr ⟨q, PySem.W.cellsFrom_some _ _ _ (Or.inl q)⟩
    apply codeAny_call_function hr.depth (kin _ _ lk) rfl S.co S.gen rfl (PySem.W.codeRec_of kin hcd)
    apply hb
    apply wpAny_newFunctionEnv_cells S.kind kinds
    rintro env rfl s1 x
    refine ⟨Heap.NoLimit.keeps nol x.toInCall.keep, codeAny_func ?_⟩
    obtain ⟨t, ht, tq⟩ := body cdv A outer s H vs Q E rfl (deeper_guards hg) (hr.deeper _) hq
    have J := inv_start (CX := CX) (E := E) S hr.hd e0 n1 rv x
    apply wpAny_mono (ht.run [] s1 (start N vs) H _ J tq)
    · intro fl s' hs
      cases fl with
      | ret u =>
        obtain ⟨v, σ', H', J', r', q'⟩ := hs
        exact ⟨v, H', J'.os, J'.bare, J'.base, J'.hok, r', q'⟩
      | next =>
        obtain ⟨σ', H', J', q'⟩ := hs
        exact ⟨V.non, H', J'.os, J'.bare, J'.base, J'.hok, rfl, q'⟩
      | brk =>
        obtain ⟨_, _, _, q'⟩ := hs
        exact q'.elim
      | cont =>
        obtain ⟨_, _, _, q'⟩ := hs
        exact q'.elim
    · intro e s' hs
      exact hs
theorem gok_of {x qual : Str} {st : Stmt} {N : List Str} (F : Fun K x qual st f fd) (S : FnScope N ps (defScope st)) (len : ∀ {vs H Q E}, sp vs H Q E → vs.length = ps.length)
    (body : ∀ (cdv : Value) (A : Around) (outer : List Env) (s : Shared) (H : Hp) (vs : List V) (Q : VK) (E : XK),
      (A.deeper (envOfC qual (defScope st) s.heap.objs.size f cdv)).guards = some [] → Room k (A.deeper (envOfC qual (defScope st) s.heap.objs.size f cdv)) → sp vs H Q E →
      ∃ t, PSs (cxOf CX P w K mg base N qual (defScope st) f cdv A outer s H E) (defBody st) t ∧ t { nx := fun _ H' => Q .non H', rt := Q } (start N vs) H) :
    GOk P w K mg base CX (k + 1) f fd ps sp := gok_ofC F S len fun cdv A outer s H vs Q E _ => body cdv A outer s H vs Q E
end

/-! ### calls -/
section
variable {X : Cx} {CX : CXT} {k : Nat} {f : Addr} {fd : FuncData} {ps ks : List Str} {sp : Sp} {E : XK} {x : Str} {p pos : Pos} {e : Expr} {es : List Expr} {kws : List Keyword} {t tk : TA}
  {g : List Value → List Value → List Value} {gV : List V → List V → List V}
/-- the callee runs, arguments by place and by name -/
theorem run_g {pins : List (Addr × Obj)} {σ : L2.St} {H : Hp} {s : Shared} {Q : VK} {us ws : List Value} {vs zs : List V} (F : GOk X.prog X.w X.K X.mg X.base CX k f fd ps sp) (hA : X.A.guards = some []) (hr : Room k X.A)
    (hb : KBinds X.K fd ps ks g gV) (hx : Passes CX X E) (I : Inv X pins σ H s) (r : Vals vs us) (rz : Vals zs ws) (h : sp (gV vs zs) H Q E) :
    wpAny (model X.prog X.w) X.A (call (.ref f) us (ks.zip ws)) (EP X pins σ Q) X.xe s := by
  have rr := hb.rel r rz
  have n1 : (g us ws).length = ps.length := rr.length ▸ F.size h
  apply wpAny_call
  apply codeAny_mono (F.does hA hr I.env0 (hb.to s us ws I.kIn n1) rr h)
  intro o s' q
  rcases o with e | fl
  · exact hx pins σ H s e s' I q
  · cases fl with
    | ret u => exact Inv.after I q
    | next => exact q.elim
    | brk => exact q.elim
    | cont => exact q.elim
/-- f(e, ..) -/
theorem pe_g (F : GOk X.prog X.w X.K X.mg X.base CX k f fd ps sp) (hA : X.A.guards = some []) (hr : Room k X.A) (hg : Gl X x) (hm : X.mg x = some (.ref f)) (hk : PySem.W.keepIn X.K (.ref f) = true)
    (hb : KBinds X.K fd ps [] g gV) (hx : Passes CX X E) (ha : PA X (e :: es) t)
    (hdb : (x == ("__debug__" : Str)) = false := by decide) (he : starEach (e :: es) X.env = (false, eval e X.env) :: starEach es X.env := by rfl) (hpl : (backTo pos (starEach es X.env)).any (·.1) = false := by rfl) :
    PE X (.Call (.Name x p) (e :: es) [] pos) (tCallK sp gV E t tNil) := by
  constructor
  intro pins s σ H Q I h
  apply wpAny_Call_Name_kw
  refine ld_glob I hg hm ?_ hdb
  refine PySem.W.callWith_K (h₀ := X.base) I.ok.mod.kin hk ?_ he hpl
  refine thn (ha.run pos pins s σ H _ I h) ?_
  rintro us s1 ⟨vs, H1, I1, r, q⟩
  exact ⟨I1.kIn, run_g (ws := []) F hA hr hb hx I1 r .nil q⟩
/-- f() -/
theorem pe_g0 (F : GOk X.prog X.w X.K X.mg X.base CX k f fd ps sp) (hA : X.A.guards = some []) (hr : Room k X.A) (hg : Gl X x) (hm : X.mg x = some (.ref f)) (hk : PySem.W.keepIn X.K (.ref f) = true)
    (hb : KBinds X.K fd ps [] g gV) (hx : Passes CX X E) (hdb : (x == ("__debug__" : Str)) = false := by decide) :
    PE X (.Call (.Name x p) [] [] pos) (tCallK sp gV E tNil tNil) := by
  constructor
  intro pins s σ H Q I h
  apply wpAny_Call_Name_kw
  refine ld_glob I hg hm ?_ hdb
  exact PySem.W.callWith_K0 I.kIn hk (run_g (us := []) (ws := []) F hA hr hb hx I .nil .nil h)
/-- f(e, .., k = v, ..) -/
theorem pe_gk (F : GOk X.prog X.w X.K X.mg X.base CX k f fd ps sp) (hA : X.A.guards = some []) (hr : Room k X.A) (hg : Gl X x) (hm : X.mg x = some (.ref f)) (hk : PySem.W.keepIn X.K (.ref f) = true)
    (hb : KBinds X.K fd ps ks g gV) (hx : Passes CX X E) (ha : PA X (e :: es) t) (hw : PK X kws tk)
    (hall : (backToKw pos (keywordEach kws X.env)).all (·.1.isSome) = true := by rfl) (hks : (backToKw pos (keywordEach kws X.env)).filterMap (·.1) = ks := by rfl)
    (hdb : (x == ("__debug__" : Str)) = false := by decide) (he : starEach (e :: es) X.env = (false, eval e X.env) :: starEach es X.env := by rfl)
    (hpl : ((backTo pos (starEach (e :: es) X.env)).any (·.1) || (backToKw pos (keywordEach kws X.env)).any (·.1.isNone)) = false := by rfl) :
    PE X (.Call (.Name x p) (e :: es) kws pos) (tCallK sp gV E t tk) := by
  constructor
  intro pins s σ H Q I h
  apply wpAny_Call_Name_kw
  refine ld_glob I hg hm ?_ hdb
  refine PySem.W.callWith_KW (h₀ := X.base) I.ok.mod.kin hk hall ?_ hpl he
  refine thn (ha.run pos pins s σ H _ I h) ?_
  rintro us s1 ⟨vs, H1, I1, r, q⟩
  refine thn (hw.run pos pins s1 σ H1 _ I1 q) ?_
  rintro ws s2 ⟨zs, H2, I2, rz, q2⟩
  subst hks
  exact ⟨I2.kIn, run_g F hA hr hb hx I2 r rz q2⟩
/-- f(k = v, ..) -/
theorem pe_gk0 (F : GOk X.prog X.w X.K X.mg X.base CX k f fd ps sp) (hA : X.A.guards = some []) (hr : Room k X.A) (hg : Gl X x) (hm : X.mg x = some (.ref f)) (hk : PySem.W.keepIn X.K (.ref f) = true)
    (hb : KBinds X.K fd ps ks g gV) (hx : Passes CX X E) (hw : PK X kws tk)
    (hall : (backToKw pos (keywordEach kws X.env)).all (·.1.isSome) = true := by rfl) (hks : (backToKw pos (keywordEach kws X.env)).filterMap (·.1) = ks := by rfl)
    (hdb : (x == ("__debug__" : Str)) = false := by decide)
    (hpl : ((backTo pos (starEach [] X.env)).any (·.1) || (backToKw pos (keywordEach kws X.env)).any (·.1.isNone)) = false := by rfl) :
    PE X (.Call (.Name x p) [] kws pos) (tCallK sp gV E tNil tk) := by
  constructor
  intro pins s σ H Q I h
  apply wpAny_Call_Name_kw
  refine ld_glob I hg hm ?_ hdb
  refine PySem.W.callWith_KW0 (h₀ := X.base) I.ok.mod.kin hk hall ?_ hpl
  refine thn (hw.run pos pins s σ H _ I h) ?_
  rintro ws s2 ⟨zs, H2, I2, rz, q2⟩
  subst hks
  exact ⟨I2.kIn, run_g (us := []) F hA hr hb hx I2 .nil rz q2⟩
end

/-! ### how arguments bind -/
section
variable {K : PySem.W.Frag} {x qual : Str} {st : Stmt} {f : Addr} {fd : FuncData} {ps : List Str}
/-- by place alone -/
theorem binds_pos (F : Fun K x qual st f fd) (h : ∀ (kV doc pm : Value) (an : Option Addr) (cdv ct : Value) (us : List Value), us.length = ps.length →
      bindArgs (PySem.W.fnOf x qual (defArgs st) (defBody st) (defScope st) .none kV doc pm an cdv ct) ⟨us, []⟩ = pure (ps.zip us)) : KBinds K fd ps [] (fun us _ => us) (fun vs _ => vs) := by
  obtain ⟨oc, od, kV, doc, pm, an, cdv, ct, osl, rfl, lk, hcd⟩ := F.ex
  exact ⟨fun s us ws _ n => .of_eq (by simpa using h kV doc pm an cdv ct us n), fun r _ => r⟩
/-- n by place, the rest by names; g puts them in the parameters' order -/
theorem binds_kw (F : Fun K x qual st f fd) (ks : List Str) (g : {α : Type} → List α → List α → List α) (hrel : ∀ {vs zs : List V} {us ws : List Value}, Vals vs us → Vals zs ws → Vals (g vs zs) (g us ws))
    (h : ∀ (kV doc pm : Value) (an : Option Addr) (cdv ct : Value) (us ws : List Value), (g us ws).length = ps.length →
      bindArgs (PySem.W.fnOf x qual (defArgs st) (defBody st) (defScope st) .none kV doc pm an cdv ct) ⟨us, ks.zip ws⟩ = pure (ps.zip (g us ws))) : KBinds K fd ps ks (fun us ws => g us ws) (fun vs zs => g vs zs) := by
  obtain ⟨oc, od, kV, doc, pm, an, cdv, ct, osl, rfl, lk, hcd⟩ := F.ex
  exact ⟨fun s us ws _ n => .of_eq (h kV doc pm an cdv ct us ws n), hrel⟩
end
end Ly

/-! LyB: data of any depth in the heap, frames of data (Sl, Fm), what a reading gives as data (VE, VT, VA, VL, VV, VI, VG, VS). -/
namespace Ly
open PySem PySem.Spec PyProof.Rows L2

abbrev D := PyData
/-- a key as data -/
def kD : Key → D
  | .inl i => .int i
  | .inr x => .str x

mutual
/-- a value stands for data in the heap: lists are tracked (or known to the object), tuples may be of the written part too -/
inductive Dq (K : PySem.W.Frag) (H : Hp) : V → D → Prop where
  | non : Dq K H .non .none
  | bl (b : Bool) : Dq K H (.bl b) (.bool b)
  | int (i : Int) : Dq K H (.int i) (.int i)
  | str (x : Str) : Dq K H (.str x) (.str x)
  | lst {a : Addr} {xs : List V} {ds : List D} (h : Rd H a (.lst xs)) (k : DqAll K H xs ds) : Dq K H (.ref a) (.list ds)
  | tup {a : Addr} {xs : List V} {ds : List D} (h : SqT K H a xs) (k : DqAll K H xs ds) : Dq K H (.ref a) (.tuple ds)
  | dct {a : Addr} {ws : List (Key × V)} {kvs : List (Key × D)} (h : Rd H a (.dK ws)) (e : ws.map Prod.fst = kvs.map Prod.fst) (k : DqAll K H (ws.map Prod.snd) (kvs.map Prod.snd)) : Dq K H (.ref a) (.dict (kvs.map fun p => (kD p.1, p.2)))
inductive DqAll (K : PySem.W.Frag) (H : Hp) : List V → List D → Prop where
  | nil : DqAll K H [] []
  | cons {v : V} {vs : List V} {d : D} {ds : List D} (h : Dq K H v d) (k : DqAll K H vs ds) : DqAll K H (v :: vs) (d :: ds)
end
mutual
theorem Dq.dpN {K : PySem.W.Frag} {H : Hp} : ∀ {v : V} {d : D}, Dq K H v d → d.hasDict = false → Dp K H v d
  | _, _, .non, _ => .non
  | _, _, .bl b, _ => .bl b
  | _, _, .int i, _ => .int i
  | _, _, .str x, _ => .str x
  | _, _, .lst h k, n => .lst (Or.inl h) (DqAll.dpN k (by simpa [PyData.hasDict] using n))
  | _, _, .tup h k, n => .tup h (DqAll.dpN k (by simpa [PyData.hasDict] using n))
  | _, _, .dct _ _ _, n => by simp [PyData.hasDict] at n
theorem DqAll.dpN {K : PySem.W.Frag} {H : Hp} : ∀ {vs : List V} {ds : List D}, DqAll K H vs ds → PyData.hasDictAll ds = false → DpAll K H vs ds
  | _, _, .nil, _ => .nil
  | _, _, .cons h k, n => by
    simp only [PyData.hasDictAll, Bool.or_eq_false_iff] at n
    exact .cons (Dq.dpN h n.1) (DqAll.dpN k n.2)
end
theorem Dq.dp {K : PySem.W.Frag} {H : Hp} {v : V} {d : D} (h : Dq K H v d) (s : SeqAt.shaped d = true) : Dp K H v d := h.dpN (PyData.hasDict_of_canLay d (SeqAt.canLay_of_shaped s))

/-! ### data stays where the heap grows -/
theorem same_rd {H H' : Hp} {a : Addr} {u : HO} (e : Same H H') (h : Rd H a u) : Rd H' a u := by
  cases h with
  | inl h => exact Or.inl (e _ _ h)
  | inr h =>
    obtain ⟨o, h⟩ := h
    exact Or.inr ⟨o, e _ _ h⟩
theorem same_t {K : PySem.W.Frag} {H H' : Hp} {a : Addr} {xs : List V} (e : Same H H') (h : SqT K H a xs) : SqT K H' a xs := by
  cases h with
  | inl h => exact Or.inl (same_rd e h)
  | inr h => exact Or.inr h
theorem same_l {K : PySem.W.Frag} {H H' : Hp} {a : Addr} {xs : List V} (e : Same H H') (h : SqL K H a xs) : SqL K H' a xs := by
  cases h with
  | inl h => exact Or.inl (same_rd e h)
  | inr h => exact Or.inr h
mutual
theorem dp_mono {K : PySem.W.Frag} {H H' : Hp} (e : Same H H') : ∀ {v : V} {d : D}, Dq K H v d → Dq K H' v d
  | _, _, .non => .non
  | _, _, .bl b => .bl b
  | _, _, .int i => .int i
  | _, _, .str x => .str x
  | _, _, .lst h1 h2 => .lst (same_rd e h1) (dpall_mono e h2)
  | _, _, .tup h1 h2 => .tup (same_t e h1) (dpall_mono e h2)
  | _, _, .dct h1 e1 h2 => .dct (same_rd e h1) e1 (dpall_mono e h2)
theorem dpall_mono {K : PySem.W.Frag} {H H' : Hp} (e : Same H H') : ∀ {vs : List V} {ds : List D}, DqAll K H vs ds → DqAll K H' vs ds
  | _, _, .nil => .nil
  | _, _, .cons h1 h2 => .cons (dp_mono e h1) (dpall_mono e h2)
end
section
variable {K : PySem.W.Frag} {H : Hp}
theorem dpall_len : ∀ {vs : List V} {ds : List D}, DqAll K H vs ds → vs.length = ds.length
  | _, _, .nil => rfl
  | _, _, .cons _ h => congrArg (· + 1) (dpall_len h)
theorem dpall_get : ∀ {vs : List V} {ds : List D} {i : Nat} {d : D}, DqAll K H vs ds → ds[i]? = some d → ∃ v, vs[i]? = some v ∧ Dq K H v d
  | _, _, _, _, .nil, e => by simp at e
  | _, _, 0, _, .cons h _, e => by
    simp at e
    subst e
    exact ⟨_, rfl, h⟩
  | _, _, i + 1, _, .cons _ h, e => by
    obtain ⟨v, e1, e2⟩ := dpall_get (i := i) h (by simpa using e)
    exact ⟨v, by simpa using e1, e2⟩
theorem dpall_getV : ∀ {vs : List V} {ds : List D} {i : Nat} {v : V}, DqAll K H vs ds → vs[i]? = some v → ∃ d, ds[i]? = some d ∧ Dq K H v d
  | _, _, _, _, .nil, e => by simp at e
  | _, _, 0, _, .cons h _, e => by
    simp at e
    subst e
    exact ⟨_, rfl, h⟩
  | _, _, i + 1, _, .cons _ h, e => by
    obtain ⟨d, e1, e2⟩ := dpall_getV (i := i) h (by simpa using e)
    exact ⟨d, by simpa using e1, e2⟩
theorem dpall_app : ∀ {vs us : List V} {ds es : List D}, DqAll K H vs ds → DqAll K H us es → DqAll K H (vs ++ us) (ds ++ es)
  | _, _, _, _, .nil, h => h
  | _, _, _, _, .cons h1 h2, h => .cons h1 (dpall_app h2 h)
theorem dpall_take : ∀ {vs : List V} {ds : List D} (n : Nat), DqAll K H vs ds → DqAll K H (vs.take n) (ds.take n)
  | _, _, 0, _ => .nil
  | _, _, _ + 1, .nil => .nil
  | _, _, n + 1, .cons h1 h2 => .cons h1 (dpall_take n h2)
theorem dpall_drop : ∀ {vs : List V} {ds : List D} (n : Nat), DqAll K H vs ds → DqAll K H (vs.drop n) (ds.drop n)
  | _, _, 0, h => h
  | _, _, _ + 1, .nil => .nil
  | _, _, n + 1, .cons _ h2 => dpall_drop n h2
theorem dpall_rev : ∀ {vs : List V} {ds : List D}, DqAll K H vs ds → DqAll K H vs.reverse ds.reverse
  | _, _, .nil => .nil
  | _, _, .cons h1 h2 => by
    rw [List.reverse_cons, List.reverse_cons]
    exact dpall_app (dpall_rev h2) (.cons h1 .nil)
theorem dpall_set {v : V} {d : D} (h : Dq K H v d) : ∀ {vs : List V} {ds : List D} (i : Nat), DqAll K H vs ds → DqAll K H (vs.set i v) (ds.set i d)
  | _, _, _, .nil => .nil
  | _, _, 0, .cons _ h2 => .cons h h2
  | _, _, i + 1, .cons h1 h2 => .cons h1 (dpall_set h i h2)
theorem dpall_one {v : V} {d : D} (h : Dq K H v d) : DqAll K H [v] [d] := .cons h .nil
theorem dpall_map {α : Type} (f : α → V) (g : α → D) (h : ∀ x, Dq K H (f x) (g x)) : ∀ xs : List α, DqAll K H (xs.map f) (xs.map g)
  | [] => .nil
  | x :: xs => .cons (h x) (dpall_map f g h xs)
theorem dp_int {v : V} {i : Int} (h : Dq K H v (.int i)) : v = .int i := by cases h; rfl
theorem dp_bl {v : V} {b : Bool} (h : Dq K H v (.bool b)) : v = .bl b := by cases h; rfl
theorem dp_str {v : V} {x : Str} (h : Dq K H v (.str x)) : v = .str x := by cases h; rfl
theorem dp_non {v : V} (h : Dq K H v .none) : v = .non := by cases h; rfl
theorem dp_lst {v : V} {ds : List D} (h : Dq K H v (.list ds)) : ∃ a xs, v = .ref a ∧ SqL K H a xs ∧ DqAll K H xs ds := by
  cases h with
  | lst h1 h2 => exact ⟨_, _, rfl, Or.inl h1, h2⟩
theorem dp_lstR {v : V} {ds : List D} (h : Dq K H v (.list ds)) : ∃ a xs, v = .ref a ∧ Rd H a (.lst xs) ∧ DqAll K H xs ds := by
  cases h with
  | lst h1 h2 => exact ⟨_, _, rfl, h1, h2⟩
theorem dp_tup {v : V} {ds : List D} (h : Dq K H v (.tuple ds)) : ∃ a xs, v = .ref a ∧ SqT K H a xs ∧ DqAll K H xs ds := by
  cases h with
  | tup h1 h2 => exact ⟨_, _, rfl, h1, h2⟩
theorem dpall_ints : ∀ {vs : List V} {ns : List Int}, DqAll K H vs (ns.map PyData.int) → vs = ns.map V.int
  | _, [], .nil => rfl
  | _, n :: ns, .cons h1 h2 => by
    rw [dp_int h1, dpall_ints h2]
    rfl
theorem dpall_strs : ∀ {vs : List V} {ns : List Str}, DqAll K H vs (ns.map PyData.str) → vs = ns.map V.str
  | _, [], .nil => rfl
  | _, n :: ns, .cons h1 h2 => by
    rw [dp_str h1, dpall_strs h2]
    rfl
theorem dpall_bls : ∀ {vs : List V} {ns : List Bool}, DqAll K H vs (ns.map PyData.bool) → vs = ns.map V.bl
  | _, [], .nil => rfl
  | _, n :: ns, .cons h1 h2 => by
    rw [dp_bl h1, dpall_bls h2]
    rfl
end

/-! ### the source of draws: a list of a list of ints and an int -/
def DealAt (H : Hp) (p q : Addr) : Prop := p ≠ q ∧ ∃ (ns : List Int) (b : Int), H p = some (.lst [.ref q, .int b]) ∧ H q = some (.lst (ns.map V.int)) ∧ ns.length ≤ 64 ∧ 0 ≤ b ∧ b < 2147483648
def Md (dl : Option (Addr × Addr)) (a : Addr) : Prop := ∃ p q, dl = some (p, q) ∧ (a = p ∨ a = q)

/-- the name of a law's own lambdas -/
def qLam : Str := "law.<locals>.<lambda>"
/-- from one moment to a later one: B is what stands for good, H all; what is not of the source stays -/
structure Stp (dl : Option (Addr × Addr)) (B H B' H' : Hp) : Prop where
  ext : Same B B'
  sub : Same B' H'
  keepN : ∀ a o, H a = some o → ¬ Md dl a → (∀ ps, o ≠ .tbl ps) → H' a = some o
  out : ∀ a, H a ≠ none → B a = none → B' a = none
  deal : ∀ p q, dl = some (p, q) → DealAt H p q → DealAt H' p q
  stay : ∀ a, H a ≠ none → H' a ≠ none
  tab : ∀ P, LamX.TabS H P qLam → LamX.TabS H' P qLam
  bt : (∀ a ps, B a ≠ some (.tbl ps)) → ∀ a ps, B' a ≠ some (.tbl ps)
theorem Stp.keep {dl : Option (Addr × Addr)} {B H B' H' : Hp} (s : Stp dl B H B' H') (a : Addr) (o : HO) (e : H a = some o) (m : ¬ Md dl a) (n : ∀ ps, o ≠ .tbl ps := by intro ps h; cases h) : H' a = some o := s.keepN a o e m n
/-- neither a table nor a code object -/
def NoTab (o : HO) : Prop := (∀ ps, o ≠ .tbl ps) ∧ ∀ c q, o ≠ LamX.CodeO c q
theorem notab_lst (xs : List V) : NoTab (.lst xs) := ⟨fun ps h => (by cases h), fun c q h => (by unfold LamX.CodeO at h; cases h)⟩
theorem notab_dk (xs) : NoTab (.dK xs) := ⟨fun ps h => (by cases h), fun c q h => (by unfold LamX.CodeO at h; cases h)⟩
theorem np_none {H : Hp} {p : Addr} (h : H p = none) : ∀ o', H p = some o' → NoTab o' := fun o' e => by rw [h] at e; cases e
theorem np_lst {H : Hp} {p : Addr} {xs : List V} (h : H p = some (.lst xs)) : ∀ o', H p = some o' → NoTab o' := fun o' e => by rw [h] at e; cases e; exact notab_lst _
theorem np_dk {H : Hp} {p : Addr} {xs} (h : H p = some (.dK xs)) : ∀ o', H p = some o' → NoTab o' := fun o' e => by rw [h] at e; cases e; exact notab_dk _
theorem bt_upd {B : Hp} {p : Addr} {o : HO} (nt : ∀ ps, o ≠ .tbl ps) (h : ∀ a ps, B a ≠ some (.tbl ps)) : ∀ a ps, upd B p o a ≠ some (.tbl ps) := fun a ps e => by
  by_cases ha : a = p
  · rw [ha, upd_same] at e
    exact nt ps (Option.some.inj e)
  · rw [upd_ne ha] at e
    exact h a ps e
theorem tabs_upd {P : Addr} {q : Str} {H : Hp} {p : Addr} {o : HO} (t : LamX.TabS H P q) (n : ∀ o', H p = some o' → NoTab o') : LamX.TabS (upd H p o) P q := by
  obtain ⟨ps, h1, h2, h3⟩ := t
  have np : P ≠ p := fun z => (n _ (by rw [← z]; exact h1)).1 ps rfl
  refine ⟨ps, by rw [upd_ne np]; exact h1, h2, fun pos cv hc => ?_⟩
  obtain ⟨c, e1, e2⟩ := h3 pos cv hc
  have nc : c ≠ p := fun z => (n _ (by rw [← z]; exact e2)).2 _ _ rfl
  exact ⟨c, e1, by rw [upd_ne nc]; exact e2⟩
theorem stay_upd {H H' : Hp} {p : Addr} {o : HO} (h : ∀ a, H a ≠ none → H' a ≠ none) : ∀ a, H a ≠ none → upd H' p o a ≠ none := fun a n => by
  by_cases ha : a = p
  · rw [ha, upd_same]
    simp
  · rw [upd_ne ha]
    exact h a n

section
variable {dl : Option (Addr × Addr)} {B H B' H' B2 H2 : Hp} {p : Addr} {o : HO}
theorem Stp.refl (s : Same B H) : Stp dl B H B H := ⟨Same.refl B, s, fun _ _ h _ _ => h, fun _ _ h => h, fun _ _ _ h => h, fun _ h => h, fun _ h => h, fun h => h⟩
theorem DealAt.there {q : Addr} (h : DealAt H p q) {a : Addr} (ha : a = p ∨ a = q) : H a ≠ none := by
  obtain ⟨_, ns, b, h1, h2, _⟩ := h
  rcases ha with rfl | rfl
  · rw [h1]
    simp
  · rw [h2]
    simp
/-- what stood still stands, changed or not -/
theorem Stp.there (s : Stp dl B H B' H') (hd : ∀ p q, dl = some (p, q) → DealAt H p q) {a : Addr} (h : H a ≠ none) : H' a ≠ none := by
  exact s.stay a h
theorem Stp.trans (hd : ∀ p q, dl = some (p, q) → DealAt H p q) (s : Stp dl B H B' H') (t : Stp dl B' H' B2 H2) : Stp dl B H B2 H2 :=
  ⟨s.ext.trans t.ext, t.sub, fun a o h m n => t.keepN a o (s.keepN a o h m n) m n, fun a h n => t.out a (s.there hd h) (s.out a h n), fun p q e h => t.deal p q e (s.deal p q e h), fun a h => t.stay a (s.stay a h), fun T h => t.tab T (s.tab T h), fun h => t.bt (s.bt h)⟩
/-- nothing of the source was touched -/
theorem Stp.any (s : Stp none B H B' H') : Stp dl B H B' H' :=
  have k : ∀ a o, H a = some o → (∀ ps, o ≠ .tbl ps) → H' a = some o := fun a o h n => s.keepN a o h (fun ⟨_, _, e, _⟩ => nomatch e) n
  ⟨s.ext, s.sub, fun a o h _ n => k a o h n, s.out, fun p q _ h => by
    obtain ⟨ne, ns, b, h1, h2, r⟩ := h
    exact ⟨ne, ns, b, k _ _ h1 (fun ps h => by cases h), k _ _ h2 (fun ps h => by cases h), r⟩, s.stay, s.tab, s.bt⟩
/-- a new object, for good -/
theorem Stp.new (s : Same B H) (h : H p = none) (nt : ∀ ps, o ≠ .tbl ps := by intro ps h; cases h) : Stp dl B H (upd B p o) (upd H p o) := by
  have hB : B p = none := s.free h
  have k : ∀ a u, H a = some u → upd H p o a = some u := fun a u e => by
    rw [upd_ne (ne_of_none e h)]
    exact e
  refine ⟨fun a u e => ?_, fun a u e => ?_, fun a u e _ _ => k a u e, fun a n e => ?_, fun p q _ d => ?_, stay_upd fun _ n => n, fun T t => tabs_upd t fun o' e => (by rw [h] at e; cases e), bt_upd nt⟩
  · rw [upd_ne (ne_of_none e hB)]
    exact e
  · by_cases ha : a = p
    · subst ha
      rw [upd_same] at e ⊢
      exact e
    · rw [upd_ne ha] at e ⊢
      exact s a u e
  · have ha : a ≠ p := fun z => n (z ▸ h)
    rw [upd_ne ha]
    exact e
  · obtain ⟨ne, ns, b, h1, h2, r⟩ := d
    exact ⟨ne, ns, b, k _ _ h1, k _ _ h2, r⟩
/-- a new object that may still change -/
theorem Stp.newM (s : Same B H) (h : H p = none) : Stp dl B H B (upd H p o) := by
  have k : ∀ a u, H a = some u → upd H p o a = some u := fun a u e => by
    rw [upd_ne (ne_of_none e h)]
    exact e
  refine ⟨Same.refl B, fun a u e => k a u (s a u e), fun a u e _ _ => k a u e, fun a _ e => e, fun p q _ d => ?_, stay_upd fun _ n => n, fun T t => tabs_upd t fun o' e => (by rw [h] at e; cases e), fun h => h⟩
  obtain ⟨ne, ns, b, h1, h2, r⟩ := d
  exact ⟨ne, ns, b, k _ _ h1, k _ _ h2, r⟩
/-- an object that was new behind H stands for good from now on -/
theorem Stp.fix (s : Stp dl B H B' H') (h : H p = none) (hp : H' p = some o) (hB : B' p = none) (nt : ∀ ps, o ≠ .tbl ps := by intro ps h; cases h) : Stp dl B H (upd B' p o) H' := by
  refine ⟨fun a u e => ?_, fun a u e => ?_, s.keepN, fun a n e => ?_, s.deal, s.stay, s.tab, fun h => bt_upd nt (s.bt h)⟩
  · have e' := s.ext a u e
    rw [upd_ne (ne_of_none e' hB)]
    exact e'
  · by_cases ha : a = p
    · subst ha
      rw [upd_same] at e
      rw [hp]
      exact e
    · rw [upd_ne ha] at e
      exact s.sub a u e
  · have ha : a ≠ p := fun z => n (z ▸ h)
    rw [upd_ne ha]
    exact s.out a n e
end

/-! ### slots -/
/-- what a name holds: nothing told | data | a list of one's own, which may still change | the source of draws | a list that is read alone | a dict of one's own -/
inductive Sl where
  | no | dat (d : D) | own (ds : List D) | deal | rd (vs : List V) | odk (kvs : List (Key × D))

structure Cn where
  K : PySem.W.Frag
  B : Hp
  H : Hp
  dl : Option (Addr × Addr)

def SlOk (C : Cn) (B H : Hp) (o : Option (Option V)) : Sl → Prop
  | .no => True
  | .dat d => ∃ v, o = some (some v) ∧ Dq C.K B v d
  | .own ds => ∃ p vs, o = some (some (.ref p)) ∧ C.H p = none ∧ B p = none ∧ H p = some (.lst vs) ∧ DqAll C.K B vs ds
  | .deal => ∃ p q, C.dl = some (p, q) ∧ o = some (some (.ref p))
  | .rd vs => ∃ a, o = some (some (.ref a)) ∧ SqL C.K B a vs
  | .odk kvs => ∃ p ws, o = some (some (.ref p)) ∧ C.H p = none ∧ B p = none ∧ H p = some (.dK ws) ∧ ws.map Prod.fst = kvs.map Prod.fst ∧ DqAll C.K B (ws.map Prod.snd) (kvs.map Prod.snd)

structure Fm (C : Cn) (B H : Hp) (σ : L2.St) (Γ : List Sl) : Prop where
  st : Stp C.dl C.B C.H B H
  dl : ∀ p q, C.dl = some (p, q) → DealAt C.H p q ∧ C.B p = none ∧ C.B q = none
  len : σ.length = Γ.length
  slot : ∀ (i : Nat) (s : Sl), Γ[i]? = some s → SlOk C B H (σ[i]?) s
  inj : ∀ (i j : Nat) (p : Addr) (ds es : List D), Γ[i]? = some (.own ds) → Γ[j]? = some (.own es) → σ[i]? = some (some (.ref p)) → σ[j]? = some (some (.ref p)) → i = j

section
variable {C : Cn} {B H B' H' : Hp} {σ σ' : L2.St} {Γ Γ' : List Sl} {p q : Addr} {i j : Nat} {d : D} {ds es : List D} {v : V}
theorem Fm.sub (F : Fm C B H σ Γ) : Same B H := F.st.sub
theorem Fm.dlNow (F : Fm C B H σ Γ) : ∀ p q, C.dl = some (p, q) → DealAt H p q := fun p q e => F.st.deal p q e (F.dl p q e).1
theorem Fm.dlOut (F : Fm C B H σ Γ) (e : C.dl = some (p, q)) : B p = none ∧ B q = none := by
  obtain ⟨h1, h2, h3⟩ := F.dl p q e
  exact ⟨F.st.out p (h1.there (Or.inl rfl)) h2, F.st.out q (h1.there (Or.inr rfl)) h3⟩
theorem Fm.newC (F : Fm C B H σ Γ) {a : Addr} (h : H a = none) : C.H a = none := by
  cases e : C.H a with
  | none => rfl
  | some o => exact absurd h (F.st.there (fun p q e => (F.dl p q e).1) (by rw [e]; simp))
theorem Fm.notMd (F : Fm C B H σ Γ) {a : Addr} (h : C.H a = none) : ¬ Md C.dl a := by
  rintro ⟨p, q, e, m⟩
  exact (F.dl p q e).1.there m h
theorem Fm.step (F : Fm C B H σ Γ) (s : Stp C.dl B H B' H') : Fm C B' H' σ Γ := by
  refine ⟨F.st.trans (fun p q e => (F.dl p q e).1) s, F.dl, F.len, fun i sl h => ?_, F.inj⟩
  have k := F.slot i sl h
  cases sl with
  | no => trivial
  | dat d =>
    obtain ⟨v, e, h1⟩ := k
    exact ⟨v, e, dp_mono s.ext h1⟩
  | own ds =>
    obtain ⟨p, vs, e, h1, h2, h3, h4⟩ := k
    exact ⟨p, vs, e, h1, s.out p (by rw [h3]; simp) h2, s.keep p _ h3 (F.notMd h1), dpall_mono s.ext h4⟩
  | deal => exact k
  | rd vs =>
    obtain ⟨a, e, h⟩ := k
    exact ⟨a, e, same_l s.ext h⟩
  | odk kvs =>
    obtain ⟨p, ws, e, h1, h2, h3, h4, h5⟩ := k
    exact ⟨p, ws, e, h1, s.out p (by rw [h3]; simp) h2, s.keep p _ h3 (F.notMd h1), h4, dpall_mono s.ext h5⟩
theorem Fm.has (F : Fm C B H σ Γ) (h : Γ[i]? = some (.dat d)) : ∃ v, σ[i]? = some (some v) ∧ Dq C.K B v d := F.slot i _ h
theorem Fm.hasOwn (F : Fm C B H σ Γ) (h : Γ[i]? = some (.own ds)) : ∃ p vs, σ[i]? = some (some (.ref p)) ∧ C.H p = none ∧ B p = none ∧ H p = some (.lst vs) ∧ DqAll C.K B vs ds := F.slot i _ h
theorem Fm.noOwn (F : Fm C B H σ Γ) (hp : H p = none) (h : Γ[i]? = some (.own ds)) : σ[i]? ≠ some (some (.ref p)) := fun e => by
  obtain ⟨p', vs, e', _, _, h3, _⟩ := F.hasOwn h
  rw [e] at e'
  injection e' with e'
  injection e' with e'
  injection e' with e'
  subst e'
  rw [hp] at h3
  cases h3
theorem Fm.hasDk {kvs : List (Key × D)} (F : Fm C B H σ Γ) (h : Γ[i]? = some (.odk kvs)) : ∃ p ws, σ[i]? = some (some (.ref p)) ∧ C.H p = none ∧ B p = none ∧ H p = some (.dK ws) ∧ ws.map Prod.fst = kvs.map Prod.fst ∧ DqAll C.K B (ws.map Prod.snd) (kvs.map Prod.snd) := F.slot i _ h
theorem Fm.noDk {kvs : List (Key × D)} (F : Fm C B H σ Γ) (hp : ∀ ws, H p ≠ some (.dK ws)) (h : Γ[i]? = some (.odk kvs)) : σ[i]? ≠ some (some (.ref p)) := fun e => by
  obtain ⟨p', vs, e', _, _, h3, _⟩ := F.hasDk h
  rw [e] at e'
  injection e' with e'
  injection e' with e'
  injection e' with e'
  subst e'
  exact hp _ h3
/-- a name gets data -/
theorem Fm.set (F : Fm C B H σ Γ) (h : Dq C.K B v d) : Fm C B H (σ.set i (some v)) (Γ.set i (.dat d)) := by
  refine ⟨F.st, F.dl, by rw [List.length_set, List.length_set]; exact F.len, fun j sl e => ?_, fun a b p ds es h1 h2 h3 h4 => ?_⟩
  · by_cases hj : i = j
    · subst hj
      have hl : i < Γ.length := by
        have := (List.getElem?_eq_some_iff.mp e).1
        rw [List.length_set] at this
        exact this
      rw [List.getElem?_set_self hl] at e
      cases e
      exact ⟨v, List.getElem?_set_self (by rw [F.len]; exact hl), h⟩
    · rw [List.getElem?_set_ne hj] at e
      rw [List.getElem?_set_ne hj]
      exact F.slot j sl e
  · have na : i ≠ a := fun z => by
      subst z
      have hl : i < Γ.length := by
        have := (List.getElem?_eq_some_iff.mp h1).1
        rw [List.length_set] at this
        exact this
      rw [List.getElem?_set_self hl] at h1
      cases h1
    have nb : i ≠ b := fun z => by
      subst z
      have hl : i < Γ.length := by
        have := (List.getElem?_eq_some_iff.mp h2).1
        rw [List.length_set] at this
        exact this
      rw [List.getElem?_set_self hl] at h2
      cases h2
    rw [List.getElem?_set_ne na] at h1 h3
    rw [List.getElem?_set_ne nb] at h2 h4
    exact F.inj a b p ds es h1 h2 h3 h4
/-- nothing is told of a name any longer -/
theorem Fm.drop (F : Fm C B H σ Γ) (o : Option V) : Fm C B H (σ.set i o) (Γ.set i .no) := by
  refine ⟨F.st, F.dl, by rw [List.length_set, List.length_set]; exact F.len, fun j sl e => ?_, fun a b p ds es h1 h2 h3 h4 => ?_⟩
  · by_cases hj : i = j
    · subst hj
      have hl : i < Γ.length := by
        have := (List.getElem?_eq_some_iff.mp e).1
        rw [List.length_set] at this
        exact this
      rw [List.getElem?_set_self hl] at e
      cases e
      trivial
    · rw [List.getElem?_set_ne hj] at e
      rw [List.getElem?_set_ne hj]
      exact F.slot j sl e
  · have na : i ≠ a := fun z => by
      subst z
      have hl : i < Γ.length := by
        have := (List.getElem?_eq_some_iff.mp h1).1
        rw [List.length_set] at this
        exact this
      rw [List.getElem?_set_self hl] at h1
      cases h1
    have nb : i ≠ b := fun z => by
      subst z
      have hl : i < Γ.length := by
        have := (List.getElem?_eq_some_iff.mp h2).1
        rw [List.length_set] at this
        exact this
      rw [List.getElem?_set_self hl] at h2
      cases h2
    rw [List.getElem?_set_ne na] at h1 h3
    rw [List.getElem?_set_ne nb] at h2 h4
    exact F.inj a b p ds es h1 h2 h3 h4
/-- a name gets a new list of its own -/
theorem Fm.setOwn {vs : List V} (F : Fm C B H σ Γ) (hC : C.H p = none) (hB : B p = none) (hp : H p = some (.lst vs)) (hd : DqAll C.K B vs ds) (hn : ∀ (j : Nat) es, j ≠ i → Γ[j]? = some (.own es) → σ[j]? ≠ some (some (.ref p))) :
    Fm C B H (σ.set i (some (.ref p))) (Γ.set i (.own ds)) := by
  have key : ∀ (j : Nat) es, i ≠ j → (Γ.set i (.own ds))[j]? = some (.own es) → (σ.set i (some (.ref p)))[j]? = some (some (.ref p)) → False := fun j es nj h1 h2 => by
    rw [List.getElem?_set_ne nj] at h1 h2
    exact hn j es (Ne.symm nj) h1 h2
  refine ⟨F.st, F.dl, by rw [List.length_set, List.length_set]; exact F.len, fun j sl e => ?_, fun a b r xs ys h1 h2 h3 h4 => ?_⟩
  · by_cases hj : i = j
    · subst hj
      have hl : i < Γ.length := by
        have := (List.getElem?_eq_some_iff.mp e).1
        rw [List.length_set] at this
        exact this
      rw [List.getElem?_set_self hl] at e
      cases e
      exact ⟨p, vs, List.getElem?_set_self (by rw [F.len]; exact hl), hC, hB, hp, hd⟩
    · rw [List.getElem?_set_ne hj] at e
      rw [List.getElem?_set_ne hj]
      exact F.slot j sl e
  · by_cases ha : i = a
    · by_cases hb : i = b
      · exact ha.symm.trans hb
      · subst ha
        have hl : i < σ.length := by
          have := (List.getElem?_eq_some_iff.mp h3).1
          rw [List.length_set] at this
          exact this
        rw [List.getElem?_set_self hl] at h3
        injection h3 with h3
        injection h3 with h3
        injection h3 with h3
        subst h3
        exact (key b ys hb h2 h4).elim
    · by_cases hb : i = b
      · subst hb
        have hl : i < σ.length := by
          have := (List.getElem?_eq_some_iff.mp h4).1
          rw [List.length_set] at this
          exact this
        rw [List.getElem?_set_self hl] at h4
        injection h4 with h4
        injection h4 with h4
        injection h4 with h4
        subst h4
        exact (key a xs ha h1 h3).elim
      · rw [List.getElem?_set_ne ha] at h1 h3
        rw [List.getElem?_set_ne hb] at h2 h4
        exact F.inj a b r xs ys h1 h2 h3 h4
/-- one's own list changes -/
theorem Fm.mutOwn {us : List V} (F : Fm C B H σ Γ) (hi : Γ[i]? = some (.own ds)) (hs : σ[i]? = some (some (.ref p))) (hd : DqAll C.K B us es) :
    Fm C B (upd H p (.lst us)) σ (Γ.set i (.own es)) := by
  obtain ⟨p', ws, e', hC, hB, hp, hw⟩ := F.hasOwn hi
  rw [hs] at e'
  injection e' with e'
  injection e' with e'
  injection e' with e'
  subst e'
  have hM : ¬ Md C.dl p := F.notMd hC
  have st : Stp C.dl C.B C.H B (upd H p (.lst us)) := by
    refine ⟨F.st.ext, fun a o e => ?_, fun a o e m n => ?_, F.st.out, fun r q e dd => ?_, stay_upd F.st.stay, fun T t => tabs_upd (F.st.tab T t) fun o' e => (by rw [hp] at e; cases e; exact notab_lst _), F.st.bt⟩
    · rw [upd_ne (ne_of_none e hB)]
      exact F.st.sub a o e
    · rw [upd_ne (ne_of_none e hC)]
      exact F.st.keepN a o e m n
    · obtain ⟨ne, ns, b, h1, h2, rest⟩ := F.st.deal r q e dd
      have n1 : r ≠ p := fun z => hM ⟨r, q, e, Or.inl z.symm⟩
      have n2 : q ≠ p := fun z => hM ⟨r, q, e, Or.inr z.symm⟩
      exact ⟨ne, ns, b, by rw [upd_ne n1]; exact h1, by rw [upd_ne n2]; exact h2, rest⟩
  refine ⟨st, F.dl, by rw [List.length_set]; exact F.len, fun j sl e => ?_, fun a b r xs ys h1 h2 h3 h4 => ?_⟩
  · by_cases hj : i = j
    · subst hj
      have hl : i < Γ.length := (List.getElem?_eq_some_iff.mp hi).1
      rw [List.getElem?_set_self hl] at e
      cases e
      exact ⟨p, us, hs, hC, hB, upd_same, hd⟩
    · rw [List.getElem?_set_ne hj] at e
      have k := F.slot j sl e
      cases sl with
      | no => trivial
      | dat d => exact k
      | own xs =>
        obtain ⟨r, zs, k1, k2, k3, k4, k5⟩ := k
        have nr : r ≠ p := fun z => by
          subst z
          exact hj (F.inj i j r _ _ hi e hs k1)
        exact ⟨r, zs, k1, k2, k3, by rw [upd_ne nr]; exact k4, k5⟩
      | deal => exact k
      | rd vs => exact k
      | odk kvs =>
        obtain ⟨r, zs, k1, k2, k3, k4, k5⟩ := k
        have nr : r ≠ p := fun z => by
          subst z
          rw [hp] at k4
          cases k4
        exact ⟨r, zs, k1, k2, k3, by rw [upd_ne nr]; exact k4, k5⟩
  · have own : ∀ (c : Nat) zs, (Γ.set i (.own es))[c]? = some (.own zs) → ∃ zs', Γ[c]? = some (.own zs') := fun c zs h => by
      by_cases hc : i = c
      · subst hc
        exact ⟨ds, hi⟩
      · rw [List.getElem?_set_ne hc] at h
        exact ⟨zs, h⟩
    obtain ⟨x1, g1⟩ := own a xs h1
    obtain ⟨x2, g2⟩ := own b ys h2
    exact F.inj a b r x1 x2 g1 g2 h3 h4
/-- one's own list stands for good from now on -/
theorem Fm.freeze (F : Fm C B H σ Γ) (hi : Γ[i]? = some (.own ds)) : ∃ B', Stp C.dl C.B C.H B' H ∧ Same B B' ∧ Fm C B' H σ (Γ.set i (.dat (.list ds))) := by
  obtain ⟨p, vs, hs, hC, hB, hp, hd⟩ := F.hasOwn hi
  have sm : Same B (upd B p (.lst vs)) := fun a o e => by
    rw [upd_ne (ne_of_none e hB)]
    exact e
  have st := F.st.fix hC hp hB
  refine ⟨upd B p (.lst vs), st, sm, st, F.dl, by rw [List.length_set]; exact F.len, fun j sl e => ?_, fun a b r xs ys h1 h2 h3 h4 => ?_⟩
  · by_cases hj : i = j
    · subst hj
      have hl : i < Γ.length := (List.getElem?_eq_some_iff.mp hi).1
      rw [List.getElem?_set_self hl] at e
      cases e
      exact ⟨.ref p, hs, .lst (Or.inl upd_same) (dpall_mono sm hd)⟩
    · rw [List.getElem?_set_ne hj] at e
      have k := F.slot j sl e
      cases sl with
      | no => trivial
      | dat d =>
        obtain ⟨v, k1, k2⟩ := k
        exact ⟨v, k1, dp_mono sm k2⟩
      | own xs =>
        obtain ⟨r, zs, k1, k2, k3, k4, k5⟩ := k
        have nr : r ≠ p := fun z => by
          subst z
          exact hj (F.inj i j r _ _ hi e hs k1)
        exact ⟨r, zs, k1, k2, by rw [upd_ne nr]; exact k3, k4, dpall_mono sm k5⟩
      | deal => exact k
      | rd vs =>
        obtain ⟨a, k1, k2⟩ := k
        exact ⟨a, k1, same_l sm k2⟩
      | odk kvs =>
        obtain ⟨r, zs, k1, k2, k3, k4, k5, k6⟩ := k
        have nr : r ≠ p := fun z => by
          subst z
          rw [hp] at k4
          cases k4
        exact ⟨r, zs, k1, k2, by rw [upd_ne nr]; exact k3, k4, k5, dpall_mono sm k6⟩
  · have na : i ≠ a := fun z => by
      subst z
      have hl : i < Γ.length := (List.getElem?_eq_some_iff.mp hi).1
      rw [List.getElem?_set_self hl] at h1
      cases h1
    have nb : i ≠ b := fun z => by
      subst z
      have hl : i < Γ.length := (List.getElem?_eq_some_iff.mp hi).1
      rw [List.getElem?_set_self hl] at h2
      cases h2
    rw [List.getElem?_set_ne na] at h1
    rw [List.getElem?_set_ne nb] at h2
    exact F.inj a b r xs ys h1 h2 h3 h4
end
end Ly

/-! LyC: what a reading gives as data: VE, VV, VL, VA, VW, VT, VO, VI, VG, VS, and their rules. -/
namespace Ly
open PySem PySem.Spec PyProof.Rows L2

/-- just this one -/
abbrev Is {α : Type} (x : α) : α → Prop := fun y => y = x

/-- a value that stands for data: for good, or a list that may change later -/
def Vw (C : Cn) (B H : Hp) (v : V) (d : D) : Prop :=
  Dq C.K B v d ∨ ∃ p vs ds, v = .ref p ∧ d = .list ds ∧ C.H p = none ∧ H p = some (.lst vs) ∧ DqAll C.K B vs ds
inductive VwAll (C : Cn) (B H : Hp) : List V → List D → Prop where
  | nil : VwAll C B H [] []
  | cons {v : V} {d : D} {vs : List V} {ds : List D} : Vw C B H v d → VwAll C B H vs ds → VwAll C B H (v :: vs) (d :: ds)
section
variable {C : Cn} {B H B' H' : Hp} {σ : L2.St} {Γ : List Sl} {v : V} {d : D}
theorem Vw.step (F : Fm C B H σ Γ) (s : Stp C.dl B H B' H') (h : Vw C B H v d) : Vw C B' H' v d := by
  rcases h with h | ⟨p, vs, ds, rfl, rfl, h1, h2, h3⟩
  · exact Or.inl (dp_mono s.ext h)
  · exact Or.inr ⟨p, vs, ds, rfl, rfl, h1, s.keep p _ h2 (F.notMd h1), dpall_mono s.ext h3⟩
theorem VwAll.step (F : Fm C B H σ Γ) (s : Stp C.dl B H B' H') : ∀ {vs : List V} {ds : List D}, VwAll C B H vs ds → VwAll C B' H' vs ds
  | _, _, .nil => .nil
  | _, _, .cons h t => .cons (h.step F s) (VwAll.step F s t)
theorem Vw.now (e : Same B H) (h : Vw C B H v d) : Dq C.K H v d := by
  rcases h with h | ⟨p, vs, ds, rfl, rfl, h1, h2, h3⟩
  · exact dp_mono e h
  · exact .lst (Or.inl h2) (dpall_mono e h3)
theorem Vw.int {i : Int} (h : Vw C B H v (.int i)) : v = .int i := by
  rcases h with h | ⟨_, _, _, _, e, _⟩
  · exact dp_int h
  · cases e
theorem Vw.str {x : Str} (h : Vw C B H v (.str x)) : v = .str x := by
  rcases h with h | ⟨_, _, _, _, e, _⟩
  · exact dp_str h
  · cases e
theorem Vw.bl {x : Bool} (h : Vw C B H v (.bool x)) : v = .bl x := by
  rcases h with h | ⟨_, _, _, _, e, _⟩
  · exact dp_bl h
  · cases e
theorem Vw.non (h : Vw C B H v .none) : v = .non := by
  rcases h with h | ⟨_, _, _, _, e, _⟩
  · exact dp_non h
  · cases e
theorem Vw.tup {ds : List D} (e : Same B H) (h : Vw C B H v (.tuple ds)) : ∃ a xs, v = .ref a ∧ SqT C.K H a xs ∧ DqAll C.K B xs ds := by
  rcases h with h | ⟨_, _, _, _, z, _⟩
  · obtain ⟨a, xs, h1, h2, h3⟩ := dp_tup h
    exact ⟨a, xs, h1, same_t e h2, h3⟩
  · cases z
theorem Vw.lst {ds : List D} (e : Same B H) (h : Vw C B H v (.list ds)) : ∃ a xs, v = .ref a ∧ SqL C.K H a xs ∧ DqAll C.K B xs ds := by
  rcases h with h | ⟨p, vs, es, h1, z, _, h2, h3⟩
  · obtain ⟨a, xs, h1, h2, h3⟩ := dp_lst h
    exact ⟨a, xs, h1, same_l e h2, h3⟩
  · cases z
    exact ⟨p, vs, h1, Or.inl (Or.inl h2), h3⟩
end

theorem Vw.lstR {C : Cn} {B H : Hp} {v : V} {ds : List D} (e : Same B H) (h : Vw C B H v (.list ds)) : ∃ a xs, v = .ref a ∧ Rd H a (.lst xs) ∧ DqAll C.K B xs ds := by
  rcases h with h | ⟨p, vs, es, h1, z, _, h2, h3⟩
  · obtain ⟨a, xs, h1, h2, h3⟩ := dp_lstR h
    exact ⟨a, xs, h1, same_rd e h2, h3⟩
  · cases z
    exact ⟨p, vs, h1, Or.inl h2, h3⟩

/-! ### what a reading gives -/
def VE (C : Cn) (t : TE) (Γ : List Sl) (R : D → Prop) : Prop := ∀ B H σ, Fm C B H σ Γ → ∀ Q : VK, (∀ d v B' H', R d → Stp C.dl B H B' H' → Dq C.K B' v d → Q v H') → t σ H Q
def VV (C : Cn) (t : TE) (Γ : List Sl) (R : D → Prop) : Prop := ∀ B H σ, Fm C B H σ Γ → ∀ Q : VK, (∀ d v B' H', R d → Stp C.dl B H B' H' → Vw C B' H' v d → Q v H') → t σ H Q
/-- a new list -/
def VL (C : Cn) (t : TE) (Γ : List Sl) (R : List D → Prop) : Prop := ∀ B H σ, Fm C B H σ Γ → ∀ Q : VK,
  (∀ ds p vs B' H', R ds → Stp C.dl B H B' H' → H p = none → B' p = none → H' p = some (.lst vs) → DqAll C.K B' vs ds → Q (.ref p) H') → t σ H Q
def VA (C : Cn) (t : TA) (Γ : List Sl) (R : List D → Prop) : Prop := ∀ B H σ, Fm C B H σ Γ → ∀ Q : List V → Hp → Prop, (∀ ds vs B' H', R ds → Stp C.dl B H B' H' → DqAll C.K B' vs ds → Q vs H') → t σ H Q
def VW (C : Cn) (t : TA) (Γ : List Sl) (R : List D → Prop) : Prop := ∀ B H σ, Fm C B H σ Γ → ∀ Q : List V → Hp → Prop, (∀ ds vs B' H', R ds → Stp C.dl B H B' H' → VwAll C B' H' vs ds → Q vs H') → t σ H Q
def VT (C : Cn) (t : TT) (Γ : List Sl) (R : Bool → Prop) : Prop := ∀ B H σ, Fm C B H σ Γ → ∀ Q : Bool → Hp → Prop, (∀ b B' H', R b → Stp C.dl B H B' H' → Q b H') → t σ H Q
def VO (C : Cn) (t : TO) (Γ : List Sl) (R : Option Int → Prop) : Prop := ∀ B H σ, Fm C B H σ Γ → ∀ Q : Option Int → Hp → Prop, (∀ b B' H', R b → Stp C.dl B H B' H' → Q b H') → t σ H Q

section
variable {C : Cn} {t ta tb te : TE} {tt tu : TT} {A A' : TA} {Γ : List Sl} {R R' Ra Rb : D → Prop} {d x y z : D} {b c : Bool} {ds es : List D}
theorem VE.imp (h : VE C t Γ R) (i : ∀ d, R d → R' d) : VE C t Γ R' := fun B H σ F Q q => h B H σ F Q fun d v B' H' r s k => q d v B' H' (i d r) s k
theorem VE.to (h : VE C t Γ (Is x)) (e : x = y) : VE C t Γ (Is y) := e ▸ h
theorem VL.imp {S S' : List D → Prop} (h : VL C t Γ S) (i : ∀ d, S d → S' d) : VL C t Γ S' := fun B H σ F Q q => h B H σ F Q fun ds p vs B' H' r s k1 k2 k3 k4 => q ds p vs B' H' (i ds r) s k1 k2 k3 k4
theorem VL.to (h : VL C t Γ (Is ds)) (e : ds = es) : VL C t Γ (Is es) := e ▸ h
theorem VT.imp {S S' : Bool → Prop} (h : VT C tt Γ S) (i : ∀ d, S d → S' d) : VT C tt Γ S' := fun B H σ F Q q => h B H σ F Q fun b B' H' r s => q b B' H' (i b r) s
theorem VT.to (h : VT C tt Γ (Is b)) (e : b = c) : VT C tt Γ (Is c) := e ▸ h
theorem VA.imp {S S' : List D → Prop} (h : VA C A Γ S) (i : ∀ d, S d → S' d) : VA C A Γ S' := fun B H σ F Q q => h B H σ F Q fun d v B' H' r s k => q d v B' H' (i d r) s k
theorem VE.v (h : VE C t Γ R) : VV C t Γ R := fun B H σ F Q q => h B H σ F Q fun d v B' H' r s k => q d v B' H' r s (Or.inl k)
theorem VL.v {S : List D → Prop} (h : VL C t Γ S) : VV C t Γ (fun d => ∃ ds, d = .list ds ∧ S ds) := fun B H σ F Q q => h B H σ F Q fun ds p vs B' H' r s k1 k2 k3 k4 =>
  q _ _ B' H' ⟨ds, rfl, r⟩ s (Or.inr ⟨p, vs, ds, rfl, rfl, F.newC k1, k3, k4⟩)
theorem VL.vd (h : VL C t Γ (Is ds)) : VV C t Γ (Is (.list ds)) := fun B H σ F Q q => h.v B H σ F Q fun d v B' H' r s k => by
  obtain ⟨es, rfl, e⟩ := r
  cases e
  exact q _ _ _ _ rfl s k
theorem VL.e {S : List D → Prop} (h : VL C t Γ S) : VE C t Γ (fun d => ∃ ds, d = .list ds ∧ S ds) := fun B H σ F Q q => h B H σ F Q fun ds p vs B' H' r s k1 k2 k3 k4 =>
  q _ _ (upd B' p (.lst vs)) H' ⟨ds, rfl, r⟩ (s.fix k1 k3 k2) (.lst (Or.inl upd_same) (dpall_mono (fun a o e => by rw [upd_ne (ne_of_none e k2)]; exact e) k4))
theorem VL.ed (h : VL C t Γ (Is ds)) : VE C t Γ (Is (.list ds)) := h.e.imp fun d ⟨es, e1, e2⟩ => by
  cases e2
  exact e1
theorem vv_own {i : Nat} (h : Γ[i]? = some (.own ds)) : VV C (tVar i) Γ (Is (.list ds)) := fun B H σ F Q q => by
  obtain ⟨p, vs, e, h1, h2, h3, h4⟩ := F.hasOwn h
  exact ⟨_, e, q _ _ B H rfl (Stp.refl F.sub) (Or.inr ⟨p, vs, ds, rfl, rfl, h1, h3, h4⟩)⟩
theorem ve_var {i : Nat} (h : Γ[i]? = some (.dat d)) : VE C (tVar i) Γ (Is d) := fun B H σ F Q q => by
  obtain ⟨v, e, k⟩ := F.has h
  exact ⟨v, e, q d v B H rfl (Stp.refl F.sub) k⟩
theorem ve_c {v : V} (h : ∀ B, Dq C.K B v d) : VE C (tC v) Γ (Is d) := fun B H σ F Q q => q d v B H rfl (Stp.refl F.sub) (h B)
theorem ve_int {i : Int} : VE C (tC (.int i)) Γ (Is (.int i)) := ve_c fun _ => .int i
theorem ve_bl {i : Bool} : VE C (tC (.bl i)) Γ (Is (.bool i)) := ve_c fun _ => .bl i
theorem ve_str {i : Str} : VE C (tC (.str i)) Γ (Is (.str i)) := ve_c fun _ => .str i
theorem ve_non : VE C (tC .non) Γ (Is .none) := ve_c fun _ => .non
/-! arguments -/
theorem va_nil : VA C tNil Γ (Is []) := fun B H σ F Q q => q [] [] B H rfl (Stp.refl F.sub) .nil
theorem va_cons {S : List D → Prop} (h : VE C te Γ R) (k : VA C A Γ S) : VA C (tCons te A) Γ (fun l => ∃ d ds, l = d :: ds ∧ R d ∧ S ds) := fun B H σ F Q q =>
  h B H σ F _ fun d v B1 H1 r s1 k1 => k B1 H1 σ (F.step s1) _ fun ds vs B2 H2 r2 s2 k2 => q _ _ B2 H2 ⟨d, ds, rfl, r, r2⟩ (s1.trans F.dlNow s2) (.cons (dp_mono s2.ext k1) k2)
theorem va_consD (h : VE C te Γ (Is d)) (k : VA C A Γ (Is ds)) : VA C (tCons te A) Γ (Is (d :: ds)) := (va_cons h k).imp fun l ⟨d', ds', e, e1, e2⟩ => by
  cases e1
  cases e2
  exact e
theorem vw_nil : VW C tNil Γ (Is []) := fun B H σ F Q q => q [] [] B H rfl (Stp.refl F.sub) .nil
theorem vw_cons {S : List D → Prop} (h : VV C te Γ R) (k : VW C A Γ S) : VW C (tCons te A) Γ (fun l => ∃ d ds, l = d :: ds ∧ R d ∧ S ds) := fun B H σ F Q q =>
  h B H σ F _ fun d v B1 H1 r s1 k1 => k B1 H1 σ (F.step s1) _ fun ds vs B2 H2 r2 s2 k2 => q _ _ B2 H2 ⟨d, ds, rfl, r, r2⟩ (s1.trans F.dlNow s2) (.cons (k1.step (F.step s1) s2) k2)
theorem VW.imp {S S' : List D → Prop} (h : VW C A Γ S) (i : ∀ d, S d → S' d) : VW C A Γ S' := fun B H σ F Q q => h B H σ F Q fun d v B' H' r s k => q d v B' H' (i d r) s k
theorem vw_consD (h : VV C te Γ (Is d)) (k : VW C A Γ (Is ds)) : VW C (tCons te A) Γ (Is (d :: ds)) := (vw_cons h k).imp fun l ⟨d', ds', e, e1, e2⟩ => by
  cases e1
  cases e2
  exact e
/-! displays -/
theorem sz5 {n : Nat} (h : n ≤ 100000) : n ≤ sizeLine := Nat.le_trans h (by decide)
theorem ve_tup {S : List D → Prop} (h : VA C A Γ S) (k : ∀ ds, S ds → ds.length ≤ 100000 ∧ R (.tuple ds)) : VE C (tTup A) Γ R := fun B H σ F Q q => h B H σ F _ fun ds vs B1 H1 r s1 k1 =>
  ⟨by rw [dpall_len k1]; exact sz5 (k ds r).1, fun p hp => q _ _ (upd B1 p (.tup vs)) _ (k ds r).2 (s1.trans F.dlNow (Stp.new (F.step s1).sub hp))
    (.tup (Or.inl (Or.inl upd_same)) (dpall_mono (Stp.new (dl := C.dl) (F.step s1).sub hp).ext k1))⟩
theorem ve_tupD (h : VA C A Γ (Is ds)) (k : ds.length ≤ 100000 := by first | decide | exact of_decide_eq_true rfl) : VE C (tTup A) Γ (Is (.tuple ds)) := ve_tup h fun es e => by
  cases e
  exact ⟨k, rfl⟩
theorem vl_lst {S : List D → Prop} (h : VA C A Γ S) (k : ∀ ds, S ds → ds.length ≤ 100000) : VL C (tLst A) Γ S := fun B H σ F Q q => h B H σ F _ fun ds vs B1 H1 r s1 k1 =>
  ⟨by rw [dpall_len k1]; exact sz5 (k ds r), fun p hp => q ds p vs B1 _ r (s1.trans F.dlNow (Stp.newM (F.step s1).sub hp)) (by
    cases e : H p with
    | none => rfl
    | some o => exact absurd hp (s1.there F.dlNow (by rw [e]; simp))) ((F.step s1).sub.free hp) upd_same k1⟩
theorem vl_lstD (h : VA C A Γ (Is ds)) (k : ds.length ≤ 100000 := by first | decide | exact of_decide_eq_true rfl) : VL C (tLst A) Γ (Is ds) := vl_lst h fun es e => by
  cases e
  exact k
/-! choices -/
theorem ve_if {S : Bool → Prop} (h : VT C tt Γ S) (h1 : S true → VE C ta Γ R) (h2 : S false → VE C tb Γ R) : VE C (tIf tt ta tb) Γ R := fun B H σ F Q q => h B H σ F _ fun b B1 H1 r s1 => by
  cases b with
  | true => exact iteT (h1 r B1 H1 σ (F.step s1) Q fun d v B2 H2 r2 s2 k => q d v B2 H2 r2 (s1.trans F.dlNow s2) k)
  | false => exact iteF (h2 r B1 H1 σ (F.step s1) Q fun d v B2 H2 r2 s2 k => q d v B2 H2 r2 (s1.trans F.dlNow s2) k)
theorem vv_if {S : Bool → Prop} (h : VT C tt Γ S) (h1 : S true → VV C ta Γ R) (h2 : S false → VV C tb Γ R) : VV C (tIf tt ta tb) Γ R := fun B H σ F Q q => h B H σ F _ fun b B1 H1 r s1 => by
  cases b with
  | true => exact iteT (h1 r B1 H1 σ (F.step s1) Q fun d v B2 H2 r2 s2 k => q d v B2 H2 r2 (s1.trans F.dlNow s2) k)
  | false => exact iteF (h2 r B1 H1 σ (F.step s1) Q fun d v B2 H2 r2 s2 k => q d v B2 H2 r2 (s1.trans F.dlNow s2) k)
theorem ve_ifD (h : VT C tt Γ (Is b)) (h1 : b = true → VE C ta Γ (Is x)) (h2 : b = false → VE C tb Γ (Is y)) : VE C (tIf tt ta tb) Γ (Is (if b = true then x else y)) :=
  ve_if h (fun e => by subst e; exact (h1 rfl).to (if_pos rfl).symm) (fun e => by subst e; exact (h2 rfl).to (if_neg Bool.false_ne_true).symm)
theorem ve_andV {S S' : Bool → Prop} (h : VE C ta Γ (fun d => ∃ b, d = .bool b ∧ S b)) (k : S true → VE C tb Γ (fun d => ∃ b, d = .bool b ∧ S' b)) (k2 : S false → S' false) :
    VE C (tAndV ta tb) Γ (fun d => ∃ b, d = .bool b ∧ S' b) := fun B H σ F Q q => h B H σ F _ fun d v B1 H1 ⟨b, e, r⟩ s1 k1 => by
  subst e
  obtain rfl := dp_bl k1
  refine ⟨b, rfl, ?_⟩
  cases b with
  | true => exact iteT (k r B1 H1 σ (F.step s1) Q fun d v B2 H2 r2 s2 k => q d v B2 H2 r2 (s1.trans F.dlNow s2) k)
  | false => exact iteF (q _ _ B1 H1 ⟨false, rfl, k2 r⟩ s1 (.bl false))
theorem ve_orV {S S' : Bool → Prop} (h : VE C ta Γ (fun d => ∃ b, d = .bool b ∧ S b)) (k : S false → VE C tb Γ (fun d => ∃ b, d = .bool b ∧ S' b)) (k2 : S true → S' true) :
    VE C (tOrV ta tb) Γ (fun d => ∃ b, d = .bool b ∧ S' b) := fun B H σ F Q q => h B H σ F _ fun d v B1 H1 ⟨b, e, r⟩ s1 k1 => by
  subst e
  obtain rfl := dp_bl k1
  refine ⟨b, rfl, ?_⟩
  cases b with
  | true => exact iteT (q _ _ B1 H1 ⟨true, rfl, k2 r⟩ s1 (.bl true))
  | false => exact iteF (k r B1 H1 σ (F.step s1) Q fun d v B2 H2 r2 s2 k => q d v B2 H2 r2 (s1.trans F.dlNow s2) k)
theorem ve_andD (h : VE C ta Γ (Is (.bool b))) (k : b = true → VE C tb Γ (Is (.bool c))) : VE C (tAndV ta tb) Γ (Is (.bool (b && c))) :=
  (ve_andV (S := Is b) (S' := Is (b && c)) (h.imp fun d e => ⟨b, e, rfl⟩) (fun e => (k e.symm).imp fun d e2 => ⟨c, e2, by rw [← e]; rfl⟩) (fun e => by rw [← e]; rfl)).imp fun d ⟨x, e1, e2⟩ => by
    cases e2
    exact e1
theorem ve_orD (h : VE C ta Γ (Is (.bool b))) (k : b = false → VE C tb Γ (Is (.bool c))) : VE C (tOrV ta tb) Γ (Is (.bool (b || c))) :=
  (ve_orV (S := Is b) (S' := Is (b || c)) (h.imp fun d e => ⟨b, e, rfl⟩) (fun e => (k e.symm).imp fun d e2 => ⟨c, e2, by rw [← e]; rfl⟩) (fun e => by rw [← e]; rfl)).imp fun d ⟨x, e1, e2⟩ => by
    cases e2
    exact e1
theorem ve_notD (h : VE C ta Γ (Is (.bool b))) : VE C (tNotV ta) Γ (Is (.bool (!b))) := fun B H σ F Q q => h B H σ F _ fun d v B1 H1 r s1 k1 => by
  cases r
  obtain rfl := dp_bl k1
  exact ⟨b, rfl, q _ _ B1 H1 rfl s1 (.bl _)⟩
/-! tests -/
theorem vt_test {S : Bool → Prop} (h : VE C te Γ (fun d => ∃ b, d = .bool b ∧ S b)) : VT C (tTest te) Γ S := fun B H σ F Q q => h B H σ F _ fun d v B1 H1 ⟨b, e, r⟩ s1 k1 => by
  subst e
  obtain rfl := dp_bl k1
  exact ⟨b, rfl, q b B1 H1 r s1⟩
theorem vt_testD (h : VE C te Γ (Is (.bool b))) : VT C (tTest te) Γ (Is b) := vt_test (h.imp fun d e => ⟨b, e, rfl⟩)
theorem vt_B {S : Bool → Prop} (h : VE C te Γ (fun d => ∃ b, d = .bool b ∧ S b)) : VT C (tB te) Γ S := fun B H σ F Q q => h B H σ F _ fun d v B1 H1 ⟨b, e, r⟩ s1 k1 => by
  subst e
  obtain rfl := dp_bl k1
  exact ⟨b, rfl, q b B1 H1 r s1⟩
theorem vt_BD (h : VE C te Γ (Is (.bool b))) : VT C (tB te) Γ (Is b) := vt_B (h.imp fun d e => ⟨b, e, rfl⟩)
theorem vt_and {S S' : Bool → Prop} (h : VT C tt Γ S) (k : S true → VT C tu Γ S') (k2 : S false → S' false) : VT C (tAnd tt tu) Γ S' := fun B H σ F Q q => h B H σ F _ fun b B1 H1 r s1 => by
  cases b with
  | true => exact iteT (k r B1 H1 σ (F.step s1) Q fun b B2 H2 r2 s2 => q b B2 H2 r2 (s1.trans F.dlNow s2))
  | false => exact iteF (q false B1 H1 (k2 r) s1)
theorem vt_or {S S' : Bool → Prop} (h : VT C tt Γ S) (k : S false → VT C tu Γ S') (k2 : S true → S' true) : VT C (tOr tt tu) Γ S' := fun B H σ F Q q => h B H σ F _ fun b B1 H1 r s1 => by
  cases b with
  | true => exact iteT (q true B1 H1 (k2 r) s1)
  | false => exact iteF (k r B1 H1 σ (F.step s1) Q fun b B2 H2 r2 s2 => q b B2 H2 r2 (s1.trans F.dlNow s2))
theorem vt_andD (h : VT C tt Γ (Is b)) (k : b = true → VT C tu Γ (Is c)) : VT C (tAnd tt tu) Γ (Is (b && c)) :=
  vt_and h (fun e => (k e.symm).imp fun x e2 => by rw [← e, e2]; rfl) fun e => by rw [← e]; rfl
theorem vt_orD (h : VT C tt Γ (Is b)) (k : b = false → VT C tu Γ (Is c)) : VT C (tOr tt tu) Γ (Is (b || c)) :=
  vt_or h (fun e => (k e.symm).imp fun x e2 => by rw [← e, e2]; rfl) fun e => by rw [← e]; rfl
theorem vt_not {S : Bool → Prop} (h : VT C tt Γ (fun b => S (!b))) : VT C (tNot tt) Γ S := fun B H σ F Q q => h B H σ F _ fun b B1 H1 r s1 => q (!b) B1 H1 r s1
theorem vt_notD (h : VT C tt Γ (Is b)) : VT C (tNot tt) Γ (Is (!b)) := vt_not (h.imp fun x e => congrArg (!·) e)
/-! parts of slices -/
theorem vo_none : VO C tNoPart Γ (Is none) := fun B H σ F Q q => q none B H rfl (Stp.refl F.sub)
theorem vo_some {S : Int → Prop} (h : VE C te Γ (fun d => ∃ i, d = .int i ∧ S i)) : VO C (tPart te) Γ (fun o => ∃ i, o = some i ∧ S i) := fun B H σ F Q q => h B H σ F _ fun d v B1 H1 ⟨i, e, r⟩ s1 k1 => by
  subst e
  obtain rfl := dp_int k1
  exact ⟨i, rfl, q _ B1 H1 ⟨i, rfl, r⟩ s1⟩
theorem vo_someD {i : Int} (h : VE C te Γ (Is (.int i))) : VO C (tPart te) Γ (Is (some i)) := fun B H σ F Q q => vo_some (S := Is i) (h.imp fun d e => ⟨i, e, rfl⟩) B H σ F Q fun o B1 H1 ⟨j, e, r⟩ s1 => by
  cases r
  exact q o B1 H1 e s1

/-! ### operations by data -/
/-- an operation of two values gives data | a new list -/
def OD (C : Cn) (r : R2) (x y : D) (R : D → Prop) : Prop := ∀ B H v u, Same B H → Vw C B H v x → Vw C B H u y → ∀ Q : VK, (∀ d w B' H', R d → Stp C.dl B H B' H' → Dq C.K B' w d → Q w H') → r v u H Q
def OL (C : Cn) (r : R2) (x y : D) (R : List D → Prop) : Prop := ∀ B H v u, Same B H → Vw C B H v x → Vw C B H u y → ∀ Q : VK,
  (∀ ds p vs B' H', R ds → Stp C.dl B H B' H' → H p = none → B' p = none → H' p = some (.lst vs) → DqAll C.K B' vs ds → Q (.ref p) H') → r v u H Q
def UD (C : Cn) (r : V → Hp → VK → Prop) (x : D) (R : D → Prop) : Prop := ∀ B H v, Same B H → Vw C B H v x → ∀ Q : VK, (∀ d w B' H', R d → Stp C.dl B H B' H' → Dq C.K B' w d → Q w H') → r v H Q
/-- a call of a built-in gives data | a new list -/
def CD (C : Cn) (r : List V → Hp → VK → Prop) (xs : List D) (R : D → Prop) : Prop := ∀ B H vs, Same B H → VwAll C B H vs xs → ∀ Q : VK, (∀ d w B' H', R d → Stp C.dl B H B' H' → Dq C.K B' w d → Q w H') → r vs H Q
def CL (C : Cn) (r : List V → Hp → VK → Prop) (xs : List D) (R : List D → Prop) : Prop := ∀ B H vs, Same B H → VwAll C B H vs xs → ∀ Q : VK,
  (∀ ds p us B' H', R ds → Stp C.dl B H B' H' → H p = none → B' p = none → H' p = some (.lst us) → DqAll C.K B' us ds → Q (.ref p) H') → r vs H Q
variable {r : R2} {rc : List V → Hp → VK → Prop} {ru : V → Hp → VK → Prop}
theorem ve_op (h : VV C ta Γ Ra) (k : VV C tb Γ Rb) (o : ∀ x y, Ra x → Rb y → OD C r x y R) : VE C (tOp r ta tb) Γ R := fun B H σ F Q q => h B H σ F _ fun x v B1 H1 r1 s1 k1 =>
  k B1 H1 σ (F.step s1) _ fun y u B2 H2 r2 s2 k2 => o x y r1 r2 B2 H2 v u ((F.step s1).step s2).sub (k1.step (F.step s1) s2) k2 Q fun d w B3 H3 r3 s3 k3 => q d w B3 H3 r3 ((s1.trans F.dlNow s2).trans F.dlNow s3) k3
theorem ve_opD (h : VV C ta Γ (Is x)) (k : VV C tb Γ (Is y)) (o : OD C r x y R) : VE C (tOp r ta tb) Γ R := ve_op h k fun x y e1 e2 => by
  cases e1
  cases e2
  exact o
theorem back_none {B H B' H' : Hp} {σ : L2.St} {p : Addr} (F : Fm C B H σ Γ) (s : Stp C.dl B H B' H') (h : H' p = none) : H p = none := by
  cases e : H p with
  | none => rfl
  | some o => exact absurd h (s.there F.dlNow (by rw [e]; simp))
theorem vl_op {S : List D → Prop} (h : VV C ta Γ Ra) (k : VV C tb Γ Rb) (o : ∀ x y, Ra x → Rb y → OL C r x y S) : VL C (tOp r ta tb) Γ S := fun B H σ F Q q => h B H σ F _ fun x v B1 H1 r1 s1 k1 =>
  k B1 H1 σ (F.step s1) _ fun y u B2 H2 r2 s2 k2 => o x y r1 r2 B2 H2 v u ((F.step s1).step s2).sub (k1.step (F.step s1) s2) k2 Q fun ds p vs B3 H3 r3 s3 e1 e2 e3 e4 =>
    q ds p vs B3 H3 r3 ((s1.trans F.dlNow s2).trans F.dlNow s3) (back_none F (s1.trans F.dlNow s2) e1) e2 e3 e4
theorem vl_opD {S : List D → Prop} (h : VV C ta Γ (Is x)) (k : VV C tb Γ (Is y)) (o : OL C r x y S) : VL C (tOp r ta tb) Γ S := vl_op h k fun x y e1 e2 => by
  cases e1
  cases e2
  exact o
theorem ve_un (h : VV C ta Γ Ra) (o : ∀ x, Ra x → UD C ru x R) : VE C (tUn ru ta) Γ R := fun B H σ F Q q => h B H σ F _ fun x v B1 H1 r1 s1 k1 =>
  o x r1 B1 H1 v (F.step s1).sub k1 Q fun d w B3 H3 r3 s3 k3 => q d w B3 H3 r3 (s1.trans F.dlNow s3) k3
theorem ve_cb {S : List D → Prop} (h : VW C A Γ S) (o : ∀ xs, S xs → CD C rc xs R) : VE C (tCB rc A) Γ R := fun B H σ F Q q => h B H σ F _ fun xs vs B1 H1 r1 s1 k1 =>
  o xs r1 B1 H1 vs (F.step s1).sub k1 Q fun d w B3 H3 r3 s3 k3 => q d w B3 H3 r3 (s1.trans F.dlNow s3) k3
theorem ve_cbD (h : VW C A Γ (Is ds)) (o : CD C rc ds R) : VE C (tCB rc A) Γ R := ve_cb h fun xs e => by
  cases e
  exact o
theorem vl_cb {S S' : List D → Prop} (h : VW C A Γ S) (o : ∀ xs, S xs → CL C rc xs S') : VL C (tCB rc A) Γ S' := fun B H σ F Q q => h B H σ F _ fun xs vs B1 H1 r1 s1 k1 =>
  o xs r1 B1 H1 vs (F.step s1).sub k1 Q fun ds p us B3 H3 r3 s3 e1 e2 e3 e4 => q ds p us B3 H3 r3 (s1.trans F.dlNow s3) (back_none F s1 e1) e2 e3 e4
theorem vl_cbD {S' : List D → Prop} (h : VW C A Γ (Is ds)) (o : CL C rc ds S') : VL C (tCB rc A) Γ S' := vl_cb h fun xs e => by
  cases e
  exact o
end

/-! ### what a loop walks, what takes a value -/
/-- the things that come, one after another; each for good -/
def VI (C : Cn) (wi : TI) (Γ : List Sl) (R : List D → Prop) : Prop := ∀ B H σ, Fm C B H σ Γ → ∀ T : It → Hp → Prop, (∀ ds J B1 H1 G Y, R ds → Stp C.dl B H B1 H1 → Walk J ds.length G Y →
  (∀ B2 H2, Same B1 B2 → Same B2 H2 → G H2) →
  (∀ i x H2 H2', Y i H2 x H2' → ∀ B2 d, Same B1 B2 → Same B2 H2 → ds[i]? = some d → ∃ B2', Stp C.dl B2 H2 B2' H2' ∧ Dq C.K B2' x d) → T J H1) → wi σ H T
/-- a target takes data; only the slots js change -/
structure VG (C : Cn) (g : TG) (d : D) (Γ Γ' : List Sl) (js : List Nat) : Prop where
  run : ∀ {B H σ v}, Fm C B H σ Γ → Dq C.K B v d → ∀ Q : L2.St → Hp → Prop, (∀ σ', σ'.length = σ.length → (∀ i, i ∉ js → σ'[i]? = σ[i]?) → Fm C B H σ' Γ' → Q σ' H) → g v σ H Q
  own : ∀ (j : Nat) es, Γ'[j]? = some (.own es) → Γ[j]? = some (.own es) ∧ j ∉ js
structure VGs (C : Cn) (gs : TGs) (ds : List D) (Γ Γ' : List Sl) (js : List Nat) : Prop where
  run : ∀ {B H σ vs}, Fm C B H σ Γ → DqAll C.K B vs ds → ∀ Q : L2.St → Hp → Prop, (∀ σ', σ'.length = σ.length → (∀ i, i ∉ js → σ'[i]? = σ[i]?) → Fm C B H σ' Γ' → Q σ' H) → gs vs σ H Q
  own : ∀ (j : Nat) es, Γ'[j]? = some (.own es) → Γ[j]? = some (.own es) ∧ j ∉ js
section
variable {C : Cn} {Γ Γ' Γ1 : List Sl} {d e : D} {ds : List D} {i j n : Nat} {g g' : TG} {gs : TGs} {js ks : List Nat}
theorem vg_name : VG C (gName i) d Γ (Γ.set i (.dat d)) [i] := by
  refine ⟨fun F h Q q => q _ (List.length_set ..) (fun j hj => by rw [List.getElem?_set_ne (fun z => hj (by simp [z]))]) (F.set h), fun j es h => ?_⟩
  by_cases hj : i = j
  · subst hj
    have hl : i < Γ.length := by
      have := (List.getElem?_eq_some_iff.mp h).1
      rw [List.length_set] at this
      exact this
    rw [List.getElem?_set_self hl] at h
    cases h
  · rw [List.getElem?_set_ne hj] at h
    exact ⟨h, fun z => hj (List.mem_singleton.mp z).symm⟩
theorem vgs_nil : VGs C gNil [] Γ Γ [] := ⟨fun {B H σ vs} F h Q q => by
  cases h
  exact ⟨rfl, q σ rfl (fun _ _ => rfl) F⟩, fun j es h => ⟨h, fun z => nomatch z⟩⟩
theorem vgs_cons (h : VG C g d Γ Γ1 js) (k : VGs C gs ds Γ1 Γ' ks) : VGs C (gCons g gs) (d :: ds) Γ Γ' (js ++ ks) := by
  refine ⟨fun {B H σ vs} F hd Q q => ?_, fun j es hj => ?_⟩
  · cases hd with
    | cons h1 h2 =>
      refine ⟨_, _, rfl, h.run F h1 _ fun σ1 l1 e1 F1 => k.run F1 h2 _ fun σ2 l2 e2 F2 => q σ2 (l2.trans l1) (fun i hi => ?_) F2⟩
      rw [e2 i (fun z => hi (List.mem_append_right _ z)), e1 i (fun z => hi (List.mem_append_left _ z))]
  · obtain ⟨k1, k2⟩ := k.own j es hj
    obtain ⟨h1, h2⟩ := h.own j es k1
    exact ⟨h1, fun z => (List.mem_append.mp z).elim h2 k2⟩
theorem vg_tup (h : VGs C gs ds Γ Γ' js) (n1 : ds.length = n) : VG C (gTup C.K n gs) (.tuple ds) Γ Γ' js := by
  refine ⟨fun {B H σ v} F hd Q q => ?_, h.own⟩
  obtain ⟨a, xs, rfl, h1, h2⟩ := dp_tup hd
  exact ⟨a, xs, rfl, same_t F.sub h1, (dpall_len h2).trans n1, h.run F h2 Q q⟩
theorem vg_tup2 {g1 g2 : TG} {d1 d2 : D} {Γ1 Γ2 : List Sl} {j1 j2 : List Nat} (h1 : VG C g1 d1 Γ Γ1 j1) (h2 : VG C g2 d2 Γ1 Γ2 j2) : VG C (gTup C.K 2 (gCons g1 (gCons g2 gNil))) (.tuple [d1, d2]) Γ Γ2 (j1 ++ (j2 ++ [])) :=
  vg_tup (vgs_cons h1 (vgs_cons h2 vgs_nil)) rfl
end
end Ly

/-! LyD: statements (VS), loops, comprehensions, what a def promises (Pu, De). -/
namespace Ly
open PySem PySem.Spec PyProof.Rows L2

structure Po where
  nx : List Sl → Prop
  rt : D → Prop
  bk : List Sl → Prop := fun _ => False
  ct : List Sl → Prop := fun _ => False

/-- a statement, from what the names hold -/
def VS (C : Cn) (t : TS) (Γ : List Sl) (P : Po) : Prop := ∀ B H σ (E : Ends), Fm C B H σ Γ →
  (∀ Γ' B' H' σ', P.nx Γ' → Same B B' → Fm C B' H' σ' Γ' → E.nx σ' H') →
  (∀ d v B' H', P.rt d → Stp C.dl C.B C.H B' H' → Dq C.K B' v d → E.rt v H') →
  (∀ Γ' B' H' σ', P.bk Γ' → Same B B' → Fm C B' H' σ' Γ' → E.bk σ' H') →
  (∀ Γ' B' H' σ', P.ct Γ' → Same B B' → Fm C B' H' σ' Γ' → E.ct σ' H') → t E σ H

section
variable {C : Cn} {t u : TS} {te ta tb : TE} {tt : TT} {A : TA} {Γ Γ' : List Sl} {P P' : Po} {R : D → Prop} {S : List D → Prop} {i j : Nat} {d : D} {ds : List D}
theorem VS.imp (h : VS C t Γ P) (h1 : ∀ Γ, P.nx Γ → P'.nx Γ) (h2 : ∀ d, P.rt d → P'.rt d) (h3 : ∀ Γ, P.bk Γ → P'.bk Γ) (h4 : ∀ Γ, P.ct Γ → P'.ct Γ) : VS C t Γ P' := fun B H σ E F n r b c =>
  h B H σ E F (fun Γ' B' H' σ' p => n Γ' B' H' σ' (h1 _ p)) (fun d v B' H' p => r d v B' H' (h2 _ p)) (fun Γ' B' H' σ' p => b Γ' B' H' σ' (h3 _ p)) fun Γ' B' H' σ' p => c Γ' B' H' σ' (h4 _ p)
theorem vs_next (h : P.nx Γ) : VS C tNext Γ P := fun B H σ E F n r b c => n Γ B H σ h (Same.refl B) F
theorem vs_brk (h : P.bk Γ) : VS C tBreak Γ P := fun B H σ E F n r b c => b Γ B H σ h (Same.refl B) F
theorem vs_cont (h : P.ct Γ) : VS C tCont Γ P := fun B H σ E F n r b c => c Γ B H σ h (Same.refl B) F
theorem vs_seq (M : List Sl → Prop) (h : VS C t Γ { P with nx := M }) (k : ∀ Γ', M Γ' → VS C u Γ' P) : VS C (tSeq t u) Γ P := fun B H σ E F n r b c =>
  h B H σ { E with nx := u E } F (fun Γ' B' H' σ' m s F' => k Γ' m B' H' σ' E F' (fun Γ2 B2 H2 σ2 p s2 => n Γ2 B2 H2 σ2 p (s.trans s2)) r (fun Γ2 B2 H2 σ2 p s2 => b Γ2 B2 H2 σ2 p (s.trans s2)) fun Γ2 B2 H2 σ2 p s2 => c Γ2 B2 H2 σ2 p (s.trans s2)) r b c
/-- the next statement is looked at with just these slots -/
theorem vs_then (Γ' : List Sl) (h : VS C t Γ { P with nx := Is Γ' }) (k : VS C u Γ' P) : VS C (tSeq t u) Γ P := vs_seq (Is Γ') h fun _ e => by
  cases e
  exact k
theorem vs_asg (h : VE C te Γ R) (k : ∀ d, R d → P.nx (Γ.set i (.dat d))) : VS C (tAsg te (gName i)) Γ P := fun B H σ E F n r b c => h B H σ F _ fun d v B' H' rd s kd =>
  n _ B' H' _ (k d rd) s.ext ((F.step s).set kd)
theorem vq_asg (h : VE C te Γ R) (k : ∀ d, R d → VS C u (Γ.set i (.dat d)) P) : VS C (tSeq (tAsg te (gName i)) u) Γ P :=
  vs_seq (fun Γ' => ∃ d, R d ∧ Γ' = Γ.set i (.dat d)) (vs_asg h fun d r => ⟨d, r, rfl⟩) fun Γ' ⟨d, r, e⟩ => by
    subst e
    exact k d r
theorem vq_asgD (h : VE C te Γ (Is d)) (k : VS C u (Γ.set i (.dat d)) P) : VS C (tSeq (tAsg te (gName i)) u) Γ P := vq_asg h fun _ e => by
  cases e
  exact k
theorem vs_asgD (h : VE C te Γ (Is d)) (k : P.nx (Γ.set i (.dat d))) : VS C (tAsg te (gName i)) Γ P := vs_asg h fun _ e => by
  cases e
  exact k
/-- a target of any form -/
theorem vs_asgG {g : TG} (h : VE C te Γ R) (k : ∀ d, R d → ∃ Γ' js, VG C g d Γ Γ' js ∧ P.nx Γ') : VS C (tAsg te g) Γ P := fun B H σ E F n r b c => h B H σ F _ fun d v B' H' rd s kd => by
  obtain ⟨Γ', js, hg, p⟩ := k d rd
  exact hg.run (F.step s) kd _ fun σ' _ _ F' => n Γ' B' H' σ' p s.ext F'
/-- a new list of one's own -/
theorem vs_own (h : VL C te Γ S) (k : ∀ ds, S ds → P.nx (Γ.set i (.own ds))) : VS C (tAsg te (gName i)) Γ P := fun B H σ E F n r b c => h B H σ F _ fun ds p vs B' H' rd s k1 k2 k3 k4 =>
  n _ B' H' _ (k ds rd) s.ext ((F.step s).setOwn (F.newC k1) k2 k3 k4 fun j es _ hj => F.noOwn k1 hj)
theorem vq_own (h : VL C te Γ S) (k : ∀ ds, S ds → VS C u (Γ.set i (.own ds)) P) : VS C (tSeq (tAsg te (gName i)) u) Γ P :=
  vs_seq (fun Γ' => ∃ d, S d ∧ Γ' = Γ.set i (.own d)) (vs_own h fun d r => ⟨d, r, rfl⟩) fun Γ' ⟨d, r, e⟩ => by
    subst e
    exact k d r
theorem vq_ownD (h : VL C te Γ (Is ds)) (k : VS C u (Γ.set i (.own ds)) P) : VS C (tSeq (tAsg te (gName i)) u) Γ P := vq_own h fun _ e => by
  cases e
  exact k
theorem vs_ret (h : VE C te Γ P.rt) : VS C (tRet te) Γ P := fun B H σ E F n r b c => h B H σ F _ fun d v B' H' rd s kd => r d v B' H' rd (F.st.trans (fun p q e => (F.dl p q e).1) s) kd
theorem vs_retD (h : VE C te Γ (Is d)) (k : P.rt d) : VS C (tRet te) Γ P := vs_ret (h.imp fun _ e => e ▸ k)
/-- from now on one's own list stands for good -/
theorem vs_freeze (i : Nat) (hi : Γ[i]? = some (.own ds)) (k : VS C t (Γ.set i (.dat (.list ds))) P) : VS C t Γ P := fun B H σ E F n r b c => by
  obtain ⟨B', _, s2, F'⟩ := F.freeze hi
  exact k B' H σ E F' (fun Γ2 B2 H2 σ2 p s => n Γ2 B2 H2 σ2 p (s2.trans s)) r (fun Γ2 B2 H2 σ2 p s => b Γ2 B2 H2 σ2 p (s2.trans s)) fun Γ2 B2 H2 σ2 p s => c Γ2 B2 H2 σ2 p (s2.trans s)
theorem vs_retOwn (i : Nat) (hi : Γ[i]? = some (.own ds)) (k : P.rt (.list ds)) : VS C (tRet (tVar i)) Γ P :=
  vs_freeze i hi (vs_retD (ve_var (List.getElem?_set_self (List.getElem?_eq_some_iff.mp hi).1)) k)
theorem vs_if {Q : Bool → Prop} (h : VT C tt Γ Q) (h1 : Q true → VS C t Γ P) (h2 : Q false → VS C u Γ P) : VS C (tIfS tt t u) Γ P := fun B H σ E F n r b c => h B H σ F _ fun x B' H' q s => by
  cases x with
  | true => exact iteT (h1 q B' H' σ E (F.step s) (fun Γ2 B2 H2 σ2 p s2 => n Γ2 B2 H2 σ2 p (s.ext.trans s2)) r (fun Γ2 B2 H2 σ2 p s2 => b Γ2 B2 H2 σ2 p (s.ext.trans s2)) fun Γ2 B2 H2 σ2 p s2 => c Γ2 B2 H2 σ2 p (s.ext.trans s2))
  | false => exact iteF (h2 q B' H' σ E (F.step s) (fun Γ2 B2 H2 σ2 p s2 => n Γ2 B2 H2 σ2 p (s.ext.trans s2)) r (fun Γ2 B2 H2 σ2 p s2 => b Γ2 B2 H2 σ2 p (s.ext.trans s2)) fun Γ2 B2 H2 σ2 p s2 => c Γ2 B2 H2 σ2 p (s.ext.trans s2))
theorem vs_ifD {x : Bool} (h : VT C tt Γ (Is x)) (h1 : x = true → VS C t Γ P) (h2 : x = false → VS C u Γ P) : VS C (tIfS tt t u) Γ P := vs_if h (fun e => h1 e.symm) fun e => h2 e.symm
/-- an if that leaves or goes on to the rest -/
theorem vq_if {Q : Bool → Prop} {t2 : TS} (h : VT C tt Γ Q) (h1 : Q true → VS C (tSeq t u) Γ P) (h2 : Q false → VS C (tSeq t2 u) Γ P) : VS C (tSeq (tIfS tt t t2) u) Γ P := fun B H σ E F n r b c => h B H σ F _ fun x B' H' q s => by
  cases x with
  | true => exact iteT (h1 q B' H' σ E (F.step s) (fun Γ2 B2 H2 σ2 p s2 => n Γ2 B2 H2 σ2 p (s.ext.trans s2)) r (fun Γ2 B2 H2 σ2 p s2 => b Γ2 B2 H2 σ2 p (s.ext.trans s2)) fun Γ2 B2 H2 σ2 p s2 => c Γ2 B2 H2 σ2 p (s.ext.trans s2))
  | false => exact iteF (h2 q B' H' σ E (F.step s) (fun Γ2 B2 H2 σ2 p s2 => n Γ2 B2 H2 σ2 p (s.ext.trans s2)) r (fun Γ2 B2 H2 σ2 p s2 => b Γ2 B2 H2 σ2 p (s.ext.trans s2)) fun Γ2 B2 H2 σ2 p s2 => c Γ2 B2 H2 σ2 p (s.ext.trans s2))
theorem vq_ifD {x : Bool} {t2 : TS} (h : VT C tt Γ (Is x)) (h1 : x = true → VS C (tSeq t u) Γ P) (h2 : x = false → VS C (tSeq t2 u) Γ P) : VS C (tSeq (tIfS tt t t2) u) Γ P := vq_if h (fun e => h1 e.symm) fun e => h2 e.symm
/-- a statement that leaves: what stands behind it is not come to -/
theorem vq_leave (h : VS C t Γ { P with nx := fun _ => False }) : VS C (tSeq t u) Γ P := vs_seq (fun _ => False) h fun _ e => e.elim
theorem vq_next (h : VS C u Γ P) : VS C (tSeq tNext u) Γ P := vs_then Γ (vs_next rfl) h
theorem vs_drop (h : VV C te Γ R) (k : P.nx Γ) : VS C (tDrop te) Γ P := fun B H σ E F n r b c => h B H σ F _ fun d v B' H' rd s kd => n Γ B' H' σ k s.ext (F.step s)
theorem own_ty {K : PySem.W.Frag} {H : Hp} {p : Addr} {vs : List V} (h : H p = some (.lst vs)) : tyV K "list" (.ref p) H := Or.inl ⟨rfl, vs, Or.inl (Or.inl h)⟩
theorem sz6 {n : Nat} (h : n < 100000) : n < sizeLine := Nat.lt_of_lt_of_le h (by decide)
/-- xs.append(e) -/
theorem vs_app (hi : Γ[i]? = some (.own ds)) (h : VE C te Γ R) (hz : ds.length < 100000) (k : ∀ d, R d → P.nx (Γ.set i (.own (ds ++ [d])))) : VS C (tDrop (tBM C.K "list" rAppend (tVar i) (tCons te tNil))) Γ P := fun B H σ E F n r b c => by
  obtain ⟨p, vs, e, hC, hB, hp, hd⟩ := F.hasOwn hi
  refine ⟨.ref p, e, own_ty hp, h B H σ F _ fun d v B' H' rd s kd => ?_⟩
  have hp' := s.keep p _ hp (F.notMd hC)
  refine ⟨p, vs, v, rfl, rfl, hp', sz6 (by rw [dpall_len hd]; exact hz), ?_⟩
  exact n _ B' _ σ (k d rd) s.ext ((F.step s).mutOwn hi e (dpall_app (dpall_mono s.ext hd) (dpall_one kd)))
theorem vq_app (hi : Γ[i]? = some (.own ds)) (h : VE C te Γ R) (hz : ds.length < 100000) (k : ∀ d, R d → VS C u (Γ.set i (.own (ds ++ [d]))) P) : VS C (tSeq (tDrop (tBM C.K "list" rAppend (tVar i) (tCons te tNil))) u) Γ P :=
  vs_seq (fun Γ' => ∃ d, R d ∧ Γ' = Γ.set i (.own (ds ++ [d]))) (vs_app hi h hz fun d r => ⟨d, r, rfl⟩) fun Γ' ⟨d, r, e⟩ => by
    subst e
    exact k d r
/-- xs[e1] = e2 -/
theorem vs_setAt {k : Nat} {z : Int} (hi : Γ[i]? = some (.own ds)) (h : VE C te Γ R) (hx : VE C ta Γ (Is (.int z))) (hk : ixN ds.length z = some k) (q : ∀ d, R d → P.nx (Γ.set i (.own (ds.set k d)))) :
    VS C (tAsg te (gSub (tVar i) ta rSetL)) Γ P := fun B H σ E F n r b c => h B H σ F _ fun d v B1 H1 rd s kd => by
  obtain ⟨p, vs, e, hC, hB, hp, hd⟩ := F.hasOwn hi
  have F1 := F.step s
  refine ⟨.ref p, e, hx B1 H1 σ F1 _ fun x w B2 H2 ex s2 k2 => ?_⟩
  cases ex
  obtain rfl := dp_int k2
  have hp' := s2.keep p _ (s.keep p _ hp (F.notMd hC)) (F.notMd hC)
  refine ⟨p, vs, z, k, rfl, rfl, hp', by rw [dpall_len hd]; exact hk, ?_⟩
  exact n _ B2 _ σ (q d rd) (s.ext.trans s2.ext) ((F1.step s2).mutOwn hi e (dpall_set (dp_mono s2.ext kd) k (dpall_mono (s.ext.trans s2.ext) hd)))
/-- x += e, of ints -/
theorem vs_aug {ti : TIp} {a : D} (ha : Γ[i]? = some (.dat a)) (h : VE C te Γ R) (hr : ∀ d, R d → ∃ z, OD C ti a d (Is z) ∧ P.nx (Γ.set i (.dat z))) : VS C (tAug i te ti) Γ P := fun B H σ E F n r b c => by
  obtain ⟨v, e, hv⟩ := F.has ha
  refine ⟨v, e, h B H σ F _ fun d w B1 H1 rd s kd => ?_⟩
  obtain ⟨z, ho, hp⟩ := hr d rd
  exact ho B1 H1 v w (F.step s).sub (Or.inl (dp_mono s.ext hv)) (Or.inl kd) _ fun z' w' B2 H2 ez s2 k2 => by
    cases ez
    exact n _ B2 H2 _ hp (s.ext.trans s2.ext) (((F.step s).step s2).set k2)
/-! a, b = e1, e2: data or new lists -/
theorem vs_parEE {R2 : D → Prop} (h1 : VE C ta Γ R) (h2 : VE C tb Γ R2) (k : ∀ x y, R x → R2 y → P.nx ((Γ.set i (.dat x)).set j (.dat y))) : VS C (tPar i j (tCons ta (tCons tb tNil))) Γ P := fun B H σ E F n r b c =>
  h1 B H σ F _ fun x v B1 H1 r1 s1 k1 => h2 B1 H1 σ (F.step s1) _ fun y w B2 H2 r2 s2 k2 => ⟨v, w, rfl, n _ B2 H2 _ (k x y r1 r2) (s1.ext.trans s2.ext) ((((F.step s1).step s2).set (dp_mono s2.ext k1)).set k2)⟩
theorem vs_parLE {R2 : D → Prop} (h1 : VL C ta Γ S) (h2 : VE C tb Γ R2) (k : ∀ x y, S x → R2 y → P.nx ((Γ.set i (.own x)).set j (.dat y))) : VS C (tPar i j (tCons ta (tCons tb tNil))) Γ P := fun B H σ E F n r b c =>
  h1 B H σ F _ fun ds p vs B1 H1 r1 s1 e1 e2 e3 e4 => h2 B1 H1 σ (F.step s1) _ fun y w B2 H2 r2 s2 k2 => ⟨_, w, rfl, n _ B2 H2 _ (k ds y r1 r2) (s1.ext.trans s2.ext) ((((F.step s1).step s2).setOwn (F.newC e1) (s2.out p (by rw [e3]; simp) e2)
    (s2.keep p _ e3 (F.notMd (F.newC e1))) (dpall_mono s2.ext e4) fun j es _ hj => F.noOwn e1 hj).set k2)⟩
theorem vs_parEL {R2 : D → Prop} (h1 : VE C ta Γ R2) (h2 : VL C tb Γ S) (k : ∀ x y, R2 x → S y → P.nx ((Γ.set i (.dat x)).set j (.own y))) : VS C (tPar i j (tCons ta (tCons tb tNil))) Γ P := fun B H σ E F n r b c =>
  h1 B H σ F _ fun x v B1 H1 r1 s1 k1 => h2 B1 H1 σ (F.step s1) _ fun ds p vs B2 H2 r2 s2 e1 e2 e3 e4 => ⟨v, _, rfl, n _ B2 H2 _ (k x ds r1 r2) (s1.ext.trans s2.ext) ((((F.step s1).step s2).set (dp_mono s2.ext k1)).setOwn ((F.step s1).newC e1) e2 e3 e4
    fun j' es nj hj => by
      by_cases hij : i = j'
      · subst hij
        by_cases hl : i < Γ.length
        · rw [List.getElem?_set_self hl] at hj
          cases hj
        · rw [List.getElem?_eq_none_iff.mpr (by rw [List.length_set]; omega)] at hj
          cases hj
      · rw [List.getElem?_set_ne hij] at hj
        rw [List.getElem?_set_ne hij]
        exact (F.step s1).noOwn e1 hj)⟩
theorem vs_parLL {S2 : List D → Prop} (h1 : VL C ta Γ S) (h2 : VL C tb Γ S2) (k : ∀ x y, S x → S2 y → P.nx ((Γ.set i (.own x)).set j (.own y))) : VS C (tPar i j (tCons ta (tCons tb tNil))) Γ P := fun B H σ E F n r b c =>
  h1 B H σ F _ fun ds p vs B1 H1 r1 s1 e1 e2 e3 e4 => h2 B1 H1 σ (F.step s1) _ fun es q us B2 H2 r2 s2 g1 g2 g3 g4 => ⟨_, _, rfl, n _ B2 H2 _ (k ds es r1 r2) (s1.ext.trans s2.ext) ((((F.step s1).step s2).setOwn (F.newC e1) (s2.out p (by rw [e3]; simp) e2)
    (s2.keep p _ e3 (F.notMd (F.newC e1))) (dpall_mono s2.ext e4) fun j es _ hj => F.noOwn e1 hj).setOwn ((F.step s1).newC g1) g2 g3 g4 fun j' xs nj hj => by
      by_cases hij : i = j'
      · subst hij
        by_cases hl : i < σ.length
        · rw [List.getElem?_set_self hl]
          intro z
          injection z with z
          injection z with z
          injection z with z
          subst z
          rw [e3] at g1
          cases g1
        · rw [List.getElem?_eq_none_iff.mpr (by rw [List.length_set]; omega)]
          exact fun z => nomatch z
      · rw [List.getElem?_set_ne hij] at hj
        rw [List.getElem?_set_ne hij]
        exact (F.step s1).noOwn g1 hj)⟩
/-! ### loops -/
/-- while: W by a measure -/
theorem vs_while (W : Nat → List Sl → Prop) (m0 : Nat) (h0 : W m0 Γ) (hs : ∀ m Γ', W m Γ' → ∃ Q : Bool → Prop, VT C tt Γ' Q ∧
    (Q true → VS C t Γ' { nx := fun Γ2 => ∃ m', m' < m ∧ W m' Γ2, rt := P.rt, bk := P.nx, ct := fun Γ2 => ∃ m', m' < m ∧ W m' Γ2 }) ∧ (Q false → P.nx Γ')) : VS C (tWhile tt t) Γ P := fun B H σ E F n r b c => by
  refine ⟨fun m σ' H' => ∃ Γ' B', W m Γ' ∧ Same B B' ∧ Fm C B' H' σ' Γ', ⟨m0, Γ, B, h0, Same.refl B, F⟩, ?_⟩
  rintro m σ1 H1 ⟨Γ1, B1, w, s, F1⟩
  obtain ⟨Q, hq, h1, h2⟩ := hs m Γ1 w
  refine hq B1 H1 σ1 F1 _ fun x B2 H2 q s2 => ?_
  cases x with
  | true =>
    refine iteT ⟨fun σ' H' => ∃ m', m' < m ∧ ∃ Γ' B', W m' Γ' ∧ Same B B' ∧ Fm C B' H' σ' Γ', fun σ' H' h => h, ?_⟩
    have nxt : ∀ Γ' B' H' σ', (∃ m', m' < m ∧ W m' Γ') → Same B2 B' → Fm C B' H' σ' Γ' → ∃ m', m' < m ∧ ∃ Γ' B', W m' Γ' ∧ Same B B' ∧ Fm C B' H' σ' Γ' :=
      fun Γ' B' H' σ' ⟨m', l, w'⟩ s' F' => ⟨m', l, Γ', B', w', (s.trans s2.ext).trans s', F'⟩
    exact h1 q B2 H2 σ1 _ (F1.step s2) nxt r (fun Γ' B' H' σ' p s' F' => n Γ' B' H' σ' p ((s.trans s2.ext).trans s') F') nxt
  | false => exact iteF (n Γ1 B2 H2 σ1 (h2 q) (s.trans s2.ext) (F1.step s2))
/-- for: Inv by the turn -/
theorem vs_for {wi : TI} {g : TG} (h : VI C wi Γ S) (k : ∀ ds, S ds → ∃ Inv : Nat → List Sl → Prop, Inv 0 Γ ∧ (∀ (i : Nat) d Γ', ds[i]? = some d → Inv i Γ' → ∃ Γ1 js, VG C g d Γ' Γ1 js ∧
    VS C t Γ1 { nx := Inv (i + 1), rt := P.rt, bk := P.nx, ct := Inv (i + 1) }) ∧ ∀ Γ', Inv ds.length Γ' → P.nx Γ') : VS C (tFor wi g t) Γ P := fun B H σ E F n r b c =>
  h B H σ F _ fun ds J B1 H1 G Y rd s w hG hY => by
    obtain ⟨Inv, i0, turn, fin⟩ := k ds rd
    refine for_it w (fun i σ' H' => ∃ Γ' B', Inv i Γ' ∧ Same B1 B' ∧ Fm C B' H' σ' Γ') ⟨Γ, B1, i0, Same.refl B1, F.step s⟩ (fun i σ' H' _ ⟨Γ', B', _, s', F'⟩ => hG B' H' s' F'.sub) ?_ ?_
    · rintro i x σ1 H1 H1' hi ⟨Γ', B', iv, s', F'⟩ y
      have hd : ds[i]? = some ds[i] := List.getElem?_eq_getElem hi
      obtain ⟨B2, st, kd⟩ := hY i x H1 H1' y B' ds[i] s' F'.sub hd
      obtain ⟨Γ1, js, hg, hb⟩ := turn i ds[i] Γ' hd iv
      have F2 := F'.step st
      refine hg.run F2 kd _ fun σ2 _ _ F3 => ?_
      have nxt : ∀ Γ'' B'' H'' σ'', Inv (i + 1) Γ'' → Same B2 B'' → Fm C B'' H'' σ'' Γ'' → ∃ Γ' B', Inv (i + 1) Γ' ∧ Same B1 B' ∧ Fm C B' H'' σ'' Γ' := fun Γ'' B'' H'' σ'' iv' s'' F'' => ⟨Γ'', B'', iv', (s'.trans st.ext).trans s'', F''⟩
      exact hb B2 H1' σ2 _ F3 nxt r (fun Γ'' B'' H'' σ'' p s'' F'' => n Γ'' B'' H'' σ'' p (((s.ext.trans s').trans st.ext).trans s'') F'') nxt
    · rintro σ1 H1 ⟨Γ', B', iv, s', F'⟩
      exact n Γ' B' H1 σ1 (fin Γ' iv) (s.ext.trans s') F'
end
end Ly

/-! LyE: comprehensions; what loops walk (list, tuple, text, range, enumerate of a text); what a def promises (Pu, De) and its call. -/
namespace Ly
open PySem PySem.Spec PyProof.Rows L2

/-! ### an object of one's own that no name tells -/
section
variable {dl : Option (Addr × Addr)} {B H B' H' : Hp} {p : Addr} {o : HO} {C : Cn} {σ : L2.St} {Γ : List Sl} {vs : List Nat}
theorem Stp.poke (hd : ∀ p q, dl = some (p, q) → DealAt H p q) (s : Stp dl B H B' H') (h : H p = none) (hB : B' p = none) (np : ∀ o', H' p = some o' → NoTab o') : Stp dl B H B' (upd H' p o) := by
  refine ⟨s.ext, fun a u e => ?_, fun a u e m n => ?_, s.out, fun r q e d => ?_, stay_upd s.stay, fun T t => tabs_upd (s.tab T t) np, s.bt⟩
  · rw [upd_ne (ne_of_none e hB)]
    exact s.sub a u e
  · rw [upd_ne (ne_of_none e h)]
    exact s.keepN a u e m n
  · obtain ⟨ne, ns, b, h1, h2, rest⟩ := s.deal r q e d
    have d0 := hd r q e
    have n1 : r ≠ p := fun z => d0.there (Or.inl rfl) (z ▸ h)
    have n2 : q ≠ p := fun z => d0.there (Or.inr rfl) (z ▸ h)
    exact ⟨ne, ns, b, by rw [upd_ne n1]; exact h1, by rw [upd_ne n2]; exact h2, rest⟩
theorem Fm.poke (F : Fm C B H σ Γ) (hC : C.H p = none) (hB : B p = none) (np : ∀ o', H p = some o' → NoTab o') (hn : ∀ (j : Nat) es, Γ[j]? = some (.own es) → σ[j]? ≠ some (some (.ref p))) (hd : ∀ (j : Nat) es, Γ[j]? = some (.odk es) → σ[j]? ≠ some (some (.ref p))) : Fm C B (upd H p o) σ Γ := by
  refine ⟨F.st.poke (fun p q e => (F.dl p q e).1) hC hB np, F.dl, F.len, fun i sl e => ?_, F.inj⟩
  have k := F.slot i sl e
  cases sl with
  | no => trivial
  | dat d => exact k
  | own ds =>
    obtain ⟨r, zs, k1, k2, k3, k4, k5⟩ := k
    have nr : r ≠ p := fun z => hn i ds e (z ▸ k1)
    exact ⟨r, zs, k1, k2, k3, by rw [upd_ne nr]; exact k4, k5⟩
  | deal => exact k
  | rd vs => exact k
  | odk kvs =>
    obtain ⟨r, zs, k1, k2, k3, k4, k5⟩ := k
    have nr : r ≠ p := fun z => hd i kvs e (z ▸ k1)
    exact ⟨r, zs, k1, k2, k3, by rw [upd_ne nr]; exact k4, k5⟩
/-- the names of a comprehension are taken away -/
def wipeS (Γ : List Sl) : List Nat → List Sl
  | [] => Γ
  | v :: vs => (wipeS Γ vs).set v .no
theorem Fm.wipe (F : Fm C B H σ Γ) : ∀ vs : List Nat, Fm C B H (wipe σ vs) (wipeS Γ vs)
  | [] => F
  | v :: vs => (Fm.wipe F vs).drop none
theorem wipe_get {a b : L2.St} (hl : a.length = b.length) : ∀ vs : List Nat, (∀ i, i ∉ vs → a[i]? = b[i]?) → wipe a vs = wipe b vs := by
  intro vs h
  apply List.ext_getElem?
  intro i
  have key : ∀ (ws : List Nat) (x y : L2.St), x.length = y.length → (i ∈ ws ∨ x[i]? = y[i]?) → (wipe x ws)[i]? = (wipe y ws)[i]? := by
    intro ws
    induction ws with
    | nil =>
      intro x y _ k
      rcases k with k | k
      · cases k
      · exact k
    | cons w ws ih =>
      intro x y e k
      show ((wipe x ws).set w none)[i]? = ((wipe y ws).set w none)[i]?
      by_cases hw : w = i
      · subst hw
        by_cases hlt : w < x.length
        · rw [List.getElem?_set_self (by rw [wipe_length]; exact hlt), List.getElem?_set_self (by rw [wipe_length]; omega)]
        · rw [List.getElem?_eq_none_iff.mpr (by rw [List.length_set, wipe_length]; omega), List.getElem?_eq_none_iff.mpr (by rw [List.length_set, wipe_length]; omega)]
      · rw [List.getElem?_set_ne hw, List.getElem?_set_ne hw]
        refine ih x y e ?_
        rcases k with k | k
        · rcases List.mem_cons.mp k with z | z
          · exact absurd z.symm hw
          · exact Or.inl z
        · exact Or.inr k
  by_cases hi : i ∈ vs
  · exact key vs a b hl (Or.inl hi)
  · exact key vs a b hl (Or.inr (h i hi))
end

theorem wipe_ne {σ : L2.St} {i : Nat} : ∀ {vs : List Nat}, i ∉ vs → (wipe σ vs)[i]? = σ[i]?
  | [], _ => rfl
  | v :: vs, h => by
    show ((wipe σ vs).set v none)[i]? = σ[i]?
    rw [List.getElem?_set_ne (fun z => h (by simp [z])), wipe_ne fun z => h (List.mem_cons_of_mem _ z)]

/-! ### comprehensions -/
section
variable {C : Cn} {Γ : List Sl} {wi : TI} {g : TG} {tt : TT} {te : TE} {vs : List Nat} {S S' : List D → Prop}
/-- [e for x in xs if t]: Inv by the turn and what is made so far -/
theorem vl_lc (h : VI C wi Γ S) (k : ∀ ds, S ds → ds.length ≤ 100000 ∧ ∃ Inv : Nat → List D → Prop, Inv 0 [] ∧
    (∀ (i : Nat) d acc, ds[i]? = some d → Inv i acc → ∃ Γ1 js, VG C g d (wipeS Γ vs) Γ1 js ∧ (∀ j ∈ js, j ∈ vs) ∧
      ∃ T : Bool → Prop, VT C tt Γ1 T ∧ (T true → VE C te Γ1 (fun y => Inv (i + 1) (acc ++ [y]))) ∧ (T false → Inv (i + 1) acc)) ∧ ∀ acc, Inv ds.length acc → S' acc) : VL C (tLc wi g tt te vs) Γ S' := fun B H σ F Q q =>
  h B H σ F _ fun ds J B1 H1 G Y rd s w hG hY A hA => by
    obtain ⟨hz, Inv, i0, turn, fin⟩ := k ds rd
    have F1 := F.step s
    have hAC : C.H A = none := F1.newC hA
    have hAB : B1 A = none := F1.sub.free hA
    have hA0 : H A = none := back_none F s hA
    have nM : ¬ Md C.dl A := F.notMd hAC
    have own1 : ∀ (j : Nat) es, (wipeS Γ vs)[j]? = some (.own es) → (wipe σ vs)[j]? ≠ some (some (.ref A)) := fun j es hj => (F1.wipe vs).noOwn hA hj
    have ownD : ∀ (j : Nat) es, Γ[j]? = some (.odk es) → σ[j]? ≠ some (some (.ref A)) := fun j es hj => F1.noDk (fun ws z => by rw [hA] at z; cases z) hj
    have own0 : ∀ (j : Nat) es, Γ[j]? = some (.own es) → σ[j]? ≠ some (some (.ref A)) := fun j es hj => F1.noOwn hA hj
    refine lc_it w (fun i H' => ∃ B' acc us, Inv i acc ∧ acc.length ≤ i ∧ Same B1 B' ∧ Stp C.dl B H B' H' ∧ Fm C B' H' σ Γ ∧ B' A = none ∧ H' A = some (.lst us) ∧ DqAll C.K B' us acc) ?_ ?_ ?_ ?_
    · exact ⟨B1, [], [], i0, Nat.le_refl _, Same.refl _, s.poke F.dlNow hA0 hAB (np_none hA), F1.poke hAC hAB (np_none hA) own0 ownD, hAB, upd_same, .nil⟩
    · rintro i H' _ ⟨B', acc, us, _, _, s', _, F', _⟩
      exact hG B' H' s' F'.sub
    · rintro i x H2 H2' hi ⟨B', acc, us, iv, la, s', st', F', oB, oA, da⟩ y
      have hd : ds[i]? = some ds[i] := List.getElem?_eq_getElem hi
      obtain ⟨B2, st, kd⟩ := hY i x H2 H2' y B' ds[i] s' F'.sub hd
      obtain ⟨Γ1, js, hg, hjs, T, ht, hy, hn⟩ := turn i ds[i] acc hd iv
      have F2 : Fm C B2 H2' σ Γ := F'.step st
      have st2 : Stp C.dl B H B2 H2' := st'.trans F.dlNow st
      have oA2 : H2' A = some (.lst us) := st.keep A _ oA nM
      have oB2 : B2 A = none := st.out A (by rw [oA]; simp) oB
      refine hg.run (F2.wipe vs) kd _ fun σ2 l2 e2 F3 => ⟨?_, ?_⟩
      · refine wipe_get (l2.trans (wipe_length σ vs)) vs fun j hj => ?_
        rw [e2 j (fun z => hj (hjs j z)), wipe_ne hj]
      · refine ht B2 H2' σ2 F3 _ fun b B3 H3 rb s3 => ?_
        have oA3 : H3 A = some (.lst us) := s3.keep A _ oA2 nM
        have oB3 : B3 A = none := s3.out A (by rw [oA2]; simp) oB2
        have st3 : Stp C.dl B H B3 H3 := st2.trans F.dlNow s3
        cases b with
        | false => exact iteF ⟨B3, acc, us, hn rb, Nat.le_succ_of_le la, (s'.trans st.ext).trans s3.ext, st3, F2.step s3, oB3, oA3, dpall_mono (st.ext.trans s3.ext) da⟩
        | true =>
          refine iteT (hy rb B3 H3 σ2 (F3.step s3) _ fun d' v' B4 H4 ry s4 kd4 => ?_)
          have oA4 : H4 A = some (.lst us) := s4.keep A _ oA3 nM
          have oB4 : B4 A = none := s4.out A (by rw [oA3]; simp) oB3
          have st4 : Stp C.dl B H B4 H4 := st3.trans F.dlNow s4
          have hda : DqAll C.K B4 us acc := dpall_mono ((st.ext.trans s3.ext).trans s4.ext) da
          refine ⟨us, oA4, sz6 (by rw [dpall_len hda]; omega), B4, acc ++ [d'], us ++ [v'], ry, by rw [List.length_append]; exact Nat.succ_le_succ la, ((s'.trans st.ext).trans s3.ext).trans s4.ext, ?_, ?_, oB4, upd_same, dpall_app hda (dpall_one kd4)⟩
          · exact st4.poke F.dlNow hA0 oB4 (np_lst oA4)
          · exact ((F2.step s3).step s4).poke hAC oB4 (np_lst oA4) own0 ownD
    · rintro H' ⟨B', acc, us, iv, _, s', st', F', oB, oA, da⟩
      exact q acc A us B' H' (fin acc iv) st' hA0 oB oA da
/-- one after another, told by functions -/
theorem vl_lcD {ds : List D} (f : D → Bool) (v : D → D) (h : VI C wi Γ (Is ds)) (hz : ds.length ≤ 100000) (k : ∀ d ∈ ds, ∃ Γ1 js, VG C g d (wipeS Γ vs) Γ1 js ∧ (∀ j ∈ js, j ∈ vs) ∧ VT C tt Γ1 (Is (f d)) ∧ (f d = true → VE C te Γ1 (Is (v d)))) :
    VL C (tLc wi g tt te vs) Γ (Is ((ds.filter f).map v)) := vl_lc h fun xs e => by
  cases e
  refine ⟨hz, fun i acc => acc = ((ds.take i).filter f).map v, rfl, fun i d acc hd iv => ?_, fun acc iv => by rw [iv, List.take_length]⟩
  obtain ⟨Γ1, js, hg, hjs, ht, he⟩ := k d (List.mem_of_getElem? hd)
  refine ⟨Γ1, js, hg, hjs, Is (f d), ht, fun e => (he e.symm).imp fun y ey => ?_, fun e => ?_⟩
  · subst ey iv
    rw [List.take_add_one, hd, List.filter_append, List.map_append]
    show _ = _ ++ List.map v (List.filter f [d])
    rw [List.filter_cons, if_pos e.symm] <;> rfl
  · subst iv
    rw [List.take_add_one, hd, List.filter_append, List.map_append]
    show _ = _ ++ List.map v (List.filter f [d])
    rw [List.filter_cons, if_neg (by rw [← e]; decide)]
    exact (List.append_nil _).symm
/-- without a test -/
theorem vl_map {ds : List D} (v : D → D) (h : VI C wi Γ (Is ds)) (hz : ds.length ≤ 100000) (k : ∀ d ∈ ds, ∃ Γ1 js, VG C g d (wipeS Γ vs) Γ1 js ∧ (∀ j ∈ js, j ∈ vs) ∧ VE C te Γ1 (Is (v d))) :
    VL C (tLc wi g tYes te vs) Γ (Is (ds.map v)) := (vl_lcD (fun _ => true) v h hz fun d hd => by
  obtain ⟨Γ1, js, hg, hjs, he⟩ := k d hd
  exact ⟨Γ1, js, hg, hjs, fun B H σ F Q q => q true B H rfl (Stp.refl F.sub), fun _ => he⟩).to (by rw [List.filter_eq_self.mpr fun _ _ => rfl])
theorem vt_yes : VT C tYes Γ (Is true) := fun B H σ F Q q => q true B H rfl (Stp.refl F.sub)
end

/-! ### what is walked -/
section
variable {C : Cn} {Γ : List Sl} {t te : TE} {ta : TA} {ds : List D} {R : D → Prop} {S : List D → Prop} {X : Cx}
theorem vi_list (h : VE C t Γ (fun d => ∃ ds, d = .list ds ∧ S ds)) : VI C (iList C.K t) Γ S := fun B H σ F T q => h B H σ F _ fun d v B1 H1 ⟨ds, e, r⟩ s k => by
  subst e
  obtain ⟨a, xs, rfl, h1, h2⟩ := dp_lst k
  refine ⟨a, rfl, ⟨xs, same_l (F.step s).sub h1⟩, q ds _ B1 H1 _ _ r s (dpall_len h2 ▸ walk_list) (fun B2 H2 e1 e2 => same_l e2 (same_l e1 h1)) ?_⟩
  rintro i x H2 H2' ⟨rfl, hx⟩ B2 d e1 e2 hd
  obtain ⟨v, hv, k2⟩ := dpall_get h2 hd
  rw [hx] at hv
  cases hv
  exact ⟨B2, Stp.refl e2, dp_mono e1 k2⟩
theorem vi_listD (h : VE C t Γ (Is (.list ds))) : VI C (iList C.K t) Γ (Is ds) := vi_list (h.imp fun d e => ⟨ds, e, rfl⟩)
theorem vi_tup (h : VE C t Γ (fun d => ∃ ds, d = .tuple ds ∧ S ds)) : VI C (iTup C.K t) Γ S := fun B H σ F T q => h B H σ F _ fun d v B1 H1 ⟨ds, e, r⟩ s k => by
  subst e
  obtain ⟨a, xs, rfl, h1, h2⟩ := dp_tup k
  refine ⟨a, rfl, ⟨xs, same_t (F.step s).sub h1⟩, q ds _ B1 H1 _ _ r s (dpall_len h2 ▸ walk_tup) (fun B2 H2 e1 e2 => same_t e2 (same_t e1 h1)) ?_⟩
  rintro i x H2 H2' ⟨rfl, hx⟩ B2 d e1 e2 hd
  obtain ⟨v, hv, k2⟩ := dpall_get h2 hd
  rw [hx] at hv
  cases hv
  exact ⟨B2, Stp.refl e2, dp_mono e1 k2⟩
theorem vi_tupD (h : VE C t Γ (Is (.tuple ds))) : VI C (iTup C.K t) Γ (Is ds) := vi_tup (h.imp fun d e => ⟨ds, e, rfl⟩)
/-- the signs of a text, each a text -/
def signs (z : Str) : List D := z.cps.toList.map fun c => .str ⟨#[c]⟩
theorem signs_len (z : Str) : (signs z).length = z.cps.size := by simp [signs]
theorem vi_str {z : Str} (h : VE C t Γ (Is (.str z))) : VI C (iStr t) Γ (Is (signs z)) := fun B H σ F T q => h B H σ F _ fun d v B1 H1 r s k => by
  cases r
  obtain rfl := dp_str k
  refine ⟨z, rfl, q _ _ B1 H1 _ _ rfl s (signs_len z ▸ walk_str) (fun _ _ _ _ => trivial) ?_⟩
  rintro i x H2 H2' ⟨rfl, c, hc, rfl⟩ B2 d e1 e2 hd
  have hd' : (signs z)[i]? = some (.str ⟨#[c]⟩) := by
    unfold signs
    rw [List.getElem?_map, Array.getElem?_toList, hc]
    rfl
  rw [hd'] at hd
  cases hd
  exact ⟨B2, Stp.refl e2, .str _⟩
/-- the ints of a range -/
def upTo (lo : Int) (n : Nat) : List D := (List.range n).map fun i => .int (lo + (i : Nat))
theorem upTo_len (lo : Int) (n : Nat) : (upTo lo n).length = n := by simp [upTo]
theorem upTo_get {lo : Int} {n i : Nat} {d : D} (h : (upTo lo n)[i]? = some d) : i < n ∧ d = .int (lo + (i : Nat)) := by
  unfold upTo at h
  rw [List.getElem?_map] at h
  by_cases hi : i < n
  · rw [List.getElem?_range hi] at h
    cases h
    exact ⟨hi, rfl⟩
  · rw [List.getElem?_eq_none_iff.mpr (by simpa using hi)] at h
    cases h
theorem upTo_mem {lo : Int} {n : Nat} {d : D} (h : d ∈ upTo lo n) : ∃ i, i < n ∧ d = .int (lo + (i : Nat)) := by
  obtain ⟨i, hi⟩ := List.getElem?_of_mem h
  exact ⟨i, upTo_get hi⟩
theorem vi_rng1 {S : List D → Prop} {R : Int → Prop} (h : VE C te Γ (fun d => ∃ n, d = .int n ∧ R n)) (k : ∀ n, R n → -(2 ^ 62) ≤ n ∧ n < 2 ^ 62 ∧ S (upTo 0 n.toNat)) : VI C (iRng1 (tCons te tNil)) Γ S := fun B H σ F T q => h B H σ F _ fun d v B1 H1 ⟨n, e, r⟩ s kd => by
  subst e
  obtain rfl := dp_int kd
  obtain ⟨h1, h2, h3⟩ := k n r
  refine ⟨n, rfl, h1, h2, q _ _ B1 H1 (fun _ => True) (YFn fun i => .int (0 + (i : Nat))) h3 s (by rw [upTo_len]; exact walk_range) (fun _ _ _ _ => trivial) ?_⟩
  rintro i x H2 H2' ⟨rfl, rfl⟩ B2 d e1 e2 hd
  obtain ⟨_, rfl⟩ := upTo_get hd
  exact ⟨B2, Stp.refl e2, .int _⟩
theorem vi_rng1D {n : Int} (h : VE C te Γ (Is (.int n))) (hn : n ≤ 1000000000000 := by omega) (hm : -1000000000000 ≤ n := by omega) : VI C (iRng1 (tCons te tNil)) Γ (Is (upTo 0 n.toNat)) := vi_rng1 (R := Is n) (h.imp fun d e => ⟨n, e, rfl⟩) fun m e => by
  cases e
  exact ⟨by omega, by omega, rfl⟩
theorem vi_rng2D {t2 : TE} {m n : Int} (h : VE C te Γ (Is (.int m))) (h2 : VE C t2 Γ (Is (.int n))) (b : -1000000000000 ≤ m ∧ m ≤ 1000000000000 ∧ -1000000000000 ≤ n ∧ n ≤ 1000000000000) : VI C (iRng2 (tCons te (tCons t2 tNil))) Γ (Is (upTo m (n - m).toNat)) := fun B H σ F T q =>
  h B H σ F _ fun d v B1 H1 e s kd => h2 B1 H1 σ (F.step s) _ fun d2 v2 B2 H2 e2 s2 kd2 => by
    cases e
    cases e2
    obtain rfl := dp_int kd
    obtain rfl := dp_int kd2
    refine ⟨m, n, rfl, ⟨by omega, by omega, by omega, by omega⟩, q _ _ B2 H2 (fun _ => True) (YFn fun i => .int (m + (i : Nat))) rfl (s.trans F.dlNow s2) (by rw [upTo_len]; exact walk_range) (fun _ _ _ _ => trivial) ?_⟩
    rintro i x H3 H3' ⟨rfl, rfl⟩ B3 d e1 e2 hd
    obtain ⟨_, rfl⟩ := upTo_get hd
    exact ⟨B3, Stp.refl e2, .int _⟩
end
end Ly

/-! LyF: what a def promises by data: Pu (data in, data out), De (a source of draws first), their bodies, their calls. -/
namespace Ly
open PySem PySem.Spec PyProof.Rows L2

/-- data in, data out; nothing that stands is changed -/
def Pu (K : PySem.W.Frag) (P : List D → Prop) (R : List D → D → Prop) : Sp := fun vs H Q _ => ∃ B ds, Same B H ∧ DqAll K B vs ds ∧ P ds ∧
  ∀ d v B' H', R ds d → Stp none B H B' H' → Dq K B' v d → Q v H'
/-- the source of draws first, then data -/
def De (K : PySem.W.Frag) (P : List D → Prop) (R : List D → D → Prop) : Sp := fun vs H Q _ => ∃ B p q us ds, vs = .ref p :: us ∧ Same B H ∧ DealAt H p q ∧ B p = none ∧ B q = none ∧ DqAll K B us ds ∧ P ds ∧
  ∀ d v B' H', R ds d → Stp (some (p, q)) B H B' H' → Dq K B' v d → Q v H'

/-- n names more, of which nothing is told -/
def slots (ds : List D) (n : Nat) : List Sl := ds.map Sl.dat ++ List.replicate n Sl.no

theorem start_len {N : List Str} {vs : List V} (h : vs.length ≤ N.length) : (start N vs).length = N.length := by
  unfold L2.start
  rw [List.length_append, List.length_map, List.length_replicate]
  omega
theorem fm_start {K : PySem.W.Frag} {B H : Hp} {vs : List V} {ds : List D} {N : List Str} {n : Nat} (s : Same B H) (hd : DqAll K B vs ds) (hn : ds.length + n = N.length) : Fm ⟨K, B, H, none⟩ B H (start N vs) (slots ds n) := by
  have hl := dpall_len hd
  refine ⟨Stp.refl s, (fun p q e => nomatch e), ?_, fun i sl h => ?_, fun i j p xs ys h => ?_⟩
  · rw [start_len (by omega)]
    simp [slots]
    omega
  · unfold slots at h
    by_cases hi : i < ds.length
    · rw [List.getElem?_append_left (by simpa using hi), List.getElem?_map, List.getElem?_eq_getElem hi] at h
      cases h
      obtain ⟨v, hv, k⟩ := dpall_get hd (List.getElem?_eq_getElem hi)
      refine ⟨v, ?_, k⟩
      unfold L2.start
      rw [List.getElem?_append_left (by simpa using (by omega : i < vs.length)), List.getElem?_map, hv]
      rfl
    · rw [List.getElem?_append_right (by simpa using Nat.le_of_not_lt hi), List.getElem?_replicate] at h
      split at h
      · cases h
        trivial
      · cases h
  · exfalso
    unfold slots at h
    by_cases hi : i < ds.length
    · rw [List.getElem?_append_left (by simpa using hi), List.getElem?_map, List.getElem?_eq_getElem hi] at h
      cases h
    · rw [List.getElem?_append_right (by simpa using Nat.le_of_not_lt hi), List.getElem?_replicate] at h
      split at h <;> cases h
theorem fm_startD {K : PySem.W.Frag} {B H : Hp} {vs : List V} {ds : List D} {N : List Str} {n : Nat} {p q : Addr} (s : Same B H) (hq : DealAt H p q) (h1 : B p = none) (h2 : B q = none) (hd : DqAll K B vs ds) (hn : ds.length + 1 + n = N.length) :
    Fm ⟨K, B, H, some (p, q)⟩ B H (start N (.ref p :: vs)) (.deal :: slots ds n) := by
  have hl := dpall_len hd
  have hst : ∀ i, (start N (.ref p :: vs))[i + 1]? = (vs.map some ++ List.replicate (N.length - (vs.length + 1)) none)[i]? := fun i => rfl
  refine ⟨Stp.refl s, fun p' q' e => ?_, ?_, fun i sl h => ?_, fun i j r xs ys h => ?_⟩
  · cases e
    exact ⟨hq, h1, h2⟩
  · rw [start_len (by rw [List.length_cons]; omega)]
    simp [slots]
    omega
  · cases i with
    | zero =>
      cases h
      exact ⟨p, q, rfl, rfl⟩
    | succ i =>
      rw [hst i]
      have h : (slots ds n)[i]? = some sl := h
      unfold slots at h
      by_cases hi : i < ds.length
      · rw [List.getElem?_append_left (by simpa using hi), List.getElem?_map, List.getElem?_eq_getElem hi] at h
        cases h
        obtain ⟨v, hv, k⟩ := dpall_get hd (List.getElem?_eq_getElem hi)
        refine ⟨v, ?_, k⟩
        rw [List.getElem?_append_left (by simpa using (by omega : i < vs.length)), List.getElem?_map, hv]
        rfl
      · rw [List.getElem?_append_right (by simpa using Nat.le_of_not_lt hi), List.getElem?_replicate] at h
        split at h
        · cases h
          trivial
        · cases h
  · exfalso
    cases i with
    | zero => cases h
    | succ i =>
      have h : (slots ds n)[i]? = some (.own xs) := h
      unfold slots at h
      by_cases hi : i < ds.length
      · rw [List.getElem?_append_left (by simpa using hi), List.getElem?_map, List.getElem?_eq_getElem hi] at h
        cases h
      · rw [List.getElem?_append_right (by simpa using Nat.le_of_not_lt hi), List.getElem?_replicate] at h
        split at h <;> cases h

section
variable {P0 : Program} {w : World} {K : PySem.W.Frag} {mg : Str → Option Value} {base : Heap} {k : Nat} {f : Addr} {fd : FuncData} {ps N : List Str} {x qual : Str} {st : Stmt} {P : List D → Prop} {R : List D → D → Prop} {n : Nat}
/-- a def of data, by its body -/
theorem pu_ok (n : Nat) (F : Fun K x qual st f fd) (S : FnScope N ps (defScope st)) (hl : ∀ ds, P ds → ds.length = ps.length) (hn : ps.length + n = N.length)
    (body : ∀ (cdv : Value) (A : Around) (outer : List Env) (s : Shared) (H : Hp) (E : XK), (cxOf CX0 P0 w K mg base N qual (defScope st) f cdv A outer s H E).A.guards = some [] → Room k (cxOf CX0 P0 w K mg base N qual (defScope st) f cdv A outer s H E).A →
      ∃ t, PSs (cxOf CX0 P0 w K mg base N qual (defScope st) f cdv A outer s H E).nox (defBody st) t ∧ ∀ B H ds, P ds → VS ⟨K, B, H, none⟩ t (slots ds n) { nx := fun _ => R ds .none, rt := R ds }) :
    GOk P0 w K mg base CX0 (k + 1) f fd ps (Pu K P R) := by
  refine gok_of F S (fun {vs H Q E} ⟨B, ds, _, h1, h2, _⟩ => (dpall_len h1).trans (hl ds h2)) fun cdv A outer s H vs Q E hg hr ⟨B, ds, hs, h1, h2, hq⟩ => ?_
  obtain ⟨t, ht, hv⟩ := body cdv A outer s H E hg hr
  refine ⟨t, ht.nox, hv B H ds h2 B H (L2.start N vs) _ (fm_start hs h1 (by rw [hl ds h2]; exact hn)) ?_ ?_ (fun _ _ _ _ e => e.elim) fun _ _ _ _ e => e.elim⟩
  · exact fun Γ' B' H' σ' r _ F' => hq _ _ B' H' r F'.st .non
  · exact fun d v B' H' r s' kd => hq d v B' H' r s' kd
/-- a def that draws, by its body -/
theorem de_ok (n : Nat) (F : Fun K x qual st f fd) (S : FnScope N ps (defScope st)) (hl : ∀ ds, P ds → ds.length + 1 = ps.length) (hn : ps.length + n = N.length)
    (body : ∀ (cdv : Value) (A : Around) (outer : List Env) (s : Shared) (H : Hp) (E : XK), (cxOf CX0 P0 w K mg base N qual (defScope st) f cdv A outer s H E).A.guards = some [] → Room k (cxOf CX0 P0 w K mg base N qual (defScope st) f cdv A outer s H E).A →
      ∃ t, PSs (cxOf CX0 P0 w K mg base N qual (defScope st) f cdv A outer s H E).nox (defBody st) t ∧ ∀ B H p q ds, P ds → VS ⟨K, B, H, some (p, q)⟩ t (.deal :: slots ds n) { nx := fun _ => R ds .none, rt := R ds }) :
    GOk P0 w K mg base CX0 (k + 1) f fd ps (De K P R) := by
  refine gok_of F S (fun {vs H Q E} ⟨B, p, q, us, ds, e, _, _, _, _, h1, h2, _⟩ => by rw [e, List.length_cons, dpall_len h1]; exact hl ds h2) fun cdv A outer s H vs Q E hg hr ⟨B, p, q, us, ds, e, hs, hd, hB1, hB2, h1, h2, hq⟩ => ?_
  subst e
  obtain ⟨t, ht, hv⟩ := body cdv A outer s H E hg hr
  refine ⟨t, ht.nox, hv B H p q ds h2 B H (L2.start N (.ref p :: us)) _ (fm_startD hs hd hB1 hB2 h1 (by rw [hl ds h2]; exact hn)) ?_ ?_ (fun _ _ _ _ e => e.elim) fun _ _ _ _ e => e.elim⟩
  · exact fun Γ' B' H' σ' r _ F' => hq _ _ B' H' r F'.st .non
  · exact fun d v B' H' r s' kd => hq d v B' H' r s' kd
end

/-! ### calls by data -/
section
variable {C : Cn} {A A' : TA} {Γ : List Sl} {S S' : List D → Prop} {R : D → Prop} {P : List D → Prop} {R' : List D → D → Prop} {E : XK} {gV : List V → List V → List V} {i : Nat} {ds es : List D} {d : D}
theorem ve_pu (gD : List D → List D → List D) (h : VA C A Γ S) (h' : VA C A' Γ S') (hg : ∀ B vs zs ds es, DqAll C.K B vs ds → DqAll C.K B zs es → DqAll C.K B (gV vs zs) (gD ds es))
    (k : ∀ ds es, S ds → S' es → P (gD ds es) ∧ ∀ d, R' (gD ds es) d → R d) : VE C (tCallK (Pu C.K P R') gV E A A') Γ R := fun B H σ F Q q =>
  h B H σ F _ fun ds vs B1 H1 r1 s1 k1 => h' B1 H1 σ (F.step s1) _ fun es zs B2 H2 r2 s2 k2 => by
    obtain ⟨hP, hR⟩ := k ds es r1 r2
    refine ⟨B2, gD ds es, ((F.step s1).step s2).sub, hg B2 vs zs ds es (dpall_mono s2.ext k1) k2, hP, fun d v B3 H3 r3 s3 k3 => ?_⟩
    exact q d v B3 H3 (hR d r3) ((s1.trans F.dlNow s2).trans F.dlNow s3.any) k3
/-- by place -/
theorem ve_call (h : VA C A Γ S) (k : ∀ ds, S ds → P ds ∧ ∀ d, R' ds d → R d) : VE C (tCallK (Pu C.K P R') (fun vs _ => vs) E A tNil) Γ R :=
  ve_pu (fun ds _ => ds) h va_nil (fun _ _ _ _ _ k1 _ => k1) fun ds es r _ => k ds r
theorem ve_callD (h : VA C A Γ (Is ds)) (hP : P ds) : VE C (tCallK (Pu C.K P R') (fun vs _ => vs) E A tNil) Γ (R' ds) := ve_call h fun xs e => by
  cases e
  exact ⟨hP, fun _ r => r⟩
theorem ve_de (hi : Γ[i]? = some .deal) (h : VA C A Γ S) (k : ∀ ds, S ds → P ds ∧ ∀ d, R' ds d → R d) : VE C (tCallK (De C.K P R') (fun vs _ => vs) E (tCons (tVar i) A) tNil) Γ R := fun B H σ F Q q => by
  obtain ⟨p, r, e, hs⟩ := F.slot i _ hi
  refine ⟨.ref p, hs, h B H σ F _ fun ds vs B1 H1 r1 s1 k1 => ?_⟩
  obtain ⟨hP, hR⟩ := k ds r1
  have F1 := F.step s1
  obtain ⟨n1, n2⟩ := F1.dlOut e
  refine ⟨B1, p, r, vs, ds, rfl, F1.sub, F1.dlNow p r e, n1, n2, k1, hP, fun d v B3 H3 r3 s3 k3 => ?_⟩
  rw [← e] at s3
  exact q d v B3 H3 (hR d r3) (s1.trans F.dlNow s3) k3
theorem ve_deD (hi : Γ[i]? = some .deal) (h : VA C A Γ (Is ds)) (hP : P ds) : VE C (tCallK (De C.K P R') (fun vs _ => vs) E (tCons (tVar i) A) tNil) Γ (R' ds) := ve_de hi h fun xs e => by
  cases e
  exact ⟨hP, fun _ r => r⟩
end
end Ly

/-! LyG: operations, subscripts, slices, built-ins by data. -/
namespace Ly
open PySem PySem.Spec PyProof.Rows L2

/-! ### rules for every kind of operand -/
section
variable {X : Cx}
/-- list + list, tracked or known to the object -/
def rCatR : R2 := fun x y H Q => ∃ l b xs zs, x = .ref l ∧ y = .ref b ∧ Rd H l (.lst xs) ∧ Rd H b (.lst zs) ∧ xs.length + zs.length ≤ sizeLine ∧ ∀ p, H p = none → Q (.ref p) (upd H p (.lst (xs ++ zs)))
theorem rd_lst {pins : List (Addr × Obj)} {s : Shared} {σ : L2.St} {H : Hp} {a : Addr} {xs : List V} (I : Inv X pins σ H s) (h : Rd H a (.lst xs)) : ∃ (its : List Value) (n : Nat), Vals xs its ∧ s.heap.get? a = some { cls := .type "list", data := .seq its.toArray n } := by
  obtain ⟨_, its, n, r, e⟩ := h.ok I.hok
  exact ⟨its, n, r, e⟩
theorem op_catR : OpR X (binaryOp .Add) rCatR := by
  intro pins s σ H x y v u Q I rx ry h
  obtain ⟨l, b, xs, zs, rfl, rfl, hl, hb, hz, q⟩ := h
  cases rx
  cases ry
  obtain ⟨its, n, r, e⟩ := rd_lst I hl
  obtain ⟨its2, n2, r2, e2⟩ := rd_lst I hb
  have l1 := r.length
  have l2 := r2.length
  apply PySem.P.add_list e e2 _ (by rw [List.size_toArray, List.size_toArray]; omega)
  have J := I.lnew (t' := s.toks) (r.append r2) (by rw [List.length_append]; omega)
  rw [show its.toArray ++ its2.toArray = (its ++ its2).toArray by simp]
  exact ⟨V.ref s.heap.objs.size, _, J, rfl, q _ I.fresh⟩
def rAddS : R2 := fun x y H Q => ∃ i j, x = .str i ∧ y = .str j ∧ i.length + j.length ≤ sizeLine ∧ Q (.str (i ++ j)) H
def rAddA (K : PySem.W.Frag) : R2 := fun x y H Q => rI0 (fun i j => .int (i + j)) x y H Q ∨ (rAddS x y H Q ∨ (rCatR x y H Q ∨ rCatA K x y H Q))
theorem oq_add : OpR X (binaryOp .Add) (rAddA X.K) := OpR.or op_add (OpR.or op_add_str (OpR.or op_catR op_catA))
def rEqA (K : PySem.W.Frag) : R2 := fun x y H Q => rEq x y H Q ∨ rEqD K x y H Q
def rNeA (K : PySem.W.Frag) : R2 := fun x y H Q => rNe x y H Q ∨ rNeD K x y H Q
theorem oq_eq {k : Nat} (hr : Room k X.A) : OpR X (compareOp .Eq) (rEqA X.K) := OpR.or op_eq (op_eqD hr.units)
theorem oq_ne {k : Nat} (hr : Room k X.A) : OpR X (compareOp .NotEq) (rNeA X.K) := OpR.or op_ne (op_neD hr.units)
def rLtS : R2 := fun x y H Q => ∃ i j, x = .str i ∧ y = .str j ∧ Q (.bl (decide (i.cps.toList < j.cps.toList))) H
def rLeS : R2 := fun x y H Q => ∃ i j, x = .str i ∧ y = .str j ∧ Q (.bl (!decide (j.cps.toList < i.cps.toList))) H
def rLtA : R2 := fun x y H Q => rI0 (fun i j => .bl (decide (i < j))) x y H Q ∨ rLtS x y H Q
def rLeA : R2 := fun x y H Q => rI0 (fun i j => .bl (decide (i ≤ j))) x y H Q ∨ rLeS x y H Q
theorem oq_lt : OpR X (compareOp .Lt) rLtA := OpR.or op_lt op_lt_str
theorem oq_le : OpR X (compareOp .LtE) rLeA := OpR.or op_le op_le_str
def rInSg : R2 := fun x y H Q => ∃ (c : Nat) (z : Str), x = .str ⟨#[c]⟩ ∧ y = .str z ∧ Q (.bl (decide (c ∈ z.cps.toList))) H
def rInA (K : PySem.W.Frag) : R2 := fun x y H Q => rInSg x y H Q ∨ (rIn K false x y H Q ∨ rInD K x y H Q)
theorem oq_in {k : Nat} (hr : Room k X.A) : OpR X (compareOp .In) (rInA X.K) := OpR.or op_in_sign (OpR.or op_in_seq (op_inD (by have := hr.un; omega)))
def rNotInSg : R2 := fun x y H Q => ∃ (c : Nat) (z : Str), x = .str ⟨#[c]⟩ ∧ y = .str z ∧ Q (.bl (!decide (c ∈ z.cps.toList))) H
def rNotInA (K : PySem.W.Frag) : R2 := fun x y H Q => rNotInSg x y H Q ∨ (rIn K true x y H Q ∨ rNotInD K x y H Q)
theorem oq_notin {k : Nat} (hr : Room k X.A) : OpR X (compareOp .NotIn) (rNotInA X.K) := OpR.or op_notIn_sign (OpR.or op_notIn_seq (op_notInD (by have := hr.un; omega)))
def rSlany (K : PySem.W.Frag) : V → Option Int → Option Int → Hp → VK → Prop := fun x lo hi H Q => rSlL K x lo hi H Q ∨ (rSlA K x lo hi H Q ∨ rSlS x lo hi H Q)
theorem sq_any : SlR X (rSlany X.K) := SlR.or sl_list (SlR.or sl_tupA sl_str)
/-- repr of data -/
def rRepr (K : PySem.W.Frag) : List V → Hp → VK → Prop := fun xs H Q => ∃ x d, xs = [x] ∧ Dp K H x d ∧ d.showable = true ∧ d.hasDict = false ∧ d.depth ≤ 100 ∧ d.shown.length ≤ sizeLine ∧ Q (.str d.shown) H
theorem cq_repr {k : Nat} (hg : X.A.guards = some []) (hr : Room k X.A) : CallR X (.builtin "repr") (rRepr X.K) := by
  intro pins s σ H xs us Q I r h
  obtain ⟨x, d, rfl, hd, h1, h2, h3, h4, q⟩ := h
  obtain ⟨u, rfl, ru⟩ := vals1 r
  obtain ⟨as, rd⟩ := Dp.reads I d x u hd ru
  have fin : ∀ (h' : Heap) (tk tk2 : Tok), (∀ b o, s.heap.get? b = some o → h'.get? b = some o) → EP X pins σ Q (.str d.shown tk) { s with heap := h', toks := tk2 } := fun h' tk tk2 hk => ⟨V.str d.shown, H, I.kept hk, ⟨tk, rfl⟩, q⟩
  cases rd with
  | none =>
    simp only [PyData.shown] at fin
    exact PySem.P.repr_of_none (fin s.heap s.toks (s.toks + 1) fun _ _ e => e)
  | bool b =>
    simp only [PyData.shown] at fin
    exact PySem.P.repr_of_bool (fin s.heap s.toks (s.toks + 1) fun _ _ e => e)
  | int i t =>
    simp only [PyData.shown] at fin
    exact PySem.P.repr_of_int (by simpa [PyData.showable] using h1) (fin s.heap s.toks (s.toks + 1) fun _ _ e => e)
  | str z t =>
    simp only [PyData.shown] at fin
    exact PySem.P.repr_of_str (fin s.heap s.toks (s.toks + 1) fun _ _ e => e) (by simpa [PyData.shown] using h4)
  | list e1 e2 e3 e4 => exact repr_of_reads' (.list e1 e2 e3 e4) h1 (fun z => by rw [h2] at z; cases z) hg (by have := hr.un; omega) (fun _ _ e => e) (fun h' tk tk2 hk => fin h' tk tk2 hk) h4
  | tuple e1 e2 e3 e4 => exact repr_of_reads' (.tuple e1 e2 e3 e4) h1 (fun z => by rw [h2] at z; cases z) hg (by have := hr.un; omega) (fun _ _ e => e) (fun h' tk tk2 hk => fin h' tk tk2 hk) h4
  | dict e1 e2 e3 e4 e5 => simp [PyData.hasDict] at h2
end

/-! ### by data -/
section
variable {C : Cn} {Γ : List Sl} {x y z : D} {ds es : List D} {i j : Int} {s t : Str} {R : D → Prop}
theorem od_I0 {g : Int → Int → V} {f : D} (h : ∀ B, Dq C.K B (g i j) f) : OD C (rI0 g) (.int i) (.int j) (Is f) := fun B H v u e k1 k2 Q q => by
  obtain rfl := k1.int
  obtain rfl := k2.int
  exact ⟨i, j, rfl, rfl, q _ _ B H rfl (Stp.refl e) (h B)⟩
theorem od_I {c : Int → Int → Prop} {g : Int → Int → V} {f : D} (hc : c i j) (h : ∀ B, Dq C.K B (g i j) f) : OD C (rI c g) (.int i) (.int j) (Is f) := fun B H v u e k1 k2 Q q => by
  obtain rfl := k1.int
  obtain rfl := k2.int
  exact ⟨i, j, rfl, rfl, hc, q _ _ B H rfl (Stp.refl e) (h B)⟩
theorem od_add : OD C (rAddA C.K) (.int i) (.int j) (Is (.int (i + j))) := fun B H v u e k1 k2 Q q => Or.inl (od_I0 (C := C) (g := fun i j => .int (i + j)) (fun _ => .int _) B H v u e k1 k2 Q q)
theorem od_sub : OD C (rI0 fun i j => .int (i - j)) (.int i) (.int j) (Is (.int (i - j))) := od_I0 fun _ => .int _
theorem od_mul (h : CMulW i j) : OD C (rI CMulW fun i j => .int (i * j)) (.int i) (.int j) (Is (.int (i * j))) := od_I h fun _ => .int _
theorem od_fdiv (h : 0 < j) (h2 : j < 2 ^ 64) : OD C (rI CDivW fun i j => .int (i / j)) (.int i) (.int j) (Is (.int (i / j))) := od_I (wide_div (b := 64) h (by omega) (by decide) (by decide)) fun _ => .int _
theorem od_mod (h : 0 < j) : OD C (rI (fun _ j => 0 < j) fun i j => .int (i % j)) (.int i) (.int j) (Is (.int (i % j))) := od_I h fun _ => .int _
theorem od_pow (h : 0 ≤ j ∧ j ≤ 1000000 ∧ i.natAbs < 2 ^ 64) : OD C (rI CPow fun i j => .int (i ^ j.toNat)) (.int i) (.int j) (Is (.int (i ^ j.toNat))) := od_I h fun _ => .int _
theorem od_shl (h : 0 ≤ j ∧ j ≤ 1000000 ∧ i.natAbs < 2 ^ 64) : OD C (rI CPow fun i j => .int (i * 2 ^ j.toNat)) (.int i) (.int j) (Is (.int (i * 2 ^ j.toNat))) := od_I h fun _ => .int _
theorem od_shr (h : 0 ≤ j) : OD C (rI (fun _ j => 0 ≤ j) fun i j => .int (i / 2 ^ j.toNat)) (.int i) (.int j) (Is (.int (i / 2 ^ j.toNat))) := od_I h fun _ => .int _
theorem od_lt : OD C rLtA (.int i) (.int j) (Is (.bool (decide (i < j)))) := fun B H v u e k1 k2 Q q => Or.inl (od_I0 (C := C) (g := fun i j => .bl (decide (i < j))) (fun _ => .bl _) B H v u e k1 k2 Q q)
theorem od_le : OD C rLeA (.int i) (.int j) (Is (.bool (decide (i ≤ j)))) := fun B H v u e k1 k2 Q q => Or.inl (od_I0 (C := C) (g := fun i j => .bl (decide (i ≤ j))) (fun _ => .bl _) B H v u e k1 k2 Q q)
theorem od_gt : OD C (rI0 fun i j => .bl (decide (j < i))) (.int i) (.int j) (Is (.bool (decide (j < i)))) := od_I0 fun _ => .bl _
theorem od_ge : OD C (rI0 fun i j => .bl (decide (j ≤ i))) (.int i) (.int j) (Is (.bool (decide (j ≤ i)))) := od_I0 fun _ => .bl _
theorem od_ltS : OD C rLtA (.str s) (.str t) (Is (.bool (decide (s.cps.toList < t.cps.toList)))) := fun B H v u e k1 k2 Q q => by
  obtain rfl := k1.str
  obtain rfl := k2.str
  exact Or.inr ⟨s, t, rfl, rfl, q _ _ B H rfl (Stp.refl e) (.bl _)⟩
theorem od_leS : OD C rLeA (.str s) (.str t) (Is (.bool (!decide (t.cps.toList < s.cps.toList)))) := fun B H v u e k1 k2 Q q => by
  obtain rfl := k1.str
  obtain rfl := k2.str
  exact Or.inr ⟨s, t, rfl, rfl, q _ _ B H rfl (Stp.refl e) (.bl _)⟩
theorem od_addS (h : s.length + t.length ≤ sizeLine) : OD C (rAddA C.K) (.str s) (.str t) (Is (.str (s ++ t))) := fun B H v u e k1 k2 Q q => by
  obtain rfl := k1.str
  obtain rfl := k2.str
  exact Or.inr (Or.inl ⟨s, t, rfl, rfl, h, q _ _ B H rfl (Stp.refl e) (.str _)⟩)
theorem od_catT (h : ds.length + es.length ≤ 100000) : OD C (rAddA C.K) (.tuple ds) (.tuple es) (Is (.tuple (ds ++ es))) := fun B H v u e k1 k2 Q q => by
  obtain ⟨a, xs, rfl, h1, h2⟩ := k1.tup e
  obtain ⟨b, ys, rfl, g1, g2⟩ := k2.tup e
  have l1 := dpall_len h2
  have l2 := dpall_len g2
  refine Or.inr (Or.inr (Or.inr ⟨a, b, xs, ys, rfl, rfl, h1, g1, by rw [l1, l2]; exact sz5 h, fun z => ?_, fun _ z => ?_, fun _ _ p hp => ?_⟩))
  · subst z
    cases h2
    rcases k2 with k2 | ⟨_, _, _, _, z, _⟩
    · exact q _ _ B H rfl (Stp.refl e) k2
    · cases z
  · subst z
    cases g2
    rcases k1 with k1 | ⟨_, _, _, _, z, _⟩
    · rw [List.append_nil] at q
      exact q _ _ B H rfl (Stp.refl e) k1
    · cases z
  · exact q _ _ _ _ rfl (Stp.new e hp) (.tup (Or.inl (Or.inl upd_same)) (dpall_mono (Stp.new (dl := C.dl) e hp).ext (dpall_app h2 g2)))
theorem ol_cat (h : ds.length + es.length ≤ 100000) : OL C (rAddA C.K) (.list ds) (.list es) (Is (ds ++ es)) := fun B H v u e k1 k2 Q q => by
  obtain ⟨a, xs, rfl, h1, h2⟩ := k1.lstR e
  obtain ⟨b, ys, rfl, g1, g2⟩ := k2.lstR e
  have l1 := dpall_len h2
  have l2 := dpall_len g2
  exact Or.inr (Or.inr (Or.inl ⟨a, b, xs, ys, rfl, rfl, h1, g1, by rw [l1, l2]; exact sz5 h, fun p hp => q _ p (xs ++ ys) B _ rfl (Stp.newM e hp) hp (e.free hp) upd_same (dpall_app h2 g2)⟩))
/-- == of any data -/
theorem od_eq (h1 : SeqAt.shaped x = true) (h2 : SeqAt.shaped y = true) : OD C (rEqA C.K) x y (Is (.bool (PyData.eqv x y))) := fun B H v u e k1 k2 Q q =>
  Or.inr ⟨x, y, (k1.now e).dp h1, (k2.now e).dp h2, h1, h2, q _ _ B H rfl (Stp.refl e) (.bl _)⟩
theorem od_ne (h1 : SeqAt.shaped x = true) (h2 : SeqAt.shaped y = true) : OD C (rNeA C.K) x y (Is (.bool (!PyData.eqv x y))) := fun B H v u e k1 k2 Q q =>
  Or.inr ⟨x, y, (k1.now e).dp h1, (k2.now e).dp h2, h1, h2, q _ _ B H rfl (Stp.refl e) (.bl _)⟩
/-- of ints, of texts -/
theorem od_eqI : OD C (rEqA C.K) (.int i) (.int j) (Is (.bool (decide (i = j)))) := fun B H v u e k1 k2 Q q => by
  obtain rfl := k1.int
  obtain rfl := k2.int
  refine Or.inl ⟨rfl, ?_⟩
  rw [show decide (V.int i = V.int j) = decide (i = j) from decide_eq_decide.mpr ⟨fun h => V.int.inj h, fun h => by rw [h]⟩]
  exact q _ _ B H rfl (Stp.refl e) (.bl _)
theorem od_neI : OD C (rNeA C.K) (.int i) (.int j) (Is (.bool (!decide (i = j)))) := fun B H v u e k1 k2 Q q => by
  obtain rfl := k1.int
  obtain rfl := k2.int
  refine Or.inl ⟨rfl, ?_⟩
  rw [show decide (V.int i = V.int j) = decide (i = j) from decide_eq_decide.mpr ⟨fun h => V.int.inj h, fun h => by rw [h]⟩]
  exact q _ _ B H rfl (Stp.refl e) (.bl _)
theorem od_eqS : OD C (rEqA C.K) (.str s) (.str t) (Is (.bool (decide (s = t)))) := fun B H v u e k1 k2 Q q => by
  obtain rfl := k1.str
  obtain rfl := k2.str
  refine Or.inl ⟨rfl, ?_⟩
  rw [show decide (V.str s = V.str t) = decide (s = t) from decide_eq_decide.mpr ⟨fun h => V.str.inj h, fun h => by rw [h]⟩]
  exact q _ _ B H rfl (Stp.refl e) (.bl _)
theorem od_neS : OD C (rNeA C.K) (.str s) (.str t) (Is (.bool (!decide (s = t)))) := fun B H v u e k1 k2 Q q => by
  obtain rfl := k1.str
  obtain rfl := k2.str
  refine Or.inl ⟨rfl, ?_⟩
  rw [show decide (V.str s = V.str t) = decide (s = t) from decide_eq_decide.mpr ⟨fun h => V.str.inj h, fun h => by rw [h]⟩]
  exact q _ _ B H rfl (Stp.refl e) (.bl _)
/-- x is None -/
def isNone : D → Bool
  | .none => true
  | _ => false
def rIsNo : R2 := fun x y H Q => y = .non ∧ Q (.bl (decide (x = .non))) H
def rNotNo : R2 := fun x y H Q => y = .non ∧ Q (.bl (!decide (x = .non))) H
theorem oq_isN {X : Cx} : OpR X (compareOp .Is) rIsNo := op_isN
theorem oq_notN {X : Cx} : OpR X (compareOp .IsNot) rNotNo := op_notN
theorem vw_none {B H : Hp} {v : V} (k : Vw C B H v x) : decide (v = .non) = isNone x := by
  rcases k with k | ⟨_, _, _, rfl, rfl, _⟩
  · cases k <;> rfl
  · rfl
theorem od_isN : OD C rIsNo x .none (Is (.bool (isNone x))) := fun B H v u e k1 k2 Q q => ⟨k2.non, by rw [vw_none k1]; exact q _ _ B H rfl (Stp.refl e) (.bl _)⟩
theorem od_notN : OD C rNotNo x .none (Is (.bool (!isNone x))) := fun B H v u e k1 k2 Q q => ⟨k2.non, by rw [vw_none k1]; exact q _ _ B H rfl (Stp.refl e) (.bl _)⟩
/-- a sign in a text -/
theorem od_inSg {c : Nat} : OD C (rInA C.K) (.str ⟨#[c]⟩) (.str s) (Is (.bool (decide (c ∈ s.cps.toList)))) := fun B H v u e k1 k2 Q q => by
  obtain rfl := k1.str
  obtain rfl := k2.str
  exact Or.inl ⟨c, s, rfl, rfl, q _ _ B H rfl (Stp.refl e) (.bl _)⟩
/-- in a list of any data -/
theorem od_inL (h1 : SeqAt.shaped x = true) (h2 : SeqAt.shaped (.list ds) = true) : OD C (rInA C.K) x (.list ds) (Is (.bool (ds.any fun z => PyData.eqv z x))) := fun B H v u e k1 k2 Q q =>
  Or.inr (Or.inr ⟨x, ds, (k1.now e).dp h1, (k2.now e).dp h2, h1, h2, q _ _ B H rfl (Stp.refl e) (.bl _)⟩)
theorem od_notinL (h1 : SeqAt.shaped x = true) (h2 : SeqAt.shaped (.list ds) = true) : OD C (rNotInA C.K) x (.list ds) (Is (.bool (!ds.any fun z => PyData.eqv z x))) := fun B H v u e k1 k2 Q q =>
  Or.inr (Or.inr ⟨x, ds, (k1.now e).dp h1, (k2.now e).dp h2, h1, h2, q _ _ B H rfl (Stp.refl e) (.bl _)⟩)
/-! flat things in a list or tuple -/
def flatD : D → Bool
  | .none | .bool _ | .int _ | .str _ => true
  | _ => false
theorem flat_v {K : PySem.W.Frag} {H : Hp} {v : V} (h : flatD x = true) (k : Dq K H v x) : flatV v = true := by
  cases k <;> first | rfl | cases h
theorem flat_all {K : PySem.W.Frag} {H : Hp} : ∀ {vs : List V} {ds : List D}, ds.all flatD = true → DqAll K H vs ds → vs.all flatV = true
  | _, _, _, .nil => rfl
  | _, _, h, .cons h1 h2 => by
    rw [List.all_cons, Bool.and_eq_true] at h
    rw [List.all_cons, flat_v h.1 h1, flat_all h.2 h2]
    rfl
theorem flat_eqv {K : PySem.W.Frag} {H : Hp} {v u : V} (hx : flatD x = true) (hy : flatD y = true) (k1 : Dq K H v x) (k2 : Dq K H u y) : eqV v u = PyData.eqv x y := by
  cases k1 <;> cases k2 <;> simp_all [flatD, eqV, PyData.eqv]
theorem flat_any {K : PySem.W.Frag} {H : Hp} {v : V} (hx : flatD x = true) (k : Dq K H v x) : ∀ {vs : List V} {ds : List D}, ds.all flatD = true → DqAll K H vs ds → inV v vs = ds.any fun z => PyData.eqv z x
  | _, _, _, .nil => rfl
  | _, _, h, .cons h1 h2 => by
    rw [List.all_cons, Bool.and_eq_true] at h
    show (eqV _ v || inV v _) = _
    rw [flat_eqv h.1 hx h1 k, flat_any hx k h.2 h2]
    rfl
theorem vw_flat {B H : Hp} {v : V} (hx : flatD x = true) (k : Vw C B H v x) : Dq C.K B v x := by
  rcases k with k | ⟨_, _, _, _, rfl, _⟩
  · exact k
  · cases hx
theorem od_inT (h1 : flatD x = true) (h2 : ds.all flatD = true) : OD C (rInA C.K) x (.tuple ds) (Is (.bool (ds.any fun z => PyData.eqv z x))) := fun B H v u e k1 k2 Q q => by
  obtain ⟨a, xs, rfl, g1, g2⟩ := k2.tup e
  have kx := vw_flat h1 k1
  refine Or.inr (Or.inl ⟨a, xs, rfl, Or.inr g1, flat_v h1 kx, flat_all h2 g2, ?_⟩)
  rw [if_neg Bool.false_ne_true, flat_any h1 kx h2 g2]
  exact q _ _ B H rfl (Stp.refl e) (.bl _)
theorem od_notinT (h1 : flatD x = true) (h2 : ds.all flatD = true) : OD C (rNotInA C.K) x (.tuple ds) (Is (.bool (!ds.any fun z => PyData.eqv z x))) := fun B H v u e k1 k2 Q q => by
  obtain ⟨a, xs, rfl, g1, g2⟩ := k2.tup e
  have kx := vw_flat h1 k1
  refine Or.inr (Or.inl ⟨a, xs, rfl, Or.inr g1, flat_v h1 kx, flat_all h2 g2, ?_⟩)
  rw [if_pos rfl, flat_any h1 kx h2 g2]
  exact q _ _ B H rfl (Stp.refl e) (.bl _)
/-! subscripts -/
theorem at_len {α β : Type} {xs : List α} {ys : List β} (h : xs.length = ys.length) {m : Nat} (e : ixN ys.length i = some m) : atI xs i = xs[m]? := by
  unfold atI
  rw [h, e]
  rfl
theorem at_get {α : Type} {xs : List α} {v : α} (h : atI xs i = some v) : ∃ m, ixN xs.length i = some m ∧ xs[m]? = some v := by
  unfold atI at h
  cases e : ixN xs.length i with
  | none =>
    rw [e] at h
    cases h
  | some m =>
    rw [e] at h
    exact ⟨m, rfl, h⟩
theorem od_ixL (h : atI ds i = some z) : OD C (rIx C.K) (.list ds) (.int i) (Is z) := fun B H v u e k1 k2 Q q => by
  obtain ⟨a, xs, rfl, h1, h2⟩ := k1.lst e
  obtain rfl := k2.int
  obtain ⟨m, hm, hz⟩ := at_get h
  obtain ⟨w, hw, kw⟩ := dpall_get h2 hz
  exact Or.inl ⟨a, xs, i, w, rfl, rfl, h1, (at_len (dpall_len h2) hm).trans hw, q _ _ B H rfl (Stp.refl e) kw⟩
theorem od_ixT (h : atI ds i = some z) : OD C (rIx C.K) (.tuple ds) (.int i) (Is z) := fun B H v u e k1 k2 Q q => by
  obtain ⟨a, xs, rfl, h1, h2⟩ := k1.tup e
  obtain rfl := k2.int
  obtain ⟨m, hm, hz⟩ := at_get h
  obtain ⟨w, hw, kw⟩ := dpall_get h2 hz
  exact Or.inr (Or.inl ⟨a, xs, i, w, rfl, rfl, h1, (at_len (dpall_len h2) hm).trans hw, q _ _ B H rfl (Stp.refl e) kw⟩)
theorem od_ixS {c : Nat} (hz : s.length ≤ 1000000) (h : atI s.cps.toList i = some c) : OD C (rIx C.K) (.str s) (.int i) (Is (.str ⟨#[c]⟩)) := fun B H v u e k1 k2 Q q => by
  obtain rfl := k1.str
  obtain rfl := k2.int
  exact Or.inr (Or.inr ⟨s, i, c, rfl, rfl, Nat.le_trans hz (by decide), h, q _ _ B H rfl (Stp.refl e) (.str _)⟩)
theorem atI_pos {α : Type} {xs : List α} {m : Nat} {v : α} (h : xs[m]? = some v) : atI xs (m : Int) = some v := by
  have hl := (List.getElem?_eq_some_iff.mp h).1
  unfold atI ixN
  rw [if_pos (by omega), if_pos (by omega)]
  exact h
theorem atI_neg1 {α : Type} {xs : List α} {v : α} (h : xs.getLast? = some v) : atI xs (-1) = some v := by
  have hl : xs ≠ [] := fun z => by
    subst z
    cases h
  have hp : 0 < xs.length := List.length_pos_iff.mpr hl
  unfold atI ixN
  rw [if_neg (by omega), if_pos (by omega)]
  show xs[((-1 : Int) + xs.length).toNat]? = some v
  rw [show ((-1 : Int) + xs.length).toNat = xs.length - 1 by omega, ← List.getLast?_eq_getElem?]
  exact h
/-! slices -/
def cut {α : Type} (xs : List α) (lo hi : Option Int) : List α := (xs.drop (HT.sIx xs.length 0 lo)).take (HT.sIx xs.length xs.length hi - HT.sIx xs.length 0 lo)
theorem cut_dq {K : PySem.W.Frag} {H : Hp} {vs : List V} (lo hi : Option Int) (h : DqAll K H vs ds) : DqAll K H (cutV vs lo hi) (cut ds lo hi) := by
  unfold cutV cut
  rw [dpall_len h]
  exact dpall_take _ (dpall_drop _ h)
variable {t1 : TE} {tl th : TO} {lo hi : Option Int}
theorem vl_sl {S : List D → Prop} (h : VV C t1 Γ (fun d => ∃ ds, d = .list ds ∧ S ds)) (h1 : VO C tl Γ (Is lo)) (h2 : VO C th Γ (Is hi)) : VL C (tSl (rSlany C.K) t1 tl th) Γ (fun es => ∃ ds, S ds ∧ es = cut ds lo hi) := fun B H σ F Q q =>
  h B H σ F _ fun d v B1 H1 ⟨ds, ed, r⟩ s1 k1 => h1 B1 H1 σ (F.step s1) _ fun o B2 H2 e2 s2 => h2 B2 H2 σ ((F.step s1).step s2) _ fun o' B3 H3 e3 s3 => by
    subst ed
    cases e2
    cases e3
    have F3 := ((F.step s1).step s2).step s3
    have k3 := (k1.step (F.step s1) s2).step ((F.step s1).step s2) s3
    obtain ⟨a, xs, rfl, g1, g2⟩ := k3.lst F3.sub
    have st := (s1.trans F.dlNow s2).trans F.dlNow s3
    exact Or.inl ⟨a, xs, rfl, g1, fun p hp => q _ p _ B3 _ ⟨ds, r, rfl⟩ (st.trans F.dlNow (Stp.newM F3.sub hp)) (back_none F st hp) (F3.sub.free hp) upd_same (cut_dq lo hi g2)⟩
theorem vl_slD (h : VV C t1 Γ (Is (.list ds))) (h1 : VO C tl Γ (Is lo)) (h2 : VO C th Γ (Is hi)) : VL C (tSl (rSlany C.K) t1 tl th) Γ (Is (cut ds lo hi)) :=
  (vl_sl (S := Is ds) (fun B H σ F Q q => h B H σ F Q fun d v B' H' e s k => q d v B' H' ⟨ds, e, rfl⟩ s k) h1 h2).imp fun es ⟨xs, e, r⟩ => by
    cases e
    exact r
theorem ve_slT (h : VE C t1 Γ (Is (.tuple ds))) (h1 : VO C tl Γ (Is lo)) (h2 : VO C th Γ (Is hi)) : VE C (tSl (rSlany C.K) t1 tl th) Γ (Is (.tuple (cut ds lo hi))) := fun B H σ F Q q =>
  h B H σ F _ fun d v B1 H1 ed s1 k1 => h1 B1 H1 σ (F.step s1) _ fun o B2 H2 e2 s2 => h2 B2 H2 σ ((F.step s1).step s2) _ fun o' B3 H3 e3 s3 => by
    cases ed
    cases e2
    cases e3
    have F3 := ((F.step s1).step s2).step s3
    have k3 := dp_mono (s2.ext.trans s3.ext) k1
    obtain ⟨a, xs, rfl, g1, g2⟩ := dp_tup k3
    have st := (s1.trans F.dlNow s2).trans F.dlNow s3
    refine Or.inr (Or.inl ⟨a, xs, rfl, same_t F3.sub g1, fun w => ?_, fun _ p hp => ?_⟩)
    · have e : cut ds lo hi = ds := by
        unfold cut
        rw [dpall_len g2] at w
        rw [w.1, w.2]
        simp
      rw [e] at q
      exact q _ _ B3 H3 rfl st k3
    · exact q _ _ _ _ rfl (st.trans F.dlNow (Stp.new F3.sub hp)) (.tup (Or.inl (Or.inl upd_same)) (dpall_mono (Stp.new (dl := C.dl) F3.sub hp).ext (cut_dq lo hi g2)))
theorem ve_slS (hz : s.length ≤ 1000000) (h : VE C t1 Γ (Is (.str s))) (h1 : VO C tl Γ (Is lo)) (h2 : VO C th Γ (Is hi)) : VE C (tSl (rSlany C.K) t1 tl th) Γ (Is (.str ⟨(cut s.cps.toList lo hi).toArray⟩)) := fun B H σ F Q q =>
  h B H σ F _ fun d v B1 H1 ed s1 k1 => h1 B1 H1 σ (F.step s1) _ fun o B2 H2 e2 s2 => h2 B2 H2 σ ((F.step s1).step s2) _ fun o' B3 H3 e3 s3 => by
    cases ed
    cases e2
    cases e3
    obtain rfl := dp_str k1
    refine Or.inr (Or.inr ⟨s, rfl, Nat.le_trans hz (by decide), ?_⟩)
    have e : cutS s lo hi = ⟨(cut s.cps.toList lo hi).toArray⟩ := by
      unfold cutS cut
      rfl
    rw [e]
    exact q _ _ B3 H3 rfl ((s1.trans F.dlNow s2).trans F.dlNow s3) (.str _)
theorem vl_rev {S : List D → Prop} (h : VV C t1 Γ (fun d => ∃ ds, d = .list ds ∧ S ds)) : VL C (tRevL C.K t1) Γ (fun es => ∃ ds, S ds ∧ es = ds.reverse) := fun B H σ F Q q =>
  h B H σ F _ fun d v B1 H1 ⟨ds, ed, r⟩ s1 k1 => by
    subst ed
    have F1 := F.step s1
    obtain ⟨a, xs, rfl, g1, g2⟩ := k1.lst F1.sub
    exact ⟨a, xs, rfl, g1, fun p hp => q _ p _ B1 _ ⟨ds, r, rfl⟩ (s1.trans F.dlNow (Stp.newM F1.sub hp)) (back_none F s1 hp) (F1.sub.free hp) upd_same (dpall_rev g2)⟩
theorem vl_revD (h : VV C t1 Γ (Is (.list ds))) : VL C (tRevL C.K t1) Γ (Is ds.reverse) :=
  (vl_rev (S := Is ds) (fun B H σ F Q q => h B H σ F Q fun d v B' H' e s k => q d v B' H' ⟨ds, e, rfl⟩ s k)).imp fun es ⟨xs, e, r⟩ => by
    cases e
    exact r
end
end Ly

/-! LyH: built-ins by data: len, tuple, list, int, abs, max, min, sum, all, any, repr, join, isinstance; enumerate of a text. -/
namespace Ly
open PySem PySem.Spec PyProof.Rows L2

section
variable {C : Cn} {Γ : List Sl} {x y z d : D} {ds es : List D} {i j : Int} {s t : Str} {R : D → Prop} {te ta tb : TE} {S : List D → Prop}
/-! ### len -/
def rLen (K : PySem.W.Frag) : List V → Hp → VK → Prop := fun xs H Q => ∃ x n, xs = [x] ∧ LenV K x H n ∧ Q (.int n) H
theorem cq_len {X : Cx} : CallR X (.builtin "len") (rLen X.K) := call_len
theorem cd_lenL : CD C (rLen C.K) [.list ds] (Is (.int ds.length)) := fun B H vs e k Q q => by
  cases k with
  | cons k k' =>
    cases k'
    obtain ⟨a, xs, rfl, h1, h2⟩ := k.lst e
    rw [← dpall_len h2] at q
    exact ⟨_, xs.length, rfl, Or.inl ⟨xs, h1, rfl⟩, q _ _ B H rfl (Stp.refl e) (.int _)⟩
theorem cd_lenT : CD C (rLen C.K) [.tuple ds] (Is (.int ds.length)) := fun B H vs e k Q q => by
  cases k with
  | cons k k' =>
    cases k'
    obtain ⟨a, xs, rfl, h1, h2⟩ := k.tup e
    rw [← dpall_len h2] at q
    exact ⟨_, xs.length, rfl, Or.inr ⟨xs, h1, rfl⟩, q _ _ B H rfl (Stp.refl e) (.int _)⟩
theorem cd_lenS (h : s.length ≤ 1000000) : CD C (rLen C.K) [.str s] (Is (.int s.length)) := fun B H vs e k Q q => by
  cases k with
  | cons k k' =>
    cases k'
    obtain rfl := k.str
    exact ⟨_, s.length, rfl, ⟨Nat.le_trans h (by decide), rfl⟩, q _ _ B H rfl (Stp.refl e) (.int _)⟩
theorem ve_lenL (h : VV C te Γ (Is (.list ds))) : VE C (tCB (rLen C.K) (tCons te tNil)) Γ (Is (.int ds.length)) := ve_cbD (vw_consD h vw_nil) cd_lenL
theorem ve_lenT (h : VE C te Γ (Is (.tuple ds))) : VE C (tCB (rLen C.K) (tCons te tNil)) Γ (Is (.int ds.length)) := ve_cbD (vw_consD h.v vw_nil) cd_lenT
theorem ve_lenS (hz : s.length ≤ 1000000) (h : VE C te Γ (Is (.str s))) : VE C (tCB (rLen C.K) (tCons te tNil)) Γ (Is (.int s.length)) := ve_cbD (vw_consD h.v vw_nil) (cd_lenS hz)
/-! ### tuple, list -/
def rTup (K : PySem.W.Frag) : List V → Hp → VK → Prop := fun xs H Q => ∃ p ys, xs = [.ref p] ∧ ((SqL K H p ys ∧ ∀ l, H l = none → Q (.ref l) (upd H l (.tup ys))) ∨ (SqT K H p ys ∧ Q (.ref p) H))
theorem cq_tup {X : Cx} : CallR X (.type "tuple") (rTup X.K) := call_tuple_of
theorem cd_tupL : CD C (rTup C.K) [.list ds] (Is (.tuple ds)) := fun B H vs e k Q q => by
  cases k with
  | cons k k' =>
    cases k'
    obtain ⟨a, xs, rfl, h1, h2⟩ := k.lst e
    exact ⟨a, xs, rfl, Or.inl ⟨h1, fun l hl => q _ _ _ _ rfl (Stp.new e hl) (.tup (Or.inl (Or.inl upd_same)) (dpall_mono (Stp.new (dl := C.dl) e hl).ext h2))⟩⟩
theorem cd_tupT : CD C (rTup C.K) [.tuple ds] (Is (.tuple ds)) := fun B H vs e k Q q => by
  cases k with
  | cons k k' =>
    cases k'
    have k0 := k
    obtain ⟨a, xs, rfl, h1, h2⟩ := k.tup e
    rcases k0 with k0 | ⟨_, _, _, _, z, _⟩
    · exact ⟨a, xs, rfl, Or.inr ⟨h1, q _ _ B H rfl (Stp.refl e) k0⟩⟩
    · cases z
theorem ve_tupL (h : VV C te Γ (Is (.list ds))) : VE C (tCB (rTup C.K) (tCons te tNil)) Γ (Is (.tuple ds)) := ve_cbD (vw_consD h vw_nil) cd_tupL
theorem ve_tupN (h : VV C te Γ (fun d => ∃ ds, d = .list ds ∧ S ds)) : VE C (tCB (rTup C.K) (tCons te tNil)) Γ (fun d => ∃ ds, d = .tuple ds ∧ S ds) := ve_cb (vw_cons h vw_nil) fun xs ⟨d, r, e, ⟨ds, e1, e2⟩, e3⟩ => by
  subst e1
  cases e3
  subst e
  intro B H vs e k Q q
  exact cd_tupL B H vs e k Q fun d w B' H' r s k => q d w B' H' ⟨ds, r, e2⟩ s k
def rList (K : PySem.W.Frag) : List V → Hp → VK → Prop := fun xs H Q => ∃ p ys, xs = [.ref p] ∧ (SqL K H p ys ∨ SqT K H p ys) ∧ ∀ l, H l = none → Q (.ref l) (upd H l (.lst ys))
theorem cq_list {X : Cx} : CallR X (.type "list") (rList X.K) := call_list_of
theorem cl_listL : CL C (rList C.K) [.list ds] (Is ds) := fun B H vs e k Q q => by
  cases k with
  | cons k k' =>
    cases k'
    obtain ⟨a, xs, rfl, h1, h2⟩ := k.lst e
    exact ⟨a, xs, rfl, Or.inl h1, fun l hl => q _ l xs B _ rfl (Stp.newM e hl) hl (e.free hl) upd_same h2⟩
theorem cl_listT : CL C (rList C.K) [.tuple ds] (Is ds) := fun B H vs e k Q q => by
  cases k with
  | cons k k' =>
    cases k'
    obtain ⟨a, xs, rfl, h1, h2⟩ := k.tup e
    exact ⟨a, xs, rfl, Or.inr h1, fun l hl => q _ l xs B _ rfl (Stp.newM e hl) hl (e.free hl) upd_same h2⟩
theorem vl_listL (h : VV C te Γ (Is (.list ds))) : VL C (tCB (rList C.K) (tCons te tNil)) Γ (Is ds) := vl_cbD (vw_consD h vw_nil) cl_listL
theorem vl_listT (h : VE C te Γ (Is (.tuple ds))) : VL C (tCB (rList C.K) (tCons te tNil)) Γ (Is ds) := vl_cbD (vw_consD h.v vw_nil) cl_listT
/-! ### ints -/
def rInt1 : List V → Hp → VK → Prop := fun xs H Q => (∃ i, xs = [.int i] ∧ Q (.int i) H) ∨ ∃ k, xs = [.bl k] ∧ Q (.int (if k then 1 else 0)) H
theorem cq_int {X : Cx} : CallR X (.type "int") rInt1 := call_int1
theorem ve_int1 (h : VE C te Γ (Is (.int i))) : VE C (tCB rInt1 (tCons te tNil)) Γ (Is (.int i)) := ve_cbD (vw_consD h.v vw_nil) fun B H vs e k Q q => by
  cases k with
  | cons k k' =>
    cases k'
    obtain rfl := k.int
    exact Or.inl ⟨i, rfl, q _ _ B H rfl (Stp.refl e) (.int _)⟩
theorem ve_int1R {R : Int → Prop} (h : VE C te Γ (fun d => ∃ i, d = .int i ∧ R i)) : VE C (tCB rInt1 (tCons te tNil)) Γ (fun d => ∃ i, d = .int i ∧ R i) := ve_cb (vw_cons h.v vw_nil) fun xs ⟨d, r, e, ⟨i, e1, e2⟩, e3⟩ => by
  subst e1
  cases e3
  subst e
  intro B H vs e k Q q
  cases k with
  | cons k k' =>
    cases k'
    obtain rfl := k.int
    exact Or.inl ⟨i, rfl, q _ _ B H ⟨i, rfl, e2⟩ (Stp.refl e) (.int _)⟩
def rAbs : List V → Hp → VK → Prop := fun xs H Q => ∃ i, xs = [.int i] ∧ Q (.int (if i < 0 then -i else i)) H
theorem cq_abs {X : Cx} : CallR X (.builtin "abs") rAbs := call_abs
theorem ve_abs (h : VE C te Γ (Is (.int i))) : VE C (tCB rAbs (tCons te tNil)) Γ (Is (.int (if i < 0 then -i else i))) := ve_cbD (vw_consD h.v vw_nil) fun B H vs e k Q q => by
  cases k with
  | cons k k' =>
    cases k'
    obtain rfl := k.int
    exact ⟨i, rfl, q _ _ B H rfl (Stp.refl e) (.int _)⟩
def rMx : List V → Hp → VK → Prop := fun xs H Q => ∃ i j, xs = [.int i, .int j] ∧ Q (.int (if j > i then j else i)) H
theorem cq_max {X : Cx} (hc : X.calm = true) : CallR X (.builtin "max") rMx := call_max2 hc
theorem ve_max (h : VE C ta Γ (Is (.int i))) (h2 : VE C tb Γ (Is (.int j))) : VE C (tCB rMx (tCons ta (tCons tb tNil))) Γ (Is (.int (if j > i then j else i))) := ve_cbD (vw_consD h.v (vw_consD h2.v vw_nil)) fun B H vs e k Q q => by
  cases k with
  | cons k k' =>
    cases k' with
    | cons k1 k2 =>
      cases k2
      obtain rfl := k.int
      obtain rfl := k1.int
      exact ⟨i, j, rfl, q _ _ B H rfl (Stp.refl e) (.int _)⟩
def rMn : List V → Hp → VK → Prop := fun xs H Q => ∃ i j, xs = [.int i, .int j] ∧ Q (.int (if j < i then j else i)) H
theorem cq_min {X : Cx} (hc : X.calm = true) : CallR X (.builtin "min") rMn := call_min2 hc
theorem ve_min (h : VE C ta Γ (Is (.int i))) (h2 : VE C tb Γ (Is (.int j))) : VE C (tCB rMn (tCons ta (tCons tb tNil))) Γ (Is (.int (if j < i then j else i))) := ve_cbD (vw_consD h.v (vw_consD h2.v vw_nil)) fun B H vs e k Q q => by
  cases k with
  | cons k k' =>
    cases k' with
    | cons k1 k2 =>
      cases k2
      obtain rfl := k.int
      obtain rfl := k1.int
      exact ⟨i, j, rfl, q _ _ B H rfl (Stp.refl e) (.int _)⟩
theorem ve_sum {ns : List Int} (h : VV C te Γ (Is (.list (ns.map .int)))) : VE C (tCB (rSum C.K) (tCons te tNil)) Γ (Is (.int ns.sum)) := ve_cbD (vw_consD h vw_nil) fun B H vs e k Q q => by
  cases k with
  | cons k k' =>
    cases k'
    obtain ⟨a, xs, rfl, h1, h2⟩ := k.lst e
    rw [dpall_ints h2] at h1
    exact ⟨a, ns, rfl, h1, q _ _ B H rfl (Stp.refl e) (.int _)⟩
theorem ve_all {ns : List Bool} (h : VV C te Γ (Is (.list (ns.map .bool)))) : VE C (tCB (rAll C.K) (tCons te tNil)) Γ (Is (.bool (ns.all id))) := ve_cbD (vw_consD h vw_nil) fun B H vs e k Q q => by
  cases k with
  | cons k k' =>
    cases k'
    obtain ⟨a, xs, rfl, h1, h2⟩ := k.lst e
    rw [dpall_bls h2] at h1
    exact ⟨a, ns, rfl, h1, q _ _ B H rfl (Stp.refl e) (.bl _)⟩
/-! ### repr -/
theorem ve_repr (h : VV C te Γ (Is d)) (h1 : d.showable = true) (h2 : d.hasDict = false) (h3 : d.depth ≤ 100) (h4 : d.shown.length ≤ sizeLine) : VE C (tCB (rRepr C.K) (tCons te tNil)) Γ (Is (.str d.shown)) := ve_cbD (vw_consD h vw_nil) fun B H vs e k Q q => by
  cases k with
  | cons k k' =>
    cases k'
    exact ⟨_, d, rfl, (k.now e).dpN h2, h1, h2, h3, h4, q _ _ B H rfl (Stp.refl e) (.str _)⟩
/-! ### join -/
def rJoin (K : PySem.W.Frag) : V → List V → Hp → VK → Prop := fun x xs H Q => ∃ a p, ∃ ys : List Str, x = .str a ∧ xs = [.ref p] ∧ (SqL K H p (ys.map V.str) ∨ SqT K H p (ys.map V.str)) ∧
  (ys.map (·.length)).sum + ys.length * a.length ≤ 16777216 ∧ Q (.str (Txt.join a ys)) H
theorem mq_join {X : Cx} : MtR X "str.join" (rJoin X.K) := mt_join
theorem ve_joinL {ys : List Str} (h : VE C ta Γ (Is (.str s))) (h2 : VV C te Γ (Is (.list (ys.map .str)))) (hz : (ys.map (·.length)).sum + ys.length * s.length ≤ 16777216) : VE C (tM1 (rJoin C.K) ta te) Γ (Is (.str (Txt.join s ys))) := fun B H σ F Q q =>
  h B H σ F _ fun d v B1 H1 ed s1 k1 => by
    cases ed
    obtain rfl := dp_str k1
    refine ⟨⟨s, rfl⟩, h2 B1 H1 σ (F.step s1) _ fun d v B2 H2 ed s2 k2 => ?_⟩
    cases ed
    obtain ⟨a, xs, rfl, g1, g2⟩ := k2.lst ((F.step s1).step s2).sub
    rw [dpall_strs g2] at g1
    exact ⟨s, a, ys, rfl, rfl, Or.inl g1, hz, q _ _ B2 H2 rfl (s1.trans F.dlNow s2) (.str _)⟩
theorem ve_joinT {ys : List Str} (h : VE C ta Γ (Is (.str s))) (h2 : VE C te Γ (Is (.tuple (ys.map .str)))) (hz : (ys.map (·.length)).sum + ys.length * s.length ≤ 16777216) : VE C (tM1 (rJoin C.K) ta te) Γ (Is (.str (Txt.join s ys))) := fun B H σ F Q q =>
  h B H σ F _ fun d v B1 H1 ed s1 k1 => by
    cases ed
    obtain rfl := dp_str k1
    refine ⟨⟨s, rfl⟩, h2 B1 H1 σ (F.step s1) _ fun d v B2 H2 ed s2 k2 => ?_⟩
    cases ed
    obtain ⟨a, xs, rfl, g1, g2⟩ := dp_tup k2
    rw [dpall_strs g2] at g1
    exact ⟨s, a, ys, rfl, rfl, Or.inr (same_t ((F.step s1).step s2).sub g1), hz, q _ _ B2 H2 rfl (s1.trans F.dlNow s2) (.str _)⟩
/-! ### isinstance -/
def tyName : D → String
  | .none => "NoneType"
  | .bool _ => "bool"
  | .int _ => "int"
  | .str _ => "str"
  | .list _ => "list"
  | .tuple _ => "tuple"
  | .dict _ => "dict"
def rIsAny (K : PySem.W.Frag) : List V → Hp → VK → Prop := fun xs H Q => rIsi K xs H Q ∨ rIsiT K xs H Q
theorem cq_isi {X : Cx} : CallR X (.builtin "isinstance") (rIsAny X.K) := CallR.or call_isi call_isiT
theorem vw_ty {B H : Hp} {v : V} (e : Same B H) (k : Vw C B H v x) : TyX C.K H v (.type (tyName x)) := by
  have q := k.now e
  cases q with
  | non => exact .base .non
  | bl b => exact .base (.bl b)
  | int i => exact .base (.int i)
  | str z => exact .base (.str z)
  | lst h _ =>
    rcases h with h | ⟨o, h⟩
    · exact .base (.lst h)
    · exact .base (.frz h)
  | tup h _ =>
    rcases h with (h | ⟨o, h⟩) | ⟨o, its, n, h1, h2, _⟩
    · exact .base (.tup h)
    · exact .fTuple h
    · exact .kTuple h1 h2
  | dct h _ _ =>
    rcases h with h | ⟨o, h⟩
    · exact .base (.dK h)
    · exact .fDict h
/-- isinstance(x, T) -/
theorem ve_isi {n : String} {b : Bool} (h : VV C te Γ (Is x)) (hb : kitB (tyName x) n = some b) : VE C (tCB (rIsAny C.K) (tCons te (tCons (tC (.ty n)) tNil))) Γ (Is (.bool b)) := fun B H σ F Q q =>
  h B H σ F _ fun d v B1 H1 ed s1 k1 => by
    cases ed
    exact Or.inl ⟨v, .ty n, _, _, b, rfl, .ty n, vw_ty (F.step s1).sub k1, kit_ty hb, q _ _ B1 H1 rfl s1 (.bl _)⟩
/-- isinstance(x, (T, U)) -/
theorem ve_isi2 {m n : String} {b c : Bool} (h : VV C te Γ (Is x)) (hb : kitB (tyName x) m = some b) (hc : kitB (tyName x) n = some c) :
    VE C (tCB (rIsAny C.K) (tCons te (tCons (tTup (tCons (tC (.ty m)) (tCons (tC (.ty n)) tNil))) tNil))) Γ (Is (.bool (b || c))) := fun B H σ F Q q =>
  h B H σ F _ fun d v B1 H1 ed s1 k1 => by
    cases ed
    refine ⟨by show 2 ≤ sizeLine; decide, fun p hp => ?_⟩
    have st := Stp.newM (dl := C.dl) (o := .tup [V.ty m, V.ty n]) (F.step s1).sub hp
    have k2 := k1.step (F.step s1) st
    refine Or.inr ⟨v, p, [.ty m, .ty n], _, [.type m, .type n], b || c, rfl, upd_same, .cons (.ty m) (.cons (.ty n) .nil), vw_ty ((F.step s1).step st).sub k2, ?_, q _ _ B1 _ rfl (s1.trans F.dlNow st) (.bl _)⟩
    refine kitAny_cons (kit_ty hb) (fun e => ?_) fun e => by rw [e]; rfl
    subst e
    refine kitAny_cons (r := false || c) (kit_ty hc) (fun e => ?_) fun e => by rw [e]; rfl
    subst e
    rfl
end

/-! ### enumerate of a text -/
def ItS (z : Str) : It := ⟨fun i _ => i < z.cps.size, fun i H v H' => ∃ T c, v = .ref T ∧ H T = none ∧ H' = upd H T (.tup [.int (i : Nat), .str ⟨#[c]⟩]) ∧ z.cps[i]? = some c, fun i _ => i = z.cps.size⟩
theorem walk_enumS {z : Str} : Walk (ItS z) z.cps.size (fun _ => True) (fun i H v H' => ∃ T c, v = .ref T ∧ H T = none ∧ H' = upd H T (.tup [.int (i : Nat), .str ⟨#[c]⟩]) ∧ z.cps[i]? = some c) :=
  ⟨fun _ _ h _ => h, fun _ _ => rfl, fun _ _ _ _ _ _ y => y⟩
theorem draws_str {prog : Program} {w : World} {A : Around} (hh : A.handled = none) (it : Addr) (x : Str) (t : Tok) :
    Draws prog w A it [it] x.cps.size (fun i v => ∃ c u, x.cps[i]? = some c ∧ v = .str ⟨#[c]⟩ u) (fun i h => h.IsStrIter it (strIterType x) x t i) := by
  unfold strIterType
  split
  · exact Draws.strAscii hh it x t
  · exact Draws.strWide hh it x t
theorem turn_enumS {P : Program} {w : World} {K : PySem.W.Frag} {elts : List Expr} {kk : Nat} {tpos : Pos} (z : Str) (t : Tok) (e it : Addr) :
    Turn P w K (.Tuple elts kk tpos) (ItS z) [e, it] e (fun i h => (∃ old, IsEnum h e it ((i : Nat) : Int) old) ∧ h.IsStrIter it (strIterType z) z t i ∧ e ≠ it) := by
  refine ⟨by simp, ?_, ?_, ?_, ?_, ?_⟩
  · rintro i h ⟨⟨old, he⟩, ⟨o, ho, hc, hd⟩, _⟩ b hb
    rcases List.mem_cons.mp hb with rfl | hb
    · exact ⟨_, he, fun v q => nomatch q⟩
    · rw [List.mem_singleton] at hb
      subst hb
      exact ⟨o, ho, fun v q => by rw [hd] at q; cases q⟩
  · rintro i h h' ⟨⟨old, he⟩, ⟨o, ho, r⟩, hne⟩ k
    exact ⟨⟨old, k e (by simp) _ he⟩, ⟨o, k it (by simp) o ho, r⟩, hne⟩
  · rintro X rfl rfl rfl hc i pins s σ H E I hf ⟨⟨old, he⟩, hit, hne⟩ hg
    have hel : e < s.heap.objs.size := Heap.lt_size he
    have hil : it < s.heap.objs.size := by
      obtain ⟨_, q, _⟩ := hit
      exact Heap.lt_size q
    refine wpAny_pyNext_enum_itemD (draws_str (by simpa using I.ok.hd hc) it z t) he hit hg hne (fun z => hne (List.mem_singleton.mp z)) fun x h' tk hP ho hit' hT hsz hk => ?_
    obtain ⟨c, u, hcx, rfl⟩ := hP
    refine ⟨_, rfl, wpAny_letOwnedTupleGo_enum (s := { s with heap := h', toks := tk + 1 }) ho fun h'' he' sb => ?_⟩
    have hT2 := (sb.2 s.heap.objs.size (Nat.ne_of_gt hel)).trans hT
    have new : ObjOk X.prog X.w (upd H s.heap.objs.size (.tup [.int (i : Nat), .str ⟨#[c]⟩])) h'' s.heap.objs.size (.tup [.int (i : Nat), .str ⟨#[c]⟩]) :=
      ⟨by show 2 ≤ sizeLine; decide, _, .cons ⟨_, rfl⟩ (.cons ⟨_, rfl⟩ .nil), ⟨_, hT2, rfl, _, rfl⟩⟩
    have J := I.turnedNew (ch := [e, it]) (t' := tk + 1) (fun b ob hb q => (sb.2 b (fun y => hb (by simp [y]))).trans (hk b ob (fun y => hb (by simp [y])) (fun y => hb (by simp [y])) q)) hf (Nat.le_refl _) new
    refine ⟨.ref s.heap.objs.size, _, J, rfl, ⟨_, c, rfl, I.hok.fresh (Nat.le_refl _), rfl, hcx⟩, ⟨⟨Value.str ⟨#[c]⟩ u, ?_⟩, ?_, hne⟩, fun b hb => ?_⟩
    · rw [show ((i + 1 : Nat) : Int) = (i : Int) + 1 by omega]
      exact he'
    · obtain ⟨o, ho', r⟩ := hit'
      exact ⟨o, (sb.2 it (Ne.symm hne)).trans ho', r⟩
    · have hb' : b < s.heap.objs.size := by
        rcases List.mem_cons.mp hb with y | y
        · rw [y]
          exact hel
        · rw [List.mem_singleton.mp y]
          exact hil
      rw [upd_ne (Nat.ne_of_lt hb')]
      exact (hf b hb).1
  · rintro X rfl rfl rfl hc i pins s σ H E I hf ⟨⟨old, he⟩, hit, hne⟩ hg
    obtain ⟨f0, f1, f2, f3, f4, f5⟩ := hf it (by simp)
    obtain rfl : i = z.cps.size := hg
    exact wpAny_pyNext_enum_endD (draws_str (by simpa using I.ok.hd hc) it z t) he hit fun h' eb => ⟨rfl, I.turned (t' := s.toks) (fun b o hb q => eb b o hb q) f0 f1 f3 f4 f5⟩
  · rintro A i s Q E ⟨⟨_, he⟩, _⟩ h
    exact wpAny_pyIter_enum he h
def iEnumS (ta : TA) : TI := fun σ H R => ta σ H fun vs H1 => ∃ z, vs = [.str z] ∧ R (ItS z) H1
theorem pi_enumS {X : Cx} {e : Expr} {ta : TA} {p pos tpos : Pos} {elts : List Expr} {kk : Nat} (hg : Gl X "enumerate") (hm : X.mg "enumerate" = none) (ha : PA X [e] ta) (hs : starEach [e] X.env = [(false, eval e X.env)] := by rfl) :
    PI X (.Tuple elts kk tpos) (.Call (.Name "enumerate" p) [e] [] pos) (iEnumS ta) := by
  constructor
  intro pins s σ H R I h
  refine Call_ (ld_blt I hg hm boot_enumerate ?_)
  refine PyProof.Rows.callWith_type1 ?_ hs rfl
  refine thn (ha.run pos pins s σ H _ I h) ?_
  rintro us s1 ⟨vs, H1, I1, r1, z, ex, q⟩
  subst ex
  obtain ⟨u, rfl, t, rfl⟩ := vals1 r1
  refine call_enumerate_str fun h' he hit hsz hk => wpAny_pyIter_enum he ?_
  have J : L2.Inv X pins σ H1 { s1 with heap := h' } := I1.kept (t' := s1.toks) hk
  refine ⟨_, [s1.heap.objs.size + 1, s1.heap.objs.size], _, _, H1, rfl, J, turn_enumS z t (s1.heap.objs.size + 1) s1.heap.objs.size, ⟨⟨.none, he⟩, hit, Nat.succ_ne_self _⟩, fun b hb => ?_, q⟩
  have hle : s1.heap.objs.size ≤ b := by
    rcases List.mem_cons.mp hb with y | y
    · rw [y]
      exact Nat.le_succ _
    · rw [List.mem_singleton.mp y]
      exact Nat.le_refl _
  exact I1.fpOk hle (I1.hok.fresh hle)
/-- the pairs of a place and a sign -/
def placed (z : Str) : List D := (List.range z.cps.size).map fun i => .tuple [.int (i : Nat), .str ⟨#[z.cps.getD i 0]⟩]
theorem placed_len (z : Str) : (placed z).length = z.cps.size := by simp [placed]
theorem placed_get {z : Str} {i : Nat} {d : D} (h : (placed z)[i]? = some d) : ∃ c, z.cps[i]? = some c ∧ d = .tuple [.int (i : Nat), .str ⟨#[c]⟩] := by
  unfold placed at h
  rw [List.getElem?_map] at h
  by_cases hi : i < z.cps.size
  · rw [List.getElem?_range hi] at h
    cases h
    refine ⟨z.cps[i], Array.getElem?_eq_getElem hi, ?_⟩
    show PyData.tuple [PyData.int (i : Nat), PyData.str ⟨#[z.cps.getD i 0]⟩] = _
    rw [Array.getD_eq_getD_getElem?, Array.getElem?_eq_getElem hi]
    rfl
  · rw [List.getElem?_eq_none_iff.mpr (by simpa using hi)] at h
    cases h
theorem vi_enumS {C : Cn} {Γ : List Sl} {te : TE} {z : Str} (h : VE C te Γ (Is (.str z))) : VI C (iEnumS (tCons te tNil)) Γ (Is (placed z)) := fun B H σ F T q => h B H σ F _ fun d v B1 H1 r s k => by
  cases r
  obtain rfl := dp_str k
  refine ⟨z, rfl, q _ _ B1 H1 (fun _ => True) _ rfl s (by rw [placed_len]; exact walk_enumS) (fun _ _ _ _ => trivial) ?_⟩
  rintro i x H2 H2' ⟨T, c, rfl, hT, rfl, hc⟩ B2 d e1 e2 hd
  obtain ⟨c', hc', rfl⟩ := placed_get hd
  rw [hc] at hc'
  cases hc'
  exact ⟨_, Stp.new e2 hT, .tup (Or.inl (Or.inl upd_same)) (.cons (.int _) (.cons (.str _) .nil))⟩
end Ly

/-! LyI: a loop over any list, tuple or text; signs compared; the source of draws' own shape. -/
namespace Ly
open PySem PySem.Spec PyProof.Rows L2

/-- for x in e, e a list, a tuple or a text -/
def iAny (K : PySem.W.Frag) (tl : TE) : TI := fun σ H R => tl σ H fun x H1 => (∃ a, x = .ref a ∧ (∃ xs, SqL K H1 a xs) ∧ R (Itl K a) H1) ∨ ((∃ a, x = .ref a ∧ (∃ xs, SqT K H1 a xs) ∧ R (Itt K a) H1) ∨ ∃ z, x = .str z ∧ R (Its z) H1)
theorem pi_any {X : Cx} {tg l : Expr} {tl : TE} (hl : PE X l tl) : PI X tg l (iAny X.K tl) := by
  constructor
  intro pins s σ H R I h
  refine thn (hl.run pins s σ H _ I h) ?_
  rintro v s1 ⟨x, H1, I1, r1, q⟩
  have fresh1 : ∀ b ∈ [s1.heap.objs.size], FpOk X pins H1 b := fun b hb => by
    rw [List.mem_singleton.mp hb]
    exact I1.fpOk (Nat.le_refl _) (I1.hok.fresh (Nat.le_refl _))
  rcases q with ⟨a, rfl, ⟨xs, hq⟩, q⟩ | ⟨a, rfl, ⟨xs, hq⟩, q⟩ | ⟨z, rfl, q⟩
  · obtain rfl : v = Value.ref a := r1
    obtain ⟨its, _, p, _⟩ := I1.list hq
    apply wpAny_pyIter_list p.isList
    exact ⟨_, [s1.heap.objs.size], _, _, H1, rfl, I1.kept (t' := s1.toks) fun b o e => Heap.get?_push_of_some _ e, turn_list a s1.heap.objs.size, ⟨_, Heap.get?_push_size _ rfl, rfl, rfl⟩, fresh1, q⟩
  · obtain rfl : v = Value.ref a := r1
    obtain ⟨its, _, p, _⟩ := I1.tuple hq
    apply wpAny_pyIter_tuple (show s1.heap.IsTuple a its.toArray from p)
    exact ⟨_, [s1.heap.objs.size], _, _, H1, rfl, I1.kept (t' := s1.toks) fun b o e => Heap.get?_push_of_some _ e, turn_tuple a s1.heap.objs.size, ⟨_, Heap.get?_push_size _ rfl, rfl, rfl⟩, fresh1, q⟩
  · obtain ⟨t, rfl⟩ := r1
    by_cases ha : z.cps.all (· < 128) = true
    · exact wpAny_pyIter_ascii ha (pi_one (tk := s1.toks) I1 _ (turn_str s1.heap.objs.size z t "str_ascii_iterator" (Or.inl rfl)) ⟨_, Heap.get?_push_size _ rfl, rfl, rfl⟩ q)
    · exact wpAny_pyIter_wide (by simpa using ha) (pi_one (tk := s1.toks) I1 _ (turn_str s1.heap.objs.size z t "str_iterator" (Or.inr rfl)) ⟨_, Heap.get?_push_size _ rfl, rfl, rfl⟩ q)
section
variable {C : Cn} {Γ : List Sl} {t te ta tb tc : TE} {ds : List D} {S : List D → Prop} {s z : Str}
theorem va_list (h : VE C t Γ (fun d => ∃ ds, d = .list ds ∧ S ds)) : VI C (iAny C.K t) Γ S := fun B H σ F T q => h B H σ F _ fun d v B1 H1 ⟨ds, e, r⟩ s k => by
  subst e
  obtain ⟨a, xs, rfl, h1, h2⟩ := dp_lst k
  refine Or.inl ⟨a, rfl, ⟨xs, same_l (F.step s).sub h1⟩, q ds _ B1 H1 _ _ r s (dpall_len h2 ▸ walk_list) (fun B2 H2 e1 e2 => same_l e2 (same_l e1 h1)) ?_⟩
  rintro i x H2 H2' ⟨rfl, hx⟩ B2 d e1 e2 hd
  obtain ⟨v, hv, k2⟩ := dpall_get h2 hd
  rw [hx] at hv
  cases hv
  exact ⟨B2, Stp.refl e2, dp_mono e1 k2⟩
theorem va_listD (h : VE C t Γ (Is (.list ds))) : VI C (iAny C.K t) Γ (Is ds) := va_list (h.imp fun d e => ⟨ds, e, rfl⟩)
theorem va_tup (h : VE C t Γ (fun d => ∃ ds, d = .tuple ds ∧ S ds)) : VI C (iAny C.K t) Γ S := fun B H σ F T q => h B H σ F _ fun d v B1 H1 ⟨ds, e, r⟩ s k => by
  subst e
  obtain ⟨a, xs, rfl, h1, h2⟩ := dp_tup k
  refine Or.inr (Or.inl ⟨a, rfl, ⟨xs, same_t (F.step s).sub h1⟩, q ds _ B1 H1 _ _ r s (dpall_len h2 ▸ walk_tup) (fun B2 H2 e1 e2 => same_t e2 (same_t e1 h1)) ?_⟩)
  rintro i x H2 H2' ⟨rfl, hx⟩ B2 d e1 e2 hd
  obtain ⟨v, hv, k2⟩ := dpall_get h2 hd
  rw [hx] at hv
  cases hv
  exact ⟨B2, Stp.refl e2, dp_mono e1 k2⟩
theorem va_tupD (h : VE C t Γ (Is (.tuple ds))) : VI C (iAny C.K t) Γ (Is ds) := va_tup (h.imp fun d e => ⟨ds, e, rfl⟩)
theorem va_strD (h : VE C t Γ (Is (.str z))) : VI C (iAny C.K t) Γ (Is (signs z)) := fun B H σ F T q => h B H σ F _ fun d v B1 H1 r s k => by
  cases r
  obtain rfl := dp_str k
  refine Or.inr (Or.inr ⟨z, rfl, q _ _ B1 H1 _ _ rfl s (signs_len z ▸ walk_str) (fun _ _ _ _ => trivial) ?_⟩)
  rintro i x H2 H2' ⟨rfl, c, hc, rfl⟩ B2 d e1 e2 hd
  have hd' : (signs z)[i]? = some (.str ⟨#[c]⟩) := by
    unfold signs
    rw [List.getElem?_map, Array.getElem?_toList, hc]
    rfl
  rw [hd'] at hd
  cases hd
  exact ⟨B2, Stp.refl e2, .str _⟩
/-! a < b < c -/
theorem ve_chain {r r' : R2} {x y : D} {R : D → Prop} {b : Bool} (ha : VE C ta Γ (Is x)) (hb : VE C tb Γ (Is y)) (ho : OD C r x y (Is (.bool b))) (h0 : b = false → R (.bool false)) (hc : b = true → VV C tc Γ (fun w => OD C r' y w R)) : VE C (tChain r r' ta tb tc) Γ R := fun B H σ F Q q =>
  ha B H σ F _ fun d v B1 H1 e1 s1 k1 => hb B1 H1 σ (F.step s1) _ fun d2 v2 B2 H2 e2 s2 k2 => by
    cases e1
    cases e2
    have F2 := (F.step s1).step s2
    refine ho B2 H2 v v2 F2.sub (Or.inl (dp_mono s2.ext k1)) (Or.inl k2) _ fun d3 w B3 H3 e3 s3 k3 => ?_
    cases e3
    obtain rfl := dp_bl k3
    have st := (s1.trans F.dlNow s2).trans F.dlNow s3
    refine ⟨b, rfl, ?_⟩
    cases b with
    | false => exact iteF (q _ _ B3 H3 (h0 rfl) st (.bl false))
    | true =>
      refine iteT (hc rfl B3 H3 σ (F2.step s3) _ fun d4 v4 B4 H4 e4 s4 k4 => ?_)
      exact e4 B4 H4 v2 v4 ((F2.step s3).step s4).sub (Or.inl (dp_mono (s3.ext.trans s4.ext) k2)) k4 _ fun d5 v5 B5 H5 e5 s5 k5 => q d5 v5 B5 H5 e5 ((st.trans F.dlNow s4).trans F.dlNow s5) k5
end
end Ly

/-! LyJ: the end of a law's row over GOk. -/
namespace Ly
open PySem PySem.Spec PyProof.Rows L2

/-- what is tracked at the law's own call: the script alone, if it is no object of the module -/
def H1 (K : PySem.W.Frag) (a : Addr) (o : Obj) (xs : List V) : Hp := fun b => if b = a ∧ K.lookup a = none then some (.frz o (.lst xs)) else none
theorem h1_at {K : PySem.W.Frag} {a : Addr} {o : Obj} {xs : List V} (h : K.lookup a = none) : H1 K a o xs a = some (.frz o (.lst xs)) := if_pos ⟨rfl, h⟩
theorem h1_only {K : PySem.W.Frag} {a b : Addr} {o : Obj} {xs : List V} {u : HO} (h : H1 K a o xs b = some u) : b = a ∧ K.lookup a = none ∧ u = .frz o (.lst xs) := by
  unfold H1 at h
  split at h
  · rename_i q
    cases h
    exact ⟨q.1, q.2, rfl⟩
  · cases h

section
variable {P : Program} {w : World} {K : PySem.W.Frag} {mg mb : Str → Option Value} {k : Nat} {fa a : Addr} {fd : FuncData} {x : Str} {sp : Sp} {s₁ : Shared} {vs : List Value} {ns : List Int}
theorem law_g (KX : K.In s₁.heap) (hns : s₁.heap.Ns mainGlobals mg) (hb : s₁.heap.Ns builtinsNs mb) (hbb : ∀ x : Str, x ≠ "__name__" → mb x = bootBuiltins x) (hlim : s₁.heap.NoLimit) (hg : s₁.gens = #[])
    (ha : s₁.heap.get? a = some { cls := .type "list", data := .seq vs.toArray }) (hi : IntsAre vs ns) (hl : ns.length ≤ sizeLine) (hr : Room k callerA)
    (F : ∀ base : Heap, K.In base → base.Ns mainGlobals mg → GOk P w K mg base CX0 k fa fd [x] sp) (hbind : ∀ (s : Shared) (u : Value), BindsTo s fd ⟨[u], []⟩ [(x, u)])
    (hsp : ∀ H : Hp, SqL K H a (ns.map V.int) → sp [.ref a] H (fun v _ => v = .bl true) E0) :
    codeAny (model P w) callerA (.call (.ref fa) ⟨[.ref a], []⟩) (fun r s' => r = .ok (.ret (.bool true)) ∧ OldK s₁.heap s'.heap ∧ s'.os = s₁.os ∧ AllBare s'.gens) s₁ := by
  have rv : Vals (ns.map V.int) vs := vals_ints hi
  have lv : vs.length = ns.length := by
    have := rv.length
    rw [List.length_map] at this
    exact this.symm
  let o : Obj := { cls := .type "list", data := .seq vs.toArray }
  let H : Hp := H1 K a o (ns.map V.int)
  have ok : HOk P w H s₁.heap := fun b u e => by
    obtain ⟨rfl, _, rfl⟩ := h1_only e
    exact ⟨ha, by rw [List.length_map]; exact hl, vs, _, rv, ha⟩
  have sq : SqL K H a (ns.map V.int) := by
    cases e : K.lookup a with
    | none => exact Or.inl (Or.inr ⟨o, h1_at e⟩)
    | some u =>
      have e2 := KX a u e
      rw [ha] at e2
      cases e2
      exact Or.inr ⟨_, vs.toArray, _, e, rfl, rfl, rfl, by rw [List.size_toArray, lv]; exact hl, by simpa using rv⟩
  have free : ∀ {b : Addr} {u : Obj} {es : Array DictEntry} {ep : Nat}, s₁.heap.get? b = some u → u.data = .dict es ep → H b = none := fun {b u es ep} e d => by
    cases q : H b with
    | none => rfl
    | some v =>
      obtain ⟨rfl, _, _⟩ := h1_only q
      rw [ha] at e
      cases e
      cases d
  have ns1 : ∀ {b : Addr} {m : Str → Option Value}, s₁.heap.Ns b m → (hidT s₁.heap H).Ns b m := by
    rintro b m ⟨u, es, ep, e, d, r⟩
    exact ⟨u, es, ep, hidT_get e (free e d), d, r⟩
  have kin : K.In (hidT s₁.heap H) := fun b u e => hidT_get (KX b u e) (by
    cases q : H b with
    | none => rfl
    | some v =>
      obtain ⟨rfl, z, _⟩ := h1_only q
      rw [z] at e
      cases e)
  obtain ⟨mc, hc1, hc2⟩ := hlim
  have hm : Mod K mg (hidT s₁.heap H) := ⟨kin, ns1 hns, ⟨mb, ns1 hb, hbb⟩, mc, ns1 hc1, hc2⟩
  have none_in : ∀ b : Addr, b ∉ frs ([] : List Env) := fun b hb => nomatch hb
  have e0 : Env0 P w K mg (hidT s₁.heap H) callerA [] s₁ H :=
    { frames := rfl, mod := hm, bs := fun b u e => of_hidT e, bsz := Nat.le_of_eq (hidT_size _ _), funs := trivial, frf := fun b hb => absurd hb (none_in b), hok := ok, bare := .of_eq hg }
  refine codeAny_mono ((F _ kin (ns1 hns)).does (us := [.ref a]) (vs := [.ref a]) (E := E0) rfl hr e0 (hbind s₁ (.ref a)) (.cons rfl .nil) (hsp H sq)) fun r s' h => ?_
  cases r with
  | error e => exact False.elim h
  | ok fl =>
    cases fl with
    | next => exact False.elim h
    | brk => exact False.elim h
    | cont => exact False.elim h
    | ret u =>
      obtain ⟨v, H', os, bare, un, ok', rr, q⟩ := h
      obtain rfl : v = .bl true := q
      obtain rfl : u = Value.bool true := rr
      refine ⟨rfl, OldK.of_keep fun b u e => ?_, os, bare⟩
      cases q : H b with
      | none => exact un.keep b u e q (none_in b) (fun z => nomatch z)
      | some y =>
        obtain ⟨rfl, _, rfl⟩ := h1_only q
        obtain ⟨e2, _⟩ := ok' b _ (un.frzs b _ _ q)
        rw [e2, ← e, ha]
end
/-- the goal that k_head leaves, from a law's promise over GOk -/
theorem walk_g {l : PySem.W.OpenLaw} {n k : Nat} {q : Program} {loose : List Str} {XP : (Str → Option Value) → Heap → Prop} {YP : World → Heap → Prop} {d : DefRec} {K : Params → PySem.W.Frag} {sp : PySem.W.Frag → Sp} {x : Str}
    (hn : l.most = some n) (hn2 : n ≤ sizeLine) (hdf : d.params.defaults = []) (hr : Room k callerA)
    (hY : ∀ (w : World) (h : Heap), YP w h → (K w.params).In h)
    (F : ∀ (w : World) (mg : Str → Option Value) (fa : Addr) (h : Heap), (K w.params).In h → h.Ns mainGlobals mg → mg d.name = some (.ref fa) →
      ∃ fd : FuncData, (∀ (s : Shared) (u : Value), BindsTo s fd ⟨[u], []⟩ [(x, u)]) ∧ ∀ base : Heap, (K w.params).In base → base.Ns mainGlobals mg → GOk l.prog w (K w.params) mg base CX0 k fa fd [x] (sp (K w.params)))
    (hsp : ∀ (K : PySem.W.Frag) (H : Hp) (a : Addr) (ns : List Int), ns.length ≤ n → SqL K H a (ns.map V.int) → sp K [.ref a] H (fun v _ => v = .bl true) E0) :
    PySem.W.WalkO q loose XP YP l.row.toRowW d [] (fun f vs => PySem.call f vs) := by
  apply Att.attach_call hn hdf
  intro w s₀ s₁ mg mb fa o pm cd doc a vs ns G Y ho hd hcd hmg hobj hints hlen hg
  obtain ⟨fd, hb, hF⟩ := F w mg fa _ (hY w _ Y) G.T.g hmg
  exact law_g (hY w _ Y) G.T.g G.T.b G.T.builtins G.T.nolimit hg hobj hints (Nat.le_trans hlen hn2) hr hF hb fun H hS => hsp _ H a ns hlen hS

/-- a law's own promise -/
def Lw (K : PySem.W.Frag) : Sp := fun vs H Q _ => ∃ (a : Addr) (ns : List Int), vs = [.ref a] ∧ SqL K H a (ns.map V.int) ∧ ns.length ≤ 63 ∧ ∀ H', Q (.bl true) H'
section
variable {P0 : Program} {w : World} {K : PySem.W.Frag} {mg : Str → Option Value} {base : Heap} {k : Nat} {f : Addr} {fd : FuncData} {N : List Str} {x qual : Str} {st : Stmt}
theorem fm_law {K : PySem.W.Frag} {H : Hp} {a : Addr} {xs : List V} {N : List Str} {n : Nat} (hS : SqL K H a xs) (hn : 1 + n = N.length) : Fm ⟨K, H, H, none⟩ H H (L2.start N [.ref a]) (.rd xs :: List.replicate n .no) := by
  refine ⟨Stp.refl (Same.refl H), (fun p q e => nomatch e), ?_, fun i sl h => ?_, fun i j p ds es h => ?_⟩
  · rw [start_len (by rw [List.length_singleton]; omega), List.length_cons, List.length_replicate]
    omega
  · cases i with
    | zero =>
      cases h
      exact ⟨a, rfl, hS⟩
    | succ i =>
      have h : (List.replicate n Sl.no)[i]? = some sl := h
      rw [List.getElem?_replicate] at h
      split at h
      · cases h
        trivial
      · cases h
  · exfalso
    cases i with
    | zero => cases h
    | succ i =>
      have h : (List.replicate n Sl.no)[i]? = some (.own ds) := h
      rw [List.getElem?_replicate] at h
      split at h <;> cases h
theorem law_ok (n : Nat) (F : Fun K x qual st f fd) (S : FnScope N ["script"] (defScope st)) (hn : 1 + n = N.length)
    (body : ∀ (cdv : Value) (A : Around) (outer : List Env) (s : Shared) (H : Hp) (E : XK), (cxOf CX0 P0 w K mg base N qual (defScope st) f cdv A outer s H E).A.guards = some [] → Room k (cxOf CX0 P0 w K mg base N qual (defScope st) f cdv A outer s H E).A →
      ∃ t, PSs (cxOf CX0 P0 w K mg base N qual (defScope st) f cdv A outer s H E).nox (defBody st) t ∧ ∀ H (ns : List Int), ns.length ≤ 63 → VS ⟨K, H, H, none⟩ t (.rd (ns.map V.int) :: List.replicate n .no) { nx := fun _ => False, rt := Is (.bool true) }) :
    GOk P0 w K mg base CX0 (k + 1) f fd ["script"] (Lw K) := by
  refine gok_of F S (fun {vs H Q E} ⟨a, ns, e, _⟩ => by rw [e]; rfl) fun cdv A outer s H vs Q E hg hr ⟨a, ns, e, hS, hl, hq⟩ => ?_
  subst e
  obtain ⟨t, ht, hv⟩ := body cdv A outer s H E hg hr
  refine ⟨t, ht.nox, hv H ns hl H H _ _ (fm_law hS hn) (fun _ _ _ _ e => e.elim) ?_ (fun _ _ _ _ e => e.elim) fun _ _ _ _ e => e.elim⟩
  intro d v B' H' e _ kd
  cases e
  obtain rfl := dp_bl kd
  exact hq H'
end
end Ly

/-! LyK: the laws' own draws: _law_draw, _law_any, _law_of, _law_mixed (their readings and what these give). -/
namespace Ly
open PySem PySem.Spec PyProof.Rows L2

/-- the source of draws is made from the script and a number -/
def Dr (K : PySem.W.Frag) : Sp := fun vs H Q _ => ∃ (B : Hp) (a : Addr) (ns : List Int) (salt : Int), vs = [.ref a, .int salt] ∧ Same B H ∧ SqL K B a (ns.map V.int) ∧ 0 ≤ salt ∧ salt ≤ 1000 ∧ ns.length ≤ 63 ∧
  ∀ p q B' H', Stp none B H B' H' → H p = none → H q = none → B' p = none → B' q = none → DealAt H' p q → Q (.ref p) H'
def P_any (ds : List D) : Prop := ∃ b : Int, ds = [.int b] ∧ 0 < b
def R_any (ds : List D) (d : D) : Prop := ∀ b : Int, ds = [.int b] → ∃ r, d = .int r ∧ 0 ≤ r ∧ r < b
def P_of (ds : List D) : Prop := ∃ xs, (ds = [.list xs] ∨ ds = [.tuple xs]) ∧ xs ≠ [] ∧ xs.length ≤ 100000
def R_of (ds : List D) (d : D) : Prop := ∀ xs, (ds = [.list xs] ∨ ds = [.tuple xs]) → d ∈ xs
def P_mixed (ds : List D) : Prop := ∃ xs, (ds = [.list xs] ∨ ds = [.tuple xs]) ∧ xs.length ≤ 10000
def R_mixed (ds : List D) (d : D) : Prop := ∀ xs, (ds = [.list xs] ∨ ds = [.tuple xs]) → ∃ ys, d = .list ys ∧ ys.Perm xs
end Ly

/-! LyL: what _law_any, _law_of, _law_mixed give. -/
namespace Ly
open PySem PySem.Spec PyProof.Rows L2

abbrev tIx0 (K : PySem.W.Frag) (i : Int) : TE := tOp (rIx K) (tVar 0) (tC (.int i))
abbrev rMod : R2 := rI (fun _ j => 0 < j) fun i j => .int (i % j)
abbrev rDiv : R2 := rI (fun _ j => 0 < j) fun i j => .int (i / j)
abbrev rMul : R2 := rI CMulW fun i j => .int (i * j)
def t_any (K : PySem.W.Frag) : TS :=
  tSeq (tWhile (tAnd (tTest (tOp (rNeA K) (tIx0 K 0) (tLst tNil))) (tTest (tOp (rEqA K) (tOp (rIx K) (tIx0 K 0) (tUn (rU fun i => .int (-i)) (tC (.int 1)))) (tC (.int 0))))) (tDrop (tBM0 K "list" rPop (tIx0 K 0))))
  (tSeq (tIfS (tTest (tOp (rNeA K) (tIx0 K 0) (tLst tNil))) (tSeq (tAsg (tCB rInt1 (tCons (tBM0 K "list" rPop (tIx0 K 0)) tNil)) (gName 2))
      (tSeq (tDrop (tBM K "list" rAppend (tIx0 K 0) (tCons (tOp rDiv (tVar 2) (tVar 1)) tNil))) (tRet (tOp rMod (tVar 2) (tVar 1))))) tNext)
  (tSeq (tAsg (tOp rMod (tCB rInt1 (tCons (tOp (rAddA K) (tOp rMul (tIx0 K 1) (tC (.int 40693))) (tC (.int 71))) tNil)) (tC (.int 2147483647))) (gSub (tVar 0) (tC (.int 1)) rSetL))
    (tRet (tOp rMod (tCB rInt1 (tCons (tOp rDiv (tIx0 K 1) (tC (.int 64))) tNil)) (tVar 1)))))

theorem shaped_ints (ns : List Int) : SeqAt.shaped (.list (ns.map .int)) = true := by
  have h1 : ∀ ns : List Int, PyData.canLayAll0 (ns.map .int) = true := fun ns => by
    induction ns with
    | nil => simp [PyData.canLayAll0]
    | cons n ns ih => simp [PyData.canLayAll0, PyData.canLay0, ih]
  have h2 : ∀ ns : List Int, PyData.depthAll (ns.map .int) ≤ 1 := fun ns => by
    induction ns with
    | nil => simp [PyData.depthAll]
    | cons n ns ih =>
      simp only [List.map_cons, PyData.depthAll, PyData.depth]
      omega
  have h3 := h2 ns
  have h4 : PyData.depth (.list (ns.map .int)) ≤ 64 := by
    simp only [PyData.depth]
    omega
  have h5 : PyData.canLay0 (.list (ns.map .int)) = true := by
    simp only [PyData.canLay0]
    exact h1 ns
  unfold SeqAt.shaped
  rw [h5, decide_eq_true h4]
  rfl
theorem dp_ints {K : PySem.W.Frag} {H : Hp} {q : Addr} {ns : List Int} (h : H q = some (.lst (ns.map V.int))) : Dp K H (.ref q) (.list (ns.map .int)) := by
  refine .lst (Or.inl (Or.inl h)) ?_
  clear h
  induction ns with
  | nil => exact .nil
  | cons n ns ih => exact .cons (.int n) ih
theorem Stp.dealSet {p q a : Addr} {CB CH B H : Hp} {o : HO} (s : Stp (some (p, q)) CB CH B H) (ha : a = p ∨ a = q) (hB : B a = none) (hd : DealAt (upd H a o) p q) (np : ∀ o', H a = some o' → NoTab o') : Stp (some (p, q)) CB CH B (upd H a o) := by
  refine ⟨s.ext, fun b u e => ?_, fun b u e m n => ?_, s.out, fun p' q' e _ => ?_, stay_upd s.stay, fun T t => tabs_upd (s.tab T t) np, s.bt⟩
  · rw [upd_ne (ne_of_none e hB)]
    exact s.sub b u e
  · have nb : b ≠ a := fun z => m ⟨p, q, rfl, z ▸ ha⟩
    rw [upd_ne nb]
    exact s.keepN b u e m n
  · cases e
    exact hd

section
variable {K : PySem.W.Frag} {σ : L2.St} {H : Hp} {p q : Addr} {ns : List Int} {c b : Int} {Q : VK}
theorem ix0_run (h0 : σ[0]? = some (some (.ref p))) (hp : H p = some (.lst [.ref q, .int c])) (k : Q (.ref q) H) : tIx0 K 0 σ H Q := ⟨.ref p, h0, Or.inl ⟨p, _, 0, .ref q, rfl, rfl, SqL.of hp, rfl, k⟩⟩
theorem ix1_run (h0 : σ[0]? = some (some (.ref p))) (hp : H p = some (.lst [.ref q, .int c])) (k : Q (.int c) H) : tIx0 K 1 σ H Q := ⟨.ref p, h0, Or.inl ⟨p, _, 1, .int c, rfl, rfl, SqL.of hp, rfl, k⟩⟩
theorem eqv_nil (ns : List Int) : PyData.eqv (.list (ns.map .int)) (.list []) = decide (ns = []) := by
  cases ns <;> simp [PyData.eqv, PyData.eqvAll]
/-- deal[0] != [] -/
theorem ne_run {Qb : Bool → Hp → Prop} (h0 : σ[0]? = some (some (.ref p))) (hp : H p = some (.lst [.ref q, .int c])) (hq : H q = some (.lst (ns.map V.int))) (k : ∀ r, H r = none → Qb (!decide (ns = [])) (upd H r (.lst []))) :
    tTest (tOp (rNeA K) (tIx0 K 0) (tLst tNil)) σ H Qb := by
  refine ix0_run h0 hp ⟨by show 0 ≤ sizeLine; decide, fun r hr => ?_⟩
  have hq' : upd H r (.lst []) q = some (.lst (ns.map V.int)) := by
    rw [upd_ne (ne_of_none hq hr)]
    exact hq
  refine Or.inr ⟨.list (ns.map .int), .list [], dp_ints hq', dp_ints (ns := []) upd_same, shaped_ints ns, shaped_ints [], _, rfl, ?_⟩
  rw [eqv_nil]
  exact k r hr
/-- all that _law_any needs to know of a moment -/
structure AnyAt (C : Cn) (p q : Addr) (B H : Hp) (σ : L2.St) (b : Int) (ns : List Int) (c : Int) : Prop where
  st : Stp (some (p, q)) C.B C.H B H
  n1 : B p = none
  n2 : B q = none
  len : σ.length = 3
  s0 : σ[0]? = some (some (.ref p))
  s1 : σ[1]? = some (some (.int b))
  ne : p ≠ q
  hp : H p = some (.lst [.ref q, .int c])
  hq : H q = some (.lst (ns.map V.int))
  sz : ns.length ≤ 64
  c0 : 0 ≤ c
  c1 : c < 2147483648
variable {C : Cn} {B : Hp}
theorem AnyAt.deal (a : AnyAt C p q B H σ b ns c) : DealAt H p q := ⟨a.ne, ns, c, a.hp, a.hq, a.sz, a.c0, a.c1⟩
theorem AnyAt.new {r : Addr} {o : HO} (a : AnyAt C p q B H σ b ns c) (hd : C.dl = some (p, q)) (h0 : DealAt C.H p q) (h : H r = none) : AnyAt C p q B (upd H r o) σ b ns c := by
  refine { a with st := ?_, hp := ?_, hq := ?_ }
  · exact a.st.trans (fun p' q' e => by cases e; exact h0) (Stp.newM a.st.sub h)
  · rw [upd_ne (ne_of_none a.hp h)]
    exact a.hp
  · rw [upd_ne (ne_of_none a.hq h)]
    exact a.hq
theorem AnyAt.setQ (a : AnyAt C p q B H σ b ns c) {ms : List Int} (hm : ms.length ≤ 64) : AnyAt C p q B (upd H q (.lst (ms.map V.int))) σ b ms c := by
  have hp : upd H q (.lst (ms.map V.int)) p = some (.lst [.ref q, .int c]) := by
    rw [upd_ne a.ne]
    exact a.hp
  exact { a with st := a.st.dealSet (Or.inr rfl) a.n2 ⟨a.ne, ms, c, hp, upd_same, hm, a.c0, a.c1⟩ (np_lst a.hq), hp := hp, hq := upd_same, sz := hm }
theorem AnyAt.setP (a : AnyAt C p q B H σ b ns c) {d : Int} (h0 : 0 ≤ d) (h1 : d < 2147483648) : AnyAt C p q B (upd H p (.lst [.ref q, .int d])) σ b ns d := by
  have hq : upd H p (.lst [.ref q, .int d]) q = some (.lst (ns.map V.int)) := by
    rw [upd_ne a.ne.symm]
    exact a.hq
  exact { a with st := a.st.dealSet (Or.inl rfl) a.n1 ⟨a.ne, ns, d, upd_same, hq, a.sz, h0, h1⟩ (np_lst a.hp), hp := upd_same, hq := hq, c0 := h0, c1 := h1 }
theorem AnyAt.slot2 (a : AnyAt C p q B H σ b ns c) (v : V) : AnyAt C p q B H (σ.set 2 (some v)) b ns c := by
  refine { a with len := by rw [List.length_set]; exact a.len, s0 := ?_, s1 := ?_ }
  · rw [List.getElem?_set_ne (by decide)]
    exact a.s0
  · rw [List.getElem?_set_ne (by decide)]
    exact a.s1
theorem last_map {ns : List Int} (h : ns ≠ []) : (ns.map V.int)[(ns.map V.int).length - 1]? = some (.int (ns.getLast h)) := by
  rw [← List.getLast?_eq_getElem?, List.getLast?_map, List.getLast?_eq_getLast h]
  rfl
theorem drop_map (ns : List Int) : (ns.map V.int).dropLast = (ns.dropLast).map V.int := by rw [List.map_dropLast]
/-- deal[0].pop() -/
theorem pop_run (a : AnyAt C p q B H σ b ns c) (h : ns ≠ []) (k : Q (.int (ns.getLast h)) (upd H q (.lst (ns.dropLast.map V.int)))) : tBM0 K "list" rPop (tIx0 K 0) σ H Q := by
  refine ix0_run a.s0 a.hp ⟨own_ty a.hq, q, _, _, rfl, rfl, a.hq, last_map h, ?_⟩
  rw [drop_map]
  exact k
theorem dropLast_len {ns : List Int} : ns.dropLast.length ≤ ns.length := by rw [List.length_dropLast]; omega

theorem vs_any {K : PySem.W.Frag} {B0 H0 : Hp} {p q : Addr} {ds : List D} (hP : P_any ds) : VS ⟨K, B0, H0, some (p, q)⟩ (t_any K) (.deal :: slots ds 1) { nx := fun _ => R_any ds .none, rt := R_any ds } := by
  obtain ⟨b, rfl, hb0⟩ := hP
  intro B H σ E F hn hr hk hc
  have hdl := F.dl p q rfl
  have hd0 : DealAt H0 p q := hdl.1
  obtain ⟨n1, n2⟩ := F.dlOut (p := p) (q := q) rfl
  obtain ⟨ne, ns, c, hp, hq, hz, hc0, hc1⟩ := F.dlNow p q rfl
  obtain ⟨p', q', e, s0⟩ := F.slot 0 .deal rfl
  cases e
  obtain ⟨v, s1, kv⟩ := F.slot 1 (.dat (.int b)) rfl
  obtain rfl := dp_int kv
  have A0 : AnyAt ⟨K, B0, H0, some (p, q)⟩ p q B H σ b ns c := ⟨F.st, n1, n2, F.len, s0, s1, ne, hp, hq, hz, hc0, hc1⟩
  have ret : ∀ {H' : Hp} {ms : List Int} {d r : Int} {σ' : L2.St}, AnyAt ⟨K, B0, H0, some (p, q)⟩ p q B H' σ' b ms d → 0 ≤ r → r < b → E.rt (.int r) H' := fun a h1 h2 =>
    hr (.int _) _ B _ (fun b' e => by cases e; exact ⟨_, rfl, h1, h2⟩) a.st (.int _)
  refine ⟨fun m σ' H' => ∃ ms d, AnyAt ⟨K, B0, H0, some (p, q)⟩ p q B H' σ' b ms d ∧ m = ms.length, ⟨_, ns, c, A0, rfl⟩, ?_⟩
  rintro m σ1 H1 ⟨ms, d, A1, rfl⟩
  -- behind the loop
  have rest : ∀ {H2 : Hp} {ms : List Int} {d : Int}, AnyAt ⟨K, B0, H0, some (p, q)⟩ p q B H2 σ1 b ms d →
      (tSeq (tIfS (tTest (tOp (rNeA K) (tIx0 K 0) (tLst tNil))) (tSeq (tAsg (tCB rInt1 (tCons (tBM0 K "list" rPop (tIx0 K 0)) tNil)) (gName 2))
        (tSeq (tDrop (tBM K "list" rAppend (tIx0 K 0) (tCons (tOp rDiv (tVar 2) (tVar 1)) tNil))) (tRet (tOp rMod (tVar 2) (tVar 1))))) tNext)
      (tSeq (tAsg (tOp rMod (tCB rInt1 (tCons (tOp (rAddA K) (tOp rMul (tIx0 K 1) (tC (.int 40693))) (tC (.int 71))) tNil)) (tC (.int 2147483647))) (gSub (tVar 0) (tC (.int 1)) rSetL))
        (tRet (tOp rMod (tCB rInt1 (tCons (tOp rDiv (tIx0 K 1) (tC (.int 64))) tNil)) (tVar 1))))) E σ1 H2 := by
    intro H2 ms d A2
    refine ne_run A2.s0 A2.hp A2.hq fun r hr1 => ?_
    have A3 := A2.new (o := .lst []) rfl hd0 hr1
    by_cases hm : ms = []
    · rw [decide_eq_true hm]
      refine iteF ?_
      -- deal[1] = int(deal[1] * 40693 + 71) % 2147483647
      refine ix1_run A3.s0 A3.hp ⟨d, 40693, rfl, rfl, wide_mul (a := 32) (b := 32) (by have := A3.c0; have := A3.c1; omega) (by decide) (by decide) (by decide) (by decide), ?_⟩
      refine Or.inl ⟨d * 40693, 71, rfl, rfl, ?_⟩
      refine Or.inl ⟨d * 40693 + 71, rfl, ?_⟩
      refine ⟨_, 2147483647, rfl, rfl, (by show (0 : Int) < 2147483647; decide), ?_⟩
      have e0 : 0 ≤ (d * 40693 + 71) % 2147483647 := Int.emod_nonneg _ (by decide)
      have e1 : (d * 40693 + 71) % 2147483647 < 2147483647 := Int.emod_lt_of_pos _ (by decide)
      have A4 := A3.setP (d := (d * 40693 + 71) % 2147483647) e0 (by omega)
      refine ⟨.ref p, A3.s0, p, _, 1, 1, rfl, rfl, A3.hp, rfl, ?_⟩
      show tRet (tOp rMod (tCB rInt1 (tCons (tOp rDiv (tIx0 K 1) (tC (.int 64))) tNil)) (tVar 1)) E σ1 _
      -- return int(deal[1] // 64) % bound
      refine ix1_run A4.s0 A4.hp ⟨_, 64, rfl, rfl, (by show (0 : Int) < 64; decide), ?_⟩
      refine Or.inl ⟨_, rfl, ?_⟩
      refine ⟨.int b, A4.s1, _, b, rfl, rfl, hb0, ?_⟩
      exact ret A4 (Int.emod_nonneg _ (by omega)) (Int.emod_lt_of_pos _ hb0)
    · rw [decide_eq_false hm]
      refine iteT ?_
      -- rest = int(deal[0].pop())
      refine pop_run A3 hm (Or.inl ⟨_, rfl, ?_⟩)
      have A4 := (A3.setQ (ms := ms.dropLast) (Nat.le_trans dropLast_len A3.sz)).slot2 (.int (ms.getLast hm))
      have s2 : (σ1.set 2 (some (.int (ms.getLast hm))))[2]? = some (some (.int (ms.getLast hm))) := List.getElem?_set_self (by rw [A3.len]; decide)
      -- deal[0].append(rest // bound)
      refine ix0_run A4.s0 A4.hp ⟨own_ty A4.hq, ⟨_, s2, _, A4.s1, _, b, rfl, rfl, hb0, ?_⟩⟩
      have hlen : ms.dropLast.length + 1 ≤ 64 := by
        rw [List.length_dropLast]
        have := A3.sz
        have : 0 < ms.length := List.length_pos_iff.mpr hm
        omega
      refine ⟨q, _, .int (ms.getLast hm / b), rfl, rfl, A4.hq, sz6 (by rw [List.length_map]; omega), ?_⟩
      have A5 := A4.setQ (ms := ms.dropLast ++ [ms.getLast hm / b]) (by rw [List.length_append]; exact hlen)
      rw [show ms.dropLast.map V.int ++ [V.int (ms.getLast hm / b)] = (ms.dropLast ++ [ms.getLast hm / b]).map V.int by rw [List.map_append]; rfl]
      -- return rest % bound
      refine ⟨_, s2, _, A5.s1, _, b, rfl, rfl, hb0, ?_⟩
      exact ret A5 (Int.emod_nonneg _ (by omega)) (Int.emod_lt_of_pos _ hb0)
  -- the test of the loop
  refine ne_run A1.s0 A1.hp A1.hq fun r hr1 => ?_
  have A2 := A1.new (o := .lst []) rfl hd0 hr1
  by_cases hm : ms = []
  · rw [decide_eq_true hm]
    exact iteF (iteF (rest A2))
  · rw [decide_eq_false hm]
    refine iteT ?_
    refine ix0_run A2.s0 A2.hp ⟨1, rfl, Or.inl ⟨q, _, -1, .int (ms.getLast hm), rfl, rfl, SqL.of A2.hq, ?_, ?_⟩⟩
    · exact atI_neg1 (by rw [List.getLast?_map, List.getLast?_eq_getLast hm]; rfl)
    · refine Or.inl ⟨rfl, _, rfl, ?_⟩
      by_cases hz : V.int (ms.getLast hm) = .int 0
      · rw [decide_eq_true hz]
        refine iteT ⟨_, fun σ' H' h => h, ?_⟩
        refine pop_run A2 hm ?_
        refine ⟨ms.dropLast.length, ?_, ms.dropLast, d, A2.setQ (Nat.le_trans dropLast_len A2.sz), rfl⟩
        rw [List.length_dropLast]
        have : 0 < ms.length := List.length_pos_iff.mpr hm
        omega
      · rw [decide_eq_false hz]
        exact iteF (rest A2)
end
end Ly

/-! LyM: what _law_draw, _law_of, _law_mixed give. -/
namespace Ly
open PySem PySem.Spec PyProof.Rows L2

section
variable {C : Cn} {Γ : List Sl} {tl th : TO} {lo hi : Option Int} {i : Nat} {ns : List Int}
theorem ints_dq {K : PySem.W.Frag} {H : Hp} : ∀ ns : List Int, DqAll K H (ns.map V.int) (ns.map PyData.int)
  | [] => .nil
  | n :: ns => .cons (.int n) (ints_dq ns)
theorem cut_map {α β : Type} (f : α → β) (xs : List α) : cut (xs.map f) lo hi = (cut xs lo hi).map f := by
  unfold cut
  rw [List.length_map, List.map_take, List.map_drop]
theorem cut_sub {α : Type} (xs : List α) : ∀ x ∈ cut xs lo hi, x ∈ xs := fun x h => List.mem_of_mem_drop (List.mem_of_mem_take h)
theorem cut_len {α : Type} (xs : List α) : (cut xs lo hi).length ≤ xs.length := by
  unfold cut
  rw [List.length_take, List.length_drop]
  omega
/-- a slice of a list that is read alone -/
theorem vl_slRd (h : Γ[i]? = some (.rd (ns.map V.int))) (h1 : VO C tl Γ (Is lo)) (h2 : VO C th Γ (Is hi)) : VL C (tSl (rSlany C.K) (tVar i) tl th) Γ (Is ((cut ns lo hi).map .int)) := fun B H σ F Q q => by
  obtain ⟨a, e, hs⟩ := F.slot i _ h
  refine ⟨.ref a, e, h1 B H σ F _ fun o B2 H2 e2 s2 => h2 B2 H2 σ (F.step s2) _ fun o' B3 H3 e3 s3 => ?_⟩
  cases e2
  cases e3
  have F3 := (F.step s2).step s3
  have st := s2.trans F.dlNow s3
  refine Or.inl ⟨a, _, rfl, same_l F3.sub (same_l st.ext hs), fun p hp => ?_⟩
  refine q _ p ((cut ns lo hi).map V.int) B3 _ rfl (st.trans F.dlNow (Stp.newM F3.sub hp)) (back_none F st hp) (F3.sub.free hp) ?_ (ints_dq _)
  rw [upd_same]
  show some (HO.lst (cutV (ns.map V.int) lo hi)) = _
  rw [show cutV (ns.map V.int) lo hi = cut (ns.map V.int) lo hi from rfl, cut_map]
end

def t_draw (K : PySem.W.Frag) : TS :=
  tSeq (tAsg (tLc (iAny K (tSl (rSlany K) (tVar 0) tNoPart (tPart (tC (.int 48))))) (gName 3) tYes (tCB rAbs (tCons (tCB rInt1 (tCons (tVar 3) tNil)) tNil)) [3]) (gName 2))
  (tSeq (tAsg (tOp (rAddA K) (tC (.int 7919)) (tOp rMul (tC (.int 104729)) (tVar 1))) (gName 4))
  (tSeq (tFor (iAny K (tVar 2)) (gName 3) (tAsg (tOp rMod (tCB rInt1 (tCons (tOp (rAddA K) (tOp (rAddA K) (tOp rMul (tVar 4) (tC (.int 48271))) (tOp rMod (tVar 3) (tC (.int 2147483549)))) (tC (.int 11))) tNil)) (tC (.int 2147483647))) (gName 4)))
  (tRet (tLst (tCons (tRevL K (tLc (iAny K (tVar 2)) (gName 3) (tTest (tOp (rI0 fun i j => .bl (decide (j ≤ i))) (tVar 3) (tOp (rI CPow fun i j => .int (i ^ j.toNat)) (tC (.int 10)) (tC (.int 18))))) (tVar 3) [3])) (tCons (tVar 4) tNil))))))
/-- what its names hold behind the first statements -/
def DrawAt (ns : List Int) (salt : Int) (Γ : List Sl) : Prop := ∃ (cs : List Int) (c : Int) (s3 : Sl), Γ = [.rd (ns.map V.int), .dat (.int salt), .dat (.list (cs.map .int)), s3, .dat (.int c)] ∧ cs.length ≤ 63 ∧ 0 ≤ c ∧ c < 2147483648 ∧ (s3 = .no ∨ ∃ d, s3 = .dat d)

section
variable {P0 : Program} {w : World} {K : PySem.W.Frag} {mg : Str → Option Value} {base : Heap} {k : Nat} {f : Addr} {fd : FuncData} {x qual : Str} {st : Stmt}
theorem len_of {α : Type} {xs : List α} {n : Nat} (h : xs.length ≤ n) {m : Nat} (hm : n ≤ m := by decide) : xs.length ≤ m := Nat.le_trans h hm
theorem ret_two {tr te : TE} {E : Ends} {σ : L2.St} {H : Hp} (h : tr σ H fun v H1 => te σ H1 fun w H2 => 2 ≤ sizeLine ∧ ∀ p, H2 p = none → E.rt (.ref p) (upd H2 p (.lst [v, w]))) : tRet (tLst (tCons tr (tCons te tNil))) E σ H := h
theorem vs_draw {B H : Hp} {ns : List Int} {salt : Int} (h0 : 0 ≤ salt) (h1 : salt ≤ 1000) (hn : ns.length ≤ 63) (E : Ends) (σ : L2.St) (F : Fm ⟨K, B, H, none⟩ B H σ [.rd (ns.map V.int), .dat (.int salt), .no, .no, .no])
    (q : ∀ p q B' H', Stp none B H B' H' → H p = none → H q = none → B' p = none → B' q = none → DealAt H' p q → E.rt (.ref p) H') : t_draw K E σ H := by
  -- cells
  have hc : VL ⟨K, B, H, none⟩ (tLc (iAny K (tSl (rSlany K) (tVar 0) tNoPart (tPart (tC (.int 48))))) (gName 3) tYes (tCB rAbs (tCons (tCB rInt1 (tCons (tVar 3) tNil)) tNil)) [3]) [.rd (ns.map V.int), .dat (.int salt), .no, .no, .no]
      (fun es => ∃ cs : List Int, es = cs.map .int ∧ cs.length ≤ 63) := by
    refine vl_lc (va_listD (vl_slRd (i := 0) (ns := ns) (lo := none) (hi := some 48) rfl vo_none (vo_someD ve_int)).ed) fun ds e => ?_
    cases e
    have hl : ((cut ns none (some 48)).map PyData.int).length ≤ 63 := by
      rw [List.length_map]
      exact Nat.le_trans (cut_len ns) hn
    refine ⟨len_of hl, fun i acc => ∃ cs : List Int, acc = cs.map .int ∧ cs.length ≤ i, ⟨[], rfl, Nat.le_refl _⟩, fun i d acc hd ⟨cs, e, hi⟩ => ?_, fun acc ⟨cs, e, hi⟩ => ⟨cs, e, Nat.le_trans hi hl⟩⟩
    rw [List.getElem?_map] at hd
    obtain ⟨m, _, rfl⟩ := Option.map_eq_some_iff.mp hd
    refine ⟨_, _, vg_name, fun j hj => hj, Is true, vt_yes, fun _ => ?_, fun e => by cases e⟩
    refine (ve_abs (ve_int1 (i := m) (ve_var rfl))).imp fun y ey => ?_
    subst ey e
    exact ⟨cs ++ [if m < 0 then -m else m], by rw [List.map_append]; rfl, by rw [List.length_append]; exact Nat.succ_le_succ hi⟩
  refine vs_asg (P := ⟨fun Γ => ∃ cs : List Int, Γ = [.rd (ns.map V.int), .dat (.int salt), .dat (.list (cs.map .int)), .no, .no] ∧ cs.length ≤ 63, fun _ => False, fun _ => False, fun _ => False⟩) hc.e
    (fun d ⟨es, e, cs, e2, hl⟩ => ⟨cs, by subst e e2; rfl, hl⟩) B H σ _ F (fun Γ1 B1 H1 σ1 ⟨cs, e, hl⟩ sB1 F1 => ?_) (fun _ _ _ _ e => e.elim) (fun _ _ _ _ e => e.elim) (fun _ _ _ _ e => e.elim)
  subst e
  -- blend
  refine vs_asg (P := ⟨DrawAt ns salt, fun _ => False, fun _ => False, fun _ => False⟩) (ve_opD ve_int.v (ve_opD ve_int.v (ve_var rfl).v (od_mul (wide_mul (a := 20) (b := 20) (by decide) (by omega) (by decide) (by decide) (by decide)))).v od_add)
    (fun d e => ⟨cs, 7919 + 104729 * salt, .no, by cases e; rfl, hl, by omega, by omega, Or.inl rfl⟩) B1 H1 σ1 _ F1 (fun Γ2 B2 H2 σ2 hd2 sB2 F2 => ?_) (fun _ _ _ _ e => e.elim) (fun _ _ _ _ e => e.elim) (fun _ _ _ _ e => e.elim)
  obtain ⟨cs2, c2, s3, e, hl2, hc0, hc1, hs3⟩ := hd2
  subst e
  -- the loop
  refine vs_for (P := ⟨DrawAt ns salt, fun _ => False, fun _ => False, fun _ => False⟩) (va_listD (ve_var rfl)) (fun ds e => ?_) B2 H2 σ2 _ F2 (fun Γ3 B3 H3 σ3 hd3 sB3 F3 => ?_) (fun _ _ _ _ e => e.elim) (fun _ _ _ _ e => e.elim) (fun _ _ _ _ e => e.elim)
  · cases e
    refine ⟨fun _ Γ => ∃ (c : Int) (s3 : Sl), Γ = [.rd (ns.map V.int), .dat (.int salt), .dat (.list (cs2.map .int)), s3, .dat (.int c)] ∧ 0 ≤ c ∧ c < 2147483648 ∧ (s3 = .no ∨ ∃ d, s3 = .dat d), ⟨c2, s3, rfl, hc0, hc1, hs3⟩, fun i d Γ' hd ⟨c, s3, e, h0, h1, _⟩ => ?_, fun Γ' ⟨c, s3, e, h0, h1, h2⟩ => ⟨cs2, c, s3, e, hl2, h0, h1, h2⟩⟩
    subst e
    rw [List.getElem?_map] at hd
    obtain ⟨m, _, rfl⟩ := Option.map_eq_some_iff.mp hd
    refine ⟨_, _, vg_name, vs_asg (ve_opD (ve_int1 (ve_opD (ve_opD (ve_opD (ve_var rfl).v ve_int.v (od_mul (wide_mul (a := 32) (b := 32) (by omega) (by decide) (by decide) (by decide) (by decide)))).v (ve_opD (ve_var rfl).v ve_int.v (od_mod (by decide))).v od_add).v ve_int.v od_add)).v ve_int.v (od_mod (by decide))) fun d e => ?_⟩
    cases e
    refine ⟨_, _, rfl, Int.emod_nonneg _ (by decide), ?_, Or.inr ⟨_, rfl⟩⟩
    have := Int.emod_lt_of_pos (c * 48271 + m % 2147483549 + 11) (show (0 : Int) < 2147483647 by decide)
    omega
  -- the end
  obtain ⟨cs3, c3, s3', e, hl3, hc0', hc1', _⟩ := hd3
  subst e
  have hr : VL ⟨K, B, H, none⟩ (tRevL K (tLc (iAny K (tVar 2)) (gName 3) (tTest (tOp (rI0 fun i j => .bl (decide (j ≤ i))) (tVar 3) (tOp (rI CPow fun i j => .int (i ^ j.toNat)) (tC (.int 10)) (tC (.int 18))))) (tVar 3) [3]))
      [.rd (ns.map V.int), .dat (.int salt), .dat (.list (cs3.map .int)), s3', .dat (.int c3)] (fun es => ∃ cs : List Int, es = cs.map .int ∧ cs.length ≤ 64) := by
    refine (vl_rev (S := fun es => ∃ cs : List Int, es = cs.map .int ∧ cs.length ≤ 64) (VL.v ?_)).imp fun es ⟨ds, ⟨cs, e1, e2⟩, e3⟩ => ⟨cs.reverse, by rw [e3, e1, List.map_reverse], by rw [List.length_reverse]; exact e2⟩
    refine vl_lc (va_listD (ve_var rfl)) fun ds e => ?_
    cases e
    have hl : (cs3.map PyData.int).length ≤ 63 := by
      rw [List.length_map]
      exact hl3
    refine ⟨len_of hl, fun i acc => ∃ cs : List Int, acc = cs.map .int ∧ cs.length ≤ i, ⟨[], rfl, Nat.le_refl _⟩, fun i d acc hd ⟨cs, e, hi⟩ => ?_, fun acc ⟨cs, e, hi⟩ => ⟨cs, e, by omega⟩⟩
    rw [List.getElem?_map] at hd
    obtain ⟨m, _, rfl⟩ := Option.map_eq_some_iff.mp hd
    refine ⟨_, _, vg_name, fun j hj => hj, fun _ => True, (vt_testD (ve_opD (ve_var rfl).v (ve_opD ve_int.v ve_int.v (od_pow ⟨by decide, by decide, by decide⟩)).v od_ge)).imp fun _ _ => trivial, fun _ => ?_, fun _ => ⟨cs, e, Nat.le_succ_of_le hi⟩⟩
    refine (ve_var (i := 3) (d := .int m) rfl).imp fun y ey => ?_
    subst ey e
    exact ⟨cs ++ [m], by rw [List.map_append]; rfl, by rw [List.length_append]; exact Nat.succ_le_succ hi⟩
  refine ret_two (hr B3 H3 σ3 F3 _ fun es r vs B4 H4 ⟨cs, e, hcs⟩ s4 g1 g2 g3 g4 => ?_)
  subst e
  obtain ⟨v, hv, kv⟩ := F3.slot 4 _ rfl
  obtain rfl := dp_int kv
  refine ⟨.int c3, hv, by show 2 ≤ sizeLine; decide, fun p hp => ?_⟩
  have F4 := F3.step s4
  have st : Stp none B H B4 (upd H4 p (.lst [.ref r, .int c3])) := F4.st.trans (fun p q e => by cases e) (Stp.newM F4.sub hp)
  have nr : r ≠ p := fun z => by
    subst z
    rw [g3] at hp
    cases hp
  refine q p r B4 _ st (F4.newC hp) (F3.newC g1) (F4.sub.free hp) g2 ⟨nr.symm, cs, c3, upd_same, ?_, hcs, hc0', hc1'⟩
  rw [upd_ne nr, g3, dpall_ints g4]
theorem draw_ok {N : List Str} (F : Fun K x qual st f fd) (S : FnScope N ["script", "salt"] (defScope st)) (hN : N.length = 5)
    (body : ∀ (cdv : Value) (A : Around) (outer : List Env) (s : Shared) (H : Hp) (E : XK), (cxOf CX0 P0 w K mg base N qual (defScope st) f cdv A outer s H E).A.guards = some [] → Room k (cxOf CX0 P0 w K mg base N qual (defScope st) f cdv A outer s H E).A →
      PSs (cxOf CX0 P0 w K mg base N qual (defScope st) f cdv A outer s H E).nox (defBody st) (t_draw K)) : GOk P0 w K mg base CX0 (k + 1) f fd ["script", "salt"] (Dr K) := by
  refine gok_of F S (fun {vs H Q E} ⟨_, a, ns, salt, e, _⟩ => by rw [e]; rfl) fun cdv A outer s H vs Q E hg hr ⟨B, a, ns, salt, e, hs, hS, h0, h1, hn, hq⟩ => ?_
  subst e
  refine ⟨_, (body cdv A outer s H E hg hr).nox, vs_draw h0 h1 hn _ _ ?_ hq⟩
  refine ⟨Stp.refl hs, (fun p q e => nomatch e), ?_, fun i sl h => ?_, fun i j p ds es h => ?_⟩
  · rw [start_len (by rw [hN]; exact (by decide : 2 ≤ 5)), hN]
    rfl
  · match i, h with
    | 0, h => cases h; exact ⟨a, rfl, hS⟩
    | 1, h => cases h; exact ⟨_, rfl, .int _⟩
    | 2, h => cases h; trivial
    | 3, h => cases h; trivial
    | 4, h => cases h; trivial
    | n + 5, h => cases h
  · exfalso
    match i, h with
    | 0, h => cases h
    | 1, h => cases h
    | 2, h => cases h
    | 3, h => cases h
    | 4, h => cases h
    | n + 5, h => cases h
end

/-! ### one of some things -/
abbrev tAny (K : PySem.W.Frag) (e : TE) : TE := tCallK (De K P_any R_any) (fun vs _ => vs) E0 (tCons (tVar 0) (tCons e tNil)) tNil
section
variable {C : Cn} {Γ : List Sl} {te : TE} {n : Int}
theorem ve_any (h0 : Γ[0]? = some .deal) (h : VE C te Γ (Is (.int n))) (hn : 0 < n) (hm : n < 1000000000000) : VE C (tAny C.K te) Γ (fun d => ∃ r, d = .int r ∧ 0 ≤ r ∧ r < n) :=
  (ve_deD h0 (va_consD h va_nil) ⟨n, rfl, hn⟩).imp fun d r => r n rfl
end
def t_of (K : PySem.W.Frag) : TS := tRet (tOp (rIx K) (tVar 1) (tAny K (tCB (rLen K) (tCons (tVar 1) tNil))))
theorem vs_of {C : Cn} {ds : List D} (hP : P_of ds) : VS C (t_of C.K) (.deal :: slots ds 0) { nx := fun _ => R_of ds .none, rt := R_of ds } := by
  obtain ⟨xs, e, hne, hl⟩ := hP
  have hp : 0 < xs.length := List.length_pos_iff.mpr hne
  rcases e with rfl | rfl
  · refine vs_ret (ve_op (Ra := Is (.list xs)) (ve_var rfl).v (ve_any rfl (ve_lenL (ve_var rfl).v) (by omega) (by omega)).v fun x y ex ⟨r, ey, h0, h1⟩ => ?_)
    subst ex ey
    obtain ⟨m, rfl⟩ := Int.eq_ofNat_of_zero_le h0
    have hm : m < xs.length := by omega
    intro B H v u e k1 k2 Q q
    refine od_ixL (z := xs[m]) (atI_pos (List.getElem?_eq_getElem hm)) B H v u e k1 k2 Q fun d w B' H' ed s k => q d w B' H' (fun ys ey => ?_) s k
    subst ed
    rcases ey with ey | ey
    · cases ey
      exact List.getElem_mem hm
    · cases ey
  · refine vs_ret (ve_op (Ra := Is (.tuple xs)) (ve_var rfl).v (ve_any rfl (ve_lenT (ve_var rfl)) (by omega) (by omega)).v fun x y ex ⟨r, ey, h0, h1⟩ => ?_)
    subst ex ey
    obtain ⟨m, rfl⟩ := Int.eq_ofNat_of_zero_le h0
    have hm : m < xs.length := by omega
    intro B H v u e k1 k2 Q q
    refine od_ixT (z := xs[m]) (atI_pos (List.getElem?_eq_getElem hm)) B H v u e k1 k2 Q fun d w B' H' ed s k => q d w B' H' (fun ys ey => ?_) s k
    subst ed
    rcases ey with ey | ey
    · cases ey
    · cases ey
      exact List.getElem_mem hm
end Ly
namespace Ly
open PySem PySem.Spec PyProof.Rows L2
/-! slices by numbers -/
section
variable {α : Type} (xs : List α)
theorem cut_nat (a b : Nat) (h : a ≤ b) : cut xs (some (a : Int)) (some (b : Int)) = (xs.drop a).take (b - a) := by
  unfold cut
  rw [HT.sIx_nat, HT.sIx_nat]
  by_cases ha : a ≤ xs.length
  · rw [Nat.min_eq_left ha]
    by_cases hb : b ≤ xs.length
    · rw [Nat.min_eq_left hb]
    · rw [Nat.min_eq_right (by omega)]
      rw [List.take_of_length_le (by rw [List.length_drop]; omega), List.take_of_length_le (by rw [List.length_drop]; omega)]
  · rw [show min a xs.length = xs.length by omega, List.drop_length, List.drop_eq_nil_of_le (show xs.length ≤ a by omega)]
    simp
theorem cut_to (b : Nat) : cut xs none (some (b : Int)) = xs.take b := by
  unfold cut
  rw [HT.sIx_none, HT.sIx_nat, List.drop_zero, Nat.sub_zero]
  by_cases hb : b ≤ xs.length
  · rw [Nat.min_eq_left hb]
  · rw [show min b xs.length = xs.length by omega, List.take_of_length_le (Nat.le_refl _), List.take_of_length_le (show xs.length ≤ b by omega)]
theorem cut_from (a : Nat) : cut xs (some (a : Int)) none = xs.drop a := by
  unfold cut
  rw [HT.sIx_nat, HT.sIx_none]
  by_cases ha : a ≤ xs.length
  · rw [Nat.min_eq_left ha, List.take_of_length_le (by rw [List.length_drop]; omega)]
  · rw [show min a xs.length = xs.length by omega, List.drop_length, List.drop_eq_nil_of_le (show xs.length ≤ a by omega)]
    simp
end
end Ly

/-! LyN: the law's first statement (a source of draws is made), displays of literals, small data (Sm), joins. -/
namespace Ly
open PySem PySem.Spec PyProof.Rows L2

/-! ### small data -/
structure Sm (d : D) (k n : Nat) : Prop where
  ly : d.canLay0 = true
  sh : d.showable = true
  lv : d.leavesShort 13 = true
  dp : d.depth ≤ k
  wt : d.weight ≤ n
structure SmA (ds : List D) (k n : Nat) : Prop where
  ly : PyData.canLayAll0 ds = true
  sh : PyData.showableAll ds = true
  lv : PyData.leavesShortAll 13 ds = true
  dp : PyData.depthAll ds ≤ k
  wt : PyData.weightAll ds ≤ n
section
variable {d x y : D} {ds : List D} {k k' n n' m : Nat}
theorem Sm.mono (h : Sm d k n) (hk : k ≤ k' := by omega) (hn : n ≤ n' := by omega) : Sm d k' n' := ⟨h.ly, h.sh, h.lv, Nat.le_trans h.dp hk, Nat.le_trans h.wt hn⟩
theorem SmA.nil : SmA [] k n := ⟨rfl, rfl, rfl, Nat.zero_le _, Nat.zero_le _⟩
theorem SmA.cons (h : Sm d k n) (t : SmA ds k m) : SmA (d :: ds) k (n + 1 + m) := by
  refine ⟨?_, ?_, ?_, ?_, ?_⟩
  · rw [PyData.canLayAll0, h.ly, t.ly]; rfl
  · rw [PyData.showableAll, h.sh, t.sh]; rfl
  · rw [PyData.leavesShortAll, h.lv, t.lv]; rfl
  · rw [PyData.depthAll]; exact Nat.max_le.mpr ⟨h.dp, t.dp⟩
  · rw [PyData.weightAll]
    have := h.wt
    have := t.wt
    omega
theorem SmA.of : ∀ {ds : List D}, (∀ d ∈ ds, Sm d k n) → SmA ds k (ds.length * (n + 1))
  | [], _ => .nil
  | d :: ds, h => by
    have e : (d :: ds).length * (n + 1) = n + 1 + ds.length * (n + 1) := by rw [List.length_cons, Nat.succ_mul]; omega
    rw [e]
    exact SmA.cons (h d (List.mem_cons_self ..)) (SmA.of fun x hx => h x (List.mem_cons_of_mem _ hx))
theorem SmA.monoW (h : SmA ds k n) (hn : n ≤ n') : SmA ds k n' := ⟨h.ly, h.sh, h.lv, h.dp, Nat.le_trans h.wt hn⟩
theorem Sm.list (h : SmA ds k n) : Sm (.list ds) (k + 1) n := ⟨h.ly, h.sh, h.lv, Nat.succ_le_succ h.dp, h.wt⟩
theorem Sm.tup (h : SmA ds k n) : Sm (.tuple ds) (k + 1) n := ⟨h.ly, h.sh, h.lv, Nat.succ_le_succ h.dp, h.wt⟩
theorem sm_non : Sm .none k n := ⟨rfl, rfl, rfl, Nat.zero_le _, Nat.zero_le _⟩
theorem sm_bool {b : Bool} : Sm (.bool b) k n := ⟨rfl, rfl, rfl, Nat.zero_le _, Nat.zero_le _⟩
theorem sm_int {i : Int} (h : i.natAbs < 10 ^ 12) : Sm (.int i) k 41 := by
  have hl : i.natAbs.log2 < 40 := by
    by_cases h0 : i.natAbs = 0
    · rw [h0]; decide
    · rw [Nat.log2_lt h0]
      exact Nat.lt_of_lt_of_le h (by decide)
  refine ⟨rfl, ?_, ?_, Nat.zero_le _, ?_⟩
  · rw [PyData.showable]
    exact decide_eq_true (by omega)
  · rw [PyData.leavesShort]
    refine decide_eq_true ?_
    rw [PyData.shown]
    have := int_text_length_le10 (a := i) (k := 12) (by decide) h
    refine Nat.le_trans (Nat.le_of_eq ?_) this
    exact PySem.ofString_length _
  · rw [PyData.weight]
    split <;> omega
theorem sm_str {s : Str} (h : ∀ c ∈ s.cps.toList, c < 0x110000) (hn : s.length ≤ n) : Sm (.str s) k n := by
  refine ⟨?_, rfl, ?_, Nat.zero_le _, hn⟩
  · rw [PyData.canLay0]
    unfold PyData.strOk
    rw [Array.all_eq_true]
    intro i hi
    exact decide_eq_true (h _ (Array.getElem_mem_toList hi))
  · rw [PyData.leavesShort, List.all_eq_true]
    intro c hc
    exact decide_eq_true (Nat.lt_of_lt_of_le (h c hc) (by decide))
theorem Sm.shaped (h : Sm d k n) (hk : k ≤ 64 := by decide) : SeqAt.shaped d = true := by
  unfold SeqAt.shaped
  rw [h.ly, Bool.true_and]
  exact decide_eq_true (Nat.le_trans h.dp hk)
theorem Sm.eqv (h : Sm d k n) : PyData.eqv d d = true := SeqAt.eqv_refl d h.ly
end
section
variable {C : Cn} {te ta tb tc : TE} {Γ : List Sl} {d x y z : D} {k k' n n' : Nat}
theorem ve_reprS (h : VV C te Γ (Is d)) (s : Sm d k n) (hk : k ≤ 64 := by decide) (hn : n ≤ 1048576 := by omega) : VE C (tCB (rRepr C.K) (tCons te tNil)) Γ (Is (.str d.shown)) :=
  ve_repr h s.sh (PyData.hasDict_of_canLay d s.ly) (Nat.le_trans s.dp (by omega)) (PyData.shown_fits (B := 13) (by decide) (by decide) s.lv (Nat.le_trans s.wt hn))
theorem od_neD (hx : SeqAt.shaped x = true) (hy : SeqAt.shaped y = true) {b : Bool} (e : PyData.eqv x y = b) : OD C (rNeA C.K) x y (Is (.bool (!b))) := e ▸ od_ne hx hy
theorem od_neSame (h : Sm x k n) (e : x = y) (hk : k ≤ 64 := by decide) : OD C (rNeA C.K) x y (Is (.bool false)) := e ▸ od_neD (h.shaped hk) (h.shaped hk) h.eqv
theorem od_eqSame (h : Sm x k n) (e : x = y) (hk : k ≤ 64 := by decide) : OD C (rEqA C.K) x y (Is (.bool true)) := by
  subst e
  have := od_eq (C := C) (h.shaped hk) (h.shaped hk)
  rw [h.eqv] at this
  exact this
theorem od_neSSame {s t : Str} (e : s = t) : OD C (rNeA C.K) (.str s) (.str t) (Is (.bool false)) := by
  have := od_neS (C := C) (s := s) (t := t)
  rw [decide_eq_true e] at this
  exact this
theorem ve_chainD {r r' : R2} {b c : Bool} (ha : VE C ta Γ (Is x)) (hb : VE C tb Γ (Is y)) (ho : OD C r x y (Is (.bool b))) (hc : VV C tc Γ (Is z)) (ho2 : OD C r' y z (Is (.bool c))) : VE C (tChain r r' ta tb tc) Γ (Is (.bool (b && c))) :=
  ve_chain ha hb ho (fun e => by rw [e]; rfl) fun e => by
    subst e
    intro B H σ F Q q
    refine hc B H σ F Q fun d v B' H' ed s k => q d v B' H' ?_ s k
    cases ed
    exact ho2
/-! displays of literals -/
theorem va_strs : ∀ ss : List Str, VA C (ss.foldr (fun s A => tCons (tC (.str s)) A) tNil) Γ (Is (ss.map .str))
  | [] => va_nil
  | s :: ss => va_consD ve_str (va_strs ss)
theorem va_ints : ∀ ss : List Int, VA C (ss.foldr (fun s A => tCons (tC (.int s)) A) tNil) Γ (Is (ss.map .int))
  | [] => va_nil
  | s :: ss => va_consD ve_int (va_ints ss)
theorem ve_lstS (ss : List Str) (h : ss.length ≤ 1000 := by decide) : VE C (tLst (ss.foldr (fun s A => tCons (tC (.str s)) A) tNil)) Γ (Is (.list (ss.map .str))) := (vl_lstD (va_strs ss) (by rw [List.length_map]; omega)).ed
theorem ve_tupS (ss : List Str) (h : ss.length ≤ 1000 := by decide) : VE C (tTup (ss.foldr (fun s A => tCons (tC (.str s)) A) tNil)) Γ (Is (.tuple (ss.map .str))) := ve_tupD (va_strs ss) (by rw [List.length_map]; omega)
end

section
variable {C : Cn} {te ta : TE} {Γ : List Sl} {s : Str}
/-- a join of strings of which only something is known -/
theorem ve_joinLR {S : List Str → Prop} (h : VE C ta Γ (Is (.str s))) (h2 : VV C te Γ (fun d => ∃ es, d = .list es ∧ ∃ ys : List Str, es = ys.map .str ∧ S ys)) (hz : ∀ ys, S ys → (ys.map (·.length)).sum + ys.length * s.length ≤ 16777216) :
    VE C (tM1 (rJoin C.K) ta te) Γ (fun d => ∃ ys, S ys ∧ d = .str (Txt.join s ys)) := fun B H σ F Q q =>
  h B H σ F _ fun d v B1 H1 ed s1 k1 => by
    cases ed
    obtain rfl := dp_str k1
    refine ⟨⟨s, rfl⟩, h2 B1 H1 σ (F.step s1) _ fun d v B2 H2 ⟨es, ed, ys, ee, hy⟩ s2 k2 => ?_⟩
    subst ed ee
    obtain ⟨a, xs, rfl, g1, g2⟩ := k2.lst ((F.step s1).step s2).sub
    rw [dpall_strs g2] at g1
    exact ⟨s, a, ys, rfl, rfl, Or.inl g1, hz ys hy, q _ _ B2 H2 ⟨ys, hy, rfl⟩ (s1.trans F.dlNow s2) (.str _)⟩
theorem sum_len : ∀ (ys : List Str) (n : Nat), (∀ s ∈ ys, s.length ≤ n) → (ys.map (·.length)).sum ≤ n * ys.length
  | [], n, _ => Nat.le_refl _
  | y :: ys, n, h => by
    have h1 := h y (List.mem_cons_self ..)
    have h2 := sum_len ys n fun s hs => h s (List.mem_cons_of_mem _ hs)
    rw [List.map_cons, List.sum_cons, List.length_cons, Nat.mul_succ]
    omega
end
section
variable {C : Cn} {te : TE} {Γ : List Sl} {i : Int}
theorem ve_neg (h : VE C te Γ (Is (.int i))) : VE C (tUn (rU fun i => .int (-i)) te) Γ (Is (.int (-i))) := ve_un (Ra := Is (.int i)) h.v fun x ex B H v e k Q q => by
  subst ex
  obtain rfl := k.int
  exact ⟨i, rfl, q _ _ B H rfl (Stp.refl e) (.int _)⟩
end
section
variable {C : Cn} {A A' : TA} {Γ : List Sl} {ds es : List D} {P : List D → Prop} {R' : List D → D → Prop} {E : XK} {gV : List V → List V → List V} {te : TE} {i : Nat} {n : Int}
/-- with names -/
theorem ve_kwD {gD : List D → List D → List D} (hg : ∀ {H : Hp} {vs zs : List V} {us ws : List D}, DqAll C.K H vs us → DqAll C.K H zs ws → DqAll C.K H (gV vs zs) (gD us ws)) (h : VA C A Γ (Is ds)) (h' : VA C A' Γ (Is es)) (hP : P (gD ds es)) :
    VE C (tCallK (Pu C.K P R') gV E A A') Γ (R' (gD ds es)) := ve_pu gD h h' (fun B vs zs ds es h1 h2 => hg h1 h2) fun xs ys e1 e2 => by
  cases e1
  cases e2
  exact ⟨hP, fun _ r => r⟩
/-- a draw, wherever the source lies -/
theorem ve_anyI (h0 : Γ[i]? = some .deal) (h : VE C te Γ (Is (.int n))) (hn : 0 < n) (hm : n < 1000000000000) : VE C (tCallK (De C.K P_any R_any) (fun vs _ => vs) E (tCons (tVar i) (tCons te tNil)) tNil) Γ (fun d => ∃ r, d = .int r ∧ 0 ≤ r ∧ r < n) :=
  (ve_deD h0 (va_consD h va_nil) ⟨n, rfl, hn⟩).imp fun d r => r n rfl
end
/-! ### the law's first statement -/
theorem vs_begin {K : PySem.W.Frag} {H : Hp} {ns : List Int} {n : Nat} {t : TS} {R : D → Prop} {s : Int} (hn : ns.length ≤ 63) (h0 : 0 ≤ s := by decide) (h1 : s ≤ 1000 := by decide)
    (k : ∀ B H p q, VS ⟨K, B, H, some (p, q)⟩ t (.rd (ns.map V.int) :: .deal :: List.replicate n .no) { nx := fun _ => False, rt := R }) :
    VS ⟨K, H, H, none⟩ (tSeq (tAsg (tCallK (Dr K) (fun vs _ => vs) E0 (tCons (tVar 0) (tCons (tC (.int s)) tNil)) tNil) (gName 1)) t) (.rd (ns.map V.int) :: .no :: List.replicate n .no) { nx := fun _ => False, rt := R } := fun B H1 σ E F n' r b c => by
  obtain ⟨a, ea, hS⟩ := F.slot 0 _ rfl
  refine ⟨.ref a, ea, B, a, ns, s, rfl, F.sub, hS, h0, h1, hn, fun p q B' H' st hp hq hBp hBq hd => ?_⟩
  refine k B' H' p q B' H' _ E ⟨Stp.refl st.sub, fun p' q' e => ?_, ?_, fun i sl h => ?_, fun i j x ds es h => ?_⟩ (fun _ _ _ _ e => e.elim) (fun d v B2 H2 rd s2 kd => ?_) (fun _ _ _ _ e => e.elim) fun _ _ _ _ e => e.elim
  · cases e
    exact ⟨hd, hBp, hBq⟩
  · rw [List.length_set]
    exact F.len
  · match i, h with
    | 0, h =>
      cases h
      refine ⟨a, ?_, same_l st.ext hS⟩
      rw [List.getElem?_set_ne (by decide)]
      exact ea
    | 1, h =>
      cases h
      refine ⟨p, q, rfl, ?_⟩
      rw [List.getElem?_set_self (by rw [F.len]; exact Nat.succ_lt_succ (Nat.succ_pos _))]
    | i + 2, h =>
      have h : (List.replicate n Sl.no)[i]? = some sl := h
      rw [List.getElem?_replicate] at h
      split at h
      · cases h
        trivial
      · cases h
  · exfalso
    match i, h with
    | 0, h => cases h
    | 1, h => cases h
    | i + 2, h =>
      have h : (List.replicate n Sl.no)[i]? = some (.own ds) := h
      rw [List.getElem?_replicate] at h
      split at h <;> cases h
  · refine r d v B2 H2 rd ?_ kd
    have keep : ∀ a o, H1 a = some o → (∀ ps, o ≠ .tbl ps) → H2 a = some o := fun a o e nt => by
     refine s2.keepN a o (st.keepN a o e (fun ⟨_, _, z, _⟩ => nomatch z) nt) (fun ⟨p', q', e1, e2⟩ => ?_) nt
     cases e1
     rcases e2 with e2 | e2
     · subst e2
       rw [hp] at e
       cases e
     · subst e2
       rw [hq] at e
       cases e
    have s0 : Stp none B H1 B2 H2 := ⟨st.ext.trans s2.ext, s2.sub, fun a o e _ nt => keep a o e nt, fun a ha hb => s2.out a (st.there (fun _ _ e => nomatch e) ha) (st.out a ha hb), (fun _ _ e => nomatch e), fun a h => s2.stay a (st.stay a h), fun T t => s2.tab T (st.tab T t), fun h => s2.bt (st.bt h)⟩
    exact F.st.trans (fun _ _ e => nomatch e) s0
end Ly

/-! LyO: is of bools, sorted ints, tuple * int, xs.append(ys.pop(e)), _law_mixed. -/
namespace Ly
open PySem PySem.Spec PyProof.Rows L2

theorem dpall_erase {K : PySem.W.Frag} {H : Hp} : ∀ {vs : List V} {ds : List D} (n : Nat), DqAll K H vs ds → DqAll K H (vs.eraseIdx n) (ds.eraseIdx n)
  | _, _, _, .nil => .nil
  | _, _, 0, .cons _ h => h
  | _, _, n + 1, .cons h1 h2 => .cons h1 (dpall_erase n h2)
section
variable {C : Cn} {te ta : TE} {Γ : List Sl} {x y : D} {a b : Bool} {ds es : List D} {P : Po} {i j : Nat}
theorem od_isBl : OD C rIsB (.bool a) (.bool b) (Is (.bool (decide (a = b)))) := fun B H v u e k1 k2 Q q => by
  obtain rfl := k1.bl
  obtain rfl := k2.bl
  exact ⟨a, b, rfl, rfl, q _ _ B H rfl (Stp.refl e) (.bl _)⟩
theorem od_notBl : OD C rNotB (.bool a) (.bool b) (Is (.bool (!decide (a = b)))) := fun B H v u e k1 k2 Q q => by
  obtain rfl := k1.bl
  obtain rfl := k2.bl
  exact ⟨a, b, rfl, rfl, q _ _ B H rfl (Stp.refl e) (.bl _)⟩
/-- e is not True, e is not False: false where e is it -/
theorem vt_isnt (h : VE C te Γ (Is (.bool a))) : VT C (tTest (tOp rNotB te (tC (.bl a)))) Γ (Is false) := (vt_testD (ve_opD h.v ve_bl.v od_notBl)).to (by simp)
theorem vl_sortedI {ns : List Int} (h : VV C te Γ (Is (.list (ns.map .int)))) : VL C (tCB (rSortedI C.K) (tCons te tNil)) Γ (fun ds => ∃ ms : List Int, ds = ms.map .int ∧ ms.Perm ns ∧ ms.Pairwise (· ≤ ·)) := fun B H σ F Q q =>
  h B H σ F _ fun d v B1 H1 ed s1 k1 => by
    cases ed
    obtain ⟨a, xs, rfl, g1, g2⟩ := k1.lst (F.step s1).sub
    rw [dpall_ints g2] at g1
    refine ⟨a, ns, rfl, g1, fun ms p hp h1 h2 => ?_⟩
    exact q _ p _ B1 _ ⟨ms, rfl, hp, h1⟩ (s1.trans F.dlNow (Stp.newM (F.step s1).sub h2)) (back_none F s1 h2) ((F.step s1).sub.free h2) upd_same (dpall_map _ _ (fun i => .int i) ms)
end
theorem sorted_is {ms ns : List Int} (h1 : ms.Perm ns) (h2 : ms.Pairwise (· ≤ ·)) (h3 : ns.Pairwise (· ≤ ·)) : ms = ns :=
  h1.eq_of_pairwise (fun a b _ _ h k => Int.le_antisymm h k) h2 h3

/-! ### tuple * int -/
theorem tuple_mul1 (l : Addr) (items : Array Value) (n : Nat) (dd : Option Addr) (sl : Array (Option Value)) (u : Tok) :
    Meets (Builtin.«tuple.__mul__» ⟨[.ref l, .int 1 u], []⟩) (fun _ R s => s.heap.get? l = some { cls := .type "tuple", dict := dd, data := .seq items n, slots := sl } ∧ R (.ok (.ret (.ref l))) s) :=
  .of_wp fun prog w A R s h => by
    obtain ⟨hp, g, d, tk, os⟩ := s
    obtain ⟨hl, h⟩ := h
    have f1 := AutoSeq1.idx_int
    wp_walk using wpAny_loadPart' hl
    exact ⟨_, rfl, h⟩
def rRep1 (K : PySem.W.Frag) : R2 := fun x y H Q => ∃ l xs, x = .ref l ∧ y = .int 1 ∧ SqT K H l xs ∧ Q (.ref l) H
theorem op_rep1 {X : Cx} : OpR X (binaryOp .Mult) (rRep1 X.K) := by
  intro pins s σ H x y v u Q I rx ry h
  obtain ⟨l, xs, rfl, rfl, hT, q⟩ := h
  cases rx
  obtain ⟨t, rfl⟩ := ry
  obtain ⟨its, r, ⟨⟨cls, dd, data, sl⟩, ho, hc, n, hd⟩, hs⟩ := I.tuple hT
  simp only at hc hd
  subst hc hd
  refine wpAny_binaryOp_repeat_ref (T := "tuple") (U := "int") (by decide) ⟨_, ho, rfl⟩ (fun s' => typeIs_int s' 1 t) noFill_tuple_mul F.fills_int_mul F.slot_int_rmul repeat_tuple F.slot_int_index.lookup
    (call_meets F.slot_int_rmul (typeIs_int s 1 t) F.entry_int_rmul (F.args_int_rmul_2 _ _) (int_rmul_tuple 1 t l its.toArray n dd sl)
      ⟨ho, rfl, ⟨_, ho, rfl⟩, call_meets F.slot_tuple_mul ⟨_, ho, rfl⟩ F.entry_tuple_mul (F.args_tuple_mul_2 _ _) (tuple_mul1 l its.toArray n dd sl t) ⟨ho, ?_⟩⟩)
  exact ⟨.ref l, H, I, rfl, q⟩
def rMulT (K : PySem.W.Frag) : R2 := fun x y H Q => rRepT K x y H Q ∨ rRep1 K x y H Q
theorem oq_mulT {X : Cx} : OpR X (binaryOp .Mult) (rMulT X.K) := OpR.or op_repT op_rep1
theorem dpall_rep {K : PySem.W.Frag} {H : Hp} {vs : List V} {ds : List D} (h : DqAll K H vs ds) : ∀ n : Nat, DqAll K H (List.replicate n vs).flatten (List.replicate n ds).flatten
  | 0 => .nil
  | n + 1 => by
    rw [List.replicate_succ, List.replicate_succ, List.flatten_cons, List.flatten_cons]
    exact dpall_app h (dpall_rep h n)
section
variable {C : Cn} {te ta : TE} {Γ : List Sl} {x y : D} {a b : Bool} {ds es : List D} {P : Po} {i j : Nat}
theorem od_mulT {k : Int} (hne : ds ≠ []) (h1 : 1 ≤ k) (h2 : k ≤ 1000) (hl : ds.length ≤ 1000) : OD C (rMulT C.K) (.tuple ds) (.int k) (Is (.tuple (List.replicate k.toNat ds).flatten)) := fun B H v u e k1 k2 Q q => by
  obtain ⟨l, xs, rfl, g1, g2⟩ := k1.tup e
  obtain rfl := k2.int
  by_cases hk : k = 1
  · subst hk
    refine Or.inr ⟨l, xs, rfl, rfl, g1, ?_⟩
    have kd : Dq C.K B (.ref l) (.tuple ds) := by
      rcases k1 with k1 | ⟨_, _, _, _, z, _⟩
      · exact k1
      · cases z
    refine q _ _ B H ?_ (Stp.refl e) kd
    show _ = PyData.tuple (List.replicate 1 ds).flatten
    simp
  · refine Or.inl ⟨l, k, xs, rfl, rfl, g1, fun z => hne ?_, by omega, h2, by rw [dpall_len g2]; exact hl, fun p hp => ?_⟩
    · have := dpall_len g2
      rw [z] at this
      exact List.length_eq_zero_iff.mp this.symm
    · exact q _ _ (upd B p (.tup (List.replicate k.toNat xs).flatten)) _ rfl (Stp.new e hp) (.tup (Or.inl (Or.inl upd_same)) (dpall_mono (Stp.new (dl := C.dl) e hp).ext (dpall_rep g2 _)))
theorem vl_listRg {n : Int} (h : VE C te Γ (Is (.int n))) (h1 : -1000000 ≤ n) (h2 : n ≤ 1000000) : VL C (tLstRg (tRg1 te)) Γ (Is (Ly.upTo 0 n.toNat)) := fun B H σ F Q q => h B H σ F _ fun d v B1 H1 ed s1 k1 => by
  cases ed
  obtain rfl := dp_int k1
  refine ⟨n, rfl, ⟨by omega, by omega, by omega, by omega, by omega⟩, fun p hp => ?_⟩
  refine q _ p _ B1 _ rfl (s1.trans F.dlNow (Stp.newM (F.step s1).sub hp)) (back_none F s1 hp) ((F.step s1).sub.free hp) upd_same ?_
  unfold rgV Ly.upTo
  rw [Int.sub_zero]
  exact dpall_map _ _ (fun i => .int _) _
/-- xs.append(ys.pop(e)), both one's own -/
theorem vs_appPop (hi : Γ[i]? = some (.own ds)) (hj : Γ[j]? = some (.own es)) (hij : i ≠ j) (h : VE C te Γ (fun d => ∃ r, d = .int r ∧ 0 ≤ r ∧ r < es.length)) (hz : ds.length < 100000) (hz2 : es.length ≤ 100000)
    (k : ∀ (m : Nat) x, es[m]? = some x → P.nx ((Γ.set j (.own (es.eraseIdx m))).set i (.own (ds ++ [x])))) :
    VS C (tDrop (tBM C.K "list" rAppend (tVar i) (tCons (tBM C.K "list" rPopAt (tVar j) (tCons te tNil)) tNil))) Γ P := fun B H σ E F n r b c => by
  obtain ⟨p, vs, e, hC, hB, hp, hd⟩ := F.hasOwn hi
  obtain ⟨p2, us, e2, hC2, hB2, hp2, hd2⟩ := F.hasOwn hj
  have hpp : p2 ≠ p := fun z => hij (F.inj i j p ds es hi hj e (z ▸ e2))
  refine ⟨.ref p, e, own_ty hp, .ref p2, e2, own_ty hp2, h B H σ F _ fun d v B1 H1 ⟨m, ed, h0, h1⟩ s1 k1 => ?_⟩
  subst ed
  obtain rfl := dp_int k1
  obtain ⟨m, rfl⟩ := Int.eq_ofNat_of_zero_le h0
  have F1 := F.step s1
  have hp1 := s1.keep p _ hp (F.notMd hC)
  have hp21 := s1.keep p2 _ hp2 (F.notMd hC2)
  have hm : m < es.length := by omega
  have hd21 := dpall_mono s1.ext hd2
  obtain ⟨y, hy, ky⟩ := dpall_get hd21 (List.getElem?_eq_getElem hm)
  have hlu := dpall_len hd2
  have hix : ixN us.length (m : Int) = some m := by
    unfold ixN
    rw [if_pos (by omega), if_pos (by omega)]
    rfl
  refine ⟨p2, us, m, m, y, rfl, rfl, hp21, by omega, by omega, (ixN_seq hix).1, hy, ?_⟩
  have F2 : Fm C B1 (upd H1 p2 (.lst (us.eraseIdx m))) σ (Γ.set j (.own (es.eraseIdx m))) := F1.mutOwn hj e2 (dpall_erase m hd21)
  have hi2 : (Γ.set j (.own (es.eraseIdx m)))[i]? = some (.own ds) := by rw [List.getElem?_set_ne (Ne.symm hij)]; exact hi
  have hp2' : upd H1 p2 (.lst (us.eraseIdx m)) p = some (.lst vs) := by rw [upd_ne (Ne.symm hpp)]; exact hp1
  refine ⟨p, vs, y, rfl, rfl, hp2', sz6 (by rw [dpall_len hd]; exact hz), ?_⟩
  exact n _ B1 _ σ (k m _ (List.getElem?_eq_getElem hm)) s1.ext (F2.mutOwn hi2 e (dpall_app (dpall_mono s1.ext hd) (dpall_one ky)))
end
end Ly

/-! LyP: comprehensions of which only something is known, parts of small data, _law_mixed, the plain tests (is_integer .. is_row_of). -/
namespace Ly
open PySem PySem.Spec PyProof.Rows L2

inductive A2 {α β : Type} (R : α → β → Prop) : List α → List β → Prop where
  | nil : A2 R [] []
  | cons {a : α} {b : β} {as : List α} {bs : List β} (h : R a b) (t : A2 R as bs) : A2 R (a :: as) (b :: bs)
theorem A2.append {α β : Type} {R : α → β → Prop} : ∀ {a c : List α} {b d : List β}, A2 R a b → A2 R c d → A2 R (a ++ c) (b ++ d)
  | _, _, _, _, .nil, h => h
  | _, _, _, _, .cons h1 h2, h => .cons h1 (A2.append h2 h)
section
variable {C : Cn} {wi : TI} {g : TG} {tt : TT} {te : TE} {vs : List Nat} {Γ : List Sl}
/-- each result with its source -/
theorem vl_mapR {ds : List D} (R : D → D → Prop) (h : VI C wi Γ (Is ds)) (hz : ds.length ≤ 100000) (k : ∀ d ∈ ds, ∃ Γ1 js, VG C g d (wipeS Γ vs) Γ1 js ∧ (∀ j ∈ js, j ∈ vs) ∧ VE C te Γ1 (R d)) :
    VL C (tLc wi g tYes te vs) Γ (fun es => A2 R ds es) := vl_lc h fun xs e => by
  cases e
  refine ⟨hz, fun i acc => A2 R (ds.take i) acc, .nil, fun i d acc hd iv => ?_, fun acc iv => by
    have iv : A2 R (ds.take ds.length) acc := iv
    rw [List.take_length] at iv
    exact iv⟩
  obtain ⟨Γ1, js, hg, hjs, he⟩ := k d (List.mem_of_getElem? hd)
  refine ⟨Γ1, js, hg, hjs, Is true, fun B H σ F Q q => q true B H rfl (Stp.refl F.sub), fun _ => he.imp fun y ey => ?_, fun e => by cases e⟩
  show A2 R (ds.take (i + 1)) (acc ++ [y])
  rw [List.take_add_one, hd]
  exact A2.append iv (.cons ey .nil)
/-- all results are of a kind -/
theorem vl_lcA {S : List D → Prop} {n : Nat} {T : Bool → Prop} (R : D → Prop) (h : VI C wi Γ S) (hz : ∀ ds, S ds → ds.length ≤ n) (hn : n ≤ 100000) (k : ∀ ds, S ds → ∀ d ∈ ds, ∃ Γ1 js, VG C g d (wipeS Γ vs) Γ1 js ∧ (∀ j ∈ js, j ∈ vs) ∧ VT C tt Γ1 T ∧ VE C te Γ1 R) :
    VL C (tLc wi g tt te vs) Γ (fun es => es.length ≤ n ∧ ∀ y ∈ es, R y) := vl_lc h fun ds hd => by
  have hl := hz ds hd
  refine ⟨by omega, fun i acc => acc.length ≤ i ∧ ∀ y ∈ acc, R y, ⟨Nat.le_refl _, fun _ h => nomatch h⟩, fun i d acc hi ⟨iv, iw⟩ => ?_, fun acc ⟨iv, iw⟩ => ⟨by omega, iw⟩⟩
  obtain ⟨Γ1, js, hg, hjs, ht, he⟩ := k ds hd d (List.mem_of_getElem? hi)
  refine ⟨Γ1, js, hg, hjs, T, ht, fun _ => he.imp fun y ey => ⟨by rw [List.length_append]; exact Nat.succ_le_succ iv, fun z hz => ?_⟩, fun _ => ⟨by omega, iw⟩⟩
  rcases List.mem_append.mp hz with hz | hz
  · exact iw z hz
  · rw [List.mem_singleton.mp hz]
    exact ey
end

/-! ### parts of small data -/
section
variable {d x : D} {ds : List D} {k n : Nat}
theorem SmA.mem : ∀ {ds : List D} {n : Nat}, SmA ds k n → ∀ x ∈ ds, Sm x k n
  | [], _, _, x, hx => nomatch hx
  | d :: ds, n, h, x, hx => by
    obtain ⟨h1, h2, h3, h4, h5⟩ := h
    rw [PyData.canLayAll0, Bool.and_eq_true] at h1
    rw [PyData.showableAll, Bool.and_eq_true] at h2
    rw [PyData.leavesShortAll, Bool.and_eq_true] at h3
    rw [PyData.depthAll] at h4
    rw [PyData.weightAll] at h5
    rcases List.mem_cons.mp hx with e | hx
    · subst e
      exact ⟨h1.1, h2.1, h3.1, by omega, by omega⟩
    · exact SmA.mem ⟨h1.2, h2.2, h3.2, by omega, by omega⟩ x hx
theorem SmA.len : ∀ {ds : List D} {n : Nat}, SmA ds k n → ds.length ≤ n
  | [], _, _ => Nat.zero_le _
  | d :: ds, n, h => by
    obtain ⟨h1, h2, h3, h4, h5⟩ := h
    rw [PyData.canLayAll0, Bool.and_eq_true] at h1
    rw [PyData.showableAll, Bool.and_eq_true] at h2
    rw [PyData.leavesShortAll, Bool.and_eq_true] at h3
    rw [PyData.depthAll] at h4
    rw [PyData.weightAll] at h5
    have := SmA.len (ds := ds) (n := n - (d.weight + 1)) ⟨h1.2, h2.2, h3.2, by omega, by omega⟩
    rw [List.length_cons]
    omega
theorem Sm.tupA (h : Sm (.tuple ds) (k + 1) n) : SmA ds k n := by
  obtain ⟨h1, h2, h3, h4, h5⟩ := h
  rw [PyData.depth] at h4
  exact ⟨h1, h2, h3, Nat.le_of_succ_le_succ h4, h5⟩
theorem Sm.lstA (h : Sm (.list ds) (k + 1) n) : SmA ds k n := by
  obtain ⟨h1, h2, h3, h4, h5⟩ := h
  rw [PyData.depth] at h4
  exact ⟨h1, h2, h3, Nat.le_of_succ_le_succ h4, h5⟩
theorem Sm.tupM (h : Sm (.tuple ds) k n) (hx : x ∈ ds) : Sm x k n := by
  have h' : Sm (.tuple ds) (k + 1) n := h.mono
  exact h'.tupA.mem x hx
theorem Sm.tupL (h : Sm (.tuple ds) k n) : ds.length ≤ n := by
  have h' : Sm (.tuple ds) (k + 1) n := h.mono
  exact h'.tupA.len
end
theorem canLayAll_mem : ∀ {ds : List D}, PyData.canLayAll0 ds = true ↔ ∀ x ∈ ds, x.canLay0 = true
  | [] => by simp [PyData.canLayAll0]
  | d :: ds => by rw [PyData.canLayAll0, Bool.and_eq_true, canLayAll_mem]; simp
theorem depthAll_mem {n : Nat} : ∀ {ds : List D}, PyData.depthAll ds ≤ n ↔ ∀ x ∈ ds, x.depth ≤ n
  | [] => by simp [PyData.depthAll]
  | d :: ds => by rw [PyData.depthAll, Nat.max_le, depthAll_mem]; simp
theorem shaped_sub {xs ys : List D} (h : SeqAt.shaped (.list xs) = true) (hs : ∀ y ∈ ys, y ∈ xs) : SeqAt.shaped (.list ys) = true := by
  unfold SeqAt.shaped at h ⊢
  rw [Bool.and_eq_true, decide_eq_true_eq, PyData.canLay0, PyData.depth, canLayAll_mem] at h
  rw [Bool.and_eq_true, decide_eq_true_eq, PyData.canLay0, PyData.depth, canLayAll_mem]
  have h2 : PyData.depthAll xs ≤ 63 := by omega
  refine ⟨fun y hy => h.1 y (hs y hy), ?_⟩
  have : PyData.depthAll ys ≤ 63 := depthAll_mem.mpr fun y hy => depthAll_mem.mp h2 y (hs y hy)
  omega

/-! ### _law_mixed -/
def Pm (ds : List D) : Prop := ∃ xs, (ds = [.list xs] ∨ ds = [.tuple xs]) ∧ xs.length ≤ 10000 ∧ SeqAt.shaped (.list xs) = true
def t_mixed (K : PySem.W.Frag) : TS :=
  tSeq (tPar 2 3 (tCons (tCB (rList K) (tCons (tVar 1) tNil)) (tCons (tLst tNil) tNil)))
  (tSeq (tWhile (tTest (tOp (rNeA K) (tVar 2) (tLst tNil))) (tDrop (tBM K "list" rAppend (tVar 3) (tCons (tBM K "list" rPopAt (tVar 2) (tCons (tAny K (tCB (rLen K) (tCons (tVar 2) tNil))) tNil)) tNil))))
  (tRet (tVar 3)))
theorem erase_perm {α : Type} : ∀ (xs : List α) (m : Nat) (x : α), xs[m]? = some x → (x :: xs.eraseIdx m).Perm xs
  | [], _, _, h => nomatch h
  | y :: ys, 0, x, h => by
    injection h with h
    subst h
    exact .refl _
  | y :: ys, m + 1, x, h => by
    have h : ys[m]? = some x := h
    exact (List.Perm.swap y x _).trans ((erase_perm ys m x h).cons y)
theorem vs_mixed {C : Cn} {ds : List D} (hP : Pm ds) : VS C (t_mixed C.K) (.deal :: slots ds 2) { nx := fun _ => R_mixed ds .none, rt := R_mixed ds } := by
  obtain ⟨xs, hds, hl, hs⟩ := hP
  have hd1 : ∃ d, ds = [d] ∧ (d = .list xs ∨ d = .tuple xs) := by
    rcases hds with rfl | rfl
    · exact ⟨_, rfl, Or.inl rfl⟩
    · exact ⟨_, rfl, Or.inr rfl⟩
  obtain ⟨d, rfl, hd⟩ := hd1
  have hdd : ∀ ys : List D, ([d] = [PyData.list ys] ∨ [d] = [PyData.tuple ys]) → ys = xs := by
    rintro ys (h | h) <;> injection h with h _ <;> rcases hd with rfl | rfl <;> first | (injection h with h; exact h.symm) | cases h
  have hlist : VL C (tCB (rList C.K) (tCons (tVar 1) tNil)) [.deal, .dat d, .no, .no] (Is xs) := by
    rcases hd with rfl | rfl
    · exact vl_listL (ve_var rfl).v
    · exact vl_listT (ve_var rfl)
  refine vs_seq (Is [.deal, .dat d, .own xs, .own []]) (vs_parLL hlist (vl_lstD va_nil) fun x y ex ey => by cases ex; cases ey; rfl) ?_
  rintro Γ rfl
  refine vs_seq (fun Γ => ∃ ys, Γ = [.deal, .dat d, .own [], .own ys] ∧ ys.Perm xs) ?_ ?_
  · refine vs_while (fun m Γ => ∃ as bs, Γ = [.deal, .dat d, .own as, .own bs] ∧ (as ++ bs).Perm xs ∧ m = as.length) _ ⟨xs, [], rfl, by rw [List.append_nil], rfl⟩ ?_
    rintro m Γ ⟨as, bs, rfl, hp, rfl⟩
    have hlen := hp.length_eq
    rw [List.length_append] at hlen
    have hsa : SeqAt.shaped (.list as) = true := shaped_sub hs fun y hy => hp.mem_iff.mp (List.mem_append_left _ hy)
    have ht : VT C (tTest (tOp (rNeA C.K) (tVar 2) (tLst tNil))) [.deal, .dat d, .own as, .own bs] (Is (!as.isEmpty)) := by
      refine vt_testD (ve_opD (vv_own rfl) (vl_lstD va_nil).vd (od_neD hsa rfl ?_))
      show PyData.eqvAll as [] = _
      cases as <;> rfl
    refine ⟨_, ht, fun h => ?_, fun h => ?_⟩
    · have hpos : 0 < as.length := by
        cases as with
        | nil => cases h
        | cons _ _ => exact Nat.succ_pos _
      refine vs_appPop (i := 3) (j := 2) rfl rfl (by decide) (ve_any rfl (ve_lenL (vv_own rfl)) (by omega) (by omega)) (by omega) (by omega) fun m x hm => ?_
      have hml : m < as.length := (List.getElem?_eq_some_iff.mp hm).1
      refine ⟨(as.eraseIdx m).length, ?_, as.eraseIdx m, bs ++ [x], rfl, ?_, rfl⟩
      · rw [List.length_eraseIdx, if_pos hml]
        omega
      · refine List.Perm.trans ?_ hp
        rw [← List.append_assoc]
        exact (List.perm_append_singleton x _).trans ((erase_perm as m x hm).append_right bs)
    · cases as with
      | nil => exact ⟨bs, rfl, hp⟩
      | cons _ _ => cases h
  · rintro Γ ⟨ys, rfl, hp⟩
    refine vs_retOwn 3 rfl fun zs hz => ?_
    obtain rfl := hdd zs hz
    exact ⟨ys, rfl, hp⟩

/-! ### plain tests -/
def isInt : D → Bool
  | .int _ => true
  | _ => false
def isNum : D → Bool
  | .int i => decide (0 ≤ i)
  | _ => false
def isIdx (n : Int) : D → Bool
  | .int i => decide (0 ≤ i) && decide (i < n)
  | _ => false
def isTup : D → Bool
  | .tuple _ => true
  | _ => false
def isSeq : D → Bool
  | .tuple _ => true
  | .list _ => true
  | _ => false
def isRow (ns : List Nat) : D → Bool
  | .tuple xs => ns.contains xs.length
  | _ => false
def P_is1 (ds : List D) : Prop := ∃ d, ds = [d]
def R_isInt (ds : List D) (r : D) : Prop := ∀ d, ds = [d] → r = .bool (isInt d)
def R_isNum (ds : List D) (r : D) : Prop := ∀ d, ds = [d] → r = .bool (isNum d)
def R_isSeq (ds : List D) (r : D) : Prop := ∀ d, ds = [d] → r = .bool (isSeq d)
def P_isIdx (ds : List D) : Prop := ∃ d n, ds = [d, .int n]
def R_isIdx (ds : List D) (r : D) : Prop := ∀ d n, ds = [d, .int n] → r = .bool (isIdx n d)
def P_isRow (ds : List D) : Prop := ∃ d, ∃ ns : List Nat, ds = [d, .tuple (ns.map fun n => .int (n : Nat))]
def R_isRow (ds : List D) (r : D) : Prop := ∀ d (ns : List Nat), ds = [d, .tuple (ns.map fun n => .int (n : Nat))] → r = .bool (isRow ns d)
def isBl : D → Bool
  | .bool _ => true
  | _ => false
section
variable {C : Cn} {te : TE} {Γ : List Sl} {d : D}
theorem ve_isInt (h : VV C te Γ (Is d)) : VE C (tCB (rIsAny C.K) (tCons te (tCons (tC (.ty "int")) tNil))) Γ (Is (.bool (isInt d || isBl d))) := by
  cases d <;> exact ve_isi h rfl
theorem ve_isBool (h : VV C te Γ (Is d)) : VE C (tCB (rIsAny C.K) (tCons te (tCons (tC (.ty "bool")) tNil))) Γ (Is (.bool (isBl d))) := by
  cases d <;> exact ve_isi h rfl
theorem ve_isTup (h : VV C te Γ (Is d)) : VE C (tCB (rIsAny C.K) (tCons te (tCons (tC (.ty "tuple")) tNil))) Γ (Is (.bool (isTup d))) := by
  cases d <;> exact ve_isi h rfl
def t_isInt (K : PySem.W.Frag) : TS := tRet (tAndV (tCB (rIsAny K) (tCons (tVar 0) (tCons (tC (.ty "int")) tNil))) (tNotV (tCB (rIsAny K) (tCons (tVar 0) (tCons (tC (.ty "bool")) tNil)))))
theorem vs_isInt {ds : List D} (hP : P_is1 ds) : VS C (t_isInt C.K) (slots ds 0) { nx := fun _ => R_isInt ds .none, rt := R_isInt ds } := by
  obtain ⟨d, rfl⟩ := hP
  refine vs_retD (ve_andD (ve_isInt (ve_var rfl).v) fun _ => ve_notD (ve_isBool (ve_var rfl).v)) fun d' e => ?_
  injection e with e
  subst e
  cases d <;> rfl
def t_isNum (K : PySem.W.Frag) : TS := tRet (tAndV (tCallK (Pu K P_is1 R_isInt) (fun vs _ => vs) E0 (tCons (tVar 0) tNil) tNil) (tOp (rI0 fun i j => .bl (decide (j ≤ i))) (tVar 0) (tC (.int 0))))
theorem vs_isNum {ds : List D} (hP : P_is1 ds) : VS C (t_isNum C.K) (slots ds 0) { nx := fun _ => R_isNum ds .none, rt := R_isNum ds } := by
  obtain ⟨d, rfl⟩ := hP
  have h1 : VE C (tCallK (Pu C.K P_is1 R_isInt) (fun vs _ => vs) E0 (tCons (tVar 0) tNil) tNil) (slots [d] 0) (Is (.bool (isInt d))) := (ve_callD (va_consD (ve_var rfl) va_nil) ⟨d, rfl⟩).imp fun r k => k d rfl
  have fin : VE C (tAndV (tCallK (Pu C.K P_is1 R_isInt) (fun vs _ => vs) E0 (tCons (tVar 0) tNil) tNil) (tOp (rI0 fun i j => .bl (decide (j ≤ i))) (tVar 0) (tC (.int 0)))) (slots [d] 0) (Is (.bool (isNum d))) := by
    cases d with
    | int i => exact (ve_andD h1 fun _ => ve_opD (ve_var rfl).v ve_int.v od_ge).to rfl
    | _ => exact (ve_andD (c := false) h1 fun e => by cases e).to rfl
  exact vs_retD fin fun d' e => by
    injection e with e
    subst e
    rfl
def t_isIdx (K : PySem.W.Frag) : TS := tRet (tAndV (tCallK (Pu K P_is1 R_isNum) (fun vs _ => vs) E0 (tCons (tVar 0) tNil) tNil) (tOp rLtA (tVar 0) (tVar 1)))
theorem vs_isIdx {ds : List D} (hP : P_isIdx ds) : VS C (t_isIdx C.K) (slots ds 0) { nx := fun _ => R_isIdx ds .none, rt := R_isIdx ds } := by
  obtain ⟨d, n, rfl⟩ := hP
  have h1 : VE C (tCallK (Pu C.K P_is1 R_isNum) (fun vs _ => vs) E0 (tCons (tVar 0) tNil) tNil) (slots [d, .int n] 0) (Is (.bool (isNum d))) := (ve_callD (va_consD (ve_var rfl) va_nil) ⟨d, rfl⟩).imp fun r k => k d rfl
  have fin : VE C (tAndV (tCallK (Pu C.K P_is1 R_isNum) (fun vs _ => vs) E0 (tCons (tVar 0) tNil) tNil) (tOp rLtA (tVar 0) (tVar 1))) (slots [d, .int n] 0) (Is (.bool (isIdx n d))) := by
    cases d with
    | int i => exact (ve_andD h1 fun _ => ve_opD (ve_var rfl).v (ve_var rfl).v od_lt).to rfl
    | _ => exact (ve_andD (c := false) h1 fun e => by cases e).to rfl
  exact vs_retD fin fun d' n' e => by
    injection e with e e2
    injection e2 with e2 _
    injection e2 with e2
    subst e e2
    rfl
def t_isRow (K : PySem.W.Frag) : TS := tRet (tAndV (tCB (rIsAny K) (tCons (tVar 0) (tCons (tC (.ty "tuple")) tNil))) (tOp (rInA K) (tCB (rLen K) (tCons (tVar 0) tNil)) (tVar 1)))
theorem ints_inj : ∀ {ns ms : List Nat}, (ns.map fun n => PyData.int (n : Nat)) = (ms.map fun n => PyData.int (n : Nat)) → ns = ms
  | [], [], _ => rfl
  | [], _ :: _, h => nomatch h
  | _ :: _, [], h => nomatch h
  | n :: ns, m :: ms, h => by
    injection h with h1 h2
    injection h1 with h1
    rw [ints_inj h2, Int.ofNat.inj h1]
theorem any_ints (ns : List Nat) (m : Nat) : ((ns.map fun n => PyData.int (n : Nat)).any fun z => PyData.eqv z (.int (m : Nat))) = ns.contains m := by
  induction ns with
  | nil => rfl
  | cons n ns ih =>
    rw [List.map_cons, List.any_cons, ih, List.contains_cons, PyData.eqv]
    congr 1
    by_cases h : m = n
    · rw [h]; simp
    · rw [beq_eq_false_iff_ne.mpr h, beq_eq_false_iff_ne.mpr (by omega)]
theorem flat_ints (ns : List Nat) : (ns.map fun n => PyData.int (n : Nat)).all flatD = true := by
  rw [List.all_map, List.all_eq_true]
  intro x _
  rfl
theorem vs_isRow {ds : List D} (hP : P_isRow ds) : VS C (t_isRow C.K) (slots ds 0) { nx := fun _ => R_isRow ds .none, rt := R_isRow ds } := by
  obtain ⟨d, ns, rfl⟩ := hP
  have fin : VE C (tAndV (tCB (rIsAny C.K) (tCons (tVar 0) (tCons (tC (.ty "tuple")) tNil))) (tOp (rInA C.K) (tCB (rLen C.K) (tCons (tVar 0) tNil)) (tVar 1))) (slots [d, .tuple (ns.map fun n => .int (n : Nat))] 0) (Is (.bool (isRow ns d))) := by
    cases d with
    | tuple xs =>
      refine (ve_andD (ve_isTup (ve_var rfl).v) fun _ => ve_opD (ve_lenT (ve_var rfl)).v (ve_var rfl).v (od_inT rfl (flat_ints ns))).to ?_
      rw [any_ints]
      rfl
    | _ => exact (ve_andD (c := false) (ve_isTup (ve_var rfl).v) fun e => by cases e).to rfl
  exact vs_retD fin fun d' n' e => by
    injection e with e e2
    injection e2 with e2 _
    injection e2 with e2
    obtain rfl := ints_inj e2
    subst e
    rfl
theorem call_isNum {E : XK} (h : VE C te Γ (Is d)) : VE C (tCallK (Pu C.K P_is1 R_isNum) (fun vs _ => vs) E (tCons te tNil) tNil) Γ (Is (.bool (isNum d))) := (ve_callD (va_consD h va_nil) ⟨d, rfl⟩).imp fun r k => k d rfl
theorem call_isIdx {E : XK} {t2 : TE} {n : Int} (h : VE C te Γ (Is d)) (h2 : VE C t2 Γ (Is (.int n))) : VE C (tCallK (Pu C.K P_isIdx R_isIdx) (fun vs _ => vs) E (tCons te (tCons t2 tNil)) tNil) Γ (Is (.bool (isIdx n d))) :=
  (ve_callD (va_consD h (va_consD h2 va_nil)) ⟨d, n, rfl⟩).imp fun r k => k d n rfl
theorem call_isRow {E : XK} {t2 : TE} (ns : List Nat) (h : VE C te Γ (Is d)) (h2 : VE C t2 Γ (Is (.tuple (ns.map fun n => .int (n : Nat))))) : VE C (tCallK (Pu C.K P_isRow R_isRow) (fun vs _ => vs) E (tCons te (tCons t2 tNil)) tNil) Γ (Is (.bool (isRow ns d))) :=
  (ve_callD (va_consD h (va_consD h2 va_nil)) ⟨d, ns, rfl⟩).imp fun r k => k d ns rfl
end
end Ly

/-! LyQ: promises told by a parameter: Pa (data of a parameter in, something of it out), Da (a source of draws first). -/
namespace Ly
open PySem PySem.Spec PyProof.Rows L2

def Pa (K : PySem.W.Frag) {α : Type} (f : α → List D) (P : α → Prop) (R : α → D → Prop) : Sp := fun vs H Q E => ∃ a, P a ∧ Pu K (Is (f a)) (fun _ => R a) vs H Q E
def Da (K : PySem.W.Frag) {α : Type} (f : α → List D) (P : α → Prop) (R : α → D → Prop) : Sp := fun vs H Q E => ∃ a, P a ∧ De K (Is (f a)) (fun _ => R a) vs H Q E
section
variable {P0 : Program} {w : World} {K : PySem.W.Frag} {mg : Str → Option Value} {base : Heap} {k : Nat} {f : Addr} {fd : FuncData} {ps N : List Str} {x qual : Str} {st : Stmt} {α : Type} {g : α → List D} {P : α → Prop} {R : α → D → Prop}
theorem GOk.ex {S : α → Sp} (h : ∀ a, P a → GOk P0 w K mg base CX0 k f fd ps (S a)) : GOk P0 w K mg base CX0 k f fd ps (fun vs H Q E => ∃ a, P a ∧ S a vs H Q E) :=
  ⟨fun ⟨a, p, q⟩ => (h a p).size q, fun gd r e0 b rv ⟨a, p, q⟩ => (h a p).does gd r e0 b rv q⟩
theorem pa_ok (n : Nat) (F : Fun K x qual st f fd) (S : FnScope N ps (defScope st)) (hl : ∀ a, (g a).length = ps.length) (hn : ps.length + n = N.length)
    (body : ∀ (cdv : Value) (A : Around) (outer : List Env) (s : Shared) (H : Hp) (E : XK), (cxOf CX0 P0 w K mg base N qual (defScope st) f cdv A outer s H E).A.guards = some [] → Room k (cxOf CX0 P0 w K mg base N qual (defScope st) f cdv A outer s H E).A →
      ∃ t, PSs (cxOf CX0 P0 w K mg base N qual (defScope st) f cdv A outer s H E).nox (defBody st) t ∧ ∀ B H a, P a → VS ⟨K, B, H, none⟩ t (slots (g a) n) { nx := fun _ => R a .none, rt := R a }) :
    GOk P0 w K mg base CX0 (k + 1) f fd ps (Pa K g P R) :=
  GOk.ex fun a hp => pu_ok n F S (fun ds e => by cases e; exact hl a) hn fun cdv A outer s H E hg hr => by
    obtain ⟨t, ht, hv⟩ := body cdv A outer s H E hg hr
    exact ⟨t, ht, fun B H ds e => by cases e; exact hv B H a hp⟩
theorem da_ok (n : Nat) (F : Fun K x qual st f fd) (S : FnScope N ps (defScope st)) (hl : ∀ a, (g a).length + 1 = ps.length) (hn : ps.length + n = N.length)
    (body : ∀ (cdv : Value) (A : Around) (outer : List Env) (s : Shared) (H : Hp) (E : XK), (cxOf CX0 P0 w K mg base N qual (defScope st) f cdv A outer s H E).A.guards = some [] → Room k (cxOf CX0 P0 w K mg base N qual (defScope st) f cdv A outer s H E).A →
      ∃ t, PSs (cxOf CX0 P0 w K mg base N qual (defScope st) f cdv A outer s H E).nox (defBody st) t ∧ ∀ B H p q a, P a → VS ⟨K, B, H, some (p, q)⟩ t (.deal :: slots (g a) n) { nx := fun _ => R a .none, rt := R a }) :
    GOk P0 w K mg base CX0 (k + 1) f fd ps (Da K g P R) :=
  GOk.ex fun a hp => de_ok n F S (fun ds e => by cases e; exact hl a) hn fun cdv A outer s H E hg hr => by
    obtain ⟨t, ht, hv⟩ := body cdv A outer s H E hg hr
    exact ⟨t, ht, fun B H p q ds e => by cases e; exact hv B H p q a hp⟩
end
section
variable {C : Cn} {A A' : TA} {Γ : List Sl} {α : Type} {g : α → List D} {P : α → Prop} {R : α → D → Prop} {E : XK} {gV : List V → List V → List V} {ds es : List D} {i : Nat}
theorem ve_callA (a : α) (h : VA C A Γ (Is (g a))) (hP : P a) : VE C (tCallK (Pa C.K g P R) (fun vs _ => vs) E A tNil) Γ (R a) := fun B H σ F Q q =>
  h B H σ F _ fun ds vs B1 H1 e1 s1 k1 => by
    cases e1
    exact ⟨a, hP, B1, g a, (F.step s1).sub, k1, rfl, fun d v B3 H3 r3 s3 k3 => q d v B3 H3 r3 (s1.trans F.dlNow s3.any) k3⟩
/-- with names -/
theorem ve_kwA (a : α) {gD : List D → List D → List D} (hg : ∀ {H : Hp} {vs zs : List V} {us ws : List D}, DqAll C.K H vs us → DqAll C.K H zs ws → DqAll C.K H (gV vs zs) (gD us ws)) (h : VA C A Γ (Is ds)) (h' : VA C A' Γ (Is es)) (he : gD ds es = g a) (hP : P a) :
    VE C (tCallK (Pa C.K g P R) gV E A A') Γ (R a) := fun B H σ F Q q =>
  h B H σ F _ fun ds vs B1 H1 e1 s1 k1 => h' B1 H1 σ (F.step s1) _ fun es zs B2 H2 e2 s2 k2 => by
    cases e1
    cases e2
    exact ⟨a, hP, B2, g a, ((F.step s1).step s2).sub, by have := hg (dpall_mono s2.ext k1) k2; rw [he] at this; exact this, rfl, fun d v B3 H3 r3 s3 k3 => q d v B3 H3 r3 ((s1.trans F.dlNow s2).trans F.dlNow s3.any) k3⟩
theorem ve_callDa (a : α) (hi : Γ[i]? = some .deal) (h : VA C A Γ (Is (g a))) (hP : P a) : VE C (tCallK (Da C.K g P R) (fun vs _ => vs) E (tCons (tVar i) A) tNil) Γ (R a) := fun B H σ F Q q => by
  obtain ⟨p, r, e, hs⟩ := F.slot i _ hi
  refine ⟨.ref p, hs, h B H σ F _ fun ds vs B1 H1 e1 s1 k1 => ?_⟩
  cases e1
  have F1 := F.step s1
  obtain ⟨n1, n2⟩ := F1.dlOut e
  refine ⟨a, hP, B1, p, r, vs, g a, rfl, F1.sub, F1.dlNow p r e, n1, n2, k1, rfl, fun d v B3 H3 r3 s3 k3 => ?_⟩
  rw [← e] at s3
  exact q d v B3 H3 r3 (s1.trans F.dlNow s3) k3
end
/-! ### comprehensions over told things -/
section
variable {C : Cn} {wi : TI} {g : TG} {tt : TT} {te : TE} {vs : List Nat} {Γ : List Sl} {α : Type} {m : α → D} {xs : List α}
theorem vl_lcM (f : α → Bool) (v : α → D) (h : VI C wi Γ (Is (xs.map m))) (hz : xs.length ≤ 100000) (k : ∀ x ∈ xs, ∃ Γ1 js, VG C g (m x) (wipeS Γ vs) Γ1 js ∧ (∀ j ∈ js, j ∈ vs) ∧ VT C tt Γ1 (Is (f x)) ∧ (f x = true → VE C te Γ1 (Is (v x)))) :
    VL C (tLc wi g tt te vs) Γ (Is ((xs.filter f).map v)) := vl_lc h fun ds e => by
  cases e
  refine ⟨by rw [List.length_map]; exact hz, fun i acc => acc = ((xs.take i).filter f).map v, rfl, fun i d acc hd iv => ?_, fun acc iv => ?_⟩
  · rw [List.getElem?_map] at hd
    obtain ⟨x, hx, rfl⟩ := Option.map_eq_some_iff.mp hd
    obtain ⟨Γ1, js, hg, hjs, ht, he⟩ := k x (List.mem_of_getElem? hx)
    refine ⟨Γ1, js, hg, hjs, Is (f x), ht, fun e => (he e.symm).imp fun y ey => ?_, fun e => ?_⟩
    · subst ey iv
      rw [List.take_add_one, hx, List.filter_append, List.map_append]
      show _ = _ ++ List.map v (List.filter f [x])
      rw [List.filter_cons, if_pos e.symm]
      rfl
    · subst iv
      rw [List.take_add_one, hx, List.filter_append, List.map_append]
      show _ = _ ++ List.map v (List.filter f [x])
      rw [List.filter_cons, if_neg (by rw [← e]; decide)]
      exact (List.append_nil _).symm
  · have iv : acc = ((xs.take (xs.map m).length).filter f).map v := iv
    rw [List.length_map, List.take_length] at iv
    exact iv
theorem vl_mapM (v : α → D) (h : VI C wi Γ (Is (xs.map m))) (hz : xs.length ≤ 100000) (k : ∀ x ∈ xs, ∃ Γ1 js, VG C g (m x) (wipeS Γ vs) Γ1 js ∧ (∀ j ∈ js, j ∈ vs) ∧ VE C te Γ1 (Is (v x))) :
    VL C (tLc wi g tYes te vs) Γ (Is (xs.map v)) := (vl_lcM (fun _ => true) v h hz fun x hx => by
  obtain ⟨Γ1, js, hg, hjs, he⟩ := k x hx
  exact ⟨Γ1, js, hg, hjs, vt_yes, fun _ => he⟩).to (by rw [List.filter_eq_self.mpr fun _ _ => rfl])
/-- all([..]) -/
theorem ve_allM (f : α → Bool) (h : VI C wi Γ (Is (xs.map m))) (hz : xs.length ≤ 100000) (k : ∀ x ∈ xs, ∃ Γ1 js, VG C g (m x) (wipeS Γ vs) Γ1 js ∧ (∀ j ∈ js, j ∈ vs) ∧ VE C te Γ1 (Is (.bool (f x)))) :
    VE C (tCB (rAll C.K) (tCons (tLc wi g tYes te vs) tNil)) Γ (Is (.bool (xs.all f))) :=
  (ve_all (ns := xs.map f) ((vl_mapM (fun x => .bool (f x)) h hz k).to (by rw [List.map_map]; rfl)).vd).to (by rw [List.all_map]; rfl)
/-- tuple([..]) -/
theorem ve_tupM (f : α → Bool) (v : α → D) (h : VI C wi Γ (Is (xs.map m))) (hz : xs.length ≤ 100000) (k : ∀ x ∈ xs, ∃ Γ1 js, VG C g (m x) (wipeS Γ vs) Γ1 js ∧ (∀ j ∈ js, j ∈ vs) ∧ VT C tt Γ1 (Is (f x)) ∧ (f x = true → VE C te Γ1 (Is (v x)))) :
    VE C (tCB (rTup C.K) (tCons (tLc wi g tt te vs) tNil)) Γ (Is (.tuple ((xs.filter f).map v))) := ve_tupL (vl_lcM f v h hz k).vd
/-- over data as it is -/
theorem id_map (ds : List D) : ds = ds.map id := (List.map_id ds).symm
theorem va_tupI {te : TE} {ds : List D} (h : VE C te Γ (Is (.tuple ds))) : VI C (iAny C.K te) Γ (Is (ds.map id)) := by
  rw [List.map_id]
  exact va_tupD h
theorem va_listI {te : TE} {ds : List D} (h : VE C te Γ (Is (.list ds))) : VI C (iAny C.K te) Γ (Is (ds.map id)) := by
  rw [List.map_id]
  exact va_listD h
/-- range(n) -/
theorem vi_rngM {te : TE} {n : Nat} (h : VE C te Γ (Is (.int (n : Nat)))) (hn : n ≤ 1000000) : VI C (iRng1 (tCons te tNil)) Γ (Is ((List.range n).map fun (i : Nat) => PyData.int (i : Nat))) := by
  have e : Ly.upTo 0 ((n : Int)).toNat = (List.range n).map fun (i : Nat) => PyData.int (i : Nat) := by
    unfold Ly.upTo
    rw [Int.toNat_natCast]
    refine List.map_congr_left fun i _ => ?_
    show PyData.int (0 + (i : Nat)) = _
    rw [Int.zero_add]
  rw [← e]
  exact vi_rng1D h
end
end Ly

/-! LyR: small things of lists, orders (levels and told pairs), _law_closed. -/
namespace Ly
open PySem PySem.Spec PyProof.Rows L2

section
variable {C : Cn} {r : R2} {x y : D} {R R' : D → Prop} {ta tb te : TE} {Γ : List Sl}
theorem OD.imp (h : OD C r x y R) (i : ∀ d, R d → R' d) : OD C r x y R' := fun B H v u e k1 k2 Q q => h B H v u e k1 k2 Q fun d w B' H' rd s k => q d w B' H' (i d rd) s k
/-- a test of a draw against a number -/
theorem vt_anyEq {i : Nat} {b : Int} {E : XK} (h0 : Γ[i]? = some .deal) (hb : 0 < b) (hm : b < 1000000000000) {z : Int} : VT C (tTest (tOp (rEqA C.K) (tCallK (De C.K P_any R_any) (fun vs _ => vs) E (tCons (tVar i) (tCons (tC (.int b)) tNil)) tNil) (tC (.int z)))) Γ (fun _ => True) :=
  vt_test (ve_op (ve_anyI h0 ve_int hb hm).v (Rb := Is (.int z)) ve_int.v fun x y ⟨r, ex, _, _⟩ ey => by
    subst ex ey
    exact od_eqI.imp fun d e => ⟨_, e, trivial⟩)
end
theorem all_map {α β : Type} {f : α → β} {Q : α → Prop} : ∀ {es : List β}, (∀ y ∈ es, ∃ p, y = f p ∧ Q p) → ∃ ps : List α, es = ps.map f ∧ ∀ p ∈ ps, Q p
  | [], _ => ⟨[], rfl, fun _ h => nomatch h⟩
  | e :: es, h => by
    obtain ⟨p, rfl, hp⟩ := h e (List.mem_cons_self ..)
    obtain ⟨ps, rfl, hq⟩ := all_map fun y hy => h y (List.mem_cons_of_mem _ hy)
    refine ⟨p :: ps, rfl, fun z hz => ?_⟩
    rcases List.mem_cons.mp hz with rfl | hz
    · exact hp
    · exact hq z hz
theorem perm_map_inv {α β : Type} {f : α → β} {as bs : List β} (h : as.Perm bs) : ∀ xs : List α, bs = xs.map f → ∃ zs : List α, as = zs.map f ∧ zs.Perm xs := by
  induction h with
  | nil =>
    intro xs e
    obtain rfl : xs = [] := List.map_eq_nil_iff.mp e.symm
    exact ⟨[], rfl, .refl _⟩
  | cons b _ ih =>
    intro xs e
    cases xs with
    | nil => cases e
    | cons x xs =>
      injection e with e1 e2
      obtain ⟨zs, e3, h⟩ := ih xs e2
      exact ⟨x :: zs, by rw [e1, e3]; rfl, h.cons x⟩
  | swap a b l =>
    intro xs e
    match xs, e with
    | x :: y :: xs, e =>
      injection e with e1 e2
      injection e2 with e2 e3
      exact ⟨y :: x :: xs, by rw [e1, e2, e3]; rfl, .swap x y xs⟩
  | trans _ _ ih1 ih2 =>
    intro xs e
    obtain ⟨zs, e1, h1⟩ := ih2 xs e
    obtain ⟨us, e2, h2⟩ := ih1 zs e1
    exact ⟨us, e2, h2.trans h1⟩
abbrev nsD (ns : List Nat) : List D := ns.map fun n => .int (n : Nat)
theorem ns_cast (ns : List Nat) : nsD ns = (ns.map fun (n : Nat) => (n : Int)).map PyData.int := by rw [List.map_map]; rfl
theorem shaped_ns (xs : List Nat) : SeqAt.shaped (.list (nsD xs)) = true := by
  unfold SeqAt.shaped
  rw [Bool.and_eq_true, decide_eq_true_eq, PyData.canLay0, PyData.depth, canLayAll_mem]
  refine ⟨fun x hx => ?_, ?_⟩
  · obtain ⟨n, _, rfl⟩ := List.mem_map.mp hx
    rfl
  · have : PyData.depthAll (nsD xs) ≤ 0 := depthAll_mem.mpr fun x hx => by
      obtain ⟨n, _, rfl⟩ := List.mem_map.mp hx
      exact Nat.le_refl _
    omega
/-- sorted(xs), numbers -/
theorem vl_sortedN {C : Cn} {te : TE} {Γ : List Sl} {ns : List Nat} (h : VV C te Γ (Is (.list (nsD ns)))) : VL C (tCB (rSortedI C.K) (tCons te tNil)) Γ (fun ds => ∃ ms : List Nat, ds = nsD ms ∧ ms.Perm ns ∧ ms.Pairwise (· ≤ ·)) :=
  (vl_sortedI (ns := ns.map fun (n : Nat) => (n : Int)) (by rw [← ns_cast]; exact h)).imp fun ds ⟨ms, e, hp, hs⟩ => by
    obtain ⟨zs, rfl, hz⟩ := perm_map_inv hp ns rfl
    refine ⟨zs, by rw [e, ← ns_cast], hz, ?_⟩
    rw [List.pairwise_map] at hs
    exact hs.imp fun h => by omega

/-! ### told pairs -/
/-- by told pairs from x up to y, none or more -/
inductive Up (ps : List (Nat × Nat)) : Nat → Nat → Prop where
  | here (x : Nat) : Up ps x x
  | step {x y z : Nat} (t : Up ps x y) (h : (y, z) ∈ ps) : Up ps x z
theorem Up.trans {ps : List (Nat × Nat)} {x y z : Nat} (h : Up ps x y) (k : Up ps y z) : Up ps x z := by
  induction k with
  | here => exact h
  | step _ e ih => exact .step ih e
/-- in at most t steps -/
def Rch (ps : List (Nat × Nat)) (x : Nat) : Nat → Nat → Prop
  | 0, h => x = h
  | t + 1, h => Rch ps x t h ∨ ∃ y, (y, h) ∈ ps ∧ Rch ps x t y
section
variable {ps : List (Nat × Nat)} {x : Nat}
theorem Rch.mono {h : Nat} : ∀ {t u : Nat}, t ≤ u → Rch ps x t h → Rch ps x u h
  | t, 0, l, r => by
    obtain rfl : t = 0 := by omega
    exact r
  | t, u + 1, l, r => by
    by_cases e : t = u + 1
    · exact e ▸ r
    · exact Or.inl (Rch.mono (by omega) r)
theorem Rch.up : ∀ {t h : Nat}, Rch ps x t h → Up ps x h
  | 0, h, r => by
    cases r
    exact .here _
  | t + 1, h, r => by
    rcases r with r | ⟨y, hy, r⟩
    · exact Rch.up r
    · exact .step (Rch.up r) hy
theorem Up.rch {h : Nat} (u : Up ps x h) : ∃ t, Rch ps x t h := by
  induction u with
  | here => exact ⟨0, rfl⟩
  | step _ e ih =>
    obtain ⟨t, r⟩ := ih
    exact ⟨t + 1, Or.inr ⟨_, e, r⟩⟩
theorem filter_lt {α : Type} {p q : α → Bool} : ∀ (l : List α), (∀ x ∈ l, p x = true → q x = true) → (l.filter p).length ≤ (l.filter q).length ∧ ((∃ x ∈ l, q x = true ∧ p x = false) → (l.filter p).length < (l.filter q).length)
  | [], _ => ⟨Nat.le_refl _, fun ⟨_, h, _⟩ => nomatch h⟩
  | y :: l, h => by
    obtain ⟨h1, h2⟩ := filter_lt l fun x hx => h x (List.mem_cons_of_mem _ hx)
    have hy := h y (List.mem_cons_self ..)
    rw [List.filter_cons, List.filter_cons]
    cases hp : p y with
    | true =>
      rw [hy hp]
      refine ⟨Nat.succ_le_succ h1, fun ⟨x, hx, hq, hn⟩ => ?_⟩
      rcases List.mem_cons.mp hx with rfl | hx
      · rw [hp] at hn
        cases hn
      · exact Nat.succ_lt_succ (h2 ⟨x, hx, hq, hn⟩)
    | false =>
      cases hq : q y with
      | true => exact ⟨Nat.le_succ_of_le h1, fun _ => Nat.lt_succ_of_le h1⟩
      | false =>
        refine ⟨h1, fun ⟨x, hx, hq', hn⟩ => ?_⟩
        rcases List.mem_cons.mp hx with rfl | hx
        · rw [hq] at hq'
          cases hq'
        · exact h2 ⟨x, hx, hq', hn⟩
open Classical in
/-- many steps are enough -/
theorem Up.many {many : Nat} (hps : ∀ p ∈ ps, p.1 < many ∧ p.2 < many) (hx : x < many) {h : Nat} (u : Up ps x h) : Rch ps x many h := by
  let S : Nat → List Nat := fun t => (List.range many).filter fun h => decide (Rch ps x t h)
  have grow : ∀ t, t + 1 ≤ (S t).length ∨ ∃ u, u ≤ t ∧ ∀ h, h < many → Rch ps x (u + 1) h → Rch ps x u h := by
    intro t
    induction t with
    | zero =>
      left
      have : x ∈ S 0 := List.mem_filter.mpr ⟨List.mem_range.mpr hx, decide_eq_true rfl⟩
      exact List.length_pos_of_mem this
    | succ t ih =>
      rcases ih with ih | ⟨u, hu, hs⟩
      · by_cases st : ∀ h, h < many → Rch ps x (t + 1) h → Rch ps x t h
        · exact Or.inr ⟨t, by omega, st⟩
        · left
          have : ∃ h, h < many ∧ Rch ps x (t + 1) h ∧ ¬ Rch ps x t h := by
            apply Classical.byContradiction
            intro no
            exact st fun h hh r => Classical.byContradiction fun n => no ⟨h, hh, r, n⟩
          obtain ⟨h, hh, r, n⟩ := this
          have := (filter_lt (p := fun h => decide (Rch ps x t h)) (q := fun h => decide (Rch ps x (t + 1) h)) (List.range many) fun y _ hy => decide_eq_true (Or.inl (of_decide_eq_true hy))).2 ⟨h, List.mem_range.mpr hh, decide_eq_true r, decide_eq_false n⟩
          show t + 1 + 1 ≤ ((List.range many).filter fun h => decide (Rch ps x (t + 1) h)).length
          have ih : t + 1 ≤ ((List.range many).filter fun h => decide (Rch ps x t h)).length := ih
          omega
      · exact Or.inr ⟨u, by omega, hs⟩
  rcases grow many with g | ⟨v, hv, hs⟩
  · have := List.length_filter_le (fun h => decide (Rch ps x many h)) (List.range many)
    rw [List.length_range] at this
    have g : many + 1 ≤ ((List.range many).filter fun h => decide (Rch ps x many h)).length := g
    omega
  · have stay : ∀ T h, h < many → Rch ps x T h → Rch ps x v h := by
      intro T
      induction T with
      | zero => exact fun h _ r => Rch.mono (Nat.zero_le _) r
      | succ T ih =>
        intro h hh r
        rcases r with r | ⟨y, hy, r⟩
        · exact ih h hh r
        · exact hs h hh (Or.inr ⟨y, hy, ih y (hps _ hy).1 r⟩)
    have hh : h < many := by
      cases u with
      | here => exact hx
      | step _ e => exact (hps _ e).2
    obtain ⟨T, r⟩ := u.rch
    exact Rch.mono hv (stay T h hh r)
end
/-! ### _law_closed -/
def prD (p : Nat × Nat) : D := .tuple [.int (p.1 : Nat), .int (p.2 : Nat)]
abbrev tnD (ns : List Nat) : D := .tuple (nsD ns)
abbrev lnD (ns : List Nat) : D := .list (nsD ns)
/-- rows of numbers -/
abbrev ordD (rs : List (List Nat)) : D := .tuple (rs.map tnD)
structure Closed (many : Nat) (ps : List (Nat × Nat)) (rs : List (List Nat)) : Prop where
  len : rs.length = many
  is : ∀ h, h < many → ∀ x, x ∈ rs.getD h [] ↔ x < many ∧ Up ps x h
  nd : ∀ h, h < many → (rs.getD h []).Pairwise (· < ·)
abbrev A_closed : Nat × List (Nat × Nat) → List D := fun a => [.int (a.1 : Nat), .list (a.2.map prD)]
def P_closed : Nat × List (Nat × Nat) → Prop := fun a => a.1 ≤ 100 ∧ a.2.length ≤ 1000 ∧ ∀ p ∈ a.2, p.1 < a.1 ∧ p.2 < a.1
def R_closed : Nat × List (Nat × Nat) → D → Prop := fun a d => ∃ rs, d = ordD rs ∧ Closed a.1 a.2 rs
structure Rnd (many : Nat) (ps : List (Nat × Nat)) (rs : List (List Nat)) : Prop where
  len : rs.length = many
  up : ∀ h, h < many → ∀ x ∈ rs.getD h [], x < many ∧ Up ps x h
  nd : ∀ h, h < many → (rs.getD h []).Pairwise (· < ·)
def Full (many t : Nat) (ps : List (Nat × Nat)) (rs : List (List Nat)) : Prop := ∀ h, h < many → ∀ x, x < many → Rch ps x t h → x ∈ rs.getD h []
theorem getD_set {α : Type} {xs : List α} {i j : Nat} {y d : α} (hi : i < xs.length) : (xs.set i y).getD j d = if i = j then y else xs.getD j d := by
  rw [List.getD_eq_getElem?_getD, List.getD_eq_getElem?_getD]
  by_cases h : i = j
  · subst h
    rw [List.getElem?_set_self hi, if_pos rfl]
    rfl
  · rw [List.getElem?_set_ne h, if_neg h]
theorem getD_at {α : Type} {xs : List α} {i : Nat} {d : α} (hi : i < xs.length) : xs[i]? = some (xs.getD i d) := by
  rw [List.getD_eq_getElem?_getD, List.getElem?_eq_getElem hi]
  rfl
theorem nd_le {xs : List Nat} (h : xs.Pairwise (· < ·)) : xs.Nodup := h.imp fun h => by omega
theorem le_nd {xs : List Nat} (h : xs.Pairwise (· ≤ ·)) (n : xs.Nodup) : xs.Pairwise (· < ·) := by
  have := h.and n
  exact this.imp fun ⟨h1, h2⟩ => by omega
theorem up_len : ∀ {xs : List Nat} {lo hi : Nat}, xs.Pairwise (· < ·) → (∀ x ∈ xs, lo ≤ x ∧ x < hi) → xs.length ≤ hi - lo
  | [], _, _, _, _ => Nat.zero_le _
  | x :: xs, lo, hi, h, k => by
    rw [List.pairwise_cons] at h
    have h1 := k x (List.mem_cons_self ..)
    have := up_len (xs := xs) (lo := x + 1) (hi := hi) h.2 fun y hy => ⟨h.1 y hy, (k y (List.mem_cons_of_mem _ hy)).2⟩
    rw [List.length_cons]
    omega
theorem rnd_set {many : Nat} {ps : List (Nat × Nat)} {rs : List (List Nat)} {lo hi : Nat} {ms : List Nat} (hr : Rnd many ps rs) (hl : lo < many) (hh : hi < many) (hp : (lo, hi) ∈ ps)
    (hm : ms.Perm (rs.getD hi [] ++ (rs.getD lo []).filter fun x => !(rs.getD hi []).contains x)) (hs : ms.Pairwise (· ≤ ·)) : Rnd many ps (rs.set hi ms) ∧ (∀ h, h < many → ∀ x ∈ rs.getD h [], x ∈ (rs.set hi ms).getD h []) ∧ ∀ x ∈ rs.getD lo [], x ∈ (rs.set hi ms).getD hi [] := by
  have hlen := hr.len
  have hset : ∀ j, (rs.set hi ms).getD j [] = if hi = j then ms else rs.getD j [] := fun j => getD_set (by omega)
  have nd : ms.Nodup := by
    refine hm.nodup_iff.mpr ?_
    refine List.nodup_append.mpr ⟨nd_le (hr.nd hi hh), (nd_le (hr.nd lo hl)).filter _, fun a ha b hb e => ?_⟩
    subst e
    have := (List.mem_filter.mp hb).2
    simp at this
    exact this ha
  refine ⟨⟨by rw [List.length_set]; exact hlen, fun h hm2 x hx => ?_, fun h hm2 => ?_⟩, fun h hm2 x hx => ?_, fun x hx => ?_⟩
  · rw [hset] at hx
    by_cases e : hi = h
    · rw [if_pos e] at hx
      subst e
      rcases List.mem_append.mp (hm.mem_iff.mp hx) with hx | hx
      · exact hr.up _ hh x hx
      · have := hr.up _ hl x (List.mem_filter.mp hx).1
        exact ⟨this.1, .step this.2 hp⟩
    · rw [if_neg e] at hx
      exact hr.up h hm2 x hx
  · rw [hset]
    by_cases e : hi = h
    · rw [if_pos e]
      exact le_nd hs nd
    · rw [if_neg e]
      exact hr.nd h hm2
  · rw [hset]
    by_cases e : hi = h
    · rw [if_pos e]
      subst e
      exact hm.mem_iff.mpr (List.mem_append_left _ hx)
    · rw [if_neg e]
      exact hx
  · rw [hset, if_pos rfl]
    refine hm.mem_iff.mpr ?_
    by_cases e : (rs.getD hi []).contains x = true
    · exact List.mem_append_left _ (by simpa using e)
    · exact List.mem_append_right _ (List.mem_filter.mpr ⟨hx, by rw [Bool.eq_false_iff.mpr e]; rfl⟩)
def t_closed (K : PySem.W.Frag) : TS :=
  tSeq (tAsg (tLc (iRng1 (tCons (tVar 0) tNil)) (gName 3) tYes (tLst (tCons (tVar 3) tNil)) [3]) (gName 2))
  (tSeq (tFor (iRng1 (tCons (tVar 0) tNil)) (gName 4) (tFor (iAny K (tVar 1)) (gTup K 2 (gCons (gName 5) (gCons (gName 6) gNil))) (tAsg (tCB (rSortedI K) (tCons (tOp (rAddA K) (tOp (rIx K) (tVar 2) (tVar 6)) (tLc (iAny K (tOp (rIx K) (tVar 2) (tVar 5))) (gName 7) (tTest (tOp (rNotInA K) (tVar 7) (tOp (rIx K) (tVar 2) (tVar 6)))) (tVar 7) [7])) tNil)) (gSub (tVar 2) (tVar 6) rSetL))))
  (tRet (tCB (rTup K) (tCons (tLc (iAny K (tVar 2)) (gName 8) tYes (tCB (rTup K) (tCons (tVar 8) tNil)) [8]) tNil))))
theorem vs_closed {C : Cn} {a : Nat × List (Nat × Nat)} (hP : P_closed a) : VS C (t_closed C.K) (slots (A_closed a) 7) { nx := fun _ => R_closed a .none, rt := R_closed a } := by
  obtain ⟨many, ps⟩ := a
  obtain ⟨h1, h2, h3⟩ := hP
  have h1 : many ≤ 100 := h1
  have h2 : ps.length ≤ 1000 := h2
  have h3 : ∀ p ∈ ps, p.1 < many ∧ p.2 < many := h3
  have hst : VL C (tLc (iRng1 (tCons (tVar 0) tNil)) (gName 3) tYes (tLst (tCons (tVar 3) tNil)) [3]) (slots (A_closed (many, ps)) 7) (Is (((List.range many).map fun i => [i]).map lnD)) :=
    (vl_mapM (m := fun (i : Nat) => PyData.int (i : Nat)) (fun i => lnD [i]) (vi_rngM (ve_var rfl) (by omega)) (by rw [List.length_range]; omega) fun i hi => ⟨_, _, vg_name, fun j hj => hj, (vl_lstD (va_consD (ve_var rfl) va_nil)).ed⟩).to (by rw [List.map_map]; rfl)
  refine vq_ownD hst ?_
  have r0 : Rnd many ps ((List.range many).map fun i => [i]) ∧ Full many 0 ps ((List.range many).map fun i => [i]) := by
    have hg : ∀ h, h < many → ((List.range many).map fun i => [i]).getD h [] = [h] := fun h hh => by
      rw [List.getD_eq_getElem?_getD, List.getElem?_map, List.getElem?_range hh]
      rfl
    refine ⟨⟨by rw [List.length_map, List.length_range], fun h hh x hx => ?_, fun h hh => ?_⟩, fun h hh x hx r => ?_⟩
    · rw [hg h hh] at hx
      rw [List.mem_singleton.mp hx]
      exact ⟨hh, .here _⟩
    · rw [hg h hh]
      exact List.pairwise_singleton _ _
    · rw [hg h hh]
      cases r
      exact List.mem_singleton.mpr rfl
  refine vs_seq (fun Γ => ∃ rs s4 s5 s6 s7, Γ = [.dat (.int (many : Nat)), .dat (.list (ps.map prD)), .own (rs.map lnD), .no, s4, s5, s6, s7, .no] ∧ Rnd many ps rs ∧ Full many many ps rs) ?_ ?_
  · refine vs_for (vi_rngM (n := many) (ve_var rfl) (by omega)) fun ds e => ?_
    cases e
    refine ⟨fun t Γ => ∃ rs s4 s5 s6 s7, Γ = [.dat (.int (many : Nat)), .dat (.list (ps.map prD)), .own (rs.map lnD), .no, s4, s5, s6, s7, .no] ∧ Rnd many ps rs ∧ Full many t ps rs, ⟨_, _, _, _, _, rfl, r0.1, r0.2⟩, ?_, fun Γ' h => ?_⟩
    · rintro t d Γ' _ ⟨rs0, s4, s5, s6, s7, rfl, hr0, hf0⟩
      refine ⟨_, _, vg_name, ?_⟩
      refine vs_for (va_listD (ds := ps.map prD) (ve_var rfl)) fun ds e => ?_
      cases e
      refine ⟨fun j Γ => ∃ rs s5 s6 s7, Γ = [.dat (.int (many : Nat)), .dat (.list (ps.map prD)), .own (rs.map lnD), .no, .dat d, s5, s6, s7, .no] ∧ Rnd many ps rs ∧ (∀ h, h < many → ∀ x ∈ rs0.getD h [], x ∈ rs.getD h []) ∧ ∀ i, i < j → ∀ lo hi, ps[i]? = some (lo, hi) → ∀ x ∈ rs0.getD lo [], x ∈ rs.getD hi [],
        ⟨rs0, _, _, _, rfl, hr0, fun _ _ _ h => h, fun i hi => by omega⟩, ?_, fun Γ' h => ?_⟩
      · rintro j d' Γ' hd ⟨rs, s5, s6, s7, rfl, hr, hk, hj⟩
        rw [List.getElem?_map] at hd
        obtain ⟨⟨lo, hi⟩, hp, rfl⟩ := Option.map_eq_some_iff.mp hd
        have hmem := List.mem_of_getElem? hp
        obtain ⟨hlo, hhi⟩ := h3 _ hmem
        have hlo : lo < many := hlo
        have hhi : hi < many := hhi
        have hlen := hr.len
        refine ⟨_, _, vg_tup2 vg_name vg_name, ?_⟩
        have at2 : ∀ {Γ : List Sl} {te : TE} {k : Nat}, k < many → Γ[2]? = some (.own (rs.map lnD)) → VE C te Γ (Is (.int (k : Nat))) → VE C (tOp (rIx C.K) (tVar 2) te) Γ (Is (lnD (rs.getD k []))) := fun {Γ te k} hk h2 ht =>
          ve_opD (vv_own h2) ht.v (od_ixL (atI_pos (by rw [List.getElem?_map, getD_at (d := []) (by omega)]; rfl)))
        have hsz : ∀ k, k < many → (rs.getD k []).length ≤ 100 := fun k hk => by
          have := up_len (hr.nd k hk) (lo := 0) (hi := many) fun x hx => ⟨Nat.zero_le _, (hr.up k hk x hx).1⟩
          omega
        have z1 := hsz hi hhi
        have z2 := hsz lo hlo
        have zf := List.length_filter_le (fun x => !(rs.getD hi []).contains x) (rs.getD lo [])
        refine vs_setAt (i := 2) (k := hi) (z := (hi : Int)) rfl (vl_sortedN (ns := rs.getD hi [] ++ (rs.getD lo []).filter fun x => !(rs.getD hi []).contains x) ?_).e (ve_var rfl) ?_ ?_
        · refine ((vl_opD (at2 hhi rfl (ve_var rfl)).v (vl_lcM (m := fun n : Nat => PyData.int (n : Nat)) (fun x => !(rs.getD hi []).contains x) (fun n => .int (n : Nat)) (va_listD (at2 hlo rfl (ve_var rfl))) (by omega) fun x hx => ⟨_, _, vg_name, fun j hj => hj, ?_, fun _ => ve_var rfl⟩).vd (ol_cat ?_)).to ?_).vd
          · exact vt_testD ((ve_opD (ve_var rfl).v (at2 hhi rfl (ve_var rfl)).v (od_notinL rfl (shaped_ns _))).to (congrArg (fun b => PyData.bool (!b)) (any_ints _ x)))
          · rw [List.length_map, List.length_map]
            omega
          · exact List.map_append.symm
        · rw [List.length_map, hlen]
          unfold ixN
          rw [if_pos (by omega), if_pos (by omega)]
          rfl
        · rintro d ⟨ds, rfl, ms, rfl, hm, hs⟩
          obtain ⟨g1, g2, g3⟩ := rnd_set hr hlo hhi hmem hm hs
          refine ⟨rs.set hi ms, .dat (.int (lo : Nat)), .dat (.int (hi : Nat)), s7, ?_, g1, fun h hh x hx => g2 h hh x (hk h hh x hx), fun i hi' lo' hi2 hpi x hx => ?_⟩
          · rw [List.map_set]
            rfl
          · by_cases e : i = j
            · subst e
              rw [hp] at hpi
              injection hpi with hpi
              injection hpi with e1 e2
              subst e1 e2
              exact g3 x (hk lo hlo x hx)
            · exact g2 hi2 (h3 _ (List.mem_of_getElem? hpi)).2 x (hj i (by omega) lo' hi2 hpi x hx)
      · rw [List.length_map] at h
        obtain ⟨rs, s5, s6, s7, rfl, hr, hk, hj⟩ := h
        refine ⟨rs, _, _, _, _, rfl, hr, fun h hh x hx r => ?_⟩
        rcases r with r | ⟨y, hy, r⟩
        · exact hk h hh x (hf0 h hh x hx r)
        · obtain ⟨i, hi, he⟩ := List.getElem_of_mem hy
          exact hj i hi y h (by rw [List.getElem?_eq_getElem hi, he]) x (hf0 y (h3 _ hy).1 x hx r)
    · rw [List.length_map, List.length_range] at h
      exact h
  · rintro Γ ⟨rs, s4, s5, s6, s7, rfl, hr, hf⟩
    refine vs_freeze 2 rfl ?_
    refine vs_retD (ve_tupL (vl_mapM (m := lnD) (xs := rs) tnD (va_listD (ve_var rfl)) (by rw [hr.len]; omega) fun r hr => ⟨_, _, vg_name, fun j hj => hj, ve_tupL (ve_var rfl).v⟩).vd) ?_
    exact ⟨rs, rfl, hr.len, fun h hh x => ⟨hr.up h hh x, fun ⟨hx, u⟩ => hf h hh x hx (u.many h3 hx)⟩, hr.nd⟩
end Ly

/-! LyS: calls with arguments of which only something is known, checks of small data, numbers drawn. -/
namespace Ly
open PySem PySem.Spec PyProof.Rows L2

theorem A2.map {α β γ : Type} {R : α → β → Prop} {f : γ → β} {Q : γ → Prop} (h : ∀ a b, R a b → ∃ p, b = f p ∧ Q p) : ∀ {as : List α} {bs : List β}, A2 R as bs → ∃ ps : List γ, bs = ps.map f ∧ ps.length = as.length ∧ ∀ p ∈ ps, Q p
  | _, _, .nil => ⟨[], rfl, rfl, fun _ h => nomatch h⟩
  | _, _, .cons r t => by
    obtain ⟨p, rfl, hp⟩ := h _ _ r
    obtain ⟨ps, rfl, hl, hq⟩ := A2.map h t
    refine ⟨p :: ps, rfl, congrArg (· + 1) hl, fun z hz => ?_⟩
    rcases List.mem_cons.mp hz with rfl | hz
    · exact hp
    · exact hq z hz
section
variable {C : Cn} {A : TA} {Γ : List Sl} {α : Type} {g : α → List D} {P : α → Prop} {R : α → D → Prop} {R' : D → Prop} {S : List D → Prop} {E : XK} {i : Nat} {te : TE}
theorem ve_callAx (h : VA C A Γ S) (k : ∀ ds, S ds → ∃ a, ds = g a ∧ P a ∧ ∀ d, R a d → R' d) : VE C (tCallK (Pa C.K g P R) (fun vs _ => vs) E A tNil) Γ R' := fun B H σ F Q q =>
  h B H σ F _ fun ds vs B1 H1 e1 s1 k1 => by
    obtain ⟨a, rfl, hP, hR⟩ := k ds e1
    exact ⟨a, hP, B1, g a, (F.step s1).sub, k1, rfl, fun d v B3 H3 r3 s3 k3 => q d v B3 H3 (hR d r3) (s1.trans F.dlNow s3.any) k3⟩
/-- two arguments: the first told -/
theorem ve_call2x {ta tb : TE} {x : D} {Rb : D → Prop} (h1 : VE C ta Γ (Is x)) (h2 : VE C tb Γ Rb) (k : ∀ y, Rb y → ∃ a, [x, y] = g a ∧ P a ∧ ∀ d, R a d → R' d) : VE C (tCallK (Pa C.K g P R) (fun vs _ => vs) E (tCons ta (tCons tb tNil)) tNil) Γ R' :=
  ve_callAx (va_cons h1 (va_cons h2 va_nil)) fun ds ⟨a, as, e1, ea, b, bs, e2, eb, e3⟩ => by
    cases ea
    cases e3
    subst e1 e2
    exact k b eb
theorem ve_anyN {n : Nat} (h0 : Γ[i]? = some .deal) (h : VE C te Γ (Is (.int (n : Nat)))) (hn : 0 < n) (hm : n < 1000000000000) : VE C (tCallK (De C.K P_any R_any) (fun vs _ => vs) E (tCons (tVar i) (tCons te tNil)) tNil) Γ (fun d => ∃ r : Nat, d = .int (r : Nat) ∧ r < n) :=
  (ve_anyI h0 h (by omega) (by omega)).imp fun d ⟨r, e, h0, h1⟩ => by
    obtain ⟨m, rfl⟩ := Int.eq_ofNat_of_zero_le h0
    exact ⟨m, e, by omega⟩
theorem vt_anyGt {b z : Int} (h0 : Γ[i]? = some .deal) (hb : 0 < b) (hm : b < 1000000000000) : VT C (tTest (tOp (rI0 fun i j => .bl (decide (j < i))) (tCallK (De C.K P_any R_any) (fun vs _ => vs) E (tCons (tVar i) (tCons (tC (.int b)) tNil)) tNil) (tC (.int z)))) Γ (fun _ => True) :=
  vt_test (ve_op (ve_anyI h0 ve_int hb hm).v (Rb := Is (.int z)) ve_int.v fun x y ⟨r, ex, _, _⟩ ey => by
    subst ex ey
    exact od_gt.imp fun d e => ⟨_, e, trivial⟩)
/-- one of a told list -/
theorem ve_ofL {ds : List D} (h0 : Γ[i]? = some .deal) (h : VE C te Γ (Is (.list ds))) (hn : ds ≠ []) (hm : ds.length ≤ 100000) : VE C (tCallK (De C.K P_of R_of) (fun vs _ => vs) E (tCons (tVar i) (tCons te tNil)) tNil) Γ (fun d => d ∈ ds) :=
  (ve_deD h0 (va_consD h va_nil) ⟨ds, Or.inl rfl, hn, hm⟩).imp fun d r => r _ (Or.inl rfl)
/-- tuple of a list of which something is known -/
theorem ve_tupX {S : List D → Prop} (h : VL C te Γ S) : VE C (tCB (rTup C.K) (tCons te tNil)) Γ (fun d => ∃ ds, d = .tuple ds ∧ S ds) := ve_tupN h.v
end
theorem range_ns (n : Nat) : Ly.upTo 0 ((n : Int)).toNat = nsD (List.range n) := by
  unfold Ly.upTo
  rw [Int.toNat_natCast]
  refine List.map_congr_left fun i _ => ?_
  show PyData.int (0 + (i : Nat)) = _
  rw [Int.zero_add]
/-- small data, by a check -/
def smB (d : D) (k n : Nat) : Bool := d.canLay0 && (d.showable && (d.leavesShort 13 && (decide (d.depth ≤ k) && decide (d.weight ≤ n))))
theorem smB_is {d : D} {k n : Nat} (h : smB d k n = true) : Sm d k n := by
  unfold smB at h
  simp only [Bool.and_eq_true, decide_eq_true_eq] at h
  exact ⟨h.1, h.2.1, h.2.2.1, h.2.2.2.1, h.2.2.2.2⟩
theorem sm_ns {ns : List Nat} {m : Nat} (h : ∀ x ∈ ns, x < 1000000000000) (hl : ns.length ≤ m) {n : Nat} (hn : m * 42 ≤ n := by decide) : SmA (nsD ns) 0 n := by
  have : SmA (nsD ns) 0 ((nsD ns).length * (41 + 1)) := SmA.of fun d hd => by
    obtain ⟨x, hx, rfl⟩ := List.mem_map.mp hd
    have := h x hx
    exact sm_int (by rw [Int.natAbs_natCast]; omega)
  refine this.monoW ?_
  rw [List.length_map]
  omega
/-- rows of numbers, at most m of at most l -/
theorem sm_ord {rs : List (List Nat)} {m l : Nat} (h : ∀ r ∈ rs, r.length ≤ l ∧ ∀ x ∈ r, x < 1000000000000) (hm : rs.length ≤ m) {n : Nat} (hn : m * (l * 42 + 1) ≤ n := by decide) : Sm (ordD rs) 2 n := by
  refine Sm.tup ((SmA.of (k := 1) (n := l * 42) fun d hd => ?_).monoW ?_)
  · obtain ⟨r, hr, rfl⟩ := List.mem_map.mp hd
    exact Sm.tup (sm_ns (h r hr).2 (h r hr).1 (Nat.le_refl _))
  · rw [List.length_map]
    exact Nat.le_trans (Nat.mul_le_mul_right _ hm) hn
end Ly

/-! LyT: lists of ints by order, zip, tuple.index, a dict display looked up at once, list * int, bits, tuples of the top. -/
namespace Ly
open PySem PySem.Spec PyProof.Rows L2

/-! ### list < list, of ints -/
def rLtL (K : PySem.W.Frag) : R2 := fun x y H Q => ∃ (a b : Addr) (ns ms : List Int), x = .ref a ∧ y = .ref b ∧ SqL K H a (ns.map V.int) ∧ SqL K H b (ms.map V.int) ∧
  Q (.bl (SeqAt.firstLt (fun j => decide (ns.getD j 0 = ms.getD j 0)) (fun j => decide (ns.getD j 0 < ms.getD j 0)) (decide (ns.length < ms.length)) (List.range (min ns.length ms.length)))) H
theorem vals_int {ns : List Int} {vs : List Value} (r : Vals (ns.map V.int) vs) {j : Nat} (h : j < vs.length) : ∃ t, vs[j] = .int (ns.getD j 0) t := by
  induction ns generalizing vs j with
  | nil => cases r; cases h
  | cons n ns ih =>
    cases r with
    | cons h1 h2 =>
      cases j with
      | zero =>
        obtain ⟨t, rfl⟩ := h1
        exact ⟨t, rfl⟩
      | succ j => exact ih h2 (by simpa using h)
theorem op_ltL {X : Cx} (hu : X.A.units < cLine) : OpR X (compareOp .Lt) (rLtL X.K) := by
  intro pins s σ H x y v u Q I rx ry h
  obtain ⟨a, b, ns, ms, rfl, rfl, ha, hb, q⟩ := h
  cases rx
  cases ry
  obtain ⟨its, r1, p1, _⟩ := I.list ha
  obtain ⟨its2, r2, p2, _⟩ := I.list hb
  have l1 : its.length = ns.length := by rw [← r1.length, List.length_map]
  have l2 : its2.length = ms.length := by rw [← r2.length, List.length_map]
  have key := SeqAt.RcLt.lists (A := X.A) (s := s) (e := fun j => decide (ns.getD j 0 = ms.getD j 0)) (r := fun j => decide (ns.getD j 0 < ms.getD j 0)) p1.isList p2.isList hu (fun j h1 h2 => ?_) (fun j h1 h2 _ => ?_)
  · rw [List.size_toArray, List.size_toArray, l1, l2] at key
    exact key X.prog X.w _ _ ⟨.bl _, H, I, rfl, q⟩
  · rw [List.size_toArray] at h1 h2
    obtain ⟨t, e1⟩ := vals_int r1 h1
    obtain ⟨t2, e2⟩ := vals_int r2 h2
    rw [List.getElem_toArray, List.getElem_toArray, e1, e2]
    have := SeqAt.EqAt.int_int (A := X.A.in1) (s := s) (ns.getD j 0) t (ms.getD j 0) t2
    rw [show (ns.getD j 0 == ms.getD j 0) = decide (ns.getD j 0 = ms.getD j 0) from rfl] at this
    exact this
  · rw [List.size_toArray] at h1 h2
    obtain ⟨t, e1⟩ := vals_int r1 h1
    obtain ⟨t2, e2⟩ := vals_int r2 h2
    rw [List.getElem_toArray, List.getElem_toArray, e1, e2]
    exact fun prog w E Q h => HT.rcLt_int X.A.in1 s _ t _ t2 prog w E Q h
def rLtB (K : PySem.W.Frag) : R2 := fun x y H Q => rLtA x y H Q ∨ rLtL K x y H Q
theorem oq_ltB {X : Cx} {k : Nat} (hr : Room k X.A) : OpR X (compareOp .Lt) (rLtB X.K) := OpR.or oq_lt (op_ltL (by have := hr.un; omega))
theorem od_ltL {C : Cn} {ns ms : List Int} : OD C (rLtB C.K) (.list (ns.map .int)) (.list (ms.map .int)) (Is (.bool (SeqAt.firstLt (fun j => decide (ns.getD j 0 = ms.getD j 0)) (fun j => decide (ns.getD j 0 < ms.getD j 0)) (decide (ns.length < ms.length)) (List.range (min ns.length ms.length))))) := fun B H v u e k1 k2 Q q => by
  obtain ⟨a, xs, rfl, g1, g2⟩ := k1.lst e
  obtain ⟨b, ys, rfl, g3, g4⟩ := k2.lst e
  rw [dpall_ints g2] at g1
  rw [dpall_ints g4] at g3
  exact Or.inr ⟨a, b, ns, ms, rfl, rfl, g1, g3, q _ _ B H rfl (Stp.refl e) (.bl _)⟩

/-! ### zip of two lists -/
def zipD (xs ys : List D) : List D := List.zipWith (fun x y => .tuple [x, y]) xs ys
theorem zipD_len (xs ys : List D) : (zipD xs ys).length = min xs.length ys.length := List.length_zipWith
theorem zipD_get {xs ys : List D} {i : Nat} {d : D} (h : (zipD xs ys)[i]? = some d) : ∃ x y, xs[i]? = some x ∧ ys[i]? = some y ∧ d = .tuple [x, y] := by
  unfold zipD at h
  rw [List.getElem?_zipWith] at h
  cases hx : xs[i]? with
  | none => rw [hx] at h; cases h
  | some x =>
    cases hy : ys[i]? with
    | none => rw [hx, hy] at h; cases h
    | some y =>
      rw [hx, hy] at h
      cases h
      exact ⟨x, y, rfl, rfl, rfl⟩
theorem vi_zip {C : Cn} {Γ : List Sl} {ta tb : TE} {xs ys : List D} (h : VE C ta Γ (Is (.list xs))) (h2 : VE C tb Γ (Is (.list ys))) : VI C (RZ.iZipA C.K (tCons ta (tCons tb tNil))) Γ (Is (zipD xs ys)) := fun B H σ F T q => h B H σ F _ fun d v B1 H1 e1 s1 k1 => h2 B1 H1 σ (F.step s1) _ fun d2 v2 B2 H2 e2 s2 k2 => by
  cases e1
  cases e2
  have F2 := (F.step s1).step s2
  obtain ⟨a, us, rfl, g1, g2⟩ := dp_lst (dp_mono s2.ext k1)
  obtain ⟨b, ws, rfl, g3, g4⟩ := dp_lst k2
  refine ⟨a, b, us, ws, rfl, Or.inl ⟨same_l F2.sub g1, same_l F2.sub g3, ?_⟩⟩
  refine q _ _ B2 H2 _ _ rfl (s1.trans F.dlNow s2) (walk_zip (xs := us) (ys := ws) (by rw [zipD_len, dpall_len g2, dpall_len g4])) (fun B3 H3 m1 m2 => ⟨same_l m2 (same_l m1 g1), same_l m2 (same_l m1 g3)⟩) ?_
  rintro i x H3 H3' ⟨t, y, z, rfl, ht, rfl, hy, hz⟩ B3 d m1 m2 hd
  obtain ⟨y', z', hy', hz', rfl⟩ := zipD_get hd
  obtain ⟨v, hv, kv⟩ := dpall_get g2 hy'
  obtain ⟨w, hw, kw⟩ := dpall_get g4 hz'
  have hy : us[i]? = some y := hy
  have hz : ws[i]? = some z := hz
  rw [hy] at hv
  rw [hz] at hw
  cases hv
  cases hw
  have st : Stp C.dl B3 H3 (upd B3 t (.tup [y, z])) (upd H3 t (.tup [y, z])) := Stp.new m2 ht
  exact ⟨_, st, .tup (Or.inl (Or.inl upd_same)) (.cons (dp_mono (m1.trans st.ext) kv) (.cons (dp_mono (m1.trans st.ext) kw) .nil))⟩

/-! ### t.index(x), texts -/
def rTIndex (K : PySem.W.Frag) : V → List V → Hp → VK → Prop := fun x xs H Q => ∃ p, ∃ ys : List Str, ∃ z j, x = .ref p ∧ xs = [.str z] ∧ SqT K H p (ys.map V.str) ∧ ys[j]? = some z ∧ (∀ m, m < j → ys[m]? ≠ some z) ∧ Q (.int (j : Nat)) H
theorem mq_tindex {X : Cx} : MtR X "tuple.index" (rTIndex X.K) := mt_tup_index
theorem ve_tindex {C : Cn} {Γ : List Sl} {v : V} {tb : TE} {ys : List Str} {z : Str} {j : Nat} (ht : ∀ H, tyV C.K "tuple" v H) (h : ∀ B, Dq C.K B v (.tuple (ys.map .str))) (h2 : VE C tb Γ (Is (.str z))) (hj : ys[j]? = some z) (hn : ∀ m, m < j → ys[m]? ≠ some z) :
    VE C (tBM C.K "tuple" (rTIndex C.K) (tC v) (tCons tb tNil)) Γ (Is (.int (j : Nat))) := fun B H σ F Q q => ⟨ht H, h2 B H σ F _ fun d2 v2 B2 H2 e2 s2 k2 => by
  cases e2
  obtain rfl := dp_str k2
  obtain ⟨a, us, rfl, g1, g2⟩ := dp_tup (h H2)
  rw [dpall_strs g2] at g1
  exact ⟨a, ys, z, j, rfl, rfl, g1, hj, hn, q _ _ B2 H2 rfl s2 (.int _)⟩⟩
/-! ### [x] * n -/
theorem vl_rep {C : Cn} {Γ : List Sl} {ta tb : TE} {ds : List D} {k : Int} (h : VL C ta Γ (Is ds)) (h2 : VE C tb Γ (Is (.int k))) (h1 : -1000000 ≤ k) (hz : k ≤ 1000000) (hs : ds.length * k.toNat ≤ 1000000) : VL C (tOp rRep ta tb) Γ (Is (List.replicate k.toNat ds).flatten) := fun B H σ F Q q =>
  h B H σ F _ fun es p vs B1 H1 e1 s1 n1 n2 n3 n4 => h2 B1 H1 σ (F.step s1) _ fun d v B2 H2 e2 s2 k2 => by
    cases e1
    cases e2
    obtain rfl := dp_int k2
    have F2 := (F.step s1).step s2
    have hp := s2.keep p _ n3 (F.notMd (F.newC n1))
    have st := s1.trans F.dlNow s2
    refine ⟨p, k, vs, rfl, rfl, hp, by omega, by omega, by rw [dpall_len n4, sizeLine_eq]; omega, fun r hr => ?_⟩
    exact q _ r _ B2 _ rfl (st.trans F.dlNow (Stp.newM F2.sub hr)) (back_none F st hr) (F2.sub.free hr) upd_same (dpall_rep (dpall_mono s2.ext n4) _)

/-! ### a display of texts and data, looked up at once -/
theorem pairs_ok {C : Cn} {Γ : List Sl} : ∀ (l : List (Str × TE × D)), (∀ e ∈ l, VE C e.2.1 Γ (Is e.2.2)) → ∀ {B H σ}, Fm C B H σ Γ → ∀ Q : List (V × V) → Hp → Prop,
    (∀ vs B' H', Stp C.dl B H B' H' → DqAll C.K B' vs (l.map fun e => e.2.2) → Q (List.zipWith (fun (e : Str × TE × D) v => (.str e.1, v)) l vs) H') → tPairs (l.map fun e => (tC (.str e.1), e.2.1)) σ H Q
  | [], _, B, H, σ, F, Q, q => q [] B H (Stp.refl F.sub) .nil
  | e :: l, h, B, H, σ, F, Q, q => h e (List.mem_cons_self ..) B H σ F _ fun d v B1 H1 ed s1 k1 => by
    cases ed
    refine pairs_ok l (fun e he => h e (List.mem_cons_of_mem _ he)) (F.step s1) _ fun vs B2 H2 s2 k2 => ?_
    exact q (v :: vs) B2 H2 (s1.trans F.dlNow s2) (.cons (dp_mono s2.ext k1) k2)
theorem putK_new {kvs : List (Key × V)} {k : Key} {v : V} (h : ∀ e ∈ kvs, e.1 ≠ k) : putK kvs k v = kvs ++ [(k, v)] := by
  unfold putK
  rw [if_neg]
  intro z
  obtain ⟨e, he, hk⟩ := List.any_eq_true.mp z
  exact h e he (of_decide_eq_true hk)
theorem mergeK_new : ∀ (more kvs : List (Key × V)), (∀ e ∈ kvs, ∀ f ∈ more, e.1 ≠ f.1) → (more.map (·.1)).Nodup → mergeK kvs more = kvs ++ more
  | [], kvs, _, _ => (List.append_nil _).symm
  | f :: more, kvs, h, n => by
    rw [List.map_cons, List.nodup_cons] at n
    show mergeK (putK kvs f.1 f.2) more = _
    rw [putK_new fun e he => h e he f (List.mem_cons_self ..), mergeK_new more _ (fun e he g hg => ?_) n.2, List.append_assoc]
    · rfl
    · rcases List.mem_append.mp he with he | he
      · exact h e he g (List.mem_cons_of_mem _ hg)
      · rw [List.mem_singleton.mp he]
        intro z
        exact n.1 (List.mem_map.mpr ⟨g, hg, z.symm⟩)
theorem zip_get {C : Cn} {B : Hp} {z : Str} {t : TE} {d : D} : ∀ {l : List (Str × TE × D)} {vs : List V}, DqAll C.K B vs (l.map fun e => e.2.2) → (l.map (·.1)).Nodup → (z, t, d) ∈ l →
    ∃ v, valV (List.zipWith (fun (e : Str × TE × D) v => ((Sum.inr e.1 : Key), v)) l vs) (Sum.inr z) = some v ∧ Dq C.K B v d
  | [], _, _, _, h => nomatch h
  | e :: l, _, .cons (v := v) (vs := vs) hv hr, n, h => by
    rw [List.map_cons, List.nodup_cons] at n
    rw [List.zipWith_cons_cons]
    rcases List.mem_cons.mp h with h | h
    · subst h
      exact ⟨v, valV_pos rfl, hv⟩
    · obtain ⟨u, h1, h2⟩ := zip_get hr n.2 h
      refine ⟨u, ?_, h2⟩
      rw [valV_neg]
      · exact h1
      · intro q
        injection q with q
        exact n.1 (List.mem_map.mpr ⟨_, h, q.symm⟩)
theorem ve_dget {C : Cn} {Γ : List Sl} (l : List (Str × TE × D)) {ty : TE} {z : Str} {t : TE} {d : D} (hl : ∀ e ∈ l, VE C e.2.1 Γ (Is e.2.2)) (hz : l.length ≤ 15) (hk : (l.map (·.1)).Nodup) (hy : VE C ty Γ (Is (.str z))) (hm : (z, t, d) ∈ l) :
    VE C (tDGet (tDisp (l.map fun e => (tC (.str e.1), e.2.1))) ty) Γ (Is d) := fun B H σ F Q q => fun p hp => by
  have hC := F.newC hp
  have hB := F.sub.free hp
  have F1 : Fm C B (upd H p (.dK [])) σ Γ := F.poke hC hB (np_none hp) (fun j es hj => F.noOwn hp hj) fun j es hj => F.noDk (fun ws z => by rw [hp] at z; cases z) hj
  have s1 : Stp C.dl B H B (upd H p (.dK [])) := Stp.newM F.sub hp
  refine pairs_ok l hl F1 _ fun vs B2 H2 s2 k2 => ?_
  have hn : upd H p (.dK []) p ≠ none := by rw [upd_same]; simp
  have hB2 := s2.out p hn hB
  have hH2 := s2.keep p _ upd_same (F.notMd hC)
  have hlen : vs.length = l.length := by rw [dpall_len k2, List.length_map]
  let kvs : List (Key × V) := List.zipWith (fun (e : Str × TE × D) v => ((Sum.inr e.1 : Key), v)) l vs
  have ek : mergeK [] kvs = kvs := by
    have h1 : kvs.map (·.1) = (l.map (·.1)).map Sum.inr := by
      have : ∀ (l : List (Str × TE × D)) (vs : List V), vs.length = l.length → (List.zipWith (fun (e : Str × TE × D) v => ((Sum.inr e.1 : Key), v)) l vs).map (·.1) = (l.map (·.1)).map Sum.inr := by
        intro l
        induction l with
        | nil => intro vs _; cases vs <;> rfl
        | cons e l ih =>
          intro vs h
          cases vs with
          | nil => cases h
          | cons v vs =>
            rw [List.zipWith_cons_cons, List.map_cons, ih vs (by simpa using h)]
            rfl
      exact this l vs hlen
    rw [mergeK_new kvs [] (fun _ h => nomatch h) (by
      rw [h1]
      exact List.Pairwise.map _ (fun a b h z => h (Sum.inr.inj z)) hk)]
    rfl
  refine ⟨hH2, kvs, ?_, ?_, ?_⟩
  · have : ∀ (l : List (Str × TE × D)) (vs : List V), List.zipWith (fun (e : Str × TE × D) v => (V.str e.1, v)) l vs = (List.zipWith (fun (e : Str × TE × D) v => ((Sum.inr e.1 : Key), v)) l vs).map fun kv => (kV kv.1, kv.2) := by
      intro l
      induction l with
      | nil => intro vs; cases vs <;> rfl
      | cons e l ih =>
        intro vs
        cases vs with
        | nil => rfl
        | cons v vs => rw [List.zipWith_cons_cons, List.zipWith_cons_cons, List.map_cons, ← ih vs]; rfl
    exact this l vs
  · show (List.zipWith _ l vs).length ≤ 15
    rw [List.length_zipWith]
    omega
  · rw [ek]
    have F2 := F1.step s2
    have F3 := F2.poke (o := .dK kvs) hC hB2 (np_dk hH2) fun j es hj e => by
      obtain ⟨p', ws, e', _, _, h3, _⟩ := F2.hasOwn hj
      rw [e] at e'
      injection e' with e'
      injection e' with e'
      injection e' with e'
      subst e'
      rw [hH2] at h3
      cases h3
    have F3 := F3 fun j es hj e => by
      have := F.noDk (p := p) (fun ws z => by rw [hp] at z; cases z) hj
      exact this e
    refine hy B2 _ σ F3 _ fun d' w B3 H3 ed s3 k3 => ?_
    cases ed
    obtain rfl := dp_str k3
    obtain ⟨v, hv, kv⟩ := zip_get k2 hk hm
    have hH3 := s3.keep p _ upd_same (F.notMd hC)
    refine ⟨p, v, rfl, Or.inl ⟨kvs, Sum.inr z, Or.inl hH3, rfl, hv.symm⟩, ?_⟩
    exact q d v B3 H3 rfl (((s1.trans F.dlNow s2).poke F.dlNow hp hB2 (np_dk hH2)).trans F.dlNow s3) (dp_mono s3.ext kv)
/-! ### tuples of the top -/
theorem dq_ktup {K : PySem.W.Frag} {a : Addr} {o : Obj} {its : Array Value} {n : Nat} {vs : List V} {ds : List D} (hl : K.lookup a = some o) (hc : o.cls = .type "tuple") (hd : o.data = .seq its n) (hz : its.size ≤ sizeLine) (hv : Vals vs its.toList) (hk : ∀ H, DqAll K H vs ds) :
    ∀ H, Dq K H (.ref a) (.tuple ds) := fun H => .tup (Or.inr ⟨o, its, n, hl, hc, hd, hz, hv⟩) (hk H)
theorem ty_ktup {K : PySem.W.Frag} {a : Addr} {o : Obj} (hl : K.lookup a = some o) (hc : o.cls = .type "tuple") (hd : o.dict = none) : ∀ H, tyV K "tuple" (.ref a) H := fun _ => Or.inr (Or.inl ⟨rfl, o, hl, hc, hd⟩)
/-! ### a choice as a test -/
def tIfT (t : TT) (ta tb : TT) : TT := fun σ H Q => t σ H fun c H1 => if c = true then ta σ H1 Q else tb σ H1 Q
theorem pt_ifExp {X : Cx} {c a b : Expr} {pos : Pos} {tc ta tb : TT} (hc : PT X c tc) (ha : PT X a ta) (hb : PT X b tb) : PT X (.IfExp c a b pos) (tIfT tc ta tb) := by
  refine ⟨fun pins s σ H Q I h => ?_⟩
  show wpAny _ _ (do if ← isTrue c X.env (eval c X.env) then isTrue a X.env (eval a X.env) else isTrue b X.env (eval b X.env)) _ _ _
  refine wpAny_bind (thn (hc.run pins s σ H _ I h) fun d s1 ⟨H1, I1, q1⟩ => ?_)
  cases d with
  | true => exact ha.run pins s1 σ H1 Q I1 q1
  | false => exact hb.run pins s1 σ H1 Q I1 q1
theorem vt_if {C : Cn} {Γ : List Sl} {t ta tb : TT} {S R : Bool → Prop} (h : VT C t Γ S) (h1 : S true → VT C ta Γ R) (h2 : S false → VT C tb Γ R) : VT C (tIfT t ta tb) Γ R := fun B H σ F Q q => h B H σ F _ fun b B1 H1 r s1 => by
  cases b with
  | true => exact iteT (h1 r B1 H1 σ (F.step s1) Q fun d B2 H2 r2 s2 => q d B2 H2 r2 (s1.trans F.dlNow s2))
  | false => exact iteF (h2 r B1 H1 σ (F.step s1) Q fun d B2 H2 r2 s2 => q d B2 H2 r2 (s1.trans F.dlNow s2))
theorem un1 {k : Nat} {A : Around} (hr : Room k A) : A.units + 1 < cLine := by
  have := hr.un
  omega
/-! a, b, c = x, y, z -/
theorem vs_par3 {C : Cn} {Γ : List Sl} {ta tb tc : TE} {i j l : Nat} {x y z : D} {P : Po} (h1 : VE C ta Γ (Is x)) (h2 : VE C tb Γ (Is y)) (h3 : VE C tc Γ (Is z)) (k : P.nx (((Γ.set i (.dat x)).set j (.dat y)).set l (.dat z))) :
    VS C (tPar3 i j l (tCons ta (tCons tb (tCons tc tNil)))) Γ P := fun B H σ E F n r b c => h1 B H σ F _ fun d1 v1 B1 H1 e1 s1 k1 => h2 B1 H1 σ (F.step s1) _ fun d2 v2 B2 H2 e2 s2 k2 => h3 B2 H2 σ ((F.step s1).step s2) _ fun d3 v3 B3 H3 e3 s3 k3 => by
  cases e1
  cases e2
  cases e3
  exact ⟨v1, v2, v3, rfl, n _ B3 H3 _ k ((s1.ext.trans s2.ext).trans s3.ext) ((((((F.step s1).step s2).step s3).set (dp_mono (s2.ext.trans s3.ext) k1)).set (dp_mono s3.ext k2)).set k3)⟩
theorem vs_par3L {C : Cn} {Γ : List Sl} {ta tb tc : TE} {i j l : Nat} {x : List D} {y z : D} {P : Po} (h1 : VL C ta Γ (Is x)) (h2 : VE C tb Γ (Is y)) (h3 : VE C tc Γ (Is z)) (k : P.nx (((Γ.set i (.own x)).set j (.dat y)).set l (.dat z))) :
    VS C (tPar3 i j l (tCons ta (tCons tb (tCons tc tNil)))) Γ P := fun B H σ E F n r b c => h1 B H σ F _ fun d1 p vs B1 H1 e1 s1 n1 n2 n3 n4 => h2 B1 H1 σ (F.step s1) _ fun d2 v2 B2 H2 e2 s2 k2 => h3 B2 H2 σ ((F.step s1).step s2) _ fun d3 v3 B3 H3 e3 s3 k3 => by
  cases e1
  cases e2
  cases e3
  have F3 := ((F.step s1).step s2).step s3
  have p2 := s2.keep p _ n3 (F.notMd (F.newC n1))
  have b2 := s2.out p (by rw [n3]; simp) n2
  exact ⟨.ref p, v2, v3, rfl, n _ B3 H3 _ k ((s1.ext.trans s2.ext).trans s3.ext) (((F3.setOwn (F.newC n1) (s3.out p (by rw [p2]; simp) b2) (s3.keep p _ p2 (F.notMd (F.newC n1))) (dpall_mono (s2.ext.trans s3.ext) n4) fun j es _ hj => F.noOwn n1 hj).set (dp_mono s3.ext k2)).set k3)⟩
end Ly

/-! LyU: own exceptions over ValueError (through own classes) whose __init__ says super().__init__('text') and keeps one thing. -/
namespace Ly
open PySem PySem.Spec PyProof.Rows L2

section
open PySem.W PySem.Calls
variable {prog : Program} {w : World} {A : Around} {E : Value → Shared → Prop} {h : Heap} {g : Array GenState} {d : Drawn} {t : Nat} {os : OsState}
variable {nm q : Str} {C N : Addr} {bs bm : List Value} {hdct : Bool} {sn : List Str} {sub : List Value} {ab : Bool} {col : Option Bool} {dd : Option Addr} {k0 k1 k2 k3 k5 : Option Value}
/-- the bound ValueError.__init__, called -/
theorem mw_call {u e t0 : Addr} {rest : List Value} {Q : Value → Shared → Prop}
    (hC : h.get? C = some (excClassObj nm q C N bs bm hdct sn sub ab col dd k0 k1 k2 k3 k5 "ValueError.__new__")) (he : h.get? e = some ({ cls := .ref C, dict := none, data := .fields #[.ref t0, .none, .none, .none, .bool false, .none] } : Obj)) (hu : h.get? u = some (kxs_mw "ValueError.__init__" e)) (hrest : rest.length ≤ sizeLine)
    (hq : ∀ h' t1, (∀ b o, b ≠ e → h.get? b = some o → h'.get? b = some o) → h'.get? e = some ({ cls := .ref C, dict := none, data := .fields #[.ref t1, .none, .none, .none, .bool false, .none] } : Obj) → Q .none ⟨h', g, d, t, os⟩) :
    wpAny (model prog w) A (call (.ref u) rest) Q E ⟨h, g, d, t, os⟩ := by
  refine wpAny_call (codeAny_of_tree ?_)
  show wpAny _ A.in1 (callAny (.ref u) ⟨rest, []⟩) _ _ _
  simp only [callAny]
  refine wpAny_bind (wpAny_load hu ?_)
  simp only [kxs_mw, show (Value.type "method-wrapper" == Value.type "method" || Value.type "method-wrapper" == Value.type "builtin_function_or_method" || Value.type "method-wrapper" == Value.type "method-wrapper") = true by decide, if_true]
  refine KFB.if_so (by decide) ?_
  refine wpAny_bind (PySem.ESX.check_bound F.excBase_ValueError hC he rfl ?_)
  refine wpAny_bind (wpAny_pure (wpAny_pure ?_))
  refine ⟨Code.quiet_builtin _ (by decide +kernel), codeAny_builtin F.excBase_ValueError.initEntry ?_⟩
  rw [Around.under_plainId F.excBase_ValueError.init.plain _]
  wp_walk
  refine hq _ h.objs.size (fun b o hb ho => ?_) ?_
  · rw [Heap.get?_update_other _ _ (Ne.symm hb)]
    exact Heap.get?_push_of_some _ ho
  · rw [Heap.get?_update_self _ (Heap.get?_push_of_some _ he) rfl]
    rfl
end
section
open PySem.W PySem.Calls
/-- super().__init__('text') in an own exception's __init__ (D: the class the def stands in; C: the object's class) -/
theorem sup_at {X : Cx} {pins : List (Addr × Obj)} {σ : L2.St} {H : Hp} {s : Shared} {a C D fI cda cc : Addr} {body : List Stmt} {p0 p1 p2 p3 p4 : Pos} {msg file : Str} {tf : Tok} {j : Nat} {oc ccl cl : Value} {od cdd cld : Option Addr} {osl ccs csl : Array (Option Value)} {fd : FuncData} {ar : Arg} {vs : Array Value} {cdD : ClassData} {pl : Sem Bool}
    (I : Inv X pins σ H s) (e : H a = some (exo a C none)) (T : OexC X.K C) (hfu : X.env.func = some fI) (hco : X.env.code = .ref cda) (lk : X.K.lookup fI = some ⟨oc, od, .func fd, osl⟩) (hp : (fd.params.posonlyargs ++ fd.params.args).head? = some ar)
    (hcd : X.K.lookup cda = some ⟨ccl, cdd, .fields vs, ccs⟩) (hvs : vs[2]? = some (.str file tf)) (hfile : ((X.prog.main.file : Str) == file) = true) (hcell : X.K.lookup cc = some ⟨cl, cld, .cell (some (.ref D)), csl⟩) (hcc : X.env.cells.lookup ("__class__" : Str) = some cc)
    (hD : clsIn X.K D = some cdD) (hsub : mroIn X.K C (.ref D) = some true) (hm : X.mg "super" = none) (hks : X.env.kindOf "super" = some .globalImplicit) (hkc : X.env.kindOf "__class__" = some .free) (hka : X.env.kindOf ar.arg = some .local)
    (hN : X.N[0]? = some ar.arg) (hσ : σ[0]? = some (some (.ref a))) (htop : (X.prog.main.scope.names.lookup ("super" : Str)).isSome = false) (hsup : ks_superIn X.K C D "__init__" = some (some (.builtin "ValueError.__init__"))) (hB : subIn X.K (.ref C) (.type "ValueError") = some true)
    (ho : nsIn X.K cStatics "thirdparty.any" = some none)
    (hc : eval (.Call (.Attribute (.Call (.Name "super" p0) [] [] p1) "__init__" p2) [.Constant (.str msg) j p3] [] p4) X.env = (do
      let ov ← attributeBase (.Call (.Name "super" p0) [] [] p1) "__init__" X.env (eval (.Call (.Name "super" p0) [] [] p1) X.env)
      standAt p2.atName
      let (f, first) ← holding [ov] (getMethod ov "__init__" pl)
      callWith p4 f first (backTo p4 (starEach [.Constant (.str msg) j p3] X.env)) []) := by rfl)
    (hse : starEach [.Constant (.str msg) j p3] X.env = [(false, eval (.Constant (.str msg) j p3) X.env)] := by rfl) (hs0 : starEach [] X.env = [] := by rfl) :
    _root_.PySem.wpAt (model X.prog X.w) X.A (.func body X.env) (eval (.Call (.Attribute (.Call (.Name "super" p0) [] [] p1) "__init__" p2) [.Constant (.str msg) j p3] [] p4) X.env) (fun _ s' => Inv X pins σ H s') X.xe s := by
  obtain ⟨nm, q, N, bs, bm, sn, sub, ab, col, dd, k0, k1, k2, k3, k5, hC, hbm⟩ := T.cls
  have hcl : PySem.W.clsIn X.K C = some { name := nm, bases := bs, mro := .ref C :: bm, ns := N, qualname := q, hasDict := true, slotNames := sn, subclasses := sub, abstract := ab, collection := col, hasDel := false } := by unfold PySem.W.clsIn; rw [hC] <;> rfl
  obtain ⟨hh, g, d, t, os⟩ := s
  obtain ⟨oD, hD1, hD2⟩ : ∃ oD, hh.get? D = some oD ∧ oD.data = .cls cdD := by
    unfold clsIn at hD
    split at hD
    · rename_i c d cd' sl ho
      cases hD
      exact ⟨_, I.kIn _ _ ho, rfl⟩
    · cases hD
  have hk := I.ok.kind
  obtain ⟨mb, hb1, hb2⟩ := I.mod.blt
  refine ks_wpAt_MethodCall (pl := pl) ?_ hc
  refine ks_wpAt_super_base (env := X.env) hks hkc (by decide) hfu (I.kIn _ _ lk) rfl hp hco (I.kIn _ _ hcd) rfl hvs hfile htop ?_
  refine ks_loadName_global hk hks (loadGlobal_builtin (by rw [I.ok.glob]; exact I.mod.glob.keeps I.bk) hm (by rw [I.ok.blt]; exact hb1.keeps I.bk) ((hb2 _ (by decide)).trans PyProof.Rows.Boot.«super») ⟨rfl, ?_⟩)
  refine wpAny_loadName_free hk hkc hcc ⟨_, I.kIn _ _ hcell, rfl⟩ ?_
  obtain ⟨m, hn, hl⟩ := I.loc
  obtain ⟨u, r, l⟩ := hl 0 ar.arg (.ref a) hN hσ (Or.inl hka)
  obtain rfl : u = Value.ref a := r
  have hloc : m ar.arg = some (.ref a) := by
    rcases l with ⟨_, hm'⟩ | ⟨hk', _⟩
    · exact hm'
    · rcases hk' with hk' | hk'
      · rw [hka] at hk'
        cases hk'
      · rw [hka] at hk'
        cases hk'
  refine wpAny_loadName_local hk hka hn hloc ?_
  refine ks_wpAny_isType_cls hD1 hD2 ⟨rfl, ?_⟩
  obtain ⟨t1, he⟩ := exo_at I.hok e
  have hI : ∀ {h' : Heap}, (∀ b o, hh.get? b = some o → h'.get? b = some o) → Looks (model X.prog X.w) h' (isInstance (.ref a) (.type "ValueError")) true := fun {h'} k =>
    (W.InstAt.type (h := h') (x := a) (C := C) (od := none) ⟨k _ _ he, rfl, rfl, trivial⟩).andThen (looks_subIn (I.kIn.keeps k) hB)
  refine ks_wpAny_call_super hD1 hD2 he rfl (fun c z => by cases z) (looks_mroIn I.kIn hsub) (fun h' hso k => ?_)
  have I1 : Inv X pins σ H ⟨h', g, d, t, os⟩ := I.kept k
  have hm2 := hsup
  unfold ks_superIn at hm2
  rw [hcl] at hm2
  refine kxs_getMethod kxs_ValueError hso (looks_opaque I1.kIn ho) (l₀ := .ref C :: bm) ?_ rfl I1.kIn hm2 (hI k) (ks_ne I1.kIn (⟨k _ _ he, rfl, rfl, trivial⟩ : InstAt h' a _ C none) hcl) (by decide) ?_
  · exact fun A Q E s k q => wpAny_bind ((looks_clsIn I1.kIn hcl) A _ E s k (wpAny_pure q))
  have kp : ∀ b o, h'.get? b = some o → (h'.push (kxs_mw "ValueError.__init__" a)).get? b = some o := fun b o z => Heap.get?_push_of_some _ z
  have I2 : Inv X pins σ H ⟨h'.push (kxs_mw "ValueError.__init__" a), g, d, t + 1, os⟩ := I1.kept kp
  have hu : (h'.push (kxs_mw "ValueError.__init__" a)).get? h'.objs.size = some (kxs_mw "ValueError.__init__" a) := Heap.get?_push_at rfl rfl
  rw [hse]
  refine kxs_callWith (i := "ValueError.__init__") (x := a) rfl (evalArgs_plain ?_)
  refine spliced_cons (Calls.Constant_str (pos := p3) (k := j) ?_)
  refine spliced_nil ?_
  refine ⟨hu, ?_⟩
  refine mw_call (C := C) (I2.kIn _ _ hC) (kp _ _ (k _ _ he)) hu (by simp [sizeLine_eq]) (fun h3 t2 k3 hx => ?_)
  have J := I2.write (t' := t + 1 + 1) (x := a) (e := a) (o := exo a C none) (by rw [e]; exact True.intro) (.inl rfl) k3 ⟨_, hx⟩ (exo_ok hx)
  have eu : upd H a (exo a C none) = H := by
    funext b
    by_cases hb : b = a
    · rw [hb, upd_same, e]
    · rw [upd_ne hb]
  rw [eu] at J
  exact J
end
end Ly

/-! LyV: the promise of an own exception's __init__(self, at). -/
namespace Ly
open PySem PySem.Spec PyProof.Rows L2 NdefX
section
open PySem.W PySem.Calls
variable {CX : CXT} {P : Program} {w : World} {K : PySem.W.Frag} {mg : Str → Option Value} {base : Heap}
abbrev nAt (fld : Str) : List Str := ["self", fld, "__class__"]
abbrev pAt (fld : Str) : List Str := ["self", fld]
abbrev fAt : List Str := ["__class__"]
def stSup (p0 p1 p2 p3 p4 q0 : Pos) (msg : Str) (j : Nat) : Stmt := .Expr (.Call (.Attribute (.Call (.Name "super" p0) [] [] p1) "__init__" p2) [.Constant (.str msg) j p3] [] p4) q0
def stAt (q1 q2 q3 q4 : Pos) (fld : Str) : Stmt := .Assign [.Attribute (.Name "self" q1) fld q2] (.Name fld q3) q4
/-- __init__(self, fld): the field is kept -/
def SpAt (K : PySem.W.Frag) (D : Addr) (fld : Str) : Sp := fun vs H Q _ => ∃ (a C : Addr) (v : V), vs = [.ref a, v] ∧ OexC K C ∧ mroIn K C (.ref D) = some true ∧ ks_superIn K C D "__init__" = some (some (.builtin "ValueError.__init__")) ∧ subIn K (.ref C) (.type "ValueError") = some true ∧ H a = some (exo a C none) ∧
  PySem.W.findIn K (.ref C) fld = some none ∧ ∀ dx, H dx = none → dx ≠ a → Q .non (upd (upd H dx (exd dx [(fld, v)])) a (exo a C (some dx)))
theorem oinit_fn {k : Nat} {f D cda cc : Addr} {name qual fld msg file : Str} {params : Arguments} {scope : Scope} {dV kV doc pm ct oc ccl cl : Value} {an od cdd cld : Option Addr} {osl ccs csl : Array (Option Value)} {vs0 : Array Value} {tf : Tok} {j : Nat} {p0 p1 p2 p3 p4 q0 q1 q2 q3 q4 : Pos} {ar : Arg} {cdD : ClassData}
    (lk : K.lookup f = some ⟨oc, od, .func (PySem.W.fnX name qual params [stSup p0 p1 p2 p3 p4 q0 msg j, stAt q1 q2 q3 q4 fld] scope [(("__class__" : Str), cc)] dV kV doc pm an (.ref cda) ct), osl⟩) (hcd : PySem.W.codeIn K (.ref cda) qual = true)
    (S : NScope (nAt fld) (pAt fld) fAt scope) (hp : (params.posonlyargs ++ params.args).head? = some ar) (har : ar.arg = ("self" : Str))
    (hcda : K.lookup cda = some ⟨ccl, cdd, .fields vs0, ccs⟩) (hvs : vs0[2]? = some (.str file tf)) (hfile : ((P.main.file : Str) == file) = true) (hcell : K.lookup cc = some ⟨cl, cld, .cell (some (.ref D)), csl⟩)
    (hD : clsIn K D = some cdD) (hm : mg "super" = none) (hks : scope.names.lookup ("super" : Str) = some .globalImplicit) (htop : (P.main.scope.names.lookup ("super" : Str)).isSome = false) (ho : nsIn K cStatics "thirdparty.any" = some none)
    (hd1 : (fld == ("__debug__" : Str)) = false) (hd2 : (fld == ("__classdict__" : Str)) = false) (hne : ("__class__" : Str) ≠ fld)
    (hc : ∀ env : Env, ∃ pl : Sem Bool, eval (.Call (.Attribute (.Call (.Name "super" p0) [] [] p1) "__init__" p2) [.Constant (.str msg) j p3] [] p4) env = (do
      let ov ← attributeBase (.Call (.Name "super" p0) [] [] p1) "__init__" env (eval (.Call (.Name "super" p0) [] [] p1) env)
      standAt p2.atName
      let (f, first) ← holding [ov] (getMethod ov "__init__" pl)
      callWith p4 f first (backTo p4 (starEach [.Constant (.str msg) j p3] env)) []))
    (hs1 : ∀ env : Env, swapsWith (.Call (.Attribute (.Call (.Name "super" p0) [] [] p1) "__init__" p2) [.Constant (.str msg) j p3] [] p4) none q0.line env = pure false)
    (hs2 : ∀ env : Env, swapsWith (.Name fld q3) (some (.Attribute (.Name "self" q1) fld q2)) q4.line env = pure false) :
    FnOk P w K mg base CX (k + 1) f (PySem.W.fnX name qual params [stSup p0 p1 p2 p3 p4 q0 msg j, stAt q1 q2 q3 q4 fld] scope [(("__class__" : Str), cc)] dV kV doc pm an (.ref cda) ct) (pAt fld) (SpAt K D fld) := by
  refine ⟨fun vs H Q E ⟨a, C, v, e, _⟩ => by rw [e] <;> rfl, fun A outer s H args us vs Q E hr e0 hb r hsp => ?_⟩
  obtain ⟨a, C, v, ev, T, hsub, hsup, hB, ea, hno, hq⟩ := hsp
  subst ev
  have KX : K.In s.heap := e0.mod.kin.keeps fun b o e => (e0.bs b o e).1
  have lim : s.heap.NoLimit := e0.mod.nolimit.keeps fun b o e => (e0.bs b o e).1
  refine ks_codeAny_call_defAt (binds := (pAt fld).zip us) (body := [stSup p0 p1 p2 p3 p4 q0 msg j, stAt q1 q2 q3 q4 fld]) hr.depth (KX _ _ lk) rfl lim (PySem.W.codeRec_of KX hcd) rfl hb S.nocell (fun ⟨n, _⟩ hy => S.par n (List.of_mem_zip hy).1) (fun h₁ hns kp => ?_) S.co S.gen S.kind
  have CA : CellsAt [(("__class__" : Str), cc)] fAt [none] s.heap H := by
    have z : ∀ (y : Str) (c : Addr), List.lookup y [(("__class__" : Str), cc)] = some c → y = "__class__" ∧ c = cc := fun y c e => by
      have := PySem.mem_of_lookup e
      simp at this
      exact this
    refine ⟨rfl, fun y c e => ?_, fun x y c e1 e2 => (z _ _ e1).1.trans (z _ _ e2).1.symm, fun i y hi => ?_⟩
    · obtain ⟨_, rfl⟩ := z _ _ e
      have hbs := e0.bs _ _ (e0.mod.kin _ _ hcell)
      exact ⟨hbs.2, _, _, hbs.1, rfl⟩
    · match i, hi with
      | 0, hi =>
        cases hi
        exact ⟨cc, rfl, fun v z => by cases z⟩
      | i + 1, hi => cases hi
  let F : NF := ⟨name, qual, params, [stSup p0 p1 p2 p3 p4 q0 msg j, stAt q1 q2 q3 q4 fld], scope, [(("__class__" : Str), cc)], cda⟩
  have I : Inv (ncx CX P w K mg base (nAt fld) F f A outer s H E) [] (startF (nAt fld) [.ref a, v] [none]) H { s with heap := h₁, toks := s.toks + ((pAt fld).zip us).length } :=
    inv_startN (ps := (pAt fld)) (fr := fAt) (F := F) S hr.hd e0 rfl r CA hns kp
  show _root_.PySem.wpAt (model P w) (A.deeper (envF F f s.heap.objs.size)) (.func F.body (envF F f s.heap.objs.size)) (execs [stSup p0 p1 p2 p3 p4 q0 msg j, stAt q1 q2 q3 q4 fld] (envF F f s.heap.objs.size)) _ _ _
  refine ks_wpAt_execs_cons ?_
  have hka : scope.names.lookup ("self" : Str) = some .local := S.par _ (by simp)
  have hkf : scope.names.lookup fld = some .local := S.par _ (by simp)
  obtain ⟨pl, hpl⟩ := hc (envF F f s.heap.objs.size)
  have hS := sup_at (X := ncx CX P w K mg base (nAt fld) F f A outer s H E) (C := C) (D := D) (fI := f) (cda := cda) (cc := cc) (body := F.body) (p0 := p0) (p1 := p1) (p2 := p2) (p3 := p3) (p4 := p4) (msg := msg) (j := j) I ea T rfl rfl lk hp hcda hvs hfile hcell rfl hD hsub hm hks (S.frk _ (by simp)) (by rw [har]; exact hka) (by rw [har]; rfl) rfl htop hsup hB ho (pl := pl) (hc := hpl)
  have hin : interactive (envF F f s.heap.objs.size) = false := by
    have hk : (envF F f s.heap.objs.size).scope.kind = .function := S.kind
    unfold interactive
    rw [hk]
    rfl
  refine ks_wpAt_Expr_any (ks_wpAt_mono hS (fun v1 s1 J => ?_) fun e s' h => h) hin (hs1 _)
  show _root_.PySem.wpAt _ _ _ (execs [stAt q1 q2 q3 q4 fld] _) _ _ _
  refine wpAt_of_wpAny ?_
  have vSelf : Vis scope ("self" : Str) := Or.inl hka
  have vFld : Vis scope fld := Or.inl hkf
  have st : PSs (ncx CX P w K mg base (nAt fld) F f A outer s H E) [stAt q1 q2 q3 q4 fld] (tOst K fld (tVar 0) (tVar 1)) :=
    pss_one (ps_ost (X := ncx CX P w K mg base (nAt fld) F f A outer s H E) (pe_var (i := 0) rfl vSelf) (pe_var (i := 1) rfl vFld hd1 hd2) (hs2 _))
  refine wpAny_mono (st.run [] s1 _ H { nx := fun _ H' => Q .non H', rt := Q } J ?_) (fun fl s' hs => ?_) fun e s' hs => hs
  · exact ⟨v, rfl, .ref a, rfl, a, C, rfl, T, hno, Or.inl ⟨ea, hq⟩⟩
  have fin : ∀ {σ' : L2.St} {H' : Hp} {v : V} {u : Value}, Inv (ncx CX P w K mg base (nAt fld) F f A outer s H E) [] σ' H' s' → L2.RelV v u → Q v H' → CE outer P w H s Q u s' :=
    fun {σ' H' v u} J rv q => ⟨v, H', J.os, J.bare, J.base, J.hok, rv, q⟩
  cases fl with
  | ret u =>
    obtain ⟨v, σ', H', J, rv, q⟩ := hs
    exact fin J rv q
  | next =>
    obtain ⟨σ', H', J, q⟩ := hs
    exact fin (v := V.non) (u := Value.none) J rfl q
  | brk =>
    obtain ⟨_, _, _, q⟩ := hs
    exact False.elim q
  | cont =>
    obtain ⟨_, _, _, q⟩ := hs
    exact False.elim q
end
end Ly

/-! LyW: promises with a second way out: an own exception whose field is told. -/
namespace Ly
open PySem PySem.Spec PyProof.Rows L2

/-- data in; data out, or an exception of the class at C let out whose field fld is told -/
def Px (K : PySem.W.Frag) (C : Addr) (fld : Str) (P : List D → Prop) (R : List D → D → Prop) (W : List D → D → Prop) : Sp := fun vs H Q E => ∃ B ds, Same B H ∧ DqAll K B vs ds ∧ P ds ∧
  (∀ d v B' H', R ds d → Stp none B H B' H' → Dq K B' v d → Q v H') ∧
  ∀ n dx v B' H', W ds n → Stp none B H B' H' → H' dx = some (.xd [(fld, v)]) → Dq K B' v n → E (.ref C) (some dx) H'
section
variable {P0 : Program} {w : World} {K : PySem.W.Frag} {mg : Str → Option Value} {base : Heap} {k : Nat} {f C : Addr} {fd : FuncData} {ps N : List Str} {x qual fld : Str} {st : Stmt} {P : List D → Prop} {R W : List D → D → Prop}
/-- a def of two ways out, by its body -/
theorem px_ok (n : Nat) (F : Fun K x qual st f fd) (S : FnScope N ps (defScope st)) (hl : ∀ ds, P ds → ds.length = ps.length) (hn : ps.length + n = N.length)
    (body : ∀ (cdv : Value) (A : Around) (outer : List Env) (s : Shared) (H : Hp) (E : XK), (cxOf (L2.CX P0 w) P0 w K mg base N qual (defScope st) f cdv A outer s H E).A.guards = some [] → Room k (cxOf (L2.CX P0 w) P0 w K mg base N qual (defScope st) f cdv A outer s H E).A →
      Takes (cxOf (L2.CX P0 w) P0 w K mg base N qual (defScope st) f cdv A outer s H E) (fun cls d _ H => E cls d H) →
      ∃ t, PSs (cxOf (L2.CX P0 w) P0 w K mg base N qual (defScope st) f cdv A outer s H E) (defBody st) t ∧ ∀ B H ds, P ds → (∀ n dx v B' H', W ds n → Stp none B H B' H' → H' dx = some (.xd [(fld, v)]) → Dq K B' v n → E (.ref C) (some dx) H') →
        VS ⟨K, B, H, none⟩ t (slots ds n) { nx := fun _ => R ds .none, rt := R ds }) :
    GOk P0 w K mg base (L2.CX P0 w) (k + 1) f fd ps (Px K C fld P R W) := by
  refine gok_of F S (fun {vs H Q E} ⟨B, ds, _, h1, h2, _⟩ => (dpall_len h1).trans (hl ds h2)) fun cdv A outer s H vs Q E hg hr ⟨B, ds, hs, h1, h2, hq, he⟩ => ?_
  obtain ⟨t, ht, hv⟩ := body cdv A outer s H E hg hr (takes_of rfl rfl rfl rfl)
  refine ⟨t, ht, hv B H ds h2 he B H (L2.start N vs) _ (fm_start hs h1 (by rw [hl ds h2]; exact hn)) ?_ ?_ (fun _ _ _ _ e => e.elim) fun _ _ _ _ e => e.elim⟩
  · exact fun Γ' B' H' σ' r _ F' => hq _ _ B' H' r F'.st .non
  · exact fun d v B' H' r s' kd => hq d v B' H' r s' kd
end
section
open PySem.W
/-- what a class of the text must be, for SpAt's promise -/
structure XC (K : Frag) (C D : Addr) (fld : Str) : Prop where
  o : OexC K C
  sub : mroIn K C (.ref D) = some true
  sup : ks_superIn K C D "__init__" = some (some (.builtin "ValueError.__init__"))
  ve : subIn K (.ref C) (.type "ValueError") = some true
  no : PySem.W.findIn K (.ref C) fld = some none
variable {c : Cn} {ta : TA} {Γ : List Sl} {po : Po} {C D : Addr} {fld : Str} {n : Ly.D} {E : XK}
/-- raise C(e) -/
theorem vs_raise (x : XC c.K C D fld) (h : VA c ta Γ (Is [n])) (hE : ∀ dx v B' H', Stp c.dl c.B c.H B' H' → H' dx = some (.xd [(fld, v)]) → Dq c.K B' v n → E (.ref C) (some dx) H') :
    VS c (fun _ σ H => tMkO C (SpAt c.K D fld) [] ta σ H fun cls d H' => E cls d H') Γ po := fun B H σ En F _ _ _ _ => by
  refine h B H σ F _ fun ds vs B1 H1 e1 s1 k1 => ?_
  cases e1
  cases k1 with
  | @cons v vs' _ _ kv kn =>
    cases kn
    refine ⟨by simp, fun a ha => ⟨a, C, v, rfl, x.o, x.sub, x.sup, x.ve, upd_same, x.no, fun dx hdx hne => ⟨rfl, dx, [(fld, v)], upd_same, ?_, ?_, ?_⟩⟩⟩
    · rw [upd_ne hne, upd_same]
    · rw [upd_ne hne] at hdx
      exact hdx
    · rw [upd_ne hne] at hdx
      have F1 := F.step s1
      have e : upd (del (upd (upd (upd H1 a (exo a C none)) dx (exd dx [(fld, v)])) a (exo a C (some dx))) a) dx (.xd [(fld, v)]) = upd H1 dx (.xd [(fld, v)]) := by
        funext b
        by_cases hb : b = dx
        · rw [hb, upd_same, upd_same]
        · rw [upd_ne hb, upd_ne hb]
          by_cases hba : b = a
          · rw [hba, del_same, ha]
          · rw [del_ne hba, upd_ne hba, upd_ne hb, upd_ne hba]
      rw [e]
      exact hE dx v B1 _ (F1.st.trans (fun p q e => (F.dl p q e).1) (Stp.newM F1.sub hdx)) upd_same kv
end
section
variable {C0 : Cn} {A A' : TA} {Γ : List Sl} {C : Addr} {fld : Str} {P : List D → Prop} {R W : List D → D → Prop} {E : XK} {ds : List D}
/-- f(..), f of two ways out: what it lets out, E must take -/
theorem ve_callX (h : VA C0 A Γ (Is ds)) (hP : P ds) (hE : ∀ n dx v B' H', W ds n → Stp C0.dl C0.B C0.H B' H' → H' dx = some (.xd [(fld, v)]) → Dq C0.K B' v n → E (.ref C) (some dx) H') :
    VE C0 (tCallK (Px C0.K C fld P R W) (fun vs _ => vs) E A tNil) Γ (R ds) := fun B H σ F Q q =>
  h B H σ F _ fun es vs B1 H1 e1 s1 k1 => by
    cases e1
    have F1 := F.step s1
    exact ⟨B1, ds, F1.sub, k1, hP, fun d v B3 H3 r3 s3 k3 => q d v B3 H3 r3 (s1.trans F.dlNow s3.any) k3,
      fun n dx v B3 H3 w3 s3 hd k3 => hE n dx v B3 H3 w3 (F1.st.trans (fun p q e => (F.dl p q e).1) s3.any) hd k3⟩
end
end Ly

/-! LyX: a def that calls what it got and catches an own exception: return [wrong.fld]. -/
namespace Ly
open PySem PySem.Spec PyProof.Rows L2 LamX
/-- told: try: return a() / except C as n: return [n.fld] -/
def TToldF (K : PySem.W.Frag) (C : Addr) (fld : Str) : (XK → Hp → VK → Prop) → Hp → VK → Prop := fun tl H Q =>
  tl (fun cls d H' => PySem.W.exmOne K cls (.ref C) = some true ∧ cls = .ref C ∧ ∃ (dd : Addr) (fs : List (Str × V)) (v : V), d = some dd ∧ H' dd = some (.xd fs) ∧ fs.lookup fld = some v ∧ ∀ p, H' p = none → Q (.ref p) (upd H' p (.lst [v]))) H Q
theorem takes_len {X : Cx} {W : WX} (tk : Takes X W) : Takes X (fun c d σ H => σ.length = X.N.length → W c d σ H) := fun u s' ⟨a, B, sI, pins, σ, H, cls, d, e, I, nb, up, sky, na, os, ag, w⟩ =>
  tk u s' ⟨a, B, sI, pins, σ, H, cls, d, e, I, nb, up, sky, na, os, ag, w I.len⟩
theorem told_givesF {X : Cx} {Ng : List Str} {x a e q n fld : Str} {sg : Scope} {g C : Addr} {cdg : Value} {p1 p2 p3 p4 p5 p6 p7 p8 p9 p10 : Pos} (hge : sg.names.lookup e = some .globalImplicit) (hme : X.mg e = some (.ref C)) (hde : (e == ("__debug__" : Str)) = false) (h0 : ∀ f : Addr, (L2.start Ng [V.ref f])[0]? = some (some (V.ref f)))
    (hN : Ng.Nodup) (hi : Ng[1]? = some n) (hln : sg.names.lookup n = some .local) (T : XfC X.K C) (hno : PySem.W.findIn X.K (.ref C) fld = some none) (hd1 : (n == ("__debug__" : Str)) = false) (hd2 : (n == ("__classdict__" : Str)) = false)
    (hb : ∀ env : Env, attributeBase (.Name n p5) fld env (eval (.Name n p5) env) = eval (.Name n p5) env) (hse : ∀ env : Env, starEach [.Attribute (.Name n p5) fld p6] env = [(false, eval (.Attribute (.Name n p5) fld p6) env)]) (hs0 : ∀ env : Env, starEach [] env = []) :
    GivesTo X Ng x sg g cdg [.Try [.Return (some (.Call (.Name a p1) [] [] p2)) p3] [.ExceptHandler (some (.Name e p4)) (some n) [.Return (some (.List [.Attribute (.Name n p5) fld p6] p7)) p8] p9] [] [] p10] a q (TToldF X.K C fld) := by
  intro f c' s H Q tl act hc h
  have hgl : Gl (cxOf C8.CX0 X.prog X.w X.K X.mg X.base Ng x sg g cdg X.A X.stack s H C8.E0).nox e := hge
  have hpl : PA (cxOf C8.CX0 X.prog X.w X.K X.mg X.base Ng x sg g cdg X.A X.stack s H C8.E0).nox [] tNil := pa_nil
  refine ⟨_, pss_one (ps_try_as (X := (cxOf C8.CX0 X.prog X.w X.K X.mg X.base Ng x sg g cdg X.A X.stack s H C8.E0).nox) (c := .ref C) (i := 1)
      (tb := fun W D σ H => ∃ Ech : XK, (∀ (cls : Value) (d : Option Addr) (σ' : L2.St) (H' : Hp), Ech cls d H' → σ'.length = Ng.length → W cls d σ' H') ∧ σ[0]? = some (some (.ref f)) ∧ H c' = some (CodeO c' q) ∧ tl Ech H D.rt)
      (ts := fun a' cls d => tRet (tLst (tCons (tXf a' cls d C fld (tVar 1)) tNil)))
      rfl rfl hN hi hln ⟨hgl, hde, .inl hme⟩ takes0 (fun W pn xe tk _ => ?_) (fun a' oe cls d pn hz hf => pss_one (ps_ret (pe_lst (pa_cons (pe_xf T hno hz hf (pe_var hi (Or.inl hln) hd1 hd2) (hb _)) pa_nil (hse _)))))), ?_⟩
  · refine ⟨fun pins s' σ H' D I h' => ?_⟩
    obtain ⟨Ech, hW, h1, h2, h3⟩ := h'
    have hp := act _ pn xe Ech p1 p2 (takes_len tk) fun cls d σ' H' he hl => hW cls d σ' H' he hl
    have hq := pss_one (ps_ret (pos := p3) hp)
    exact hq.run pins s' σ H' D I ⟨h1, h2, h3⟩
  · refine ⟨fun cls d H' => PySem.W.exmOne X.K cls (.ref C) = some true ∧ cls = .ref C ∧ ∃ (dd : Addr) (fs : List (Str × V)) (v : V), d = some dd ∧ H' dd = some (.xd fs) ∧ fs.lookup fld = some v ∧ ∀ p, H' p = none → Q (.ref p) (upd H' p (.lst [v])), fun cls d σ' H' ⟨e1, e2, dd, fs, v, e3, e4, e5, e6⟩ hl => ⟨true, e1, fun _ a' _ => ?_, fun z => by cases z⟩, h0 f, hc, h⟩
    refine ⟨.ref a', ?_, rfl, e2, dd, fs, v, e3, e4, e5, by simp [sizeLine_eq], e6⟩
    have hlt : 1 < σ'.length := by
      have := (List.getElem?_eq_some_iff.mp hi).1
      omega
    exact List.getElem?_set_self hlt
end Ly

/-! LyY: a lambda made, with all that changes told. -/
namespace Ly
open PySem PySem.Spec PyProof.Rows L2 LamX
/-- a lambda was made: the table at P alone has changed, and tells code objects of the name q still -/
structure Made (P : Addr) (q : Str) (H H1 : Hp) : Prop where
  tab : TabS H1 P q
  rest : ∀ a o, a ≠ P → H a = some o → H1 a = some o
theorem stp_made {dl : Option (Addr × Addr)} {P : Addr} {B H H1 : Hp} (s : Same B H) (nt : ∀ a ps, B a ≠ some (.tbl ps)) (hP : TabS H P qLam) (m : Made P qLam H H1) : Stp dl B H B H1 := by
  obtain ⟨ps, hp, _, _⟩ := hP
  have k : ∀ a o, H a = some o → (∀ ps, o ≠ .tbl ps) → H1 a = some o := fun a o e n => m.rest a o (fun z => by rw [z, hp] at e; exact n ps (Option.some.inj e).symm) e
  refine ⟨Same.refl B, fun a o e => k a o (s a o e) fun ps z => nt a ps (z ▸ e), fun a o e _ n => k a o e n, fun a _ e => e, fun p q _ d => ?_, fun a n => ?_, fun P' t => ?_, fun h => h⟩
  · obtain ⟨ne, ns, b, h1, h2, r⟩ := d
    exact ⟨ne, ns, b, k _ _ h1 (fun ps h => by cases h), k _ _ h2 (fun ps h => by cases h), r⟩
  · by_cases ha : a = P
    · obtain ⟨ps1, h1, _⟩ := m.tab
      rw [ha, h1]
      simp
    · cases e : H a with
      | none => exact absurd e n
      | some o =>
        rw [m.rest a o ha e]
        simp
  · by_cases ha : P' = P
    · rw [ha]
      exact m.tab
    · obtain ⟨ps1, h1, h2, h3⟩ := t
      refine ⟨ps1, m.rest _ _ ha h1, h2, fun pos cv hc => ?_⟩
      obtain ⟨c, e1, e2⟩ := h3 pos cv hc
      exact ⟨c, e1, k _ _ e2 codeO_ne⟩
section
variable {X : Cx} {pins : List (Addr × Obj)} {σ : L2.St} {H : Hp} {s : Shared}
theorem lam_mk {c P : Addr} {params : Arguments} {body : Expr} {scope : Scope} {pos : Pos} {E : Value → Shared → Prop} {Q : Value → Shared → Prop} (I : Inv X pins σ H s) (TB : TabB X.base X.mg c P) (hcode : X.env.code = .ref c)
    (hT : TabS H P (X.env.qual ++ "<lambda>")) (hdef : defaultsOf params X.env = ([], [])) (hfree : ∀ y ∈ scope.names, y.2 = .free → ∃ c, X.env.cells.lookup y.1 = some c)
    (h : ∀ (f c' : Addr) (pm ctv : Value) (H1 : Hp) (s' : Shared), Inv X pins σ H1 s' → Made P (X.env.qual ++ "<lambda>") H H1 →
      s'.heap.get? f = some (PySem.W.kla_obj "<lambda>" (X.env.qual ++ "<lambda>") params body scope (cloFrom X.env.cells scope.names []) pm c' ctv) → H1 f = none → f ∉ frs X.stack → H1 c' = some (CodeO c' (X.env.qual ++ "<lambda>")) → Q (.ref f) s') :
    wpAny (model X.prog X.w) X.A (eval (.Lambda params body scope pos) X.env) Q E s := by
  obtain ⟨ps, hP, tok, known⟩ := hT
  have hPh : s.heap.get? P = some { cls := .none, data := .fields ps } := I.hok P _ hP
  have far : ∀ f, s.heap.objs.size ≤ f → f ∉ frs X.stack := by
    intro f hf z
    cases List.mem_cons.mp (I.stkSub _ z) with
    | inl e => exact absurd (Nat.lt_of_lt_of_le (e ▸ I.lt) hf) (Nat.lt_irrefl _)
    | inr e => exact I.nofs hf e
  apply PySem.W.kla_eval hdef
  cases hit : codeAmong pos ps.toList with
  | some cv =>
    obtain ⟨c', rfl, hc'⟩ := known pos cv hit
    apply PySem.W.kla_makeFunctionHit (mg := X.mg) (c := c) (P := P) (ps := ps) (closure_ok hfree) I.ok.glob (I.mod.glob.keeps I.bk) hcode (TB.code.keeps I.bk) hPh tok hit (TB.bm.keeps I.bk)
    intro ctv h' tk grow size
    have J := I.kept (t' := tk) (h' := h'.push (PySem.W.kla_obj "<lambda>" (X.env.qual ++ "<lambda>") params body scope (cloFrom X.env.cells scope.names []) ((X.mg "__name__").getD .none) c' ctv)) fun b o e => Heap.get?_push_of_some _ (grow b o e)
    exact h _ c' _ ctv H _ J ⟨⟨ps, hP, tok, known⟩, fun _ _ _ e => e⟩ (Heap.get?_push_size _ rfl) (I.hok.fresh size) (far _ size) hc'
  | none =>
    apply PySem.W.kla_makeFunction (mg := X.mg) (c := c) (P := P) (ps := ps) (closure_ok hfree) I.ok.glob (I.mod.glob.keeps I.bk) hcode (TB.code.keeps I.bk) hPh tok hit TB.gP (TB.bm.keeps I.bk)
    rintro c' ctv h' tk grow ge lt ⟨c2, oc, vs, t, e2, hoc, hd, hv⟩ tb
    cases e2
    have fresh : H c' = none := I.hok.fresh ge
    have size : s.heap.objs.size ≤ h'.objs.size := Nat.le_trans ge (Nat.le_of_lt lt)
    have J := inv_table (t' := tk) (more := #[rawInt pos.line, rawInt pos.col, .ref c']) (h' := h'.push (PySem.W.kla_obj "<lambda>" (X.env.qual ++ "<lambda>") params body scope (cloFrom X.env.cells scope.names []) ((X.mg "__name__").getD .none) c' ctv)) I hP
      (fun b o hb e => Heap.get?_push_of_some _ (grow b o hb e)) (Heap.get?_push_of_some _ tb) ge ⟨oc, vs, t, Heap.get?_push_of_some _ hoc, hd, hv⟩
    have rest : ∀ a o, a ≠ P → H a = some o → upd (upd H P (.tbl (ps ++ #[rawInt pos.line, rawInt pos.col, .ref c']))) c' (CodeO c' (X.env.qual ++ "<lambda>")) a = some o := fun a o n e => by
      rw [upd_ne (ne_of_none e fresh), upd_ne n]
      exact e
    have nP : ∀ a, H a = some (CodeO a (X.env.qual ++ "<lambda>")) → a ≠ P := fun a e z => by
      rw [z, hP] at e
      exact codeO_ne ps (Option.some.inj e).symm
    have list : (ps ++ #[rawInt pos.line, rawInt pos.col, .ref c']).toList = ps.toList ++ [rawInt pos.line, rawInt pos.col, .ref c'] := by simp
    refine h _ c' _ ctv _ _ J ⟨⟨_, by rw [upd_ne (ne_of_none hP fresh), upd_same], by rw [list]; exact PySem.TriplesOk_snoc _ _ _ _ tok, fun p' cv hcv => ?_⟩, rest⟩ (Heap.get?_push_size _ rfl) ?_ (far _ size) upd_same
    · rw [list] at hcv
      cases among_app _ tok hcv with
      | inl z =>
        obtain ⟨c0, e1, e2⟩ := known p' cv z
        exact ⟨c0, e1, rest _ _ (nP c0 e2) e2⟩
      | inr z => exact ⟨c', z, upd_same⟩
    · rw [upd_ne (Nat.ne_of_gt lt), upd_ne (Nat.ne_of_gt (Nat.lt_of_lt_of_le (Heap.lt_size hPh) size))]
      exact I.hok.fresh size
end
end Ly

/-! LyZ: x(lambda: e), where no repr is under way. -/
namespace Ly
open PySem PySem.Spec PyProof.Rows L2 LamX
section
variable {X : Cx} {pins : List (Addr × Obj)} {σ : L2.St} {H : Hp} {s : Shared}
/-- the def that got the lambda, its context -/
abbrev gotCx (X : Cx) (Ng : List Str) (x : Str) (sg : Scope) (g : Addr) (cdg : Value) (s : Shared) (H : Hp) : Cx := cxOf C8.CX0 X.prog X.w X.K X.mg X.base Ng x sg g cdg X.A X.stack s H C8.E0
/-- a() there: the lambda's body runs -/
theorem pe_actG {Ng : List Str} {x : Str} {sg : Scope} {g f c' : Addr} {cdg pm ctv : Value} {params : Arguments} {body : Expr} {scope : Scope} {k i : Nat} {a : Str} {pn : List (Addr × Obj)} {xe : Value → Shared → Prop} {W : WX} {E : XK} {tb : TE} {p1 p2 : Pos}
    (I : Inv X pins σ H s) (gd : X.A.guards = some []) (L : LamS X.env.scope scope) (hf : s.heap.get? f = some (PySem.W.kla_obj "<lambda>" (X.env.qual ++ "<lambda>") params body scope (cloFrom X.env.cells scope.names []) pm c' ctv)) (hfn : H f = none) (hfr : f ∉ frs X.stack)
    (hbind : bindArgs (PySem.W.kla_fn "<lambda>" (X.env.qual ++ "<lambda>") params body scope (cloFrom X.env.cells scope.names []) pm (.ref c') ctv) ⟨[], []⟩ = pure [])
    (tk : Takes ((gotCx X Ng x sg g cdg s H).tr pn xe) W) (hW : ∀ cls d σ' H', E cls d H' → W cls d σ' H') (hr : Room (k + 1) (X.A.deeper (envOfC x sg s.heap.objs.size g cdg)))
    (hbody : ∀ (A : Around) (outer : List Env) (s : Shared) (H : Hp), (A.deeper (lamEnv X scope s.heap.objs.size f c')).guards = some [] → Room k (A.deeper (lamEnv X scope s.heap.objs.size f c')) → PE (lamCx X A outer s H E scope f c') body tb)
    (hN : Ng[i]? = some a) (hv : Vis sg a) (hd : (a == ("__debug__" : Str)) = false := by decide) (hcd : (a == ("__classdict__" : Str)) = false := by decide) :
    PE ((gotCx X Ng x sg g cdg s H).tr pn xe) (.Call (.Name a p1) [] [] p2)
      (fun σZ HZ Q => σZ[i]? = some (some (.ref f)) ∧ HZ c' = some (CodeO c' (X.env.qual ++ "<lambda>")) ∧ tb σ HZ Q) := by
  constructor
  rintro pinsZ sZ σZ HZ Q IZ ⟨hs, hc, ht⟩
  have hname := (pe_var (X := (gotCx X Ng x sg g cdg s H).tr pn xe) (pos := p1) (i := i) hN hv hd hcd).run pinsZ sZ σZ HZ (fun v H1 => v = .ref f ∧ H1 = HZ) IZ ⟨.ref f, hs, rfl, rfl⟩
  refine wpAny_Call_Name_kw (thn hname ?_)
  rintro u s1 ⟨v, H1, J, rv, rfl, rfl⟩
  obtain rfl : u = Value.ref f := rv
  have obj : s1.heap.get? f = _ := J.base.keep f _ hf hfn hfr (fun z => nomatch (show f ∈ ([] : List Addr) from z))
  have un : Un (frs X.stack) [] H H1 s.heap s1.heap := J.base
  have run : codeAny (model X.prog X.w) (X.A.deeper (envOfC x sg s.heap.objs.size g cdg)) (.call (.ref f) ⟨[], []⟩) (CR (L2.CX X.prog X.w) (envOfC x sg s.heap.objs.size g cdg :: X.stack) X.prog X.w H1 s1 Q E) s1 := by
    obtain ⟨⟨oc, ws, t, hoc, hdc, hvc⟩, _, _⟩ := J.hok c' _ hc
    apply PySem.W.kla_callFunE hr.depth obj rfl L.co L.gen rfl ⟨c', oc, ws, t, rfl, hoc, hdc, hvc⟩
    rw [hbind]
    refine wpAny_pure (wpAny_newFunctionEnv (fun y hy => (L.own y hy).2) (fun y hy => absurd hy (by simp)) (fun h₁ hns hsb => ⟨J.nolimit.fresh _ hsb, ?_⟩) L.kind)
    show codeAny _ _ (.expr body (lamEnv X scope s1.heap.objs.size f c')) _ _
    have start := lam_start2 (E := E) (f := f) (c' := c') (tk := s1.toks + ([] : List (Str × Value)).length) I L J.env0 hr.hd un hns fun b o e => hsb.extBut b o (Nat.ne_of_lt (Heap.lt_size e)) (Heap.get?_push_of_some _ e)
    have bodyOk := (hbody _ _ s1 H1 (deeper_guards (deeper_guards gd)) (hr.deeper _)).run [] _ _ H1 Q start ht
    refine PySem.W.kla_codeExpr (wpAny_mono bodyOk ?_ fun e s' q => q)
    rintro v s' ⟨w', H', J', rv', q⟩
    exact ⟨w', H', J'.os, J'.bare, J'.base, J'.hok, rv', q⟩
  refine PySem.W.callWith_F0 ⟨_, _, _, _, obj⟩ ?_
  refine wpAny_call (codeAny_mono run ?_)
  intro r s' q
  rcases r with e | fl
  · exact passes_call tk hW pinsZ σZ H1 s1 e s' J q
  · cases fl with
    | ret u => exact J.after q
    | next => exact q.elim
    | brk => exact q.elim
    | cont => exact q.elim
end
section
variable {X : Cx}
/-- x(lambda: e): what is asked of the lambda's reading -/
def tLamM (P : Addr) (q : Str) (TT : (XK → Hp → VK → Prop) → Hp → VK → Prop) (t : XK → TE) : TE := fun σ H Q => TabS H P q ∧ ∀ H1, Made P q H H1 → TT (fun E H' Q' => t E σ H' Q') H1 Q
/-- x(lambda: body) -/
theorem pe_lamcallM {TT : (XK → Hp → VK → Prop) → Hp → VK → Prop} {x a : Str} {g c P : Addr} {k : Nat} {pg : Arguments} {bg : List Stmt} {sg : Scope} {dV kV doc pm cdv ct oc : Value} {an od : Option Addr} {osl : Array (Option Value)} {Ng : List Str}
    {params : Arguments} {body : Expr} {scope : Scope} {t : XK → TE} {p lpos pos : Pos} (gd : X.A.guards = some []) (hg : Gl X x) (hm : X.mg x = some (.ref g)) (hk : PySem.W.keepIn X.K (.ref g) = true)
    (lk : X.K.lookup g = some ⟨oc, od, .func (PySem.W.fnOf x x pg bg sg dV kV doc pm an cdv ct), osl⟩) (hcg : PySem.W.codeIn X.K cdv x = true) (hb : L2.Binds X.K (PySem.W.fnOf x x pg bg sg dV kV doc pm an cdv ct) [a] []) (Sg : FnScope Ng [a] sg) (hNg : Ng[0]? = some a) (hva : Vis sg a)
    (hG : GivesTo X Ng x sg g cdv bg a (X.env.qual ++ "<lambda>") TT)
    (TB : TabB X.base X.mg c P) (hcode : X.env.code = .ref c) (hr : Room (k + 2) X.A) (L : LamS X.env.scope scope) (hdef : defaultsOf params X.env = ([], []))
    (hbind : ∀ (q : Str) (cl : List (Str × Addr)) (pm cv ctv : Value), bindArgs (PySem.W.kla_fn "<lambda>" q params body scope cl pm cv ctv) ⟨[], []⟩ = pure [])
    (hbody : ∀ (A : Around) (outer : List Env) (s : Shared) (H : Hp) (E : XK) (f c' : Addr), (A.deeper (lamEnv X scope s.heap.objs.size f c')).guards = some [] → Room k (A.deeper (lamEnv X scope s.heap.objs.size f c')) → PE (lamCx X A outer s H E scope f c') body (t E))
    (hdb : (x == ("__debug__" : Str)) = false := by decide) (hd : (a == ("__debug__" : Str)) = false := by decide) (hcd : (a == ("__classdict__" : Str)) = false := by decide) :
    PE X (.Call (.Name x p) [.Lambda params body scope lpos] [] pos) (tLamM P (X.env.qual ++ "<lambda>") TT t) := by
  refine ⟨fun pins s σ H Q I ⟨hT, h⟩ => ?_⟩
  refine wpAny_Call_Name_kw (ld_glob I hg hm ?_ hdb)
  refine PySem.W.callWith_K (h₀ := X.base) I.ok.mod.kin hk ?_ (by rfl) (by rfl)
  show wpAny _ _ (spliced ((false, eval (.Lambda params body scope lpos) X.env) :: backTo pos (starEach [] X.env))) _ _ s
  refine Calls.spliced_cons (lam_mk I TB hcode hT hdef (L.has I.ok) fun f c' pm' ctv H1 s' I1 m hf hfn hfr hco => ?_)
  refine Calls.spliced_nil ⟨I1.kIn, ?_⟩
  have rc : codeAny (model X.prog X.w) X.A (.call (.ref g) ⟨[.ref f], []⟩) (CR C8.CX0 X.stack X.prog X.w H1 s' Q C8.E0) s' := by
    refine run_ofS (N := Ng) (ps := [a]) (us := [.ref f]) (vs := [.ref f]) lk hcg Sg hr I1.env0 (hb s' [.ref f] I1.kIn rfl) (.cons rfl .nil) rfl fun hr' => ?_
    obtain ⟨t', ht', hq'⟩ := hG f c' s' H1 Q (fun E H' Q' => t E σ H' Q')
      (fun W pn xe E p1 p2 tk hW => pe_actG (i := 0) I1 gd L hf hfn hfr (hbind _ _ _ _ _) tk hW hr' (fun A outer s H g2 hr2 => hbody A outer s H E f c' g2 hr2) hNg hva hd hcd) hco (h H1 m)
    exact ⟨t', ht'.nox, hq'⟩
  refine wpAny_call (codeAny_mono rc fun r s2 hq => ?_)
  cases r with
  | error e => exact (show False from hq).elim
  | ok fl =>
    cases fl with
    | ret u => exact I1.after hq
    | next => exact False.elim hq
    | brk => exact False.elim hq
    | cont => exact False.elim hq
/-- what leaves a lambda's body is taken -/
theorem lam_takes {A : Around} {outer : List Env} {s : Shared} {H : Hp} {E : XK} {scope : Scope} {f c' : Addr} : Takes (lamCx X A outer s H E scope f c') (fun cls d _ H => E cls d H) := takes_of rfl rfl rfl rfl
theorem lam_passes {A : Around} {outer : List Env} {s : Shared} {H : Hp} {E : XK} {scope : Scope} {f c' : Addr} : Passes (L2.CX X.prog X.w) (lamCx X A outer s H E scope f c') E := passes_call lam_takes fun _ _ _ _ h => h
end

/-! ### readings of two ways out, as data -/
/-- data, or an exception of the class at C whose field is told -/
def VX (C0 : Cn) (C : Addr) (fld : Str) (t : XK → TE) (Γ : List Sl) (R W : D → Prop) : Prop := ∀ B H σ, Fm C0 B H σ Γ → ∀ (Q : VK) (E : XK), (∀ d v B' H', R d → Stp C0.dl B H B' H' → Dq C0.K B' v d → Q v H') →
  (∀ n dx v B' H', W n → Stp C0.dl B H B' H' → H' dx = some (.xd [(fld, v)]) → Dq C0.K B' v n → E (.ref C) (some dx) H') → t E σ H Q
section
variable {C0 : Cn} {A A' : TA} {Γ : List Sl} {C P : Addr} {fld : Str} {Pp : List D → Prop} {R W : List D → D → Prop} {S S' : List D → Prop} {R1 W1 R2 W2 : D → Prop} {t : XK → TE} {ds es : List D} {gV : List V → List V → List V}
theorem VX.imp (h : VX C0 C fld t Γ R1 W1) (i : ∀ d, R1 d → R2 d) (j : ∀ d, W1 d → W2 d) : VX C0 C fld t Γ R2 W2 := fun B H σ F Q E q e => h B H σ F Q E (fun d v B' H' r => q d v B' H' (i d r)) fun n dx v B' H' r => e n dx v B' H' (j n r)
theorem vx_call2 (gD : List D → List D → List D) (h : VA C0 A Γ (Is ds)) (h' : VA C0 A' Γ (Is es)) (hg : ∀ B vs zs ds es, DqAll C0.K B vs ds → DqAll C0.K B zs es → DqAll C0.K B (gV vs zs) (gD ds es)) (hP : Pp (gD ds es)) :
    VX C0 C fld (fun E => tCallK (Px C0.K C fld Pp R W) gV E A A') Γ (R (gD ds es)) (W (gD ds es)) := fun B H σ F Q E q e =>
  h B H σ F _ fun xs vs B1 H1 e1 s1 k1 => h' B1 H1 σ (F.step s1) _ fun ys zs B2 H2 e2 s2 k2 => by
    cases e1
    cases e2
    have F2 := (F.step s1).step s2
    have s12 := s1.trans F.dlNow s2
    exact ⟨B2, gD ds es, F2.sub, hg B2 vs zs ds es (dpall_mono s2.ext k1) k2, hP, fun d v B3 H3 r3 s3 k3 => q d v B3 H3 r3 (s12.trans F.dlNow s3.any) k3,
      fun n dx v B3 H3 w3 s3 hd k3 => e n dx v B3 H3 w3 (s12.trans F.dlNow s3.any) hd k3⟩
theorem vx_call (h : VA C0 A Γ (Is ds)) (hP : Pp ds) : VX C0 C fld (fun E => tCallK (Px C0.K C fld Pp R W) (fun vs _ => vs) E A tNil) Γ (R ds) (W ds) :=
  vx_call2 (fun ds _ => ds) h va_nil (fun _ _ _ _ _ k _ => k) hP
/-- told: the data, or a list of what the exception keeps -/
theorem ve_told (hT : TabS C0.H P qLam) (hB : ∀ a ps, C0.B a ≠ some (.tbl ps)) (hx : PySem.W.exmOne C0.K (.ref C) (.ref C) = some true) (h : VX C0 C fld t Γ R1 W1) :
    VE C0 (tLamM P qLam (TToldF C0.K C fld) t) Γ (fun d => R1 d ∨ ∃ n, W1 n ∧ d = .list [n]) := fun B H σ F Q q => by
  have hP := F.st.tab P hT
  refine ⟨hP, fun H1 m => ?_⟩
  have s0 : Stp C0.dl B H B H1 := stp_made F.sub (F.st.bt hB) hP m
  have F1 := F.step s0
  refine h B H1 σ F1 Q _ (fun d v B' H' r s k => q d v B' H' (Or.inl r) (s0.trans F.dlNow s) k) fun n dx v B' H' wn s hd k => ?_
  refine ⟨hx, rfl, dx, [(fld, v)], v, rfl, hd, by simp [List.lookup], fun p hp => ?_⟩
  have F2 := F1.step s
  have s3 : Stp C0.dl B' H' (upd B' p (.lst [v])) (upd H' p (.lst [v])) := Stp.new F2.sub hp
  exact q _ _ _ _ (Or.inr ⟨n, wn, rfl⟩) ((s0.trans F.dlNow s).trans F.dlNow s3) (.lst (Or.inl upd_same) (.cons (dp_mono s3.ext k) .nil))
end
end Ly

/-! Lya: dicts of one's own and as data; starred dicts and lists; sorted(set(a tuple of ints)). -/
namespace Ly
open PySem PySem.Spec PyProof.Rows L2

abbrev dictD (kvs : List (Key × D)) : D := .dict (kvs.map fun p => (kD p.1, p.2))
def getK (kvs : List (Key × D)) (k : Key) : Option D := (kvs.find? fun kv => decide (kv.1 = k)).map (·.2)
theorem getK_pos {p : Key × D} {r : List (Key × D)} {k : Key} (e : p.1 = k) : getK (p :: r) k = some p.2 := by simp [getK, List.find?_cons, e]
theorem getK_neg {p : Key × D} {r : List (Key × D)} {k : Key} (e : ¬ p.1 = k) : getK (p :: r) k = getK r k := by simp [getK, List.find?_cons, e]
theorem kD_inj : ∀ {a b : Key}, kD a = kD b → a = b
  | .inl _, .inl _, e => by cases e; rfl
  | .inr _, .inr _, e => by cases e; rfl
  | .inl _, .inr _, e => by cases e
  | .inr _, .inl _, e => by cases e
theorem dictD_inj : ∀ {a b : List (Key × D)}, (a.map fun p => (kD p.1, p.2)) = b.map (fun p => (kD p.1, p.2)) → a = b
  | [], [], _ => rfl
  | [], _ :: _, e => by cases e
  | _ :: _, [], e => by cases e
  | (k, x) :: a, (j, y) :: b, e => by
    simp only [List.map_cons, List.cons.injEq, Prod.mk.injEq] at e
    obtain ⟨⟨e1, e2⟩, e3⟩ := e
    rw [kD_inj e1, e2, dictD_inj e3]
section
variable {K : PySem.W.Frag} {H : Hp}
theorem dp_dct {v : V} {kvs : List (Key × D)} (h : Dq K H v (dictD kvs)) : ∃ a ws, v = .ref a ∧ Rd H a (.dK ws) ∧ ws.map Prod.fst = kvs.map Prod.fst ∧ DqAll K H (ws.map Prod.snd) (kvs.map Prod.snd) := by
  generalize e : dictD kvs = d at h
  cases h with
  | dct h e1 k =>
    obtain rfl := dictD_inj (PyData.dict.inj e)
    exact ⟨_, _, rfl, h, e1, k⟩
  | non => cases e
  | bl => cases e
  | int => cases e
  | str => cases e
  | lst => cases e
  | tup => cases e
theorem dp_key {v : V} {k : Key} (h : Dq K H v (kD k)) : v = kV k := by
  cases k with
  | inl i => exact dp_int h
  | inr x => exact dp_str h
theorem dq_key (k : Key) : Dq K H (kV k) (kD k) := by
  cases k with
  | inl i => exact .int i
  | inr x => exact .str x
theorem get_some : ∀ {ws : List (Key × V)} {kvs : List (Key × D)} {k : Key} {d : D}, ws.map Prod.fst = kvs.map Prod.fst → DqAll K H (ws.map Prod.snd) (kvs.map Prod.snd) → getK kvs k = some d → ∃ v, valV ws k = some v ∧ Dq K H v d
  | [], [], _, _, _, _, h => by cases h
  | [], _ :: _, _, _, e, _, _ => by cases e
  | _ :: _, [], _, _, e, _, _ => by cases e
  | w :: ws, p :: kvs, k, d, e, a, h => by
    simp only [List.map_cons, List.cons.injEq] at e
    simp only [List.map_cons] at a
    cases a with
    | cons h1 h2 =>
      by_cases q : p.1 = k
      · rw [getK_pos q] at h
        cases h
        exact ⟨w.2, valV_pos (e.1.trans q), h1⟩
      · rw [getK_neg q] at h
        rw [valV_neg (fun z => q (e.1.symm.trans z))]
        exact get_some e.2 h2 h
theorem get_none : ∀ {ws : List (Key × V)} {kvs : List (Key × D)} {k : Key}, ws.map Prod.fst = kvs.map Prod.fst → (valV ws k).isSome = (getK kvs k).isSome
  | [], [], _, _ => rfl
  | [], _ :: _, _, e => by cases e
  | _ :: _, [], _, e => by cases e
  | w :: ws, p :: kvs, k, e => by
    simp only [List.map_cons, List.cons.injEq] at e
    by_cases q : p.1 = k
    · rw [getK_pos q, valV_pos (e.1.trans q)]
      rfl
    · rw [getK_neg q, valV_neg (fun z => q (e.1.symm.trans z))]
      exact get_none e.2
end

/-! ### walk rules -/
def rInK : R2 := fun y x H Q => ∃ a r, x = .ref a ∧ DGet H a y r ∧ Q (.bl r.isSome) H
def rNotInK : R2 := fun y x H Q => ∃ a r, x = .ref a ∧ DGet H a y r ∧ Q (.bl (!r.isSome)) H
section
variable {X : Cx} {pins : List (Addr × Obj)} {σ : L2.St} {H : Hp} {s : Shared}
theorem op_inK (hu : X.A.units + 1 < cLine) : OpR X (compareOp .In) rInK := by
  intro pins s σ H x y v u Q I rx ry h
  obtain ⟨a, r, rfl, g, q⟩ := h
  cases ry
  exact d_in hu I g rx fun s' I' => ⟨.bl r.isSome, H, I', rfl, q⟩
theorem op_notInK (hu : X.A.units + 1 < cLine) : OpR X (compareOp .NotIn) rNotInK := by
  intro pins s σ H x y v u Q I rx ry h
  obtain ⟨a, r, rfl, g, q⟩ := h
  cases ry
  exact d_notIn hu I g rx fun s' I' => ⟨.bl (!r.isSome), H, I', rfl, q⟩
theorem star_dk {a : Addr} {kvs : List (Key × V)} {E : Value → Shared → Prop} {Q : List Value → Shared → Prop} (hc : X.calm = true) (I : Inv X pins σ H s) (h : Rd H a (.dK kvs)) (hQ : ∀ us s', Inv X pins σ H s' → Vals (kvs.map fun kv => kV kv.1) us → Q us s') :
    PySem.W.StarOf (model X.prog X.w) X.A E (.ref a) Q s := by
  obtain ⟨z, lo, vs, rk, hd⟩ := dk_rd I.hok h
  obtain ⟨ep, hat⟩ := hd.dictAt
  have hl : kvs.length = vs.length := Paired.length rk
  unfold PySem.W.StarOf notIterableAtAll
  refine wpAny_bind (wpAny_specialOf hd.typeIs PySem.F.slot_dict_iter.lookup (wpAny_pure ⟨rfl, ?_⟩))
  refine PySem.W.kdu_collect (PySem.W.kdl_dict (knd := mixKind X.prog X.w) (kvs := vs) (ep := ep) lo) (I.ok.hd hc) hat (by rw [← hl]; exact z) fun h' tk acc hk hacc => ?_
  refine hQ _ _ (I.kept (t' := tk) hk) (vals_of_at ?_ fun j x u h1 h2 => ?_)
  · rw [List.length_map, Array.length_toList]
    exact hl.trans hacc.1.symm
  · obtain ⟨k, y, hky, hi⟩ := hacc.2 j u (by rw [← Array.getElem?_toList]; exact h2)
    have e1 : (kvs.map Prod.fst)[j]? = some k := by
      have := congrArg (fun l => l[j]?) (KV.keys rk)
      simp only [List.getElem?_map] at this ⊢
      rw [this, hky]
      rfl
    have e2 : (kvs.map fun kv => kV kv.1)[j]? = some (kV k) := by
      rw [List.getElem?_map] at e1 ⊢
      cases q : kvs[j]? with
      | none =>
        rw [q] at e1
        cases e1
      | some p =>
        rw [q] at e1
        cases e1
        rfl
    rw [e2] at h1
    cases h1
    exact keyIs_rel hi
/-- *d among the items of a display -/
def tStarK (te : TE) (t : TA) : TA := fun σ H Q => te σ H fun x H1 => ∃ a ws, x = V.ref a ∧ Rd H1 a (.dK ws) ∧ t σ H1 fun ys H2 => Q ((ws.map fun kv => kV kv.1) ++ ys) H2
theorem pa_starK {e : Expr} {es : List Expr} {p : Pos} {te : TE} {t : TA} (hc : X.calm = true) (he : PE X e te) (hr : PA X es t) (hs : starEach (.Starred e p :: es) X.env = (true, eval e X.env) :: starEach es X.env := by rfl) : PA X (.Starred e p :: es) (tStarK te t) := by
  refine ⟨fun pos pins s σ H Q I h => ?_⟩
  refine PySem.W.items_star (thn (he.run pins s σ H _ I h) fun v s1 ⟨y, H1, I1, ry, a, ws, ey, hx, q⟩ => ?_) hs
  cases ey
  obtain rfl : v = Value.ref a := ry
  exact star_dk hc I1 hx fun us s2 I2 rv => thn (hr.run pos pins s2 σ H1 _ I2 q) fun zs s3 ⟨vs, H3, I3, r3, q3⟩ => ⟨_, H3, I3, rv.append r3, q3⟩
/-- set(a tuple of ints) -/
def rSetTI (K : PySem.W.Frag) (w : World) : List V → Hp → VK → Prop := fun xs H Q => ∃ (l : Addr) (ns : List Int), xs = [.ref l] ∧ SqT K H l (ns.map V.int) ∧ ns.length ≤ 4000 ∧ ∀ p c, H p = none → c ≤ ns.length → Q (.ref p) (upd H p (SetO w p (fun j => decide (j ∈ ns)) c))
theorem cr_setTI (hc : X.calm = true) : CallR X (.type "set") (rSetTI X.K X.w) := by
  intro pins s σ H xs us Q I r h
  obtain ⟨l, ns, rfl, hl, hn, q⟩ := h
  rw [Vals.ref1 r]
  obtain ⟨its, rv, pl, hz⟩ := I.tuple hl
  refine call_set_tupI ns (I.ok.hd hc) pl (by simpa using RZ.intsAre_vals rv) (by unfold scanBound; omega) fun h' tk c R hc' hk => ?_
  have hnone : H s.heap.objs.size = none := I.hok.fresh (Nat.le_refl _)
  exact ⟨.ref s.heap.objs.size, _, I.laid (t' := tk) hk (Nat.le_refl _) (setO_new R), rfl, q _ c hnone hc'⟩
end

/-! ### dicts in frames -/
section
variable {C : Cn} {B H B' H' : Hp} {σ : L2.St} {Γ : List Sl} {p a : Addr} {i j : Nat} {kvs es : List (Key × D)} {ws : List (Key × V)}
theorem Fm.notMdK (F : Fm C B H σ Γ) (h : Rd H a (.dK ws)) : ¬ Md C.dl a := by
  rintro ⟨p, q, e, m⟩
  obtain ⟨_, ns, b, h1, h2, _⟩ := F.dlNow p q e
  rcases m with rfl | rfl
  · rcases h with h | ⟨o, h⟩
    · rw [h1] at h; cases h
    · rw [h1] at h; cases h
  · rcases h with h | ⟨o, h⟩
    · rw [h2] at h; cases h
    · rw [h2] at h; cases h
theorem Fm.rdK (F : Fm C B H σ Γ) (s : Stp C.dl B H B' H') (h : Rd H a (.dK ws)) : Rd H' a (.dK ws) := by
  have n := F.notMdK h
  rcases h with h | ⟨o, h⟩
  · exact Or.inl (s.keep a _ h n)
  · exact Or.inr ⟨o, s.keep a _ h n⟩
/-- a name gets a new dict of its own -/
theorem Fm.setDk (F : Fm C B H σ Γ) (hC : C.H p = none) (hB : B p = none) (hp : H p = some (.dK ws)) (e : ws.map Prod.fst = kvs.map Prod.fst) (hd : DqAll C.K B (ws.map Prod.snd) (kvs.map Prod.snd)) :
    Fm C B H (σ.set i (some (.ref p))) (Γ.set i (.odk kvs)) := by
  have F0 := F.drop (i := i) (some (.ref p))
  refine ⟨F.st, F.dl, by rw [List.length_set, List.length_set]; exact F.len, fun j sl z => ?_, fun a b r xs ys h1 h2 h3 h4 => ?_⟩
  · by_cases hj : i = j
    · subst hj
      have hl : i < Γ.length := by
        have := (List.getElem?_eq_some_iff.mp z).1
        rw [List.length_set] at this
        exact this
      rw [List.getElem?_set_self hl] at z
      cases z
      exact ⟨p, ws, List.getElem?_set_self (by rw [F.len]; exact hl), hC, hB, hp, e, hd⟩
    · rw [List.getElem?_set_ne hj] at z
      rw [List.getElem?_set_ne hj]
      exact F.slot j sl z
  · have key : ∀ (c : Nat) zs, (Γ.set i (.odk kvs))[c]? = some (.own zs) → i ≠ c := fun c zs h z => by
      subst z
      have hl : i < Γ.length := by
        have := (List.getElem?_eq_some_iff.mp h).1
        rw [List.length_set] at this
        exact this
      rw [List.getElem?_set_self hl] at h
      cases h
    have na := key a xs h1
    have nb := key b ys h2
    rw [List.getElem?_set_ne na] at h1 h3
    rw [List.getElem?_set_ne nb] at h2 h4
    exact F.inj a b r xs ys h1 h2 h3 h4
/-- one's own dict changes, the only one -/
theorem Fm.mutDk {us : List (Key × V)} (F : Fm C B H σ Γ) (hi : Γ[i]? = some (.odk kvs)) (ho : ∀ j zs, j ≠ i → Γ[j]? ≠ some (.odk zs)) (hs : σ[i]? = some (some (.ref p))) (e : us.map Prod.fst = es.map Prod.fst) (hd : DqAll C.K B (us.map Prod.snd) (es.map Prod.snd)) :
    Fm C B (upd H p (.dK us)) σ (Γ.set i (.odk es)) := by
  obtain ⟨p', ws, e', hC, hB, hp, hw, _⟩ := F.hasDk hi
  rw [hs] at e'
  injection e' with e'
  injection e' with e'
  injection e' with e'
  subst e'
  have hM : ¬ Md C.dl p := F.notMd hC
  have st : Stp C.dl C.B C.H B (upd H p (.dK us)) := F.st.poke (fun p q e => (F.dl p q e).1) hC hB (np_dk hp)
  refine ⟨st, F.dl, by rw [List.length_set]; exact F.len, fun j sl z => ?_, fun a b r xs ys h1 h2 h3 h4 => ?_⟩
  · by_cases hj : i = j
    · subst hj
      have hl : i < Γ.length := (List.getElem?_eq_some_iff.mp hi).1
      rw [List.getElem?_set_self hl] at z
      cases z
      exact ⟨p, us, hs, hC, hB, upd_same, e, hd⟩
    · rw [List.getElem?_set_ne hj] at z
      have k := F.slot j sl z
      cases sl with
      | no => trivial
      | dat d => exact k
      | own xs =>
        obtain ⟨r, zs, k1, k2, k3, k4, k5⟩ := k
        have nr : r ≠ p := fun z => by
          subst z
          rw [hp] at k4
          cases k4
        exact ⟨r, zs, k1, k2, k3, by rw [upd_ne nr]; exact k4, k5⟩
      | deal => exact k
      | rd vs => exact k
      | odk zs => exact absurd z (ho j zs (fun q => hj q.symm))
  · have own : ∀ (c : Nat) zs, (Γ.set i (.odk es))[c]? = some (.own zs) → Γ[c]? = some (.own zs) := fun c zs h => by
      by_cases hc : i = c
      · subst hc
        rw [List.getElem?_set_self (List.getElem?_eq_some_iff.mp hi).1] at h
        cases h
      · rw [List.getElem?_set_ne hc] at h
        exact h
    exact F.inj a b r xs ys (own a xs h1) (own b ys h2) h3 h4
/-- one's own dict stands for good from now on -/
theorem Fm.freezeDk (F : Fm C B H σ Γ) (hi : Γ[i]? = some (.odk kvs)) : ∃ B' v, Stp C.dl C.B C.H B' H ∧ Same B B' ∧ σ[i]? = some (some v) ∧ Dq C.K B' v (dictD kvs) := by
  obtain ⟨p, ws, hs, hC, hB, hp, e, hd⟩ := F.hasDk hi
  have sm : Same B (upd B p (.dK ws)) := fun a o e => by
    rw [upd_ne (ne_of_none e hB)]
    exact e
  exact ⟨upd B p (.dK ws), .ref p, F.st.fix hC hp hB, sm, hs, .dct (Or.inl upd_same) e (dpall_mono sm hd)⟩
end

/-! ### by data -/
/-- a value that is a dict now -/
def VD (C : Cn) (t : TE) (Γ : List Sl) (kvs : List (Key × D)) : Prop := ∀ B H σ, Fm C B H σ Γ → ∀ Q : VK, (∀ a ws B' H', Stp C.dl B H B' H' → Rd H' a (.dK ws) → ws.map Prod.fst = kvs.map Prod.fst → DqAll C.K B' (ws.map Prod.snd) (kvs.map Prod.snd) → Q (.ref a) H') → t σ H Q
/-- a new dict -/
def VN (C : Cn) (t : TE) (Γ : List Sl) (kvs : List (Key × D)) : Prop := ∀ B H σ, Fm C B H σ Γ → ∀ Q : VK, (∀ p ws B' H', Stp C.dl B H B' H' → H p = none → B' p = none → H' p = some (.dK ws) → ws.map Prod.fst = kvs.map Prod.fst → DqAll C.K B' (ws.map Prod.snd) (kvs.map Prod.snd) → Q (.ref p) H') → t σ H Q
section
variable {C : Cn} {Γ : List Sl} {t te td ty ta tb : TE} {A : TA} {kvs : List (Key × D)} {k : Key} {d : D} {ds es : List D} {i j : Nat} {P : Po} {u : TS}
theorem vd_own (h : Γ[i]? = some (.odk kvs)) : VD C (tVar i) Γ kvs := fun B H σ F Q q => by
  obtain ⟨p, ws, e, h1, h2, h3, h4, h5⟩ := F.hasDk h
  exact ⟨_, e, q p ws B H (Stp.refl F.sub) (Or.inl h3) h4 h5⟩
theorem vd_dat (h : VE C t Γ (Is (dictD kvs))) : VD C t Γ kvs := fun B H σ F Q q => h B H σ F Q fun d v B' H' e s kd => by
  cases e
  obtain ⟨a, ws, rfl, h1, h2, h3⟩ := dp_dct kd
  exact q a ws B' H' s (same_rd (F.step s).sub h1) h2 h3
theorem vn_new : VN C tDNewK Γ [] := fun B H σ F Q q p hp => q p [] B _ (Stp.newM F.sub hp) hp (F.sub.free hp) upd_same rfl .nil
theorem VN.e (h : VN C t Γ kvs) : VE C t Γ (Is (dictD kvs)) := fun B H σ F Q q => h B H σ F Q fun p ws B' H' s k1 k2 k3 k4 k5 =>
  q _ _ (upd B' p (.dK ws)) H' rfl (s.fix k1 k3 k2) (.dct (Or.inl upd_same) k4 (dpall_mono (fun a o e => by rw [upd_ne (ne_of_none e k2)]; exact e) k5))
theorem ve_inK (h1 : VE C ty Γ (Is (kD k))) (h2 : VD C td Γ kvs) : VE C (tOp rInK ty td) Γ (Is (.bool (getK kvs k).isSome)) := fun B H σ F Q q => h1 B H σ F _ fun d v B1 H1 e s1 k1 => h2 B1 H1 σ (F.step s1) _ fun a ws B2 H2 s2 r2 e2 k2 => by
  cases e
  obtain rfl := dp_key k1
  refine ⟨a, valV ws k, rfl, Or.inl ⟨ws, k, r2, rfl, rfl⟩, ?_⟩
  rw [get_none e2]
  exact q _ _ B2 H2 rfl (s1.trans F.dlNow s2) (.bl _)
theorem ve_notInK (h1 : VE C ty Γ (Is (kD k))) (h2 : VD C td Γ kvs) : VE C (tOp rNotInK ty td) Γ (Is (.bool (!(getK kvs k).isSome))) := fun B H σ F Q q => h1 B H σ F _ fun d v B1 H1 e s1 k1 => h2 B1 H1 σ (F.step s1) _ fun a ws B2 H2 s2 r2 e2 k2 => by
  cases e
  obtain rfl := dp_key k1
  refine ⟨a, valV ws k, rfl, Or.inl ⟨ws, k, r2, rfl, rfl⟩, ?_⟩
  rw [get_none e2]
  exact q _ _ B2 H2 rfl (s1.trans F.dlNow s2) (.bl _)
theorem ve_dgetK (h1 : VD C td Γ kvs) (h2 : VE C ty Γ (Is (kD k))) (hk : getK kvs k = some d) : VE C (tDGet td ty) Γ (Is d) := fun B H σ F Q q => h1 B H σ F _ fun a ws B1 H1 s1 r1 e1 k1 => h2 B1 H1 σ (F.step s1) _ fun d' v B2 H2 e s2 k2 => by
  cases e
  obtain rfl := dp_key k2
  obtain ⟨v, hv, hd⟩ := get_some e1 k1 hk
  exact ⟨a, v, rfl, Or.inl ⟨ws, k, (F.step s1).rdK s2 r1, rfl, hv.symm⟩, q _ _ B2 H2 rfl (s1.trans F.dlNow s2) (dp_mono s2.ext hd)⟩
/-- d[k] = e, k new -/
theorem vs_putNew (hi : Γ[i]? = some (.odk kvs)) (ho : ∀ j zs, j ≠ i → Γ[j]? ≠ some (.odk zs)) (h : VE C te Γ (Is d)) (hx : VE C ty Γ (Is (kD k))) (hk : getK kvs k = none) (hz : kvs.length < 100000) (q : P.nx (Γ.set i (.odk (kvs ++ [(k, d)])))) :
    VS C (tAsg te (gSub (tVar i) ty rSetD)) Γ P := fun B H σ E F n r b c => h B H σ F _ fun d' v B1 H1 e1 s1 k1 => by
  cases e1
  obtain ⟨p, ws, e, hC, hB, hp, hw, hd⟩ := F.hasDk hi
  have F1 := F.step s1
  refine ⟨.ref p, e, hx B1 H1 σ F1 _ fun x w B2 H2 ex s2 k2 => ?_⟩
  cases ex
  obtain rfl := dp_key k2
  have hp' := s2.keep p _ (s1.keep p _ hp (F.notMd hC)) (F.notMd hC)
  have hl : ws.length = kvs.length := by
    have := congrArg List.length hw
    simpa using this
  have hv : valV ws k = none := by
    have := get_none (k := k) hw
    rw [hk] at this
    cases q : valV ws k with
    | none => rfl
    | some y => rw [q] at this; cases this
  refine ⟨p, _, rfl, Or.inl ⟨ws, k, hp', rfl, sz6 (by rw [hl]; exact hz), rfl⟩, ?_⟩
  rw [L2.putK_new v hv]
  refine n _ B2 _ σ q (s1.ext.trans s2.ext) ((F1.step s2).mutDk hi ho e ?_ ?_)
  · rw [List.map_append, List.map_append, hw]
    rfl
  · rw [List.map_append, List.map_append]
    exact dpall_app (dpall_mono (s1.ext.trans s2.ext) hd) (dpall_one (dp_mono s2.ext k1))
theorem vs_retDk (i : Nat) (hi : Γ[i]? = some (.odk kvs)) (k : P.rt (dictD kvs)) : VS C (tRet (tVar i)) Γ P := fun B H σ E F n r b c => by
  obtain ⟨B', v, st, _, hs, kd⟩ := F.freezeDk hi
  exact ⟨v, hs, r _ v B' H k st kd⟩
/-- a, b = {}, [..] -/
theorem vs_parNL {S : List D → Prop} (h1 : VN C ta Γ kvs) (h2 : VL C tb Γ S) (k : ∀ y, S y → P.nx ((Γ.set i (.odk kvs)).set j (.own y))) : VS C (tPar i j (tCons ta (tCons tb tNil))) Γ P := fun B H σ E F n r b c =>
  h1 B H σ F _ fun p ws B1 H1 s1 e1 e2 e3 e4 e5 => h2 B1 H1 σ (F.step s1) _ fun ds q us B2 H2 r2 s2 g1 g2 g3 g4 => ⟨_, _, rfl, n _ B2 H2 _ (k ds r2) (s1.ext.trans s2.ext) ((((F.step s1).step s2).setDk (F.newC e1) (s2.out p (by rw [e3]; simp) e2)
    (s2.keep p _ e3 (F.notMd (F.newC e1))) e4 (dpall_mono s2.ext e5)).setOwn ((F.step s1).newC g1) g2 g3 g4 fun j' xs nj hj => by
      by_cases hij : i = j'
      · subst hij
        by_cases hl : i < Γ.length
        · rw [List.getElem?_set_self hl] at hj
          cases hj
        · rw [List.getElem?_eq_none_iff.mpr (by rw [List.length_set]; omega)] at hj
          cases hj
      · rw [List.getElem?_set_ne hij] at hj
        rw [List.getElem?_set_ne hij]
        exact (F.step s1).noOwn g1 hj)⟩
/-! starred things -/
theorem keys_all {K : PySem.W.Frag} {H : Hp} : ∀ {ws : List (Key × V)} {kvs : List (Key × D)}, ws.map Prod.fst = kvs.map Prod.fst → DqAll K H (ws.map fun kv => kV kv.1) (kvs.map fun kv => kD kv.1)
  | [], [], _ => .nil
  | [], _ :: _, e => by cases e
  | _ :: _, [], e => by cases e
  | w :: ws, p :: kvs, e => by
    simp only [List.map_cons, List.cons.injEq] at e
    obtain ⟨e1, e2⟩ := e
    rw [List.map_cons, List.map_cons, ← e1]
    exact .cons (dq_key _) (keys_all e2)
theorem va_starK (h : VD C te Γ kvs) (k : VA C A Γ (Is ds)) : VA C (tStarK te A) Γ (Is ((kvs.map fun kv => kD kv.1) ++ ds)) := fun B H σ F Q q => h B H σ F _ fun a ws B1 H1 s1 r1 e1 k1 => ⟨a, ws, rfl, r1, k B1 H1 σ (F.step s1) _ fun xs vs B2 H2 e2 s2 k2 => by
  cases e2
  exact q _ _ B2 H2 rfl (s1.trans F.dlNow s2) (dpall_app (keys_all e1) k2)⟩
theorem va_starL (h : VV C te Γ (Is (.list es))) (k : VA C A Γ (Is ds)) : VA C (StX.tStar C.K te A) Γ (Is (es ++ ds)) := fun B H σ F Q q => h B H σ F _ fun d v B1 H1 e1 s1 k1 => by
  cases e1
  obtain ⟨a, xs, rfl, h1, h2⟩ := k1.lst (F.step s1).sub
  exact ⟨a, xs, rfl, Or.inr h1, k B1 H1 σ (F.step s1) _ fun ys vs B2 H2 e2 s2 k2 => by
    cases e2
    exact q _ _ B2 H2 rfl (s1.trans F.dlNow s2) (dpall_app (dpall_mono s2.ext h2) k2)⟩
/-- sorted(set(t)), t a tuple of ints -/
theorem vl_sortedSet {w : World} {ns : List Int} (h : VE C te Γ (Is (.tuple (ns.map .int)))) (hn : ns.length < 64) :
    VL C (tCB (rSortedSet w) (tCons (tCB (rSetTI C.K w) (tCons te tNil)) tNil)) Γ (fun ds => ∃ ms : List Int, ds = ms.map .int ∧ ms.Pairwise (· < ·) ∧ ∀ k, k ∈ ms ↔ k ∈ ns) := fun B H σ F Q q => h B H σ F _ fun d v B1 H1 e1 s1 k1 => by
  cases e1
  obtain ⟨a, xs, rfl, h1, h2⟩ := dp_tup k1
  rw [dpall_ints h2] at h1
  have F1 := F.step s1
  refine ⟨a, ns, rfl, same_t F1.sub h1, by omega, fun p c hp hc => ?_⟩
  have s2 : Stp C.dl B1 H1 B1 (upd H1 p (SetO w p (fun j => decide (j ∈ ns)) c)) := Stp.newM F1.sub hp
  have F2 := F1.step s2
  refine ⟨p, _, c, rfl, upd_same, by omega, fun ms r hs hm hl hr => ?_⟩
  have s3 : Stp C.dl B1 (upd H1 p (SetO w p (fun j => decide (j ∈ ns)) c)) B1 (upd (upd H1 p (SetO w p (fun j => decide (j ∈ ns)) c)) r (.lst (ms.map V.int))) := Stp.newM F2.sub hr
  have s := (s1.trans F.dlNow s2).trans F.dlNow s3
  exact q _ r (ms.map V.int) B1 _ ⟨ms, rfl, hs, fun k => by rw [hm k, decide_eq_true_eq]⟩ s (back_none F (s1.trans F.dlNow s2) hr) (F2.sub.free hr) upd_same (dpall_map _ _ (fun x => .int x) ms)
end
end Ly

/-! Lyb: the end of a law whose own def makes lambdas: its code object at c, the table of it at P. -/
namespace Ly
open PySem PySem.Spec PyProof.Rows L2 LamX
/-- the script and the table are tracked at the law's own call -/
abbrev HT (K : PySem.W.Frag) (a : Addr) (o : Obj) (xs : List V) (P : Addr) : Hp := upd (H1 K a o xs) P (.tbl #[])
section
variable {Pg : Program} {w : World} {K : PySem.W.Frag} {mg mb : Str → Option Value} {k : Nat} {fa a c P : Addr} {fd : FuncData} {x : Str} {sp : Sp} {s₁ : Shared} {vs : List Value} {ns : List Int}
theorem law_gT (KX : K.In s₁.heap) (hns : s₁.heap.Ns mainGlobals mg) (hb : s₁.heap.Ns builtinsNs mb) (hbb : ∀ x : Str, x ≠ "__name__" → mb x = bootBuiltins x) (hlim : s₁.heap.NoLimit) (hg : s₁.gens = #[])
    (hT : s₁.heap.get? P = some (PySem.W.tabObj #[])) (nT : K.lookup P = none) (hC : PySem.W.codeHdIn K c P = true)
    (hbm : ∃ (bm : Addr) (ob : Obj), mg "__builtins__" = some (.ref bm) ∧ bm ≠ builtinsNs ∧ s₁.heap.get? bm = some ob ∧ ob.cls = .type "module" ∧ ob.dict = some builtinsNs ∧ ob.data = .plain)
    (ha : s₁.heap.get? a = some { cls := .type "list", data := .seq vs.toArray }) (hi : IntsAre vs ns) (hl : ns.length ≤ sizeLine) (hr : Room k callerA)
    (F : ∀ base : Heap, K.In base → base.Ns mainGlobals mg → TabB base mg c P → GOk Pg w K mg base CX0 k fa fd [x] sp) (hbind : ∀ (s : Shared) (u : Value), BindsTo s fd ⟨[u], []⟩ [(x, u)])
    (hsp : ∀ B H : Hp, Same B H → (∀ b ps, B b ≠ some (.tbl ps)) → H P = some (.tbl #[]) → SqL K B a (ns.map V.int) → sp [.ref a] H (fun v _ => v = .bl true) E0) :
    codeAny (model Pg w) callerA (.call (.ref fa) ⟨[.ref a], []⟩) (fun r s' => r = .ok (.ret (.bool true)) ∧ OldK s₁.heap s'.heap ∧ s'.os = s₁.os ∧ AllBare s'.gens) s₁ := by
  have rv : Vals (ns.map V.int) vs := vals_ints hi
  have lv : vs.length = ns.length := by
    have := rv.length
    rw [List.length_map] at this
    exact this.symm
  let o : Obj := { cls := .type "list", data := .seq vs.toArray }
  let B : Hp := H1 K a o (ns.map V.int)
  let H : Hp := HT K a o (ns.map V.int) P
  have aP : a ≠ P := fun z => by
    rw [← z, ha] at hT
    cases hT
  have BP : B P = none := by
    cases q : B P with
    | none => rfl
    | some u => exact absurd (h1_only q).1 (Ne.symm aP)
  have BH : Same B H := fun b u e => (upd_ne (ne_of_none e BP)).trans e
  have HP : H P = some (.tbl #[]) := upd_same
  have cases_ : ∀ {b : Addr} {u : HO}, H b = some u → (b = P ∧ u = .tbl #[]) ∨ (b = a ∧ b ≠ P ∧ K.lookup a = none ∧ u = .frz o (.lst (ns.map V.int))) := fun {b u} e => by
    by_cases hb : b = P
    · refine Or.inl ⟨hb, ?_⟩
      rw [hb, HP] at e
      cases e
      rfl
    · have e' : B b = some u := (upd_ne hb).symm.trans e
      obtain ⟨h1, h2, h3⟩ := h1_only e'
      exact Or.inr ⟨h1, hb, h2, h3⟩
  have ok : HOk Pg w H s₁.heap := fun b u e => by
    rcases cases_ e with ⟨rfl, rfl⟩ | ⟨rfl, _, _, rfl⟩
    · exact hT
    · exact ⟨ha, by rw [List.length_map]; exact hl, vs, _, rv, ha⟩
  have sq : SqL K B a (ns.map V.int) := by
    cases e : K.lookup a with
    | none => exact Or.inl (Or.inr ⟨o, h1_at e⟩)
    | some u =>
      have e2 := KX a u e
      rw [ha] at e2
      cases e2
      exact Or.inr ⟨_, vs.toArray, _, e, rfl, rfl, rfl, by rw [List.size_toArray, lv]; exact hl, by simpa using rv⟩
  have clear : ∀ {b : Addr} {u : Obj}, s₁.heap.get? b = some u → (∀ is n, u.data ≠ .seq is n) → u.data ≠ .fields #[] → H b = none := fun {b u} e n1 n2 => by
    cases q : H b with
    | none => rfl
    | some v =>
      rcases cases_ q with ⟨rfl, _⟩ | ⟨rfl, _⟩
      · rw [hT] at e
        cases e
        exact absurd rfl n2
      · rw [ha] at e
        cases e
        exact absurd rfl (n1 _ _)
  have ns1 : ∀ {b : Addr} {m : Str → Option Value}, s₁.heap.Ns b m → (hidT s₁.heap H).Ns b m := by
    rintro b m ⟨u, es, ep, e, d, r⟩
    refine ⟨u, es, ep, hidT_get e (clear e (fun is n z => ?_) fun z => ?_), d, r⟩
    · rw [d] at z; cases z
    · rw [d] at z; cases z
  have kin : K.In (hidT s₁.heap H) := fun b u e => hidT_get (KX b u e) (by
    cases q : H b with
    | none => rfl
    | some v =>
      rcases cases_ q with ⟨rfl, _⟩ | ⟨rfl, _, z, _⟩
      · rw [nT] at e
        cases e
      · rw [z] at e
        cases e)
  have tb : TabB (hidT s₁.heap H) mg c P := by
    refine ⟨PySem.W.codeHd_of_K kin hC, ?_, fun z => ?_⟩
    · obtain ⟨bm, ob, m1, m2, m3, m4, m5, m6⟩ := hbm
      refine ⟨bm, ob, m1, m2, fun z => ?_, fun z => ?_, hidT_get m3 (clear m3 (fun is n z => ?_) fun z => ?_), m4, m5, m6⟩
      · obtain ⟨u, es, ep, e, d, _⟩ := hns
        rw [← z, m3] at e
        cases e
        rw [m6] at d
        cases d
      · rw [z, hT] at m3
        cases m3
        cases m6
      · rw [m6] at z; cases z
      · rw [m6] at z; cases z
    · obtain ⟨u, es, ep, e, d, _⟩ := hns
      rw [z, hT] at e
      cases e
      cases d
  obtain ⟨mc, hc1, hc2⟩ := hlim
  have hm : Mod K mg (hidT s₁.heap H) := ⟨kin, ns1 hns, ⟨mb, ns1 hb, hbb⟩, mc, ns1 hc1, hc2⟩
  have none_in : ∀ b : Addr, b ∉ frs ([] : List Env) := fun b hb => nomatch hb
  have e0 : Env0 Pg w K mg (hidT s₁.heap H) callerA [] s₁ H :=
    { frames := rfl, mod := hm, bs := fun b u e => of_hidT e, bsz := Nat.le_of_eq (hidT_size _ _), funs := trivial, frf := fun b hb => absurd hb (none_in b), hok := ok, bare := .of_eq hg }
  have nt : ∀ b ps, B b ≠ some (.tbl ps) := fun b ps z => by
    have := (h1_only z).2.2
    cases this
  refine codeAny_mono ((F _ kin (ns1 hns) tb).does (us := [.ref a]) (vs := [.ref a]) (E := E0) rfl hr e0 (hbind s₁ (.ref a)) (.cons rfl .nil) (hsp B H BH nt HP sq)) fun r s' h => ?_
  cases r with
  | error e => exact False.elim h
  | ok fl =>
    cases fl with
    | next => exact False.elim h
    | brk => exact False.elim h
    | cont => exact False.elim h
    | ret u =>
      obtain ⟨v, H', os, bare, un, ok', rr, q⟩ := h
      obtain rfl : v = .bl true := q
      obtain rfl : u = Value.bool true := rr
      obtain ⟨more, hmore⟩ := un.tbls P #[] HP
      have hP' : s'.heap.get? P = some (PySem.W.tabObj more) := by
        have z := ok' P _ hmore
        rw [Array.empty_append] at z
        exact z
      have rest : ∀ b u, b ≠ P → s₁.heap.get? b = some u → s'.heap.get? b = some u := fun b u hb e => by
        cases q : H b with
        | none => exact un.keep b u e q (none_in b) (fun z => nomatch z)
        | some y =>
          rcases cases_ q with ⟨z, _⟩ | ⟨rfl, _, _, rfl⟩
          · exact absurd z hb
          · obtain ⟨e2, _⟩ := ok' b _ (un.frzs b _ _ q)
            rw [e2, ← e, ha]
      refine ⟨rfl, ⟨fun b u e => ?_, fun b u e => ?_⟩, os, bare⟩
      · by_cases hb : b = P
        · subst hb
          rw [hT] at e
          cases e
          exact .inr (.inl ⟨((PySem.W.codeHd_of_K KX hC).tab hT).isCodeTable, rfl, #[], more, rfl, by rw [Array.empty_append]; exact hP'⟩)
        · exact .inl (rest b u hb e)
      · by_cases hb : b = P
        · subst hb
          exact ⟨_, hP'⟩
        · exact ⟨u, rest b u hb e⟩
end
/-- what the head must tell of a law whose def makes lambdas -/
structure LamLaw (K : PySem.W.Frag) (fa : Addr) (c P : Addr) : Prop where
  code : ∃ (o : Obj) (fd : FuncData) (e : Value) (dd : Option Addr) (vs : Array Value) (sl : Array (Option Value)), K.lookup fa = some o ∧ o.data = .func fd ∧ fd.code = .ref c ∧ K.lookup c = some ⟨e, dd, .fields vs, sl⟩ ∧ vs[11]? = some (.ref P)
  no : K.lookup P = none
  hd : PySem.W.codeHdIn K c P = true
theorem walk_gT {l : PySem.W.OpenLaw} {n k : Nat} {q : Program} {loose : List Str} {XP : (Str → Option Value) → Heap → Prop} {YP : World → Heap → Prop} {d : DefRec} {K : Params → PySem.W.Frag} {sp : PySem.W.Frag → Addr → Sp} {x : Str}
    (hn : l.most = some n) (hn2 : n ≤ sizeLine) (hdf : d.params.defaults = []) (hr : Room k callerA) (hrec : ((recsOf q).any fun e => e.name == d.name) = true)
    (hY : ∀ (w : World) (h : Heap), YP w h → (K w.params).In h)
    (F : ∀ (w : World) (mg : Str → Option Value) (fa : Addr) (h : Heap), (K w.params).In h → h.Ns mainGlobals mg → mg d.name = some (.ref fa) →
      ∃ (fd : FuncData) (c P : Addr), LamLaw (K w.params) fa c P ∧ (∀ (s : Shared) (u : Value), BindsTo s fd ⟨[u], []⟩ [(x, u)]) ∧
        ∀ base : Heap, (K w.params).In base → base.Ns mainGlobals mg → TabB base mg c P → GOk l.prog w (K w.params) mg base CX0 k fa fd [x] (sp (K w.params) P))
    (hsp : ∀ (K : PySem.W.Frag) (P : Addr) (B H : Hp) (a : Addr) (ns : List Int), ns.length ≤ n → Same B H → (∀ b ps, B b ≠ some (.tbl ps)) → H P = some (.tbl #[]) → SqL K B a (ns.map V.int) → sp K P [.ref a] H (fun v _ => v = .bl true) E0) :
    PySem.W.WalkO q loose XP YP l.row.toRowW d [] (fun f vs => PySem.call f vs) := by
  apply Att.attach_callB hn hdf
  intro w s₀ s₁ mg mb fa o pm cd doc a vs ns G Y ho hd hcd hmg hobj hints hlen _ hg
  obtain ⟨fd, c, P, L, hb, hF⟩ := F w mg fa _ (hY w _ Y) G.T.g hmg
  have KX := hY w _ Y
  have hT : s₁.heap.get? P = some (PySem.W.tabObj #[]) := by
    obtain ⟨o1, fd1, e, dd, vs1, sl, g1, g2, g3, g4, g5⟩ := L.code
    obtain ⟨r, hr1, hr2⟩ := List.any_eq_true.mp hrec
    have er : r.name = d.name := beq_iff_eq.mp hr2
    obtain ⟨a2, o2, fd2, c2, P2, t1, t2, t3, t4, t5, t6⟩ := G.T.tab r hr1
    rw [er, hmg] at t1
    cases t1
    have z1 := (KX _ _ g1).symm.trans t2
    cases z1
    have z2 := g2.symm.trans t3
    cases z2
    have z3 := g3.symm.trans t4
    cases z3
    obtain ⟨⟨oc, vc, y1, _, y3, y4⟩, y5⟩ := t6
    have z4 := (KX _ _ g4).symm.trans y1
    cases z4
    cases y3
    have z5 := g5.symm.trans y4
    cases z5
    exact y5
  exact law_gT KX G.T.g G.T.b G.T.builtins G.T.nolimit hg hT L.no L.hd G.T.bmain hobj hints (Nat.le_trans hlen hn2) hr hF hb fun B H e nt hP hS => hsp _ P B H a ns hlen e nt hP hS
/-- such a law's own promise -/
def LwT (K : PySem.W.Frag) (P : Addr) : Sp := fun vs H Q _ => ∃ (a : Addr) (ns : List Int) (B : Hp), vs = [.ref a] ∧ Same B H ∧ (∀ b ps, B b ≠ some (.tbl ps)) ∧ H P = some (.tbl #[]) ∧ SqL K B a (ns.map V.int) ∧ ns.length ≤ 63 ∧ ∀ H', Q (.bl true) H'
section
variable {P0 : Program} {w : World} {K : PySem.W.Frag} {mg : Str → Option Value} {base : Heap} {k : Nat} {f P : Addr} {fd : FuncData} {N : List Str} {x qual : Str} {st : Stmt}
theorem fm_lawT {K : PySem.W.Frag} {B H : Hp} {a : Addr} {xs : List V} {N : List Str} {n : Nat} (e : Same B H) (hS : SqL K B a xs) (hn : 1 + n = N.length) : Fm ⟨K, B, H, none⟩ B H (L2.start N [.ref a]) (.rd xs :: List.replicate n .no) := by
  have no : ∀ (i : Nat) sl, (List.replicate n Sl.no)[i]? = some sl → sl = .no := fun i sl h => by
    rw [List.getElem?_replicate] at h
    split at h
    · exact (Option.some.inj h).symm
    · cases h
  refine ⟨Stp.refl e, (fun p q e => nomatch e), ?_, fun i sl h => ?_, fun i j p ds es h => ?_⟩
  · rw [start_len (by rw [List.length_singleton]; omega), List.length_cons, List.length_replicate]
    omega
  · cases i with
    | zero =>
      cases h
      exact ⟨a, rfl, hS⟩
    | succ i =>
      rw [no i sl h]
      trivial
  · cases i with
    | zero => cases h
    | succ i => cases no i _ h
theorem law_okT (n : Nat) (F : Fun K x qual st f fd) (S : FnScope N ["script"] (defScope st)) (hn : 1 + n = N.length)
    (body : ∀ (cdv : Value) (A : Around) (outer : List Env) (s : Shared) (H : Hp) (E : XK), fd.code = cdv → (cxOf CX0 P0 w K mg base N qual (defScope st) f cdv A outer s H E).A.guards = some [] → Room k (cxOf CX0 P0 w K mg base N qual (defScope st) f cdv A outer s H E).A →
      ∃ t, PSs (cxOf CX0 P0 w K mg base N qual (defScope st) f cdv A outer s H E).nox (defBody st) t ∧
        ∀ B H (ns : List Int), ns.length ≤ 63 → Same B H → (∀ b ps, B b ≠ some (.tbl ps)) → TabS H P qLam → VS ⟨K, B, H, none⟩ t (.rd (ns.map V.int) :: List.replicate n .no) { nx := fun _ => False, rt := Is (.bool true) }) :
    GOk P0 w K mg base CX0 (k + 1) f fd ["script"] (LwT K P) := by
  obtain ⟨_, _, _, _, _, _, _, _, _, hfd, _⟩ := F.ex
  refine gok_ofC F S (fun {vs H Q E} ⟨a, ns, B, e, _⟩ => by rw [e]; rfl) fun cdv A outer s H vs Q E hcode hg hr ⟨a, ns, B, e, eB, nt, hP, hS, hl, hq⟩ => ?_
  subst e
  obtain ⟨t, ht, hv⟩ := body cdv A outer s H E hcode hg hr
  refine ⟨t, ht.nox, hv B H ns hl eB nt (TabS.nil hP) B H _ _ (fm_lawT eB hS hn) (fun _ _ _ _ e => e.elim) ?_ (fun _ _ _ _ e => e.elim) fun _ _ _ _ e => e.elim⟩
  intro d v B' H' e _ kd
  cases e
  obtain rfl := dp_bl kd
  exact hq H'
end
end Ly

/-! Lyc: own exception classes as the head tells them; raise; promises of two ways out by a parameter. -/
namespace Ly
open PySem PySem.Spec PyProof.Rows L2 NdefX
/-- an own exception class behind the top, with its __init__(self, fld) -/
structure XT (P : Program) (K : PySem.W.Frag) (mg : Str → Option Value) (name fld : Str) where
  C : Addr
  fI : Addr
  fdI : FuncData
  m : mg name = some (.ref C)
  x : XC K C C fld
  init : ∀ (w : World) (base : Heap), FnOk P w K mg base CX0 1 fI fdI (pAt fld) (SpAt K C fld)
  fi : PySem.W.findIn K (.ref C) "__init__" = some (some (.ref fI))
  ti : PySem.W.typeIn K (.ref fI) = some (.type "function")
  b : Binds K fdI (pAt fld) []
  f : XfC K C
  ex : PySem.W.exmOne K (.ref C) (.ref C) = some true
def xt_mk {P : Program} {K : PySem.W.Frag} {h : Heap} {mg : Str → Option Value} {name fld : Str} (X : K.In h) (G : h.Ns mainGlobals mg)
    {C f cda cc : Addr} {qual msg file nm q : Str} {params : Arguments} {scope : Scope} {dV kV doc pm ct oc ccl cl : Value} {an od cdd cld : Option Addr} {osl ccs csl : Array (Option Value)} {vs0 : Array Value} {tf : Tok} {j : Nat} {p0 p1 p2 p3 p4 q0 q1 q2 q3 q4 : Pos} {ar : Arg} {cdD : ClassData}
    {N : Addr} {bs bm : List Value} {sn : List Str} {sub : List Value} {ab : Bool} {col : Option Bool} {dd : Option Addr} {k0 k1 k2 k3 k5 : Option Value}
    (ca : PySem.W.nsIn K mainGlobals name = some (some (.ref C)))
    (cl0 : K.lookup C = some (excClassObj nm q C N bs bm true sn sub ab col dd k0 k1 k2 k3 k5 "ValueError.__new__")) (cbm : PySem.HandSPX.refsVE bm = true)
    (csa : PySem.W.findIn K (.ref C) "__setattr__" = some (some (.builtin "object.__setattr__"))) (cex : PySem.W.subIn K (.ref C) (.type "BaseException") = some true) (cty : PySem.W.typeIn K (.ref C) = some (.type "type")) (ck : PySem.W.keepIn K (.ref C) = true)
    (cmr : PySem.W.mroIn K C (.ref C) = some true) (csu : PySem.W.ks_superIn K C C "__init__" = some (some (.builtin "ValueError.__init__"))) (cve : PySem.W.subIn K (.ref C) (.type "ValueError") = some true) (cno : PySem.W.findIn K (.ref C) fld = some none)
    (cfi : PySem.W.findIn K (.ref C) "__init__" = some (some (.ref f))) (cti : PySem.W.typeIn K (.ref f) = some (.type "function"))
    (cga : PySem.W.findIn K (.ref C) "__getattribute__" = some (some (.builtin "BaseException.__getattribute__"))) (cgg : PySem.W.findIn K (.ref C) "__getattr__" = some none) (chd : PySem.W.hasDictIn K C = true) (css : PySem.W.subIn K (.ref C) (.ref C) = some true)
    (clk : K.lookup f = some ⟨oc, od, .func (PySem.W.fnX "__init__" qual params [stSup p0 p1 p2 p3 p4 q0 msg j, stAt q1 q2 q3 q4 fld] scope [(("__class__" : Str), cc)] dV kV doc pm an (.ref cda) ct), osl⟩) (ccd : PySem.W.codeIn K (.ref cda) qual = true)
    (cS : nscB (nAt fld) (pAt fld) fAt scope = true) (cp : (params.posonlyargs ++ params.args).head? = some ar) (car : ar.arg = ("self" : Str))
    (cda0 : K.lookup cda = some ⟨ccl, cdd, .fields vs0, ccs⟩) (cvs : vs0[2]? = some (.str file tf)) (cfile : ((P.main.file : Str) == file) = true) (ccell : K.lookup cc = some ⟨cl, cld, .cell (some (.ref C)), csl⟩)
    (ccl0 : PySem.W.clsIn K C = some cdD) (cms : PySem.W.nsIn K mainGlobals "super" = some none) (cks : scope.names.lookup ("super" : Str) = some .globalImplicit) (ctop : (P.main.scope.names.lookup ("super" : Str)).isSome = false) (cno3 : PySem.W.nsIn K cStatics "thirdparty.any" = some none)
    (cb : ∀ us : List Value, us.length = 2 → bindArgs (PySem.W.fnX "__init__" qual params [stSup p0 p1 p2 p3 p4 q0 msg j, stAt q1 q2 q3 q4 fld] scope [(("__class__" : Str), cc)] dV kV doc pm an (.ref cda) ct) ⟨us, []⟩ = pure ((pAt fld).zip us))
    (chc : ∀ env : Env, ∃ pl : Sem Bool, eval (.Call (.Attribute (.Call (.Name "super" p0) [] [] p1) "__init__" p2) [.Constant (.str msg) j p3] [] p4) env = (do
      let ov ← attributeBase (.Call (.Name "super" p0) [] [] p1) "__init__" env (eval (.Call (.Name "super" p0) [] [] p1) env)
      standAt p2.atName
      let (f, first) ← holding [ov] (getMethod ov "__init__" pl)
      callWith p4 f first (backTo p4 (starEach [.Constant (.str msg) j p3] env)) []))
    (chs1 : ∀ env : Env, swapsWith (.Call (.Attribute (.Call (.Name "super" p0) [] [] p1) "__init__" p2) [.Constant (.str msg) j p3] [] p4) none q0.line env = pure false)
    (chs2 : ∀ env : Env, swapsWith (.Name fld q3) (some (.Attribute (.Name "self" q1) fld q2)) q4.line env = pure false)
    (hd1 : (fld == ("__debug__" : Str)) = false := by decide) (hd2 : (fld == ("__classdict__" : Str)) = false := by decide) (hne : ("__class__" : Str) ≠ fld := by decide) : XT P K mg name fld where
  C := C
  fI := f
  fdI := _
  m := PySem.W.mg_of X G ca
  x := ⟨⟨⟨nm, q, N, bs, bm, sn, sub, ab, col, dd, k0, k1, k2, k3, k5, cl0, cbm⟩, csa, cex, cty, ck⟩, cmr, csu, cve, cno⟩
  init := fun w base => oinit_fn (k := 0) clk ccd (nscope_by cS) cp car cda0 cvs cfile ccell ccl0 (PySem.W.mg_none_of X G cms) cks ctop cno3 hd1 hd2 hne chc chs1 chs2
  fi := cfi
  ti := cti
  b := Binds.all cb
  f := ⟨cga, cgg, cex, chd⟩
  ex := PySem.W.exm_ref cex chd cty css
/-- raise C(e) -/
def tRz (K : PySem.W.Frag) (C : Addr) (fld : Str) (ta : TA) (E : XK) : TS := fun _ σ H => tMkO C (SpAt K C fld) [] ta σ H fun cls d H' => E cls d H'
theorem ps_raiseX {X : Cx} {name fld : Str} {E : XK} {e : Expr} {es : List Expr} {ta : TA} {p pos pos' : Pos} (T : XT X.prog X.K X.mg name fld) (tk : Takes X (fun cls d _ H => E cls d H)) (hr : Room 2 X.A) (hg : Gl X name) (ha : PA X (e :: es) ta)
    (hc : X.calm = true := by rfl) (hdb : (name == ("__debug__" : Str)) = false := by decide) (he : starEach (e :: es) X.env = (false, eval e X.env) :: starEach es X.env := by rfl) (hpl : (backTo pos (starEach es X.env)).any (·.1) = false := by rfl) :
    PS X (.Raise (some (.Call (.Name name p) (e :: es) [] pos)) none pos') (tRz X.K T.C fld ta E) :=
  ps_raise hc tk (pmk_oex (X := X) T.x.o T.fi T.ti (T.init X.w X.base) hr T.b .nil pass0 hg T.m ha hdb he hpl)
section
variable {c : Cn} {ta : TA} {Γ : List Sl} {po : Po} {P : Program} {mg : Str → Option Value} {name fld : Str} {n : D} {E : XK}
/-- what E takes: an exception of the class at C whose field is told -/
def Tks (c : Cn) (C : Addr) (fld : Str) (W : D → Prop) (E : XK) : Prop := ∀ n dx v B' H', W n → Stp c.dl c.B c.H B' H' → H' dx = some (.xd [(fld, v)]) → Dq c.K B' v n → E (.ref C) (some dx) H'
theorem vs_rz {W : D → Prop} (T : XT P c.K mg name fld) (t : Tks c T.C fld W E) (h : VA c ta Γ (Is [n])) (w : W n) : VS c (tRz c.K T.C fld ta E) Γ po :=
  vs_raise T.x h fun dx v B' H' s hd k => t n dx v B' H' w s hd k
end
/-- data in by a parameter; two ways out -/
def Pxa {α : Type} (K : PySem.W.Frag) (C : Addr) (fld : Str) (Ar : α → List D) (P : α → Prop) (R : α → D → Prop) (W : α → D → Prop) : Sp :=
  fun vs H Q E => ∃ B a, Same B H ∧ DqAll K B vs (Ar a) ∧ P a ∧ (∀ d v B' H', R a d → Stp none B H B' H' → Dq K B' v d → Q v H') ∧ ∀ n dx v B' H', W a n → Stp none B H B' H' → H' dx = some (.xd [(fld, v)]) → Dq K B' v n → E (.ref C) (some dx) H'
section
variable {α : Type} {P0 : Program} {w : World} {K : PySem.W.Frag} {mg : Str → Option Value} {base : Heap} {k : Nat} {f C : Addr} {fd : FuncData} {ps N : List Str} {x qual fld : Str} {st : Stmt} {Ar : α → List D} {P : α → Prop} {R W : α → D → Prop}
theorem pxa_ok (n : Nat) (F : Fun K x qual st f fd) (S : FnScope N ps (defScope st)) (hl : ∀ a, (Ar a).length = ps.length) (hn : ps.length + n = N.length)
    (body : ∀ (cdv : Value) (A : Around) (outer : List Env) (s : Shared) (H : Hp) (E : XK), (cxOf (L2.CX P0 w) P0 w K mg base N qual (defScope st) f cdv A outer s H E).A.guards = some [] → Room k (cxOf (L2.CX P0 w) P0 w K mg base N qual (defScope st) f cdv A outer s H E).A →
      Takes (cxOf (L2.CX P0 w) P0 w K mg base N qual (defScope st) f cdv A outer s H E) (fun cls d _ H => E cls d H) →
      ∃ t, PSs (cxOf (L2.CX P0 w) P0 w K mg base N qual (defScope st) f cdv A outer s H E) (defBody st) t ∧ ∀ B H a, P a → Tks ⟨K, B, H, none⟩ C fld (W a) E →
        VS ⟨K, B, H, none⟩ t (slots (Ar a) n) { nx := fun _ => R a .none, rt := R a }) :
    GOk P0 w K mg base (L2.CX P0 w) (k + 1) f fd ps (Pxa K C fld Ar P R W) := by
  refine gok_of F S (fun {vs H Q E} ⟨B, a, _, h1, h2, _⟩ => (dpall_len h1).trans (hl a)) fun cdv A outer s H vs Q E hg hr ⟨B, a, hs, h1, h2, hq, he⟩ => ?_
  obtain ⟨t, ht, hv⟩ := body cdv A outer s H E hg hr (takes_of rfl rfl rfl rfl)
  refine ⟨t, ht, hv B H a h2 he B H (L2.start N vs) _ (fm_start hs h1 (by rw [hl a]; exact hn)) ?_ ?_ (fun _ _ _ _ e => e.elim) fun _ _ _ _ e => e.elim⟩
  · exact fun Γ' B' H' σ' r _ F' => hq _ _ B' H' r F'.st .non
  · exact fun d v B' H' r s' kd => hq d v B' H' r s' kd
end
section
variable {α : Type} {C0 : Cn} {A A' : TA} {Γ : List Sl} {C : Addr} {fld : Str} {Ar : α → List D} {P : α → Prop} {R W : α → D → Prop} {ds es : List D} {gV : List V → List V → List V} {E : XK} {a : α}
theorem vx_a2 (a : α) (gD : List D → List D → List D) (h : VA C0 A Γ (Is ds)) (h' : VA C0 A' Γ (Is es)) (hg : ∀ B vs zs ds es, DqAll C0.K B vs ds → DqAll C0.K B zs es → DqAll C0.K B (gV vs zs) (gD ds es)) (e : gD ds es = Ar a) (hP : P a) :
    VX C0 C fld (fun E => tCallK (Pxa C0.K C fld Ar P R W) gV E A A') Γ (R a) (W a) := fun B H σ F Q E q ex =>
  h B H σ F _ fun xs vs B1 H1 e1 s1 k1 => h' B1 H1 σ (F.step s1) _ fun ys zs B2 H2 e2 s2 k2 => by
    cases e1
    cases e2
    have F2 := (F.step s1).step s2
    have s12 := s1.trans F.dlNow s2
    exact ⟨B2, a, F2.sub, e ▸ hg B2 vs zs ds es (dpall_mono s2.ext k1) k2, hP, fun d v B3 H3 r3 s3 k3 => q d v B3 H3 r3 (s12.trans F.dlNow s3.any) k3,
      fun n dx v B3 H3 w3 s3 hd k3 => ex n dx v B3 H3 w3 (s12.trans F.dlNow s3.any) hd k3⟩
theorem vx_a (a : α) (h : VA C0 A Γ (Is (Ar a))) (hP : P a) : VX C0 C fld (fun E => tCallK (Pxa C0.K C fld Ar P R W) (fun vs _ => vs) E A tNil) Γ (R a) (W a) :=
  vx_a2 a (fun ds _ => ds) h va_nil (fun _ _ _ _ _ k _ => k) rfl hP
/-- within a def that lets the same out -/
theorem ve_xa {W1 : D → Prop} (a : α) (h : VA C0 A Γ (Is (Ar a))) (hP : P a) (t : Tks C0 C fld W1 E) (i : ∀ n, W a n → W1 n) : VE C0 (tCallK (Pxa C0.K C fld Ar P R W) (fun vs _ => vs) E A tNil) Γ (R a) := fun B H σ F Q q =>
  vx_a (C0 := C0) (R := R) (W := W) a h hP B H σ F Q E q fun n dx v B' H' wn s hd k => t n dx v B' H' (i n wn) (F.st.trans (fun p q e => (F.dl p q e).1) s) hd k
end
end Ly

/-! Lyd: enumerate(a tuple); a lambda handed to a def, by what the head tells of that def. -/
namespace Ly
open PySem PySem.Spec PyProof.Rows L2 LamX
/-! ### enumerate of a tuple -/
set_option maxHeartbeats 1000000 in
theorem meets_enumB {v : Value} {o : Obj} {H : Heap → Prop} (B : Begins v o H) :
    Meets (Builtin.«enumerate.__new__» ⟨[.type "enumerate", v], []⟩) (fun _ R s => H s.heap ∧
      R (.ok (.ret (.ref (s.heap.push o).objs.size))) { s with heap := (s.heap.push o).push { cls := .type "enumerate", data := .fields #[.none, .bool false, .ref s.heap.objs.size, rawInt 0, .none, .none] } }) := by
  refine .of_wp ?_
  rintro prog w A R ⟨hp, g, d, tk, os⟩ ⟨b, r⟩
  have sub := sub_enumerate
  have go : ∀ {A' : Around} {E : Value → Shared → Prop} {Q : Value → Shared → Prop}, Q (.ref hp.objs.size) ⟨hp.push o, g, d, tk, os⟩ → wpAny (model prog w) A' (pyIter v) Q E ⟨hp, g, d, tk, os⟩ := fun q => B.iter prog w _ _ ⟨hp, g, d, tk, os⟩ _ b q
  wp_walk using go
  refine wpAny_stack_any fun _ => wpAny_pure ?_
  split
  · rename_i cl _ _ _ _ _
    cases (cl == Value.type "enumerate") <;> (wp_walk using go; exact ⟨_, rfl, r⟩)
  · wp_walk using go
    exact ⟨_, rfl, r⟩
theorem call_enumB {prog : Program} {w : World} {A : Around} {E : Value → Shared → Prop} {s : Shared} {v : Value} {o : Obj} {H : Heap → Prop} {Q : Value → Shared → Prop} (B : Begins v o H) (h1 : H s.heap)
    (h : ∀ h', IsEnum h' (s.heap.objs.size + 1) s.heap.objs.size 0 .none → h'.get? s.heap.objs.size = some o → (∀ b o, s.heap.get? b = some o → h'.get? b = some o) → Q (.ref (s.heap.objs.size + 1)) { s with heap := h' }) :
    wpAny (model prog w) A (call (.type "enumerate") [v]) Q E s := by
  have hz : (s.heap.push o).objs.size = s.heap.objs.size + 1 := Heap.size_push ..
  apply callType_new F.called_enumerate (by decide) (F.typeCall_enumerate_1 _) (F.newCall_enumerate_1 _) (fun obj => F.args_object_init_2 obj _) F.entry_enumerate_new (meets_enumB B)
  refine ⟨h1, ?_⟩
  show _ ∧ _
  have he := Heap.get?_push_size (s.heap.push o) (o := { cls := .type "enumerate", data := .fields #[.none, .bool false, .ref s.heap.objs.size, rawInt 0, .none, .none] }) rfl
  rw [hz] at he ⊢
  exact ⟨⟨_, he, rfl⟩, h _ he (Heap.get?_push_of_some _ (Heap.get?_push_size _ B.free)) fun b u e => Heap.get?_push_of_some _ (Heap.get?_push_of_some _ e)⟩
def ItT (K : PySem.W.Frag) (a : Addr) : It :=
  ⟨fun i H => ∃ (xs : List V) (x : V), SqT K H a xs ∧ xs[i]? = some x, fun i H v H' => ∃ T x, v = .ref T ∧ H T = none ∧ H' = upd H T (.tup [.int (i : Nat), x]) ∧ ∀ xs, SqT K H a xs → xs[i]? = some x, fun i H => ∃ xs : List V, SqT K H a xs ∧ xs.length = i⟩
theorem walk_enumT {K : PySem.W.Frag} {a : Addr} {xs : List V} : Walk (ItT K a) xs.length (fun H => SqT K H a xs) (fun i H v H' => ∃ T x, v = .ref T ∧ H T = none ∧ H' = upd H T (.tup [.int (i : Nat), x]) ∧ xs[i]? = some x) :=
  ⟨fun i _ hi q => ⟨xs, xs[i], q, List.getElem?_eq_getElem hi⟩, fun _ q => ⟨xs, q, rfl⟩, fun i H v H' _ q ⟨T, x, h1, h2, h3, h4⟩ => ⟨T, x, h1, h2, h3, h4 xs q⟩⟩
theorem turn_enumT {P : Program} {w : World} {K : PySem.W.Frag} {elts : List Expr} {kk : Nat} {tpos : Pos} (a e it : Addr) (hae : a ≠ e) (hai : a ≠ it) :
    Turn P w K (.Tuple elts kk tpos) (ItT K a) [e, it] e (fun i h => (∃ old, IsEnum h e it ((i : Nat) : Int) old) ∧ h.IsTupleIter it a i ∧ e ≠ it) := by
  refine ⟨by simp, ?_, ?_, ?_, ?_, ?_⟩
  · rintro i h ⟨⟨old, he⟩, ⟨o, ho, hc, hd⟩, _⟩ b hb
    rcases List.mem_cons.mp hb with rfl | hb
    · exact ⟨_, he, fun v q => nomatch q⟩
    · rw [List.mem_singleton] at hb
      subst hb
      exact ⟨o, ho, fun v q => by rw [hd] at q; cases q⟩
  · rintro i h h' ⟨⟨old, he⟩, ⟨o, ho, r⟩, hne⟩ k
    exact ⟨⟨old, k e (by simp) _ he⟩, ⟨o, k it (by simp) o ho, r⟩, hne⟩
  · rintro X rfl rfl rfl hc i pins s σ H E I hf ⟨⟨old, he⟩, hit, hne⟩ ⟨xs, x, hq, hx⟩
    obtain ⟨its, rv, p, hz⟩ := I.tuple hq
    obtain ⟨u, hu, ru⟩ := rv.get hx
    have hlt : i < its.toArray.size := by
      have := (List.getElem?_eq_some_iff.mp hu).1
      simpa using this
    have hel : e < s.heap.objs.size := Heap.lt_size he
    have hil : it < s.heap.objs.size := by
      obtain ⟨_, q, _⟩ := hit
      exact Heap.lt_size q
    refine wpAny_pyNext_enum_itemD (Draws.tuple (by simpa using I.ok.hd hc) it a hai its.toArray) he ⟨hit, p⟩ hlt hne (fun z => ?_) fun y h' tk hP ho hit' hT hsz hk => ?_
    · rcases List.mem_cons.mp z with z | z
      · exact hne z
      · exact hae (List.mem_singleton.mp z).symm
    have ey : y = u := by
      have : its[i]? = some y := by simpa using hP
      rw [hu] at this
      exact (Option.some.inj this).symm
    subst ey
    refine ⟨_, rfl, wpAny_letOwnedTupleGo_enum (s := { s with heap := h', toks := tk + 1 }) ho fun h'' he' sb => ?_⟩
    have hT2 := (sb.2 s.heap.objs.size (Nat.ne_of_gt hel)).trans hT
    have new : ObjOk X.prog X.w (upd H s.heap.objs.size (.tup [.int (i : Nat), x])) h'' s.heap.objs.size (.tup [.int (i : Nat), x]) :=
      ⟨by show 2 ≤ sizeLine; decide, _, .cons ⟨_, rfl⟩ (.cons ru .nil), ⟨_, hT2, rfl, _, rfl⟩⟩
    have J := I.turnedNew (ch := [e, it]) (t' := tk + 1) (fun b ob hb q => (sb.2 b (fun y => hb (by simp [y]))).trans (hk b ob (fun y => hb (by simp [y])) (fun y => hb (by simp [y])) q)) hf (Nat.le_refl _) new
    refine ⟨.ref s.heap.objs.size, _, J, rfl, ⟨_, x, rfl, I.hok.fresh (Nat.le_refl _), rfl, fun ys hy => by rw [I.tuple_inj hy hq]; exact hx⟩, ⟨⟨y, ?_⟩, ?_, hne⟩, fun b hb => ?_⟩
    · rw [show ((i + 1 : Nat) : Int) = (i : Int) + 1 by omega]
      exact he'
    · obtain ⟨⟨o, ho', r⟩, _⟩ := hit'
      exact ⟨o, (sb.2 it (Ne.symm hne)).trans ho', r⟩
    · have hb' : b < s.heap.objs.size := by
        rcases List.mem_cons.mp hb with y | y
        · rw [y]
          exact hel
        · rw [List.mem_singleton.mp y]
          exact hil
      rw [upd_ne (Nat.ne_of_lt hb')]
      exact (hf b hb).1
  · rintro X rfl rfl rfl hc i pins s σ H E I hf ⟨⟨old, he⟩, hit, hne⟩ ⟨xs, hq, hx⟩
    obtain ⟨its, rv, p, hz⟩ := I.tuple hq
    obtain ⟨f0, f1, f2, f3, f4, f5⟩ := hf it (by simp)
    have hl : i = its.toArray.size := by
      rw [List.size_toArray, ← rv.length]
      exact hx.symm
    subst hl
    exact wpAny_pyNext_enum_endD (Draws.tuple (by simpa using I.ok.hd hc) it a hai its.toArray) he ⟨hit, p⟩ fun h' eb => ⟨rfl, I.turned (t' := s.toks) (fun b o hb q => eb b o hb q) f0 f1 f3 f4 f5⟩
  · rintro A i s Q E ⟨⟨_, he⟩, _⟩ h
    exact wpAny_pyIter_enum he h
def iEnumT (K : PySem.W.Frag) (ta : TA) : TI := fun σ H R => ta σ H fun vs H1 => ∃ a xs, vs = [.ref a] ∧ SqT K H1 a xs ∧ R (ItT K a) H1
theorem pi_enumT {X : Cx} {e : Expr} {ta : TA} {p pos tpos : Pos} {elts : List Expr} {kk : Nat} (hg : Gl X "enumerate") (hm : X.mg "enumerate" = none) (ha : PA X [e] ta) (hs : starEach [e] X.env = [(false, eval e X.env)] := by rfl) :
    PI X (.Tuple elts kk tpos) (.Call (.Name "enumerate" p) [e] [] pos) (iEnumT X.K ta) := by
  constructor
  intro pins s σ H R I h
  refine Call_ (ld_blt I hg hm boot_enumerate ?_)
  refine PyProof.Rows.callWith_type1 ?_ hs rfl
  refine thn (ha.run pos pins s σ H _ I h) ?_
  rintro us s1 ⟨vs, H1, I1, r1, a, xs, ex, hq, q⟩
  subst ex
  obtain ⟨u, rfl, ru⟩ := vals1 r1
  obtain rfl : u = Value.ref a := ru
  obtain ⟨its, rv, p', hz⟩ := I1.tuple hq
  have hal : a < s1.heap.objs.size := by
    obtain ⟨o, ho, _⟩ := p'
    exact Heap.lt_size ho
  refine call_enumB (begins_tuple a its.toArray) p' fun h' he hit hk => wpAny_pyIter_enum he ?_
  have J : L2.Inv X pins σ H1 { s1 with heap := h' } := I1.kept (t' := s1.toks) hk
  refine ⟨_, [s1.heap.objs.size + 1, s1.heap.objs.size], _, _, H1, rfl, J, turn_enumT a (s1.heap.objs.size + 1) s1.heap.objs.size (Nat.ne_of_lt (Nat.lt_succ_of_lt hal)) (Nat.ne_of_lt hal), ⟨⟨.none, he⟩, ⟨_, hit, rfl, rfl⟩, Nat.succ_ne_self _⟩, fun b hb => ?_, q⟩
  have hle : s1.heap.objs.size ≤ b := by
    rcases List.mem_cons.mp hb with y | y
    · rw [y]
      exact Nat.le_succ _
    · rw [List.mem_singleton.mp y]
      exact Nat.le_refl _
  exact I1.fpOk hle (I1.hok.fresh hle)
/-- the pairs of a place and what stands there -/
def enumD (ds : List D) : List D := (List.range ds.length).map fun i => .tuple [.int (i : Nat), ds.getD i .none]
theorem enumD_len (ds : List D) : (enumD ds).length = ds.length := by simp [enumD]
theorem enumD_get {ds : List D} {i : Nat} {d : D} (h : (enumD ds)[i]? = some d) : ∃ x, ds[i]? = some x ∧ d = .tuple [.int (i : Nat), x] := by
  unfold enumD at h
  rw [List.getElem?_map] at h
  by_cases hi : i < ds.length
  · rw [List.getElem?_range hi] at h
    cases h
    refine ⟨ds[i], List.getElem?_eq_getElem hi, ?_⟩
    show PyData.tuple [PyData.int (i : Nat), ds.getD i .none] = _
    rw [List.getD_eq_getElem?_getD, List.getElem?_eq_getElem hi]
    rfl
  · rw [List.getElem?_eq_none_iff.mpr (by simpa using hi)] at h
    cases h
theorem vi_enumT {C : Cn} {Γ : List Sl} {te : TE} {ds : List D} (h : VE C te Γ (Is (.tuple ds))) : VI C (iEnumT C.K (tCons te tNil)) Γ (Is (enumD ds)) := fun B H σ F T q => h B H σ F _ fun d v B1 H1 r s k => by
  cases r
  obtain ⟨a, xs, rfl, h1, h2⟩ := dp_tup k
  refine ⟨a, xs, rfl, same_t (F.step s).sub h1, q _ _ B1 H1 _ _ rfl s (by rw [enumD_len, ← dpall_len h2]; exact walk_enumT) (fun B2 H2 e1 e2 => same_t e2 (same_t e1 h1)) ?_⟩
  rintro i x H2 H2' ⟨T, y, rfl, hT, rfl, hy⟩ B2 d e1 e2 hd
  obtain ⟨z, hz, rfl⟩ := enumD_get hd
  obtain ⟨v, hv, kv⟩ := dpall_get h2 hz
  rw [hy] at hv
  cases hv
  have st := Stp.new (dl := C.dl) (o := .tup [.int (i : Nat), y]) e2 hT
  exact ⟨_, st, .tup (Or.inl (Or.inl upd_same)) (.cons (.int _) (.cons (dp_mono st.ext (dp_mono e1 kv)) .nil))⟩
/-! ### x(lambda: e) -/
theorem pe_lamF {X : Cx} {TT : (XK → Hp → VK → Prop) → Hp → VK → Prop} {x a q : Str} {st : Stmt} {g c P : Addr} {gd : FuncData} {k : Nat} {Ng : List Str} {params : Arguments} {body : Expr} {scope : Scope} {t : XK → TE} {p lpos pos : Pos} (F : Fun X.K x x st g gd) (gu : X.A.guards = some []) (hg : Gl X x) (hm : X.mg x = some (.ref g))
    (hb : KBinds X.K gd [a] [] (fun us _ => us) (fun vs _ => vs)) (Sg : FnScope Ng [a] (defScope st)) (hNg : Ng[0]? = some a) (hva : Vis (defScope st) a) (hq : X.env.qual ++ "<lambda>" = q)
    (hG : ∀ cdv, GivesTo X Ng x (defScope st) g cdv (defBody st) a q TT)
    (TB : TabB X.base X.mg c P) (hcode : X.env.code = .ref c) (hr : Room (k + 2) X.A) (L : LamS X.env.scope scope) (hdef : defaultsOf params X.env = ([], []))
    (hbind : ∀ (q : Str) (cl : List (Str × Addr)) (pm cv ctv : Value), bindArgs (PySem.W.kla_fn "<lambda>" q params body scope cl pm cv ctv) ⟨[], []⟩ = pure [])
    (hbody : ∀ (A : Around) (outer : List Env) (s : Shared) (H : Hp) (E : XK) (f c' : Addr), (A.deeper (lamEnv X scope s.heap.objs.size f c')).guards = some [] → Room k (A.deeper (lamEnv X scope s.heap.objs.size f c')) → PE (lamCx X A outer s H E scope f c') body (t E))
    (hdb : (x == ("__debug__" : Str)) = false := by decide) (hd : (a == ("__debug__" : Str)) = false := by decide) (hcd : (a == ("__classdict__" : Str)) = false := by decide) :
    PE X (.Call (.Name x p) [.Lambda params body scope lpos] [] pos) (tLamM P q TT t) := by
  subst hq
  obtain ⟨oc, od, kV, doc, pm, an, cdv, ct, osl, rfl, lk, hcd'⟩ := F.ex
  refine pe_lamcallM gu hg hm F.kp lk hcd' ?_ Sg hNg hva (hG cdv) TB hcode hr L hdef hbind hbody hdb hd hcd
  intro s us hK hl
  rw [List.append_nil] at hl ⊢
  exact hb.to s us [] hK hl
end Ly

/-! Lye: sorted(a tuple of ints). -/
namespace Ly
open PySem PySem.Spec PyProof.Rows L2
section
variable {P : Program} {w : World} {A : Around} {E : Value → Shared → Prop} {s : Shared} {a : Addr}
theorem sorted_tupI {its : List Value} {ns : List Int} {Q : Value → Shared → Prop} (hl : s.heap.IsTuple a its.toArray) (hI : IntsAre its ns) (hz : its.length ≤ sizeLine)
    (hQ : ∀ (h1 h' : Heap) (out : Array Value) (c : Nat) (ms : List Int), (∀ b o, s.heap.get? b = some o → h1.get? b = some o) → (∀ b o, h1.get? b = some o → h'.get? b = some o) → h'.get? h1.objs.size = some (seqObj "list" out c) → IntsAre out.toList ms → ms.Perm ns → ms.Pairwise (· ≤ ·) → Q (.ref h1.objs.size) { s with heap := h' }) :
    wpAny (model P w) A (call (.builtin "sorted") [.ref a]) Q E s := by
  obtain ⟨o, ho, hc, n, hd⟩ := hl
  apply Calls.call_function_entry kind_sorted plain_sorted entry_sorted (args_sorted1 _)
  unfold Builtin.«sorted»
  apply wpAny_bind (m := checkCount "sorted" 1 1 _)
  apply wpAny_pure
  apply wpAny_bind
  apply wpAny_collect_seq a (.inr rfl) ho hc hd (fun h1 k1 => ?_) (by rw [List.size_toArray]; exact hz)
  have et : its.toArray.toList = its := by simp
  rw [et]
  apply wpAny_bind
  apply wpAny_newList ?_ hz
  have hL : (h1.push (seqObj "list" its.toArray 0)).get? h1.objs.size = some (seqObj "list" its.toArray 0) := Heap.get?_push_size _ rfl
  apply wpAny_bind
  apply wpAny_holding
  refine wpAny_call_entry slot_list_sort (show Shared.TypeIs { s with heap := h1.push (seqObj "list" its.toArray 0) } _ _ from ⟨_, hL, rfl⟩) entry_list_sort ?_ (args_list_sort _)
  refine list_sort_treeAny (s := { s with heap := h1.push (seqObj "list" its.toArray 0) }) hL hI hz fun out ms r1 r2 r3 => ⟨_, rfl, ?_⟩
  obtain ⟨c, e⟩ := sortedHeap_at (vs := its) (out := out) hL
  refine wpAny_pure ⟨_, rfl, hQ h1 _ out c ms k1 (fun b u g => ?_) e r1 r2 r3⟩
  have lt := Heap.lt_size g
  show (sortedHeap (h1.push (seqObj "list" its.toArray 0)) h1.objs.size its out).get? b = some u
  rw [sortedHeap_old (Nat.ne_of_lt lt) (by rw [size_push']; exact Nat.lt_succ_of_lt lt)]
  exact Heap.get?_push_of_some _ g
end
def rSortedTI (K : PySem.W.Frag) : List V → Hp → VK → Prop := fun vs H Q => ∃ (a : Addr) (ns : List Int), vs = [V.ref a] ∧ SqT K H a (ns.map V.int) ∧
  ∀ (ms : List Int) (p : Addr), ms.Perm ns → ms.Pairwise (· ≤ ·) → H p = none → Q (.ref p) (upd H p (.lst (ms.map V.int)))
theorem cr_sortedTI {X : Cx} : CallR X (.builtin "sorted") (rSortedTI X.K) := by
  intro pins s σ H vs us Q I r h
  obtain ⟨a, ns, rfl, hs, q⟩ := h
  obtain ⟨its, rv, hl, hz⟩ := I.tuple hs
  rw [Vals.ref1 r]
  have hi := rv.ints
  refine sorted_tupI hl hi (by rw [← rv.length]; exact hz) fun h1 h' out c ms k1 k2 e r1 r2 r3 => ?_
  have I1 : Inv X pins σ H { s with heap := h1 } := I.kept (t' := s.toks) k1
  have hn : H h1.objs.size = none := I1.hok.fresh (Nat.le_refl _)
  have hlen : (ms.map V.int).length ≤ sizeLine := by
    rw [List.length_map, r2.length_eq]
    rw [List.length_map] at hz
    exact hz
  exact ⟨.ref h1.objs.size, _, I1.laid (t' := s.toks) k2 (Nat.le_refl _) (show ObjOk X.prog X.w _ _ _ (.lst (ms.map V.int)) from ⟨hlen, out.toList, c, vals_of_ints r1, e⟩), rfl, q ms _ r2 r3 hn⟩
/-- sorted(t), t a tuple of numbers -/
theorem vl_sortedTN {C : Cn} {te : TE} {Γ : List Sl} {ns : List Nat} (h : VE C te Γ (Is (tnD ns))) : VL C (tCB (rSortedTI C.K) (tCons te tNil)) Γ (fun ds => ∃ ms : List Nat, ds = nsD ms ∧ ms.Perm ns ∧ ms.Pairwise (· ≤ ·)) := fun B H σ F Q q => h B H σ F _ fun d v B1 H1 e1 s1 k1 => by
  cases e1
  obtain ⟨a, xs, rfl, g1, g2⟩ := dp_tup k1
  rw [ns_cast] at g2
  rw [dpall_ints g2] at g1
  refine ⟨a, _, rfl, same_t (F.step s1).sub g1, fun ms p hp hs hn => ?_⟩
  obtain ⟨zs, rfl, hz⟩ := perm_map_inv hp ns rfl
  refine q (nsD zs) p _ B1 _ ⟨zs, rfl, hz, ?_⟩ (s1.trans F.dlNow (Stp.newM (F.step s1).sub hn)) (back_none F s1 hn) ((F.step s1).sub.free hn) upd_same ?_
  · rw [List.pairwise_map] at hs
    exact hs.imp fun h => by omega
  · rw [ns_cast]
    exact dpall_map _ _ (fun i => .int i) _
end Ly

/-! Lyf: the first statement of a law that makes lambdas; told, by what is checked. -/
namespace Ly
open PySem PySem.Spec PyProof.Rows L2 LamX
theorem vs_beginT {K : PySem.W.Frag} {B0 H0 : Hp} {P : Addr} {ns : List Int} {n : Nat} {t : TS} {R : D → Prop} {s : Int} (hn : ns.length ≤ 63) (hT : TabS H0 P qLam) (hB : ∀ a ps, B0 a ≠ some (.tbl ps)) (h0 : 0 ≤ s := by decide) (h1 : s ≤ 1000 := by decide)
    (k : ∀ B H p q, TabS H P qLam → (∀ a ps, B a ≠ some (.tbl ps)) → VS ⟨K, B, H, some (p, q)⟩ t (.rd (ns.map V.int) :: .deal :: List.replicate n .no) { nx := fun _ => False, rt := R }) :
    VS ⟨K, B0, H0, none⟩ (tSeq (tAsg (tCallK (Dr K) (fun vs _ => vs) E0 (tCons (tVar 0) (tCons (tC (.int s)) tNil)) tNil) (gName 1)) t) (.rd (ns.map V.int) :: .no :: List.replicate n .no) { nx := fun _ => False, rt := R } := fun B H1 σ E F n' r b c => by
  obtain ⟨a, ea, hS⟩ := F.slot 0 _ rfl
  have no : ∀ (i : Nat) sl, (List.replicate n Sl.no)[i]? = some sl → sl = .no := fun i sl h => by
    rw [List.getElem?_replicate] at h
    split at h
    · exact (Option.some.inj h).symm
    · cases h
  refine ⟨.ref a, ea, B, a, ns, s, rfl, F.sub, hS, h0, h1, hn, fun p q B' H' st hp hq hBp hBq hd => ?_⟩
  have tb := st.tab P (F.st.tab P hT)
  have nb := st.bt (F.st.bt hB)
  refine k B' H' p q tb nb B' H' _ E ⟨Stp.refl st.sub, fun p' q' e => ?_, ?_, fun i sl h => ?_, fun i j x ds es h => ?_⟩ (fun _ _ _ _ e => e.elim) (fun d v B2 H2 rd s2 kd => ?_) (fun _ _ _ _ e => e.elim) fun _ _ _ _ e => e.elim
  · cases e
    exact ⟨hd, hBp, hBq⟩
  · rw [List.length_set]
    exact F.len
  · match i, h with
    | 0, h =>
      cases h
      refine ⟨a, ?_, same_l st.ext hS⟩
      rw [List.getElem?_set_ne (by decide)]
      exact ea
    | 1, h =>
      cases h
      refine ⟨p, q, rfl, ?_⟩
      rw [List.getElem?_set_self (by rw [F.len]; exact Nat.succ_lt_succ (Nat.succ_pos _))]
    | i + 2, h =>
      rw [no i sl h]
      trivial
  · exfalso
    match i, h with
    | 0, h => cases h
    | 1, h => cases h
    | i + 2, h => cases no i _ h
  · refine r d v B2 H2 rd ?_ kd
    have keep : ∀ a o, H1 a = some o → (∀ ps, o ≠ .tbl ps) → H2 a = some o := fun a o e nt => by
      refine s2.keepN a o (st.keepN a o e (fun ⟨_, _, z, _⟩ => nomatch z) nt) (fun ⟨p', q', e1, e2⟩ => ?_) nt
      cases e1
      rcases e2 with e2 | e2
      · subst e2
        rw [hp] at e
        cases e
      · subst e2
        rw [hq] at e
        cases e
    have s0 : Stp none B H1 B2 H2 := ⟨st.ext.trans s2.ext, s2.sub, fun a o e _ nt => keep a o e nt, fun a ha hb => s2.out a (st.there (fun _ _ e => nomatch e) ha) (st.out a ha hb), (fun _ _ e => nomatch e), fun a h => s2.stay a (st.stay a h), fun T t => s2.tab T (st.tab T t), fun h => s2.bt (st.bt h)⟩
    exact F.st.trans (fun _ _ e => nomatch e) s0
end Ly

/-! Lyg: // by any positive number; the end of a law whose numbers are that great. -/
namespace Ly
open PySem PySem.Spec PyProof.Rows L2

section
variable {X : Cx}
/-- // where the library's own long division may be asked -/
theorem op_fdivP {k : Nat} (hN : X.base.NoSeer) (ht : X.prog.given.tree = none) (hs : X.stack = X.env :: X.outer) (hg : X.env.scope.isGenerator = false) (hc : X.env.scope.isCoroutine = false) (hr : Room k X.A) (hk : 32 ≤ k) :
    OpR X (binaryOp .FloorDiv) (rI (fun _ j => 0 < j) fun i j => .int (i / j)) := by
  intro pins s σ H x y v u Q I rx ry h
  obtain ⟨i, j, rfl, rfl, h0, q⟩ := h
  have h0 : (0 : Int) < j := h0
  obtain ⟨t, rfl⟩ := rx
  obtain ⟨t', rfl⟩ := ry
  have seer : SeerAt (model X.prog X.w) X.A s.heap := SeerAt.of (hN.keeps I.bk) ht (by rw [I.ok.frames, hs]) hg hc I.ok.blt I.ok.glob
  have room : PylongRoom (model X.prog X.w) X.A s := PylongRoom.of I.nolimit (by have := hr.dp; show X.A.depth + 100 < _; omega) seer
  refine floordiv_int (by omega) ?_ (.inr room)
  rw [Int.fdiv_eq_ediv_of_nonneg i (by omega)]
  exact ⟨.int (i / j), H, I.tok _, ⟨_, rfl⟩, q⟩
end
end Ly

/-! Lyh: a tuple turned round, set(a list of ints), len(a set), repr(an int) anywhere. -/
namespace Ly
open PySem PySem.Spec PyProof.Rows L2

section
variable {prog : Program} {w : World} {A : Around} {E : Value → Shared → Prop} {s : Shared}
theorem revPick (xs : Array Value) : ((List.range xs.size).filterMap fun (m : Nat) => xs[(((xs.size : Int) - 1) + (m : Int) * (-1)).toNat]?).toArray = xs.toList.reverse.toArray := by
  congr 1
  have e : ((List.range xs.size).map fun (m : Nat) => xs[(((xs.size : Int) - 1) + (m : Int) * (-1)).toNat]?) = xs.toList.reverse.map some := by
    apply List.ext_getElem?
    intro i
    rw [List.getElem?_map, List.getElem?_map]
    by_cases hi : i < xs.size
    · rw [List.getElem?_range hi, List.getElem?_reverse (by rw [Array.length_toList]; exact hi), Array.length_toList]
      have e2 : (((xs.size : Int) - 1) + (i : Int) * (-1)).toNat = xs.size - 1 - i := by omega
      simp only [Option.map_some, e2, Array.getElem?_toList]
      rw [Array.getElem?_eq_getElem (by omega)]
      rfl
    · rw [List.getElem?_eq_none_iff.mpr (by simpa using hi), List.getElem?_eq_none_iff.mpr (by simpa using hi)]
      rfl
  have e3 := congrArg (fun l => List.filterMap id l) e
  simp only [List.filterMap_map] at e3
  rw [show (fun (m : Nat) => xs[(((xs.size : Int) - 1) + (m : Int) * (-1)).toNat]?) = (id ∘ fun (m : Nat) => xs[(((xs.size : Int) - 1) + (m : Int) * (-1)).toNat]?) from rfl, e3]
  rw [show (id ∘ some : Value → Option Value) = some from rfl, List.filterMap_some]
theorem slicedBack {sl : Addr} {vl vu vs : Value} {n : Nat} {Q : Int × Int × Nat → Shared → Prop} (hs : s.heap.IsSliceOf sl vl vu vs) (pl : IsPart vl none) (pu : IsPart vu none) (ps : IsPart vs (some (-1)))
    (h : Q ((n : Int) - 1, -1, n) s) : wpAny (model prog w) A (Builtin.Slice.sliceApplied (.ref sl) (pure (n : Int))) Q E s := by
  obtain ⟨os, f1, f2, f3⟩ := id hs
  unfold Builtin.Slice.sliceApplied Builtin.Slice.sliceFields
  refine wpAny_bind (wpAny_bind (wpAny_field f1 f3 (x := vl) rfl (wpAny_bind (wpAny_field f1 f3 (x := vu) rfl (wpAny_bind (wpAny_field f1 f3 (x := vs) rfl (wpAny_pure ?back)))))))
  refine wpAny_bind (HT.slicePart_ ps ?_)
  rw [if_neg (show ¬ (((some (-1) : Option Int).getD 1 == 0) = true) by decide)]
  refine wpAny_bind (HT.slicePart_ pl (wpAny_bind (HT.slicePart_ pu (wpAny_bind (wpAny_pure (wpAny_pure ?fin))))))
  have e : Builtin.Slice.slicePlaces ((n : Int) - 1) (-1) (-1) = n := by
    unfold Builtin.Slice.slicePlaces
    rw [if_neg (by omega)]
    by_cases hn : n = 0
    · subst hn
      decide
    · rw [if_pos (by omega)]
      have e2 : ((n : Int) - 1 - -1 - 1) / -(-1) + 1 = (n : Int) := by
        rw [show -(-1 : Int) = 1 from rfl, Int.ediv_one]
        omega
      rw [e2]
      rfl
  show Q (_, -1, Builtin.Slice.slicePlaces ((n : Int) - 1) (-1) (-1)) s
  rw [e]
  exact h
theorem getRev {t sl : Addr} {items : Array Value} {vl vu vs : Value} {Q : Value → Shared → Prop} (ht : IsTup s.heap t items) (hs : s.heap.IsSliceOf sl vl vu vs) (pl : IsPart vl none) (pu : IsPart vu none) (ps : IsPart vs (some (-1)))
    (h : Q (.ref s.heap.objs.size) { s with heap := s.heap.push { cls := .type "tuple", data := .seq items.toList.reverse.toArray } })
    (hsz : items.size ≤ sizeLine) : wpAny (model prog w) A (getItem (.ref t) (.ref sl)) Q E s := by
  have fits : sizeOk (.seq items.toList.reverse.toArray) := by
    show items.toList.reverse.toArray.size ≤ sizeLine
    rw [List.size_toArray, List.length_reverse, Array.length_toList]
    exact hsz
  obtain ⟨os, f1, f2, f3⟩ := id hs
  have hTs : s.TypeIs (.ref sl) "slice" := ⟨os, f1, f2⟩
  unfold getItem
  try with_reducible refine wpAny_holding ?_
  first | refine wpAny_bind (wpAny_pure ?_) | skip
  refine wpAny_bind (wpAny_sequenceKey ht.typeIs (by decide) (wpAny_bind (wpAny_callSpecial?_slot (name := Str.ofString "__getitem__") ht.typeIs PyProof.Rows.slot_tuple_getitem
    (wpAny_call_entry PyProof.Rows.slot_tuple_getitem ht.typeIs entry_tuple_getitem ?_ (args_tuple_getitem _ _)))))
  show wpAny _ _ (Builtin.Tuple.tupleItemsOf (.ref t) >>= _) _ _ s
  refine wpAny_bind (tupleItemsOf_ ht (wpAny_bind (wpAny_typeOf hTs ?_)))
  rw [if_pos (by decide)]
  refine wpAny_bind (slicedBack hs pl pu ps ?_)
  have no : ¬ ((((items.size : Int) - 1) == 0 && (-1 : Int) == 1 && items.size == items.size) = true) := by
    intro q
    rw [Bool.and_eq_true, Bool.and_eq_true] at q
    exact absurd q.1.2 (by decide)
  show wpAny _ _ (if (((items.size : Int) - 1) == 0 && (-1 : Int) == 1 && items.size == items.size) = true then _ else _) _ _ s
  rw [if_neg no, revPick]
  first
    | exact wpAny_bind (m := Builtin.Tuple.tupleExact _) (wpAny_newObj_type (wpAny_pure ⟨_, rfl, wpAny_pure h⟩) fits)
    | exact wpAny_bind (m := Builtin.Tuple.tupleExact _) (wpAny_newObj_type (wpAny_bind (wpAny_pure (wpAny_pure ⟨_, rfl, wpAny_pure h⟩))) fits)
    | exact wpAny_bind (wpAny_bind (m := Builtin.Tuple.tupleExact _) (wpAny_newObj_type (wpAny_pure (wpAny_pure ⟨_, rfl, wpAny_pure h⟩)) fits))
    | exact wpAny_bind (wpAny_bind (m := Builtin.Tuple.tupleExact _) (wpAny_newObj_type (wpAny_pure ⟨_, rfl, wpAny_pure h⟩) fits))
end
section
variable {X : Cx}
/-- t[::-1] -/
def tRevT (K : PySem.W.Frag) (te : TE) : TE := fun σ H Q => te σ H fun x H1 => ∃ a xs, x = .ref a ∧ SqT K H1 a xs ∧ ∀ p, H1 p = none → Q (.ref p) (upd H1 p (.tup xs.reverse))
theorem pe_revT {e : Expr} {te : TE} {k : Nat} {p1 p2 p3 pos : Pos} (he : PE X e te) : PE X (.Subscript e (.Slice none none (some (.UnaryOp .USub (.Constant (.int 1) k p1) p2)) p3) pos) (tRevT X.K te) := by
  refine ⟨fun pins s σ H Q I h => Subscript_ (thn (he.run pins s σ H _ I h) fun v s1 ⟨x, H1, I1, r1, a, xs, ex, hx, q⟩ => ?_)⟩
  subst ex
  cases r1
  have back : PO X (some (.UnaryOp .USub (.Constant (.int 1) k p1) p2)) (tPart (tUn (rU fun i => .int (-i)) (tC (.int 1)))) := po_some (pe_un un_neg pe_int)
  refine wpAny_Slice (thn (po_none.run pins s1 σ H1 (fun o H2 => o = none ∧ H2 = H1) I1 ⟨rfl, rfl⟩) fun vl s2 ⟨l, H2, I2, pl, z1, z2⟩ => ?_)
  subst z1 z2
  refine thn (po_none.run pins s2 σ H2 (fun o H3 => o = none ∧ H3 = H2) I2 ⟨rfl, rfl⟩) fun vu s3 ⟨u, H3, I3, pu, z3, z4⟩ => ?_
  subst z3 z4
  refine thn (back.run pins s3 σ H3 (fun o H4 => o = some (-1) ∧ H4 = H3) I3 ⟨1, rfl, -1, rfl, rfl, rfl⟩) fun vs s4 ⟨o, H4, I4, ps, z5, z6⟩ => ?_
  subst z5 z6
  have I5 : Inv X pins σ H4 { s4 with heap := s4.heap.push { cls := .type "slice", data := .fields #[vl, vu, vs] } } := I4.kept (t' := s4.toks) fun b ob q => Heap.get?_push_of_some _ q
  obtain ⟨its, r, ht, hz⟩ := I5.tuple hx
  have hlen := r.length
  show wpAny (model X.prog X.w) X.A (subscriptTail e (.Slice none none (some (.UnaryOp .USub (.Constant (.int 1) k p1) p2)) p3) (.ref a) (.ref s4.heap.objs.size)) (EP X pins σ Q) X.xe { s4 with heap := s4.heap.push { cls := .type "slice", data := .fields #[vl, vu, vs] } }
  refine tail_any (ops := [.ref a, .ref s4.heap.objs.size]) ht.typeIs PyProof.Rows.slot_tuple_getitem.lookup ?_ (by with_unfolding_all rfl)
  refine getRev ht (Heap.IsSliceOf.new _ vl vu vs) pl pu ps ?_ (by rw [List.size_toArray]; omega)
  refine ⟨.ref _, _, I5.laid (t' := s4.toks) (o := .tup xs.reverse) (fun b ob q => Heap.get?_push_of_some _ q) (Nat.le_refl _) ?_, rfl, q _ (I5.hok.fresh (Nat.le_refl _))⟩
  exact ⟨by rw [List.length_reverse]; exact hz, _, r.reverse, IsTup.new _ _⟩
/-- repr(an int), also within an except suite -/
def rReprI : List V → Hp → VK → Prop := fun xs H Q => ∃ i : Int, xs = [.int i] ∧ (PyData.int i).showable = true ∧ Q (.str (PyData.int i).shown) H
theorem cr_reprI : CallR X (.builtin "repr") rReprI := by
  intro pins s σ H xs us Q I r h
  obtain ⟨i, rfl, hs, q⟩ := h
  obtain ⟨u, rfl, ru⟩ := vals1 r
  obtain ⟨t, rfl⟩ := ru
  refine PySem.P.repr_of_int (by simpa [PyData.showable] using hs) ?_
  refine ⟨.str _, H, I.tok _, ⟨_, rfl⟩, ?_⟩
  simp only [PyData.shown] at q
  exact q
/-- len(a set of ints) -/
def rLenSet (w : World) : List V → Hp → VK → Prop := fun xs H Q => ∃ (a : Addr) (S : Int → Bool) (n : Nat), xs = [.ref a] ∧ H a = some (SetO w a S n) ∧ ((∃ l : List Int, l.Nodup ∧ (∀ k, k ∈ l ↔ S k = true) ∧ l.length = n) → Q (.int (n : Nat)) H)
theorem cr_lenSet : CallR X (.builtin "len") (rLenSet X.w) := by
  intro pins s σ H xs us Q I r h
  obtain ⟨a, S, n, rfl, ha, q⟩ := h
  rw [Vals.ref1 r]
  obtain ⟨o, es, ep, t, ho, hx, hd, g, nd, hm, hb, hf, hn, _⟩ := setO_get I ha
  have q := q ⟨es.toList.map keyOf, nd, fun k => (hm k).symm, by rw [List.length_map, Array.length_toList, hn]⟩
  refine call_len_set ho hx hd hf (by rw [hn] at hb ⊢; unfold scanBound at hb; omega) ⟨.int (n : Nat), H, I.tok _, ⟨_, by rw [hn]⟩, q⟩
end
end Ly

/-! Lyi: set(a list of ints). -/
namespace Ly
open PySem PySem.Spec PyProof.Rows L2
section
variable {P : Program} {w : World} {A : Around} {E : Value → Shared → Prop} {s : Shared}
/-- the empty set that set() begins with -/
abbrev set0 (w : World) : Obj := { cls := .type "set", dict := none, data := .set #[] 0 (.fresh 0 0 (!w.params.followText "set-order")) }
abbrev withSet0 (w : World) (s : Shared) : Shared := { s with heap := s.heap.push (set0 w) }
/-- what the filling of the set gives -/
def Filled (w : World) (s : Shared) (ns : List Int) (r : Value) (s' : Shared) : Prop :=
  r = .none ∧ ∃ h' tk c, s' = { s with heap := h', toks := tk } ∧ SetR w h' s.heap.objs.size (fun j => decide (j ∈ ns)) c ∧ c ≤ ns.length ∧ ∀ b o, s.heap.get? b = some o → h'.get? b = some o
/-- the filling itself -/
theorem fill_run {l : Addr} {items : Array Value} (ns : List Int) (hA : A.in1.handled = none) (lt : l < s.heap.objs.size) (hl : (withSet0 w s).heap.IsList l items) (hit : IntsAre items.toList ns) (hb : ns.length + 1 < scanBound) (hz : items.size = ns.length) :
    codeAny (model P w) A (.builtin "set.update.loop" ⟨[.ref s.heap.objs.size, .ref (withSet0 w s).heap.objs.size], []⟩) (wants (Filled w s ns) E)
      { withSet0 w s with heap := (withSet0 w s).heap.push { cls := .type "list_iterator", data := .fields #[.ref l, .int 0 0] } } := by
  have sz : (withSet0 w s).heap.objs.size = s.heap.objs.size + 1 := Heap.size_push ..
  have nI : l ≠ (withSet0 w s).heap.objs.size := by rw [sz]; exact Nat.ne_of_lt (Nat.lt_succ_of_lt lt)
  have out : s.heap.objs.size ∉ [(withSet0 w s).heap.objs.size, l] := by
    rw [sz]
    simp only [List.mem_cons, List.not_mem_nil, or_false, not_or]
    exact ⟨Nat.ne_of_lt (Nat.lt_succ_self _), Nat.ne_of_gt lt⟩
  have val : ∀ (i : Nat) (v : Value), items[i]? = some v → ∃ k t, ns[i]? = some k ∧ v = .int k t := fun i v hv => by
    have hi : i < ns.length := hz ▸ (Array.getElem?_eq_some_iff.mp hv).1
    obtain ⟨t, e⟩ := PyProof.Rows.IntsAre.int_at hit i v (by rw [Array.getElem?_toList]; exact hv)
    have e2 : ns[i]? = some ns[i] := List.getElem?_eq_getElem hi
    exact ⟨ns[i], t, e2, by rw [e, List.getD_eq_getElem?_getD, e2]; rfl⟩
  refine set_update_ints ((Walks.list hA _ l nI items).toS) s.heap.objs.size out ns hz hb val (items.size - 0) 0 _ (by omega) (Nat.zero_le _) ⟨⟨_, Heap.get?_push_size _ rfl, rfl, rfl⟩, hl.push _⟩ ⟨0, Nat.le_refl 0, setR_new_at (Heap.get?_push_of_some _ (Heap.get?_push_size _ rfl))⟩ ?_
  intro s' c m hc hS
  obtain ⟨h', g2, d', tk', os'⟩ := s'
  have eg : g2 = s.gens := m.gens
  have ed : d' = s.drawn := m.drawn
  have eo : os' = s.os := m.os
  subst eg ed eo
  refine ⟨rfl, h', tk', c, rfl, hS, by omega, fun b o e => ?_⟩
  have b0 : b < s.heap.objs.size := Heap.lt_size e
  refine m.heap b o ?_ (Heap.get?_push_of_some _ (Heap.get?_push_of_some _ e))
  simp only [List.mem_cons, List.not_mem_nil, or_false, not_or]
  exact ⟨Nat.ne_of_lt b0, by rw [sz]; exact Nat.ne_of_lt (Nat.lt_succ_of_lt b0)⟩
set_option maxHeartbeats 3200000 in
theorem fill_init {l : Addr} {items : Array Value} (ns : List Int) (hh : A.handled = none) (hl : s.heap.IsList l items) (hit : IntsAre items.toList ns) (hb : ns.length + 1 < scanBound) :
    codeAny (model P w) A (.call (.builtin "set.__init__") ⟨[.ref s.heap.objs.size, .ref l], []⟩) (wants (Filled w s ns) E) (withSet0 w s) := by
  have hz : items.size = ns.length := by
    have := IntsAre.length hit
    rwa [Array.length_toList] at this
  have own : (withSet0 w s).TypeIs (.ref s.heap.objs.size) "set" := ⟨set0 w, Heap.get?_push_size _ rfl, rfl⟩
  refine codeAny_call_builtin F.called_set.init.plain F.entry_set_init (check_set_init_1 own ?_)
  obtain ⟨ol, hol, hcl, nl, hdl⟩ := id hl
  have lt : l < s.heap.objs.size := Heap.lt_size hol
  have hl1 : (withSet0 w s).heap.IsList l items := hl.push _
  obtain ⟨ocls, odict, odata, oslots⟩ := ol
  simp only at hcl hdl
  subst hcl hdl
  have hol1 : (withSet0 w s).heap.get? l = some { cls := .type "list", dict := odict, data := .seq items nl, slots := oslots } := Heap.get?_push_of_some _ hol
  have q1 := F.sub_list_set
  have q2 := F.sub_list_frozenset
  have q3 : (Value.type "list" == Value.type "dict") = false := by decide
  unfold Builtin.«set.__init__» noKeywords Builtin.Frozenset.updateFrom
  generalize hPI : pyIter = PI
  wp_walk
  subst hPI
  refine wpAny_pyIter_list hl1 (wpAny_bind (wpAny_runValue ?_))
  refine codeAny_mono (fill_run (P := P) (E := E) ns (by simp [hh]) lt hl1 hit hb hz) fun r s' hr => ?_
  cases r with
  | error e => exact hr
  | ok fl =>
    cases fl with
    | ret v =>
      refine wpAny_pure ?_
      show wpAny _ _ (ret Value.none) _ _ _
      obtain ⟨_, rest⟩ := hr
      exact wpAny_pure ⟨rfl, rest⟩
    | next => exact hr.elim
    | brk => exact hr.elim
    | cont => exact hr.elim
set_option maxHeartbeats 3200000 in
theorem setListI {l : Addr} {items : Array Value} (ns : List Int) {Q : Value → Shared → Prop} (hh : A.handled = none) (hl : s.heap.IsList l items) (hit : IntsAre items.toList ns) (hb : ns.length + 1 < scanBound)
    (h : ∀ (h' : Heap) (tk c : Nat), SetR w h' s.heap.objs.size (fun j => decide (j ∈ ns)) c → c ≤ ns.length → (∀ b o, s.heap.get? b = some o → h'.get? b = some o) → Q (.ref s.heap.objs.size) { s with heap := h', toks := tk }) :
    wpAny (model P w) A (call (.type "set") [.ref l]) Q E s := by
  obtain ⟨m1, m2, hm⟩ := F.called_set.mro
  have k1 := F.called_set.made
  have k2 := F.called_set.sub
  have k3 := F.called_set.notType
  have k4 := F.called_set.canCreate
  have k5 := F.typeCall_set_1 (.ref l)
  refine wpAny_call (codeAny_of_tree ?_)
  show wpAny _ _ (callAny (.type "set") _) _ _ _
  refine wpAny_pure ⟨Code.quiet_builtin _ (by decide +kernel), codeAny_builtin F.entry_type_call ?_⟩
  rw [Around.under_plain (weight_type_call_type "set" [.ref l] []) rfl]
  repeat (any_goals (first | assumption | wp_step))
  refine codeAny_mono (code_set_led1 (.ref l) (E := E) (Q₁ := fun v s₁ => v = .ref s.heap.objs.size ∧ s₁ = withSet0 w s) ⟨rfl, rfl⟩) fun r s₁ hr => ?_
  cases r with
  | error e => exact hr
  | ok fl =>
    cases fl with
    | next => exact hr.elim
    | brk => exact hr.elim
    | cont => exact hr.elim
    | ret v =>
      obtain ⟨rfl, rfl⟩ := hr
      have own : (withSet0 w s).TypeIs (.ref s.heap.objs.size) "set" := ⟨set0 w, Heap.get?_push_size _ rfl, rfl⟩
      have i1 := F.called_set.init.lookup
      have i2 := F.called_set.init.bind (.ref s.heap.objs.size)
      repeat (any_goals (first | assumption | wp_step))
      refine codeAny_mono (fill_init (P := P) (E := E) ns (by simp [hh]) hl hit hb) fun r₂ s₂ hr₂ => ?_
      cases r₂ with
      | error e => exact hr₂
      | ok fl₂ =>
        cases fl₂ with
        | next => exact hr₂.elim
        | brk => exact hr₂.elim
        | cont => exact hr₂.elim
        | ret v₂ =>
          obtain ⟨rfl, h', tk, c, rfl, z1, z2, z3⟩ := hr₂
          repeat (any_goals (first | assumption | wp_step))
          exact h _ _ _ z1 z2 z3
end
section
variable {X : Cx}
/-- set(a list of ints) -/
def rSetLI (K : PySem.W.Frag) (w : World) : List V → Hp → VK → Prop := fun xs H Q => ∃ (l : Addr) (ns : List Int), xs = [.ref l] ∧ SqL K H l (ns.map V.int) ∧ ns.length ≤ 4000 ∧ ∀ p c, H p = none → c ≤ ns.length → Q (.ref p) (upd H p (SetO w p (fun j => decide (j ∈ ns)) c))
theorem cr_setLI (hc : X.calm = true) : CallR X (.type "set") (rSetLI X.K X.w) := by
  intro pins s σ H xs us Q I r h
  obtain ⟨l, ns, rfl, hl, hn, q⟩ := h
  rw [Vals.ref1 r]
  obtain ⟨its, rv, pl, hz⟩ := I.list hl
  refine setListI ns (I.ok.hd hc) pl.isList (by simpa using RZ.intsAre_vals rv) (by unfold scanBound; omega) fun h' tk c R hc' hk => ?_
  have new : H s.heap.objs.size = none := I.hok.fresh (Nat.le_refl _)
  exact ⟨.ref s.heap.objs.size, _, I.laid (t' := tk) hk (Nat.le_refl _) (setO_new R), rfl, q _ c new hc'⟩
end
end Ly

/-! Lyj: try: a call / except C as n: return repr(n.fld); calls of defs of two ways out where none is taken; dict(pairs); the like, by data. -/
namespace Ly
open PySem PySem.Spec PyProof.Rows L2 LamX

/-! ### try -/
def tTryR (K : PySem.W.Frag) (C : Addr) (fld : Str) (tb : XK → TE) : TS := fun D σ H => tb (fun cls d H' => PySem.W.exmOne K cls (.ref C) = some true ∧ cls = .ref C ∧ ∃ (dd : Addr) (fs : List (Str × V)) (i : Int), d = some dd ∧ H' dd = some (.xd fs) ∧ fs.lookup fld = some (.int i) ∧
  (PyData.int i).showable = true ∧ D.rt (.str (PyData.int i).shown) H') σ H fun _ H1 => D.nx σ H1
theorem ps_tryR {X : Cx} {x n fld : Str} {C : Addr} {i : Nat} {call : Expr} {tb : XK → TE} {p1 p4 p5 p6 p7 p8 p9 p10 p11 : Pos} (hs : X.stack = X.env :: X.outer) (hf : X.env.frame = some X.env.locals) (hN : X.N.Nodup) (hi : X.N[i]? = some n) (hln : X.env.kindOf n = some .local)
    (hgx : Gl X x) (hmx : X.mg x = some (.ref C)) (T : XfC X.K C) (hno : PySem.W.findIn X.K (.ref C) fld = some none) (hgr : Gl X "repr") (hmr : X.mg "repr" = none)
    (hb : ∀ (W : WX) (pn : List (Addr × Obj)) (xe : Value → Shared → Prop) (E : XK), Takes (X.tr pn xe) W → (∀ cls d σ H, E cls d H → W cls d σ H) → PE (X.tr pn xe) call (tb E))
    (hdx : (x == ("__debug__" : Str)) = false := by decide) (hd1 : (n == ("__debug__" : Str)) = false := by decide) (hd2 : (n == ("__classdict__" : Str)) = false := by decide)
    (hab : ∀ env : Env, attributeBase (.Name n p5) fld env (eval (.Name n p5) env) = eval (.Name n p5) env := by exact fun _ => rfl) (hse : ∀ env : Env, starEach [.Attribute (.Name n p5) fld p6] env = [(false, eval (.Attribute (.Name n p5) fld p6) env)] := by exact fun _ => rfl) (hs0 : ∀ env : Env, starEach [] env = [] := by exact fun _ => rfl)
    (hsw : ∀ env : Env, swapsWith call none p1.line env = pure false := by exact fun _ => rfl) :
    PS X (.Try [.Expr call p1] [.ExceptHandler (some (.Name x p4)) (some n) [.Return (some (.Call (.Name "repr" p11) [.Attribute (.Name n p5) fld p6] [] p7)) p8] p9] [] [] p10) (tTryR X.K C fld tb) := by
  have main := ps_try_as (X := X) (x := x) (n := n) (c := .ref C) (i := i) (np := p4) (pos := p10) (pos' := p9) (body := [.Expr call p1])
    (tb := fun W D σ H => ∃ Ech : XK, (∀ (cls : Value) (d : Option Addr) (σ' : L2.St) (H' : Hp), Ech cls d H' → σ'.length = X.N.length → W cls d σ' H') ∧ tDrop (tb Ech) D σ H)
    (ts := fun a' cls d => tRet (tCB rReprI (tCons (tXf a' cls d C fld (tVar i)) tNil)))
    hs hf hN hi hln ⟨hgx, hdx, .inl hmx⟩ takes0 (fun W pn xe tk _ => pss_one ?_)
    (fun a' oe cls d pn hz hf' => pss_one (ps_ret (pos := p8) (pe_callB (p := p11) (pos := p7) cr_reprI hgr hmr (by decide +kernel) (pa_cons (pe_xf (pos := p6) T hno hz hf' (pe_var (pos := p5) hi (Or.inl hln) hd1 hd2) (hab _)) pa_nil (hse _)) (he := by rw [hse, hs0]) (hpl := by rw [hs0]; rfl))))
  · refine ⟨fun pins s σ H D I h => main.run pins s σ H D I ?_⟩
    refine ⟨_, fun cls d σ' H' ⟨e1, e2, dd, fs, k, e3, e4, e5, e6, e7⟩ hl => ⟨true, e1, fun _ a' _ => ?_, fun z => by cases z⟩, h⟩
    have hlt : i < σ'.length := by
      have := (List.getElem?_eq_some_iff.mp hi).1
      omega
    exact ⟨.ref a', List.getElem?_set_self hlt, rfl, e2, dd, fs, .int k, e3, e4, e5, k, rfl, e6, e7⟩
  · refine ⟨fun pins s' σ H' D I h' => ?_⟩
    obtain ⟨Ech, hW, h1⟩ := h'
    have pe := hb _ pn xe Ech (takes_len tk) fun cls d σ' H' he hl => hW cls d σ' H' he hl
    exact (ps_expr (pos := p1) pe (hs := hsw _)).run pins s' σ H' D I h1
section
variable {C0 : Cn} {Γ : List Sl} {C : Addr} {fld : Str} {t : XK → TE} {R W : D → Prop} {P : Po}
theorem vs_tryR (hx : PySem.W.exmOne C0.K (.ref C) (.ref C) = some true) (h : VX C0 C fld t Γ R W) (k1 : ∀ d, R d → P.nx Γ) (k2 : ∀ n, W n → ∃ i : Int, n = .int i ∧ i.natAbs < 1000 ∧ P.rt (.str (PyData.int i).shown)) : VS C0 (tTryR C0.K C fld t) Γ P := fun B H σ E F n r b c => by
  refine h B H σ F _ _ (fun d v B' H' rd s kd => n Γ B' H' σ (k1 d rd) s.ext (F.step s)) fun m dx v B' H' wm s hd kd => ?_
  obtain ⟨i, rfl, hi, hr⟩ := k2 m wm
  obtain rfl := dp_int kd
  refine ⟨hx, rfl, dx, _, i, rfl, hd, by simp [List.lookup], ?_, r _ _ B' H' hr (F.st.trans (fun p q e => (F.dl p q e).1) s) (.str _)⟩
  show decide (i.natAbs.log2 < 1920) = true
  have : i.natAbs.log2 < 10 := by
    by_cases z : i.natAbs = 0
    · rw [z]; decide
    · exact (Nat.log2_lt z).mpr (by omega)
  exact decide_eq_true (by omega)
end
/-! ### defs of two ways out, called where the other way is not taken -/
section
variable {α : Type} {C0 : Cn} {A A' : TA} {Γ : List Sl} {C : Addr} {fld : Str} {Ar : α → List D} {P : α → Prop} {R W : α → D → Prop} {ds es : List D} {gV : List V → List V → List V}
theorem passes0 {X : Cx} : Passes (L2.CX X.prog X.w) X E0 := passes_call takes0 fun _ _ _ _ h => h
theorem ve_xa2 (a : α) (gD : List D → List D → List D) (h : VA C0 A Γ (Is ds)) (h' : VA C0 A' Γ (Is es)) (hg : ∀ B vs zs ds es, DqAll C0.K B vs ds → DqAll C0.K B zs es → DqAll C0.K B (gV vs zs) (gD ds es)) (e : gD ds es = Ar a) (hP : P a) (no : ∀ n, ¬ W a n) :
    VE C0 (tCallK (Pxa C0.K C fld Ar P R W) gV E0 A A') Γ (R a) := fun B H σ F Q q =>
  vx_a2 (C0 := C0) (R := R) (W := W) a gD h h' hg e hP B H σ F Q E0 q fun n dx v B' H' wn _ _ _ => absurd wn (no n)
theorem ve_xa0 (a : α) (h : VA C0 A Γ (Is (Ar a))) (hP : P a) (no : ∀ n, ¬ W a n) : VE C0 (tCallK (Pxa C0.K C fld Ar P R W) (fun vs _ => vs) E0 A tNil) Γ (R a) :=
  ve_xa2 a (fun ds _ => ds) h va_nil (fun _ _ _ _ _ k _ => k) rfl hP no
end
/-! ### sets -/
section
variable {C : Cn} {Γ : List Sl} {te : TE} {w : World} {ns : List Int} {ds : List D}
theorem vl_sortedSetL (h : VV C te Γ (Is (.list (ns.map .int)))) (hn : ns.length < 64) :
    VL C (tCB (rSortedSet w) (tCons (tCB (rSetLI C.K w) (tCons te tNil)) tNil)) Γ (fun ds => ∃ ms : List Int, ds = ms.map .int ∧ ms.Pairwise (· < ·) ∧ ∀ k, k ∈ ms ↔ k ∈ ns) := fun B H σ F Q q => h B H σ F _ fun d v B1 H1 e1 s1 k1 => by
  cases e1
  have F1 := F.step s1
  obtain ⟨a, xs, rfl, h1, h2⟩ := k1.lst F1.sub
  rw [dpall_ints h2] at h1
  refine ⟨a, ns, rfl, h1, by omega, fun p c hp hc => ?_⟩
  have s2 : Stp C.dl B1 H1 B1 (upd H1 p (SetO w p (fun j => decide (j ∈ ns)) c)) := Stp.newM F1.sub hp
  have F2 := F1.step s2
  refine ⟨p, _, c, rfl, upd_same, by omega, fun ms r hs hm hl hr => ?_⟩
  have s3 : Stp C.dl B1 (upd H1 p (SetO w p (fun j => decide (j ∈ ns)) c)) B1 (upd (upd H1 p (SetO w p (fun j => decide (j ∈ ns)) c)) r (.lst (ms.map V.int))) := Stp.newM F2.sub hr
  have s := (s1.trans F.dlNow s2).trans F.dlNow s3
  exact q _ r (ms.map V.int) B1 _ ⟨ms, rfl, hs, fun k => by rw [hm k, decide_eq_true_eq]⟩ s (back_none F (s1.trans F.dlNow s2) hr) (F2.sub.free hr) upd_same (dpall_map _ _ (fun x => .int x) ms)
/-- len(set(t)), t a tuple of ints, all unlike -/
theorem ve_lenSetT (h : VE C te Γ (Is (.tuple (ns.map .int)))) (hn : ns.length ≤ 4000) (nd : ns.Nodup) : VE C (tCB (rLenSet w) (tCons (tCB (rSetTI C.K w) (tCons te tNil)) tNil)) Γ (Is (.int (ns.length : Nat))) := fun B H σ F Q q => h B H σ F _ fun d v B1 H1 e1 s1 k1 => by
  cases e1
  obtain ⟨a, xs, rfl, h1, h2⟩ := dp_tup k1
  rw [dpall_ints h2] at h1
  have F1 := F.step s1
  refine ⟨a, ns, rfl, same_t F1.sub h1, by omega, fun p c hp hc => ?_⟩
  have s2 : Stp C.dl B1 H1 B1 (upd H1 p (SetO w p (fun j => decide (j ∈ ns)) c)) := Stp.newM F1.sub hp
  refine ⟨p, _, c, rfl, upd_same, fun ⟨l, l1, l2, l3⟩ => ?_⟩
  have e : c = ns.length := by
    rw [← l3]
    refine List.Perm.length_eq ((List.perm_ext_iff_of_nodup l1 nd).mpr fun k => ?_)
    rw [l2 k, decide_eq_true_eq]
  rw [e]
  exact q _ _ B1 _ rfl (s1.trans F.dlNow (by rw [e] at s2; exact s2)) (.int _)
theorem ve_revT (h : VE C te Γ (Is (.tuple ds))) : VE C (tRevT C.K te) Γ (Is (.tuple ds.reverse)) := fun B H σ F Q q => h B H σ F _ fun d v B1 H1 e1 s1 k1 => by
  cases e1
  obtain ⟨a, xs, rfl, h1, h2⟩ := dp_tup k1
  have F1 := F.step s1
  refine ⟨a, xs, rfl, same_t F1.sub h1, fun p hp => ?_⟩
  have s2 : Stp C.dl B1 H1 (upd B1 p (.tup xs.reverse)) (upd H1 p (.tup xs.reverse)) := Stp.new F1.sub hp
  exact q _ _ _ _ rfl (s1.trans F.dlNow s2) (.tup (Or.inl (Or.inl upd_same)) (dpall_mono s2.ext (dpall_rev h2)))
end
/-! ### targets -/
theorem vg_lst {C : Cn} {Γ Γ' : List Sl} {ds : List D} {n : Nat} {gs : TGs} {js : List Nat} (h : VGs C gs ds Γ Γ' js) (n1 : ds.length = n) : VG C (gLst C.K n gs) (.list ds) Γ Γ' js := by
  refine ⟨fun {B H σ v} F hd Q q => ?_, h.own⟩
  obtain ⟨a, xs, rfl, h1, h2⟩ := dp_lst hd
  exact ⟨a, xs, rfl, same_l F.sub h1, (dpall_len h2).trans n1, h.run F h2 Q q⟩
/-! ### dict(pairs) -/
def rDictP (K : PySem.W.Frag) : List V → Hp → VK → Prop := fun xs H Q => ∃ (a : Addr) (ps : List Addr) (kvs : List (Key × V)), xs = [.ref a] ∧ SqL K H a (ps.map V.ref) ∧ Paired (fun p kv => SqT K H p [kV kv.1, kv.2]) ps kvs ∧ ∀ p, H p = none → Q (.ref p) (upd H p (.dK (mergeK [] kvs)))
theorem cr_dictP {X : Cx} (hc : X.calm = true) : CallR X (.type "dict") (rDictP X.K) := call_dictP hc
theorem pairs_dq {C : Cn} {B H : Hp} (e : Same B H) : ∀ {kvs : List (Key × D)} {vs : List V}, DqAll C.K B vs (kvs.map fun p => .tuple [kD p.1, p.2]) →
    ∃ (ps : List Addr) (ws : List (Key × V)), vs = ps.map V.ref ∧ Paired (fun p kv => SqT C.K H p [kV kv.1, kv.2]) ps ws ∧ ws.map Prod.fst = kvs.map Prod.fst ∧ DqAll C.K B (ws.map Prod.snd) (kvs.map Prod.snd)
  | [], _, .nil => ⟨[], [], rfl, .nil, rfl, .nil⟩
  | p :: kvs, _, .cons h t => by
    obtain ⟨ps, ws, rfl, h1, h2, h3⟩ := pairs_dq e t
    obtain ⟨a, xs, rfl, g1, g2⟩ := dp_tup h
    cases g2 with
    | cons k1 k2 =>
      cases k2 with
      | cons k2 k3 =>
        cases k3
        obtain rfl := dp_key k1
        exact ⟨a :: ps, (p.1, _) :: ws, rfl, .cons (same_t e g1) h1, by rw [List.map_cons, List.map_cons, h2], .cons k2 h3⟩
theorem vn_dictP {C : Cn} {Γ : List Sl} {te : TE} {kvs : List (Key × D)} (h : VV C te Γ (Is (.list (kvs.map fun p => .tuple [kD p.1, p.2])))) (nd : (kvs.map Prod.fst).Nodup) : VN C (tCB (rDictP C.K) (tCons te tNil)) Γ kvs := fun B H σ F Q q => h B H σ F _ fun d v B1 H1 e1 s1 k1 => by
  cases e1
  have F1 := F.step s1
  obtain ⟨a, xs, rfl, h1, h2⟩ := k1.lst F1.sub
  obtain ⟨ps, ws, rfl, g1, g2, g3⟩ := pairs_dq F1.sub h2
  refine ⟨a, ps, ws, rfl, h1, g1, fun p hp => ?_⟩
  have em : mergeK [] ws = ws := by
    rw [Ly.mergeK_new ws [] (fun _ h => nomatch h) (by rw [show ws.map (·.1) = kvs.map Prod.fst from g2]; exact nd)]
    rfl
  rw [em]
  exact q p ws B1 _ (s1.trans F.dlNow (Stp.newM F1.sub hp)) (back_none F s1 hp) (F1.sub.free hp) upd_same g2 g3
/-- a name gets a new dict -/
theorem vs_setN {C : Cn} {Γ : List Sl} {te : TE} {kvs : List (Key × D)} {i : Nat} {P : Po} (h : VN C te Γ kvs) (k : P.nx (Γ.set i (.odk kvs))) : VS C (tAsg te (gName i)) Γ P := fun B H σ E F n r b c =>
  h B H σ F _ fun p ws B1 H1 s1 e1 e2 e3 e4 e5 => n _ B1 H1 _ k s1.ext ((F.step s1).setDk (F.newC e1) e2 e3 e4 e5)
/-- d[k] = e, k there -/
theorem vs_putOld {C : Cn} {Γ : List Sl} {te ty : TE} {kvs : List (Key × D)} {k : Key} {R : D → Prop} {i : Nat} {P : Po} (hi : Γ[i]? = some (.odk kvs)) (ho : ∀ j zs, j ≠ i → Γ[j]? ≠ some (.odk zs)) (h : VE C te Γ R) (hx : VE C ty Γ (Is (kD k))) (hk : (getK kvs k).isSome = true) (hz : kvs.length < 100000)
    (q : ∀ d, R d → P.nx (Γ.set i (.odk (kvs.map fun p => if p.1 = k then (p.1, d) else p)))) : VS C (tAsg te (gSub (tVar i) ty rSetD)) Γ P := fun B H σ E F n r b c => h B H σ F _ fun d v B1 H1 rd s1 k1 => by
  obtain ⟨p, ws, e, hC, hB, hp, hw, hd⟩ := F.hasDk hi
  have F1 := F.step s1
  refine ⟨.ref p, e, hx B1 H1 σ F1 _ fun x w B2 H2 ex s2 k2 => ?_⟩
  cases ex
  obtain rfl := dp_key k2
  have hp' := s2.keep p _ (s1.keep p _ hp (F.notMd hC)) (F.notMd hC)
  have hl : ws.length = kvs.length := by
    have := congrArg List.length hw
    simpa using this
  refine ⟨p, _, rfl, Or.inl ⟨ws, k, hp', rfl, sz6 (by rw [hl]; exact hz), rfl⟩, ?_⟩
  have ep : L2.putK ws k v = ws.map fun kv => if kv.1 = k then (kv.1, v) else kv := by
    unfold L2.putK
    rw [L2.valV_any, get_none hw, hk]
    rfl
  rw [ep]
  have both : ∀ {ws : List (Key × V)} {kvs : List (Key × D)}, ws.map Prod.fst = kvs.map Prod.fst → DqAll C.K B2 (ws.map Prod.snd) (kvs.map Prod.snd) →
      (ws.map fun kv => if kv.1 = k then (kv.1, v) else kv).map Prod.fst = (kvs.map fun p => if p.1 = k then (p.1, d) else p).map Prod.fst ∧ DqAll C.K B2 ((ws.map fun kv => if kv.1 = k then (kv.1, v) else kv).map Prod.snd) ((kvs.map fun p => if p.1 = k then (p.1, d) else p).map Prod.snd) := by
    intro ws
    induction ws with
    | nil =>
      intro kvs e1 e2
      cases kvs with
      | nil => exact ⟨rfl, .nil⟩
      | cons _ _ => cases e1
    | cons a ws ih =>
      intro kvs e1 e2
      cases kvs with
      | nil => cases e1
      | cons b kvs =>
        simp only [List.map_cons, List.cons.injEq] at e1
        simp only [List.map_cons] at e2
        cases e2 with
        | cons x1 x2 =>
          obtain ⟨y1, y2⟩ := ih e1.2 x2
          by_cases z : b.1 = k
          · have za := e1.1.trans z
            simp only [List.map_cons, if_pos z, if_pos za]
            exact ⟨by rw [y1, e1.1], .cons (dp_mono s2.ext k1) y2⟩
          · have za : ¬ a.1 = k := fun y => z (e1.1.symm.trans y)
            simp only [List.map_cons, if_neg z, if_neg za]
            exact ⟨by rw [y1, e1.1], .cons x1 y2⟩
  obtain ⟨y1, y2⟩ := both hw (dpall_mono (s1.ext.trans s2.ext) hd)
  exact n _ B2 _ σ (q d rd) (s1.ext.trans s2.ext) ((F1.step s2).mutDk hi ho e y1 y2)
end Ly

/-! Lyk: the end of a law whose numbers may be so great that the library's own long division is asked. -/
namespace Ly
open PySem PySem.Spec PyProof.Rows L2
section
variable {P : Program} {w : World} {K : PySem.W.Frag} {mg mb : Str → Option Value} {k : Nat} {fa a : Addr} {fd : FuncData} {x : Str} {sp : Sp} {s₁ : Shared} {vs : List Value} {ns : List Int}
theorem law_gN (KX : K.In s₁.heap) (hns : s₁.heap.Ns mainGlobals mg) (hN : s₁.heap.NoSeer) (hb : s₁.heap.Ns builtinsNs mb) (hbb : ∀ x : Str, x ≠ "__name__" → mb x = bootBuiltins x) (hlim : s₁.heap.NoLimit) (hg : s₁.gens = #[])
    (ha : s₁.heap.get? a = some { cls := .type "list", data := .seq vs.toArray }) (hi : IntsAre vs ns) (hl : ns.length ≤ sizeLine) (hr : Room k callerA)
    (F : ∀ base : Heap, K.In base → base.Ns mainGlobals mg → base.NoSeer → GOk P w K mg base CX0 k fa fd [x] sp) (hbind : ∀ (s : Shared) (u : Value), BindsTo s fd ⟨[u], []⟩ [(x, u)])
    (hsp : ∀ H : Hp, SqL K H a (ns.map V.int) → sp [.ref a] H (fun v _ => v = .bl true) E0) :
    codeAny (model P w) callerA (.call (.ref fa) ⟨[.ref a], []⟩) (fun r s' => r = .ok (.ret (.bool true)) ∧ OldK s₁.heap s'.heap ∧ s'.os = s₁.os ∧ AllBare s'.gens) s₁ := by
  have rv : Vals (ns.map V.int) vs := vals_ints hi
  have lv : vs.length = ns.length := by
    have := rv.length
    rw [List.length_map] at this
    exact this.symm
  let o : Obj := { cls := .type "list", data := .seq vs.toArray }
  let H : Hp := H1 K a o (ns.map V.int)
  have ok : HOk P w H s₁.heap := fun b u e => by
    obtain ⟨rfl, _, rfl⟩ := h1_only e
    exact ⟨ha, by rw [List.length_map]; exact hl, vs, _, rv, ha⟩
  have sq : SqL K H a (ns.map V.int) := by
    cases e : K.lookup a with
    | none => exact Or.inl (Or.inr ⟨o, h1_at e⟩)
    | some u =>
      have e2 := KX a u e
      rw [ha] at e2
      cases e2
      exact Or.inr ⟨_, vs.toArray, _, e, rfl, rfl, rfl, by rw [List.size_toArray, lv]; exact hl, by simpa using rv⟩
  have free : ∀ {b : Addr} {u : Obj} {es : Array DictEntry} {ep : Nat}, s₁.heap.get? b = some u → u.data = .dict es ep → H b = none := fun {b u es ep} e d => by
    cases q : H b with
    | none => rfl
    | some v =>
      obtain ⟨rfl, _, _⟩ := h1_only q
      rw [ha] at e
      cases e
      cases d
  have ns1 : ∀ {b : Addr} {m : Str → Option Value}, s₁.heap.Ns b m → (hidT s₁.heap H).Ns b m := by
    rintro b m ⟨u, es, ep, e, d, r⟩
    exact ⟨u, es, ep, hidT_get e (free e d), d, r⟩
  have kin : K.In (hidT s₁.heap H) := fun b u e => hidT_get (KX b u e) (by
    cases q : H b with
    | none => rfl
    | some v =>
      obtain ⟨rfl, z, _⟩ := h1_only q
      rw [z] at e
      cases e)
  have seer : (hidT s₁.heap H).NoSeer := by
    obtain ⟨⟨m1, x1, y1⟩, ⟨m2, x2, y2⟩, ⟨m3, x3, y3⟩, mg4, bm, ob, x4, y4, z4, c4, d4⟩ := hN
    refine ⟨⟨m1, ns1 x1, y1⟩, ⟨m2, ns1 x2, y2⟩, ⟨m3, ns1 x3, y3⟩, mg4, bm, ob, ns1 x4, y4, hidT_get z4 ?_, c4, d4⟩
    cases q : H bm with
    | none => rfl
    | some v =>
      obtain ⟨rfl, _, _⟩ := h1_only q
      rw [ha] at z4
      cases z4
      exact absurd (show Value.type "list" = Value.type "module" from c4) (by decide)
  obtain ⟨mc, hc1, hc2⟩ := hlim
  have hm : Mod K mg (hidT s₁.heap H) := ⟨kin, ns1 hns, ⟨mb, ns1 hb, hbb⟩, mc, ns1 hc1, hc2⟩
  have none_in : ∀ b : Addr, b ∉ frs ([] : List Env) := fun b hb => nomatch hb
  have e0 : Env0 P w K mg (hidT s₁.heap H) callerA [] s₁ H :=
    { frames := rfl, mod := hm, bs := fun b u e => of_hidT e, bsz := Nat.le_of_eq (hidT_size _ _), funs := trivial, frf := fun b hb => absurd hb (none_in b), hok := ok, bare := .of_eq hg }
  refine codeAny_mono ((F _ kin (ns1 hns) seer).does (us := [.ref a]) (vs := [.ref a]) (E := E0) rfl hr e0 (hbind s₁ (.ref a)) (.cons rfl .nil) (hsp H sq)) fun r s' h => ?_
  cases r with
  | error e => exact False.elim h
  | ok fl =>
    cases fl with
    | next => exact False.elim h
    | brk => exact False.elim h
    | cont => exact False.elim h
    | ret u =>
      obtain ⟨v, H', os, bare, un, ok', rr, q⟩ := h
      obtain rfl : v = .bl true := q
      obtain rfl : u = Value.bool true := rr
      refine ⟨rfl, OldK.of_keep fun b u e => ?_, os, bare⟩
      cases q : H b with
      | none => exact un.keep b u e q (none_in b) (fun z => nomatch z)
      | some y =>
        obtain ⟨rfl, _, rfl⟩ := h1_only q
        obtain ⟨e2, _⟩ := ok' b _ (un.frzs b _ _ q)
        rw [e2, ← e, ha]
end
/-- the goal that k_head leaves, from a law's promise over GOk -/
theorem walk_gN {l : PySem.W.OpenLaw} {n k : Nat} {q : Program} {loose : List Str} {XP : (Str → Option Value) → Heap → Prop} {YP : World → Heap → Prop} {d : DefRec} {K : Params → PySem.W.Frag} {sp : PySem.W.Frag → Sp} {x : Str}
    (hn : l.most = some n) (hn2 : n ≤ sizeLine) (hdf : d.params.defaults = []) (hr : Room k callerA) (hi : importsNone q = true)
    (hY : ∀ (w : World) (h : Heap), YP w h → (K w.params).In h)
    (F : ∀ (w : World) (mg : Str → Option Value) (fa : Addr) (h : Heap), (K w.params).In h → h.Ns mainGlobals mg → mg d.name = some (.ref fa) →
      ∃ fd : FuncData, (∀ (s : Shared) (u : Value), BindsTo s fd ⟨[u], []⟩ [(x, u)]) ∧ ∀ base : Heap, (K w.params).In base → base.Ns mainGlobals mg → base.NoSeer → GOk l.prog w (K w.params) mg base CX0 k fa fd [x] (sp (K w.params)))
    (hsp : ∀ (K : PySem.W.Frag) (H : Hp) (a : Addr) (ns : List Int), ns.length ≤ n → SqL K H a (ns.map V.int) → sp K [.ref a] H (fun v _ => v = .bl true) E0) :
    PySem.W.WalkO q loose XP YP l.row.toRowW d [] (fun f vs => PySem.call f vs) := by
  apply Att.attach_call hn hdf
  intro w s₀ s₁ mg mb fa o pm cd doc a vs ns G Y ho hd hcd hmg hobj hints hlen hg
  obtain ⟨fd, hb, hF⟩ := F w mg fa _ (hY w _ Y) G.T.g hmg
  exact law_gN (hY w _ Y) G.T.g (G.T.seer hi) G.T.b G.T.builtins G.T.nolimit hg hobj hints (Nat.le_trans hlen hn2) hr hF hb fun H hS => hsp _ H a ns hlen hS

end Ly

namespace Ly.K76
open PySem PySem.Spec PyProof.Rows L2
abbrev P__law_any := Ly.P_any
abbrev R__law_any := Ly.R_any
abbrev P__law_of := Ly.P_of
abbrev R__law_of := Ly.R_of
abbrev P_is_integer := Ly.P_is1
abbrev R_is_integer := Ly.R_isInt
abbrev P_is_number := Ly.P_is1
abbrev R_is_number := Ly.R_isNum
abbrev P_is_index := Ly.P_isIdx
abbrev R_is_index := Ly.R_isIdx
abbrev P_is_sequence := Ly.P_is1
abbrev R_is_sequence := Ly.R_isSeq
abbrev P_is_row_of := Ly.P_isRow
abbrev R_is_row_of := Ly.R_isRow
/-! ### rows, orders -/
def natOf : D → Nat
  | .int i => i.toNat
  | _ => 0
def rowOf : D → List Nat
  | .tuple xs => xs.map natOf
  | _ => []
def isRis (n : Nat) : D → Bool
  | .tuple xs => xs.all (isIdx (n : Nat)) && decide (List.Pairwise (fun (x y : Nat) => x < y) (xs.map natOf))
  | _ => false
/-- levels' rows: each holds itself, none holds another that holds it, each all of what its members hold -/
def ordOk (rs : List (List Nat)) : Bool := (List.range rs.length).all fun l => (rs.getD l []).contains l && (rs.getD l []).all fun x => !(x != l && (rs.getD x []).contains l) && (rs.getD x []).all fun y => (rs.getD l []).contains y
def isOrd : D → Bool
  | .tuple xs => decide (1 ≤ xs.length) && decide (xs.length ≤ 12) && xs.all (isRis xs.length) && ordOk (xs.map rowOf)
  | _ => false
def small : D → Prop
  | .tuple xs => xs.length ≤ 1000
  | _ => True
abbrev A_is_rising : D × Nat → List D := fun a => [a.1, .int (a.2 : Nat)]
def P_is_rising : D × Nat → Prop := fun a => small a.1 ∧ a.2 ≤ 1000
def R_is_rising : D × Nat → D → Prop := fun a d => d = .bool (isRis a.2 a.1)
abbrev A_is_order : D → List D := fun a => [a]
def P_is_order : D → Prop
  | .tuple xs => xs.length ≤ 1000 ∧ ∀ x ∈ xs, small x
  | _ => True
def R_is_order : D → D → Prop := fun a d => d = .bool (isOrd a)
/-! ### told pairs -/
/-- by one step or more, the last one between two levels -/
def Up1 (ps : List (Nat × Nat)) (x h : Nat) : Prop := ∃ y, Up ps x y ∧ (y, h) ∈ ps ∧ y ≠ h
def seqD (b : Bool) (xs : List D) : D := if b = true then .list xs else .tuple xs
def pairOk (n : Nat) : D → Bool
  | .tuple xs => decide (xs.length = 2) && xs.all (isIdx (n : Nat))
  | _ => false
/-- the things of a list or tuple -/
def itemsOf : D → List D
  | .list xs => xs
  | .tuple xs => xs
  | _ => []
/-- the number of the wrong argument -/
def chk (lv pr : D) : Option Nat :=
  match lv with
  | .int i => if 1 ≤ i ∧ i ≤ 12 then (if isSeq pr = true ∧ (itemsOf pr).all (pairOk i.toNat) = true then none else some 1) else some 0
  | _ => some 0
/-- the dict of ways up from a level: each with the one that it was come to from -/
structure Ways (ps : List (Nat × Nat)) (l : Nat) (kvs : List (Nat × Nat)) : Prop where
  nd : (kvs.map Prod.fst).Nodup
  all : ∀ h, Up1 ps l h → h ∈ kvs.map Prod.fst
  from_ : ∀ (i k o : Nat), kvs[i]? = some (k, o) → (o, k) ∈ ps ∧ o ≠ k ∧ (o = l ∨ ∃ j p : Nat, j < i ∧ kvs[j]? = some (o, p))
structure AskW where
  n : Nat
  b : Bool
  ps : List (Nat × Nat)
  l : Nat
def wD (kvs : List (Nat × Nat)) : List (Key × D) := kvs.map fun p => (.inl (p.1 : Nat), .int (p.2 : Nat))
abbrev A_ways_up : AskW → List D := fun a => [.int (a.n : Nat), seqD a.b (a.ps.map prD), .int (a.l : Nat)]
def P_ways_up : AskW → Prop := fun a => a.n ≤ 100 ∧ a.ps.length ≤ 1000 ∧ (∀ p ∈ a.ps, p.1 < a.n ∧ p.2 < a.n) ∧ a.l < a.n
def R_ways_up : AskW → D → Prop := fun a d => ∃ kvs, d = dictD (wD kvs) ∧ Ways a.ps a.l kvs
/-- levels and pairs, whatever they are -/
structure AskO where
  lv : D
  pr : D
abbrev A_checked_pairs : AskO → List D := fun a => [a.lv, a.pr]
def P_checked_pairs : AskO → Prop := fun a => (itemsOf a.pr).length ≤ 1000 ∧ ∀ x ∈ itemsOf a.pr, (itemsOf x).length ≤ 1000
def R_checked_pairs : AskO → D → Prop := fun a d => d = .none ∧ chk a.lv a.pr = none
def W_checked_pairs : AskO → D → Prop := fun a n => ∃ k, chk a.lv a.pr = some k ∧ n = .int (k : Nat)
/-- a ring -/
structure IsRing (ps : List (Nat × Nat)) (r : List Nat) : Prop where
  two : 2 ≤ r.length
  nd : r.Nodup
  go : ∀ i, i < r.length → (r.getD ((i + r.length - 1) % r.length) 0, r.getD i 0) ∈ ps
abbrev A_ring_of : AskO → List D := A_checked_pairs
abbrev P_ring_of : AskO → Prop := P_checked_pairs
def R_ring_of : AskO → D → Prop := fun a d => chk a.lv a.pr = none ∧ ∃ n b ps, a.lv = .int (n : Nat) ∧ n ≤ 12 ∧ a.pr = seqD b (ps.map prD) ∧ (∀ p ∈ ps, p.1 < n ∧ p.2 < n) ∧
  ((d = .none ∧ ∀ l, l < n → ¬ Up1 ps l l) ∨ ∃ r, d = tnD r ∧ IsRing ps r ∧ (∀ x ∈ r, x < n) ∧ ∃ l, l < n ∧ Up1 ps l l)
def W_ring_of : AskO → D → Prop := W_checked_pairs
abbrev A_order_of : AskO → List D := A_checked_pairs
abbrev P_order_of : AskO → Prop := P_checked_pairs
def R_order_of : AskO → D → Prop := fun a d => chk a.lv a.pr = none ∧ ∃ n b ps rs, a.lv = .int (n : Nat) ∧ n ≤ 12 ∧ a.pr = seqD b (ps.map prD) ∧ (∀ p ∈ ps, p.1 < n ∧ p.2 < n) ∧ (∀ l, l < n → ¬ Up1 ps l l) ∧ d = ordD rs ∧ Closed n ps rs
def W_order_of : AskO → D → Prop := fun a m => (∃ k, chk a.lv a.pr = some k ∧ m = .int (k : Nat)) ∨
  (m = .int 2 ∧ chk a.lv a.pr = none ∧ ∃ n b ps, a.lv = .int (n : Nat) ∧ a.pr = seqD b (ps.map prD) ∧ ∃ l, l < n ∧ Up1 ps l l)
/-! ### orders, inputs, records -/
inductive Deed where
  | out (l v : Nat)
  | fin (t : Nat)
def deedD : Deed → D
  | .out l v => .tuple [.str "out", .int (l : Nat), .int (v : Nat)]
  | .fin t => .tuple [.str "end", .int (t : Nat)]
def evD (p : Nat × Deed) : D := .tuple [.int (p.1 : Nat), deedD p.2]
abbrev recD (r : List (Nat × Deed)) : D := .tuple (r.map evD)
def allNum : D → Bool
  | .tuple ys => ys.all isNum
  | _ => false
def inputOk (n : Nat) : D → Bool
  | .tuple xs => (xs.length == n) && xs.all isTup && xs.all allNum
  | _ => false
def deedOk (n : Nat) : D → Bool
  | .tuple [a, b, c] => PyData.eqv a (.str "out") && (isIdx (n : Nat) b && isNum c)
  | .tuple [a, b] => PyData.eqv a (.str "end") && isNum b
  | _ => false
def evOk (n : Nat) : D → Bool
  | .tuple [t, e] => isNum t && deedOk n e
  | _ => false
def tickOf : D → Int
  | .tuple (.int t :: _) => t
  | _ => 0
def rising (xs : List D) : Bool := (List.range (xs.length - 1)).all fun i => decide (tickOf (xs.getD i .none) ≤ tickOf (xs.getD (i + 1) .none))
def recOk (n : Nat) : D → Bool
  | .tuple xs => xs.all (isRow [2]) && xs.all (evOk n) && rising xs
  | _ => false
def sees (rs ends : List (List Nat)) (level : Nat) : Deed → Bool
  | .out l _ => (rs.getD level []).contains l
  | .fin t => (ends.getD t []).all (rs.getD level []).contains
/-- rows of an order or of ends: few, short, small -/
def Rows (many : Nat) (rs : List (List Nat)) : Prop := rs.length ≤ 1000 ∧ ∀ r ∈ rs, r.length ≤ 1000 ∧ ∀ x ∈ r, x < many
def DeedIn (many threads : Nat) : Deed → Prop
  | .out l v => l < many ∧ v < 4294967296
  | .fin t => t < threads
abbrev A_lot_within : List (List Nat) × List Nat × Nat → List D := fun a => [ordD a.1, tnD a.2.1, .int (a.2.2 : Nat)]
def P_lot_within : List (List Nat) × List Nat × Nat → Prop := fun a => a.2.2 < a.1.length ∧ (∃ many, Rows many a.1) ∧ a.2.1.length ≤ 1000
def R_lot_within : List (List Nat) × List Nat × Nat → D → Prop := fun a d => d = .bool (a.2.1.all (a.1.getD a.2.2 []).contains)
abbrev A_is_input : List (List Nat) × D → List D := fun a => [ordD a.1, a.2]
def P_is_input : List (List Nat) × D → Prop := fun a => a.1.length ≤ 1000 ∧ P_is_order a.2
def R_is_input : List (List Nat) × D → D → Prop := fun a d => d = .bool (inputOk a.1.length a.2)
abbrev A_alike_inputs : List (List Nat) × Nat × List (List Nat) × List (List Nat) → List D := fun a => [ordD a.1, .int (a.2.1 : Nat), ordD a.2.2.1, ordD a.2.2.2]
def P_alike_inputs : List (List Nat) × Nat × List (List Nat) × List (List Nat) → Prop := fun a => a.2.1 < a.1.length ∧ Rows a.1.length a.1 ∧ a.2.2.1.length = a.1.length ∧ a.2.2.2.length = a.1.length
def R_alike_inputs : List (List Nat) × Nat × List (List Nat) × List (List Nat) → D → Prop := fun a d => d = .bool ((a.1.getD a.2.1 []).all fun l => a.2.2.1.getD l [] == a.2.2.2.getD l [])
abbrev A_is_deed : List (List Nat) × D → List D := fun a => [ordD a.1, a.2]
def P_is_deed : List (List Nat) × D → Prop := fun a => Sm a.2 64 100000
def R_is_deed : List (List Nat) × D → D → Prop := fun a d => d = .bool (deedOk a.1.length a.2)
abbrev A_is_record : List (List Nat) × D → List D := fun a => [ordD a.1, a.2]
def P_is_record : List (List Nat) × D → Prop := fun a => Sm a.2 64 100000
def R_is_record : List (List Nat) × D → D → Prop := fun a d => d = .bool (recOk a.1.length a.2)
/-- an order, ends, a level -/
structure Sight where
  rs : List (List Nat)
  ends : List (List Nat)
  level : Nat
def Sight.Ok (s : Sight) : Prop := s.level < s.rs.length ∧ Rows s.rs.length s.rs ∧ Rows s.rs.length s.ends
abbrev A_is_seen : Sight × Deed → List D := fun a => [ordD a.1.rs, .int (a.1.level : Nat), ordD a.1.ends, deedD a.2]
def P_is_seen : Sight × Deed → Prop := fun a => a.1.Ok ∧ DeedIn a.1.rs.length a.1.ends.length a.2
def R_is_seen : Sight × Deed → D → Prop := fun a d => d = .bool (sees a.1.rs a.1.ends a.1.level a.2)
abbrev A_seen : Sight × List (Nat × Deed) → List D := fun a => [ordD a.1.rs, .int (a.1.level : Nat), ordD a.1.ends, recD a.2]
def P_seen : Sight × List (Nat × Deed) → Prop := fun a => a.1.Ok ∧ a.2.length ≤ 1000 ∧ ∀ p ∈ a.2, DeedIn a.1.rs.length a.1.ends.length p.2
def R_seen : Sight × List (Nat × Deed) → D → Prop := fun a d => d = recD (a.2.filter fun p => sees a.1.rs a.1.ends a.1.level p.2)
abbrev A_cut_record : List (Nat × Deed) × Nat → List D := fun a => [recD a.1, .int (a.2 : Nat)]
def P_cut_record : List (Nat × Deed) × Nat → Prop := fun a => a.1.length ≤ 1000
def R_cut_record : List (Nat × Deed) × Nat → D → Prop := fun a d => d = recD (a.1.filter fun p => decide (p.1 < a.2))
/-! ### lots -/
abbrev A_is_lot : List (List Nat) × D → List D := fun a => [ordD a.1, a.2]
def P_is_lot : List (List Nat) × D → Prop := fun a => a.1.length ≤ 1000 ∧ small a.2
def R_is_lot : List (List Nat) × D → D → Prop := fun a d => d = .bool (isRis a.1.length a.2)
abbrev A_joined_lots : List Nat × List Nat → List D := fun a => [tnD a.1, tnD a.2]
def P_joined_lots : List Nat × List Nat → Prop := fun a => a.1.length ≤ 12 ∧ a.2.length ≤ 12
/-- both lots together, rising -/
def R_joined_lots : List Nat × List Nat → D → Prop := fun a d => ∃ ms : List Nat, d = tnD ms ∧ ms.Pairwise (· < ·) ∧ ∀ k, k ∈ ms ↔ k ∈ a.1 ∨ k ∈ a.2
abbrev A_watchers : List (List Nat) × List Nat → List D := fun a => [ordD a.1, tnD a.2]
def P_watchers : List (List Nat) × List Nat → Prop := fun a => a.1.length ≤ 1000 ∧ (∃ many, Rows many a.1) ∧ a.2.length ≤ 1000
def seers (rs : List (List Nat)) (lot : List Nat) : List Nat := (List.range rs.length).filter fun l => lot.all (rs.getD l []).contains
def R_watchers : List (List Nat) × List Nat → D → Prop := fun a d => d = tnD (seers a.1 a.2)
abbrev A_covered : List (List Nat) × List Nat × List Nat → List D := fun a => [ordD a.1, tnD a.2.1, tnD a.2.2]
def P_covered : List (List Nat) × List Nat × List Nat → Prop := fun a => a.1.length ≤ 1000 ∧ (∃ many, Rows many a.1) ∧ a.2.1.length ≤ 1000 ∧ a.2.2.length ≤ 1000
def R_covered : List (List Nat) × List Nat × List Nat → D → Prop := fun a d => d = .bool ((seers a.1 a.2.2).all fun l => a.2.1.all (a.1.getD l []).contains)
/-! ### the law's own -/
abbrev A__law_size : Nat × Nat → List D := fun a => [.int (a.1 : Nat), .int (a.2 : Nat)]
def P__law_size : Nat × Nat → Prop := fun a => a.1 ≤ a.2 ∧ a.2 ≤ 100000
def R__law_size : Nat × Nat → D → Prop := fun a d => ∃ r : Nat, d = .int (r : Nat) ∧ a.1 ≤ r ∧ r ≤ a.2
abbrev A__law_row : Nat → List D := fun a => [.int (a : Nat)]
def P__law_row : Nat → Prop := fun a => a ≤ 100
def R__law_row : Nat → D → Prop := fun a d => ∃ row : List Nat, d = lnD row ∧ row.Perm (List.range a)
/-- each pair goes along the row -/
def Along (row : List Nat) (ps : List (Nat × Nat)) : Prop := ∀ p ∈ ps, ∃ i j, i ≤ j ∧ j < row.length ∧ p = (row.getD i 0, row.getD j 0)
def RowOk (row : List Nat) : Prop := row.Perm (List.range row.length) ∧ 1 ≤ row.length ∧ row.length ≤ 12
structure AskC where
  row : List Nat
  ps : List (Nat × Nat)
abbrev A__law_closed : AskC → List D := fun a => [lnD a.row, .list (a.ps.map prD)]
def P__law_closed : AskC → Prop := fun a => RowOk a.row ∧ a.ps.length ≤ 1000 ∧ Along a.row a.ps
def R__law_closed : AskC → D → Prop := fun a d => ∃ rs, d = ordD rs ∧ Closed a.row.length a.ps rs
abbrev A__law_pairs : List Nat → List D := fun a => [lnD a]
def P__law_pairs : List Nat → Prop := RowOk
def R__law_pairs : List Nat → D → Prop := fun a d => ∃ ps : List (Nat × Nat), d = .list (ps.map prD) ∧ ps.length ≤ 100 ∧ Along a ps
abbrev A__law_refused : AskO → List D := A_checked_pairs
abbrev P__law_refused : AskO → Prop := P_checked_pairs
def R__law_refused : AskO → D → Prop := fun a d => (d = .none ∧ ∃ e, R_order_of a e) ∨ ∃ i : Int, W_order_of a (.int i) ∧ d = .str (PyData.int i).shown
structure AskR where
  ps : List (Nat × Nat)
  r : List Nat
abbrev A__law_is_ring : AskR → List D := fun a => [.list (a.ps.map prD), tnD a.r]
def P__law_is_ring : AskR → Prop := fun a => IsRing a.ps a.r ∧ a.r.length ≤ 60 ∧ a.ps.length ≤ 1000
def R__law_is_ring : AskR → D → Prop := fun _ d => d = .bool true
abbrev A__law_within : List (List Nat) × List Nat × Nat → List D := A_lot_within
abbrev P__law_within : List (List Nat) × List Nat × Nat → Prop := P_lot_within
abbrev R__law_within : List (List Nat) × List Nat × Nat → D → Prop := R_lot_within
/-- rows of an order -/
def RowsOk (rs : List (List Nat)) : Prop := 1 ≤ rs.length ∧ rs.length ≤ 12 ∧ ∀ r ∈ rs, (∀ x ∈ r, x < rs.length) ∧ r.Pairwise (· < ·)
abbrev A__law_lots_hold : List (List Nat) → List D := fun a => [ordD a]
def P__law_lots_hold : List (List Nat) → Prop := RowsOk
def R__law_lots_hold : List (List Nat) → D → Prop := fun _ d => d = .bool true
abbrev A__law_order_spoilt : List (List Nat) → List D := fun a => [ordD a]
def P__law_order_spoilt : List (List Nat) → Prop := fun a => 1 ≤ a.length ∧ a.length ≤ 12 ∧ ∃ ps, Closed a.length ps a
def R__law_order_spoilt : List (List Nat) → D → Prop := fun _ d => isOrd d = false ∧ P_is_order d
def Rec (many threads : Nat) (r : List (Nat × Deed)) : Prop := r.length ≤ 300 ∧ (∀ p ∈ r, p.1 ≤ 3000000 ∧ DeedIn many threads p.2) ∧ r.Pairwise fun p q => p.1 ≤ q.1
abbrev A__law_record : Nat × Nat → List D := fun a => [.int (a.1 : Nat), .int (a.2 : Nat)]
def P__law_record : Nat × Nat → Prop := fun a => 0 < a.1 ∧ 0 < a.2 ∧ a.1 ≤ 100 ∧ a.2 ≤ 100
def R__law_record : Nat × Nat → D → Prop := fun a d => ∃ r, d = recD r ∧ Rec a.1 a.2 r
abbrev A__law_records_hold : List (List Nat) → List D := fun a => [ordD a]
def P__law_records_hold : List (List Nat) → Prop := RowsOk
def R__law_records_hold : List (List Nat) → D → Prop := fun _ d => d = .bool true
abbrev A__law_inputs_hold : List (List Nat) → List D := fun a => [ordD a]
def P__law_inputs_hold : List (List Nat) → Prop := RowsOk
def R__law_inputs_hold : List (List Nat) → D → Prop := fun _ d => d = .bool true
end Ly.K76
namespace Ly.K76
open PySem PySem.Spec PyProof.Rows L2 Ly
/-! ### the text -/
abbrev P0 : Program := PySem.Challenge.pw_lookanyhow_k76_whole_twelve_levels_and_l
def topS (i : Nat) : Stmt := PySem.Challenge.pw_lookanyhow_k76_whole_twelve_levels_and_l.main.body.getD i (.Pass ⟨0, 0, 0, 0⟩)
abbrev s_is_integer : Stmt := topS 4
theorem sc_is_integer : FnScope ["value"] ["value"] (defScope s_is_integer) := ⟨rfl, rfl, rfl, by decide +kernel, rfl, by decide +kernel, by decide +kernel⟩
abbrev s_is_number : Stmt := topS 5
theorem sc_is_number : FnScope ["value"] ["value"] (defScope s_is_number) := ⟨rfl, rfl, rfl, by decide +kernel, rfl, by decide +kernel, by decide +kernel⟩
abbrev s_is_index : Stmt := topS 6
theorem sc_is_index : FnScope ["value", "many"] ["value", "many"] (defScope s_is_index) := ⟨rfl, rfl, rfl, by decide +kernel, rfl, by decide +kernel, by decide +kernel⟩
abbrev s_is_sequence : Stmt := topS 7
theorem sc_is_sequence : FnScope ["value"] ["value"] (defScope s_is_sequence) := ⟨rfl, rfl, rfl, by decide +kernel, rfl, by decide +kernel, by decide +kernel⟩
abbrev s_is_row_of : Stmt := topS 8
theorem sc_is_row_of : FnScope ["value", "sizes"] ["value", "sizes"] (defScope s_is_row_of) := ⟨rfl, rfl, rfl, by decide +kernel, rfl, by decide +kernel, by decide +kernel⟩
abbrev s_is_rising : Stmt := topS 11
theorem sc_is_rising : FnScope ["value", "many", "one", "at"] ["value", "many"] (defScope s_is_rising) := ⟨rfl, rfl, rfl, by decide +kernel, rfl, by decide +kernel, by decide +kernel⟩
abbrev s_is_order : Stmt := topS 12
theorem sc_is_order : FnScope ["value", "below", "level", "lower", "one"] ["value"] (defScope s_is_order) := ⟨rfl, rfl, rfl, by decide +kernel, rfl, by decide +kernel, by decide +kernel⟩
abbrev s_checked_pairs : Stmt := topS 13
theorem sc_checked_pairs : FnScope ["levels", "pairs", "pair", "one"] ["levels", "pairs"] (defScope s_checked_pairs) := ⟨rfl, rfl, rfl, by decide +kernel, rfl, by decide +kernel, by decide +kernel⟩
abbrev s_ways_up : Stmt := topS 14
theorem sc_ways_up : FnScope ["levels", "pairs", "level", "before", "fresh", "later", "one", "low", "high"] ["levels", "pairs", "level"] (defScope s_ways_up) := ⟨rfl, rfl, rfl, by decide +kernel, rfl, by decide +kernel, by decide +kernel⟩
abbrev s_ring_of : Stmt := topS 15
theorem sc_ring_of : FnScope ["levels", "pairs", "level", "before", "found", "at"] ["levels", "pairs"] (defScope s_ring_of) := ⟨rfl, rfl, rfl, by decide +kernel, rfl, by decide +kernel, by decide +kernel⟩
abbrev s_order_of : Stmt := topS 16
theorem sc_order_of : FnScope ["levels", "pairs", "above", "level", "low"] ["levels", "pairs"] (defScope s_order_of) := ⟨rfl, rfl, rfl, by decide +kernel, rfl, by decide +kernel, by decide +kernel⟩
abbrev s_is_lot : Stmt := topS 17
theorem sc_is_lot : FnScope ["order", "value"] ["order", "value"] (defScope s_is_lot) := ⟨rfl, rfl, rfl, by decide +kernel, rfl, by decide +kernel, by decide +kernel⟩
abbrev s_lot_within : Stmt := topS 18
theorem sc_lot_within : FnScope ["order", "lot", "level", "one"] ["order", "lot", "level"] (defScope s_lot_within) := ⟨rfl, rfl, rfl, by decide +kernel, rfl, by decide +kernel, by decide +kernel⟩
abbrev s_joined_lots : Stmt := topS 19
theorem sc_joined_lots : FnScope ["one", "other"] ["one", "other"] (defScope s_joined_lots) := ⟨rfl, rfl, rfl, by decide +kernel, rfl, by decide +kernel, by decide +kernel⟩
abbrev s_watchers : Stmt := topS 20
theorem sc_watchers : FnScope ["order", "lot", "level"] ["order", "lot"] (defScope s_watchers) := ⟨rfl, rfl, rfl, by decide +kernel, rfl, by decide +kernel, by decide +kernel⟩
abbrev s_covered : Stmt := topS 21
theorem sc_covered : FnScope ["order", "one", "other", "level"] ["order", "one", "other"] (defScope s_covered) := ⟨rfl, rfl, rfl, by decide +kernel, rfl, by decide +kernel, by decide +kernel⟩
abbrev s_is_input : Stmt := topS 23
theorem sc_is_input : FnScope ["order", "value", "stream", "one"] ["order", "value"] (defScope s_is_input) := ⟨rfl, rfl, rfl, by decide +kernel, rfl, by decide +kernel, by decide +kernel⟩
abbrev s_alike_inputs : Stmt := topS 24
theorem sc_alike_inputs : FnScope ["order", "level", "one", "other", "lower"] ["order", "level", "one", "other"] (defScope s_alike_inputs) := ⟨rfl, rfl, rfl, by decide +kernel, rfl, by decide +kernel, by decide +kernel⟩
abbrev s_is_deed : Stmt := topS 25
theorem sc_is_deed : FnScope ["order", "value"] ["order", "value"] (defScope s_is_deed) := ⟨rfl, rfl, rfl, by decide +kernel, rfl, by decide +kernel, by decide +kernel⟩
abbrev s_is_record : Stmt := topS 26
theorem sc_is_record : FnScope ["order", "value", "pair", "tick", "deed", "at"] ["order", "value"] (defScope s_is_record) := ⟨rfl, rfl, rfl, by decide +kernel, rfl, by decide +kernel, by decide +kernel⟩
abbrev s_is_seen : Stmt := topS 27
theorem sc_is_seen : FnScope ["order", "level", "ends", "deed"] ["order", "level", "ends", "deed"] (defScope s_is_seen) := ⟨rfl, rfl, rfl, by decide +kernel, rfl, by decide +kernel, by decide +kernel⟩
abbrev s_seen : Stmt := topS 28
theorem sc_seen : FnScope ["order", "level", "ends", "record", "pair"] ["order", "level", "ends", "record"] (defScope s_seen) := ⟨rfl, rfl, rfl, by decide +kernel, rfl, by decide +kernel, by decide +kernel⟩
abbrev s_cut_record : Stmt := topS 29
theorem sc_cut_record : FnScope ["record", "tick", "pair"] ["record", "tick"] (defScope s_cut_record) := ⟨rfl, rfl, rfl, by decide +kernel, rfl, by decide +kernel, by decide +kernel⟩
abbrev s__law_draw : Stmt := topS 31
theorem sc__law_draw : FnScope ["script", "salt", "cells", "cell", "blend"] ["script", "salt"] (defScope s__law_draw) := ⟨rfl, rfl, rfl, by decide +kernel, rfl, by decide +kernel, by decide +kernel⟩
abbrev s__law_any : Stmt := topS 32
theorem sc__law_any : FnScope ["deal", "bound", "rest"] ["deal", "bound"] (defScope s__law_any) := ⟨rfl, rfl, rfl, by decide +kernel, rfl, by decide +kernel, by decide +kernel⟩
abbrev s__law_of : Stmt := topS 33
theorem sc__law_of : FnScope ["deal", "some"] ["deal", "some"] (defScope s__law_of) := ⟨rfl, rfl, rfl, by decide +kernel, rfl, by decide +kernel, by decide +kernel⟩
abbrev s__law_size : Stmt := topS 34
theorem sc__law_size : FnScope ["deal", "least", "most", "form"] ["deal", "least", "most"] (defScope s__law_size) := ⟨rfl, rfl, rfl, by decide +kernel, rfl, by decide +kernel, by decide +kernel⟩
abbrev s__law_row : Stmt := topS 35
theorem sc__law_row : FnScope ["deal", "many", "left", "found", "turn"] ["deal", "many"] (defScope s__law_row) := ⟨rfl, rfl, rfl, by decide +kernel, rfl, by decide +kernel, by decide +kernel⟩
abbrev s__law_closed : Stmt := topS 36
theorem sc__law_closed : FnScope ["row", "pairs", "below", "level", "high", "low", "other"] ["row", "pairs"] (defScope s__law_closed) := ⟨rfl, rfl, rfl, by decide +kernel, rfl, by decide +kernel, by decide +kernel⟩
abbrev s__law_pairs : Stmt := topS 37
theorem sc__law_pairs : FnScope ["deal", "row", "form", "pairs", "at", "turn", "one", "other"] ["deal", "row"] (defScope s__law_pairs) := ⟨rfl, rfl, rfl, by decide +kernel, rfl, by decide +kernel, by decide +kernel⟩
abbrev s__law_refused : Stmt := topS 38
theorem sc__law_refused : FnScope ["levels", "pairs", "e"] ["levels", "pairs"] (defScope s__law_refused) := ⟨rfl, rfl, rfl, by decide +kernel, rfl, by decide +kernel, by decide +kernel⟩
abbrev s__law_is_ring : Stmt := topS 39
theorem sc__law_is_ring : FnScope ["pairs", "ring", "level", "at"] ["pairs", "ring"] (defScope s__law_is_ring) := ⟨rfl, rfl, rfl, by decide +kernel, rfl, by decide +kernel, by decide +kernel⟩
abbrev s__law_within : Stmt := topS 40
theorem sc__law_within : FnScope ["order", "lot", "level", "one"] ["order", "lot", "level"] (defScope s__law_within) := ⟨rfl, rfl, rfl, by decide +kernel, rfl, by decide +kernel, by decide +kernel⟩
abbrev s__law_lots_hold : Stmt := topS 41
theorem sc__law_lots_hold : FnScope ["deal", "order", "many", "lots", "turn", "level", "one", "other", "seers", "lot", "due", "kinds", "wrong"] ["deal", "order"] (defScope s__law_lots_hold) := ⟨rfl, rfl, rfl, by decide +kernel, rfl, by decide +kernel, by decide +kernel⟩
abbrev s__law_order_spoilt : Stmt := topS 42
theorem sc__law_order_spoilt : FnScope ["deal", "order", "at", "some", "level", "high", "top", "mid", "low"] ["deal", "order"] (defScope s__law_order_spoilt) := ⟨rfl, rfl, rfl, by decide +kernel, rfl, by decide +kernel, by decide +kernel⟩
abbrev s__law_record : Stmt := topS 43
theorem sc__law_record : FnScope ["deal", "levels", "threads", "found", "tick", "turn"] ["deal", "levels", "threads"] (defScope s__law_record) := ⟨rfl, rfl, rfl, by decide +kernel, rfl, by decide +kernel, by decide +kernel⟩
abbrev s__law_records_hold : Stmt := topS 44
theorem sc__law_records_hold : FnScope ["deal", "order", "threads", "ends", "level", "turn", "record", "due", "one", "tick", "at", "wrong", "value", "back"] ["deal", "order"] (defScope s__law_records_hold) := ⟨rfl, rfl, rfl, by decide +kernel, rfl, by decide +kernel, by decide +kernel⟩
abbrev s__law_inputs_hold : Stmt := topS 45
theorem sc__law_inputs_hold : FnScope ["deal", "order", "one", "other", "level", "words", "turn", "spot", "due", "low", "wrong", "value"] ["deal", "order"] (defScope s__law_inputs_hold) := ⟨rfl, rfl, rfl, by decide +kernel, rfl, by decide +kernel, by decide +kernel⟩
abbrev s_law : Stmt := topS 46
theorem sc_law : FnScope ["script", "deal", "row", "pairs", "order", "told", "low", "high", "back", "more", "ring", "wrong"] ["script"] (defScope s_law) := ⟨rfl, rfl, rfl, by decide +kernel, rfl, by decide +kernel, by decide +kernel⟩
/-! ### what stands behind the top -/
structure Top (K : PySem.W.Frag) (mg : Str → Option Value) where
  f_is_integer : Addr
  fd_is_integer : FuncData
  F_is_integer : Fun K "is_integer" "is_integer" s_is_integer f_is_integer fd_is_integer
  g_is_integer : mg "is_integer" = some (.ref f_is_integer)
  f_is_number : Addr
  fd_is_number : FuncData
  F_is_number : Fun K "is_number" "is_number" s_is_number f_is_number fd_is_number
  g_is_number : mg "is_number" = some (.ref f_is_number)
  f_is_index : Addr
  fd_is_index : FuncData
  F_is_index : Fun K "is_index" "is_index" s_is_index f_is_index fd_is_index
  g_is_index : mg "is_index" = some (.ref f_is_index)
  f_is_sequence : Addr
  fd_is_sequence : FuncData
  F_is_sequence : Fun K "is_sequence" "is_sequence" s_is_sequence f_is_sequence fd_is_sequence
  g_is_sequence : mg "is_sequence" = some (.ref f_is_sequence)
  f_is_row_of : Addr
  fd_is_row_of : FuncData
  F_is_row_of : Fun K "is_row_of" "is_row_of" s_is_row_of f_is_row_of fd_is_row_of
  g_is_row_of : mg "is_row_of" = some (.ref f_is_row_of)
  f_is_rising : Addr
  fd_is_rising : FuncData
  F_is_rising : Fun K "is_rising" "is_rising" s_is_rising f_is_rising fd_is_rising
  g_is_rising : mg "is_rising" = some (.ref f_is_rising)
  f_is_order : Addr
  fd_is_order : FuncData
  F_is_order : Fun K "is_order" "is_order" s_is_order f_is_order fd_is_order
  g_is_order : mg "is_order" = some (.ref f_is_order)
  f_checked_pairs : Addr
  fd_checked_pairs : FuncData
  F_checked_pairs : Fun K "checked_pairs" "checked_pairs" s_checked_pairs f_checked_pairs fd_checked_pairs
  g_checked_pairs : mg "checked_pairs" = some (.ref f_checked_pairs)
  f_ways_up : Addr
  fd_ways_up : FuncData
  F_ways_up : Fun K "ways_up" "ways_up" s_ways_up f_ways_up fd_ways_up
  g_ways_up : mg "ways_up" = some (.ref f_ways_up)
  f_ring_of : Addr
  fd_ring_of : FuncData
  F_ring_of : Fun K "ring_of" "ring_of" s_ring_of f_ring_of fd_ring_of
  g_ring_of : mg "ring_of" = some (.ref f_ring_of)
  f_order_of : Addr
  fd_order_of : FuncData
  F_order_of : Fun K "order_of" "order_of" s_order_of f_order_of fd_order_of
  g_order_of : mg "order_of" = some (.ref f_order_of)
  f_is_lot : Addr
  fd_is_lot : FuncData
  F_is_lot : Fun K "is_lot" "is_lot" s_is_lot f_is_lot fd_is_lot
  g_is_lot : mg "is_lot" = some (.ref f_is_lot)
  f_lot_within : Addr
  fd_lot_within : FuncData
  F_lot_within : Fun K "lot_within" "lot_within" s_lot_within f_lot_within fd_lot_within
  g_lot_within : mg "lot_within" = some (.ref f_lot_within)
  f_joined_lots : Addr
  fd_joined_lots : FuncData
  F_joined_lots : Fun K "joined_lots" "joined_lots" s_joined_lots f_joined_lots fd_joined_lots
  g_joined_lots : mg "joined_lots" = some (.ref f_joined_lots)
  f_watchers : Addr
  fd_watchers : FuncData
  F_watchers : Fun K "watchers" "watchers" s_watchers f_watchers fd_watchers
  g_watchers : mg "watchers" = some (.ref f_watchers)
  f_covered : Addr
  fd_covered : FuncData
  F_covered : Fun K "covered" "covered" s_covered f_covered fd_covered
  g_covered : mg "covered" = some (.ref f_covered)
  f_is_input : Addr
  fd_is_input : FuncData
  F_is_input : Fun K "is_input" "is_input" s_is_input f_is_input fd_is_input
  g_is_input : mg "is_input" = some (.ref f_is_input)
  f_alike_inputs : Addr
  fd_alike_inputs : FuncData
  F_alike_inputs : Fun K "alike_inputs" "alike_inputs" s_alike_inputs f_alike_inputs fd_alike_inputs
  g_alike_inputs : mg "alike_inputs" = some (.ref f_alike_inputs)
  f_is_deed : Addr
  fd_is_deed : FuncData
  F_is_deed : Fun K "is_deed" "is_deed" s_is_deed f_is_deed fd_is_deed
  g_is_deed : mg "is_deed" = some (.ref f_is_deed)
  f_is_record : Addr
  fd_is_record : FuncData
  F_is_record : Fun K "is_record" "is_record" s_is_record f_is_record fd_is_record
  g_is_record : mg "is_record" = some (.ref f_is_record)
  f_is_seen : Addr
  fd_is_seen : FuncData
  F_is_seen : Fun K "is_seen" "is_seen" s_is_seen f_is_seen fd_is_seen
  g_is_seen : mg "is_seen" = some (.ref f_is_seen)
  f_seen : Addr
  fd_seen : FuncData
  F_seen : Fun K "seen" "seen" s_seen f_seen fd_seen
  g_seen : mg "seen" = some (.ref f_seen)
  f_cut_record : Addr
  fd_cut_record : FuncData
  F_cut_record : Fun K "cut_record" "cut_record" s_cut_record f_cut_record fd_cut_record
  g_cut_record : mg "cut_record" = some (.ref f_cut_record)
  f__law_draw : Addr
  fd__law_draw : FuncData
  F__law_draw : Fun K "_law_draw" "_law_draw" s__law_draw f__law_draw fd__law_draw
  g__law_draw : mg "_law_draw" = some (.ref f__law_draw)
  f__law_any : Addr
  fd__law_any : FuncData
  F__law_any : Fun K "_law_any" "_law_any" s__law_any f__law_any fd__law_any
  g__law_any : mg "_law_any" = some (.ref f__law_any)
  f__law_of : Addr
  fd__law_of : FuncData
  F__law_of : Fun K "_law_of" "_law_of" s__law_of f__law_of fd__law_of
  g__law_of : mg "_law_of" = some (.ref f__law_of)
  f__law_size : Addr
  fd__law_size : FuncData
  F__law_size : Fun K "_law_size" "_law_size" s__law_size f__law_size fd__law_size
  g__law_size : mg "_law_size" = some (.ref f__law_size)
  f__law_row : Addr
  fd__law_row : FuncData
  F__law_row : Fun K "_law_row" "_law_row" s__law_row f__law_row fd__law_row
  g__law_row : mg "_law_row" = some (.ref f__law_row)
  f__law_closed : Addr
  fd__law_closed : FuncData
  F__law_closed : Fun K "_law_closed" "_law_closed" s__law_closed f__law_closed fd__law_closed
  g__law_closed : mg "_law_closed" = some (.ref f__law_closed)
  f__law_pairs : Addr
  fd__law_pairs : FuncData
  F__law_pairs : Fun K "_law_pairs" "_law_pairs" s__law_pairs f__law_pairs fd__law_pairs
  g__law_pairs : mg "_law_pairs" = some (.ref f__law_pairs)
  f__law_refused : Addr
  fd__law_refused : FuncData
  F__law_refused : Fun K "_law_refused" "_law_refused" s__law_refused f__law_refused fd__law_refused
  g__law_refused : mg "_law_refused" = some (.ref f__law_refused)
  f__law_is_ring : Addr
  fd__law_is_ring : FuncData
  F__law_is_ring : Fun K "_law_is_ring" "_law_is_ring" s__law_is_ring f__law_is_ring fd__law_is_ring
  g__law_is_ring : mg "_law_is_ring" = some (.ref f__law_is_ring)
  f__law_within : Addr
  fd__law_within : FuncData
  F__law_within : Fun K "_law_within" "_law_within" s__law_within f__law_within fd__law_within
  g__law_within : mg "_law_within" = some (.ref f__law_within)
  f__law_lots_hold : Addr
  fd__law_lots_hold : FuncData
  F__law_lots_hold : Fun K "_law_lots_hold" "_law_lots_hold" s__law_lots_hold f__law_lots_hold fd__law_lots_hold
  g__law_lots_hold : mg "_law_lots_hold" = some (.ref f__law_lots_hold)
  f__law_order_spoilt : Addr
  fd__law_order_spoilt : FuncData
  F__law_order_spoilt : Fun K "_law_order_spoilt" "_law_order_spoilt" s__law_order_spoilt f__law_order_spoilt fd__law_order_spoilt
  g__law_order_spoilt : mg "_law_order_spoilt" = some (.ref f__law_order_spoilt)
  f__law_record : Addr
  fd__law_record : FuncData
  F__law_record : Fun K "_law_record" "_law_record" s__law_record f__law_record fd__law_record
  g__law_record : mg "_law_record" = some (.ref f__law_record)
  f__law_records_hold : Addr
  fd__law_records_hold : FuncData
  F__law_records_hold : Fun K "_law_records_hold" "_law_records_hold" s__law_records_hold f__law_records_hold fd__law_records_hold
  g__law_records_hold : mg "_law_records_hold" = some (.ref f__law_records_hold)
  f__law_inputs_hold : Addr
  fd__law_inputs_hold : FuncData
  F__law_inputs_hold : Fun K "_law_inputs_hold" "_law_inputs_hold" s__law_inputs_hold f__law_inputs_hold fd__law_inputs_hold
  g__law_inputs_hold : mg "_law_inputs_hold" = some (.ref f__law_inputs_hold)
  f_law : Addr
  fd_law : FuncData
  F_law : Fun K "law" "law" s_law f_law fd_law
  g_law : mg "law" = some (.ref f_law)
  X_InvalidOrder : XT P0 K mg "InvalidOrder" "at"
  v_MOST : V
  u_MOST : Value
  m_MOST : mg "MOST" = some u_MOST
  r_MOST : L2.RelV v_MOST u_MOST
  c_MOST : v_MOST = .int 12
  n_isinstance : mg "isinstance" = none
  n_bool : mg "bool" = none
  n_int : mg "int" = none
  n_tuple : mg "tuple" = none
  n_list : mg "list" = none
  n_len : mg "len" = none
  n_all : mg "all" = none
  n_range : mg "range" = none
  n_enumerate : mg "enumerate" = none
  n_sorted : mg "sorted" = none
  n_set : mg "set" = none
  n_abs : mg "abs" = none
  n_min : mg "min" = none
  n_dict : mg "dict" = none
  n_max : mg "max" = none
  n_repr : mg "repr" = none
section
variable {K : PySem.W.Frag} {f : Addr} {fd : FuncData}
theorem b_is_integer (F : Fun K "is_integer" "is_integer" s_is_integer f fd) : KBinds K fd ["value"] [] (fun us _ => us) (fun vs _ => vs) := binds_pos F fun _ _ _ _ _ _ us hl => match us, hl with | [_], _ => rfl
theorem b_is_number (F : Fun K "is_number" "is_number" s_is_number f fd) : KBinds K fd ["value"] [] (fun us _ => us) (fun vs _ => vs) := binds_pos F fun _ _ _ _ _ _ us hl => match us, hl with | [_], _ => rfl
theorem b_is_index (F : Fun K "is_index" "is_index" s_is_index f fd) : KBinds K fd ["value", "many"] [] (fun us _ => us) (fun vs _ => vs) := binds_pos F fun _ _ _ _ _ _ us hl => match us, hl with | [_, _], _ => rfl
theorem b_is_sequence (F : Fun K "is_sequence" "is_sequence" s_is_sequence f fd) : KBinds K fd ["value"] [] (fun us _ => us) (fun vs _ => vs) := binds_pos F fun _ _ _ _ _ _ us hl => match us, hl with | [_], _ => rfl
theorem b_is_row_of (F : Fun K "is_row_of" "is_row_of" s_is_row_of f fd) : KBinds K fd ["value", "sizes"] [] (fun us _ => us) (fun vs _ => vs) := binds_pos F fun _ _ _ _ _ _ us hl => match us, hl with | [_, _], _ => rfl
theorem b_is_rising (F : Fun K "is_rising" "is_rising" s_is_rising f fd) : KBinds K fd ["value", "many"] [] (fun us _ => us) (fun vs _ => vs) := binds_pos F fun _ _ _ _ _ _ us hl => match us, hl with | [_, _], _ => rfl
theorem b_is_order (F : Fun K "is_order" "is_order" s_is_order f fd) : KBinds K fd ["value"] [] (fun us _ => us) (fun vs _ => vs) := binds_pos F fun _ _ _ _ _ _ us hl => match us, hl with | [_], _ => rfl
theorem b_checked_pairs (F : Fun K "checked_pairs" "checked_pairs" s_checked_pairs f fd) : KBinds K fd ["levels", "pairs"] [] (fun us _ => us) (fun vs _ => vs) := binds_pos F fun _ _ _ _ _ _ us hl => match us, hl with | [_, _], _ => rfl
theorem b_ways_up (F : Fun K "ways_up" "ways_up" s_ways_up f fd) : KBinds K fd ["levels", "pairs", "level"] [] (fun us _ => us) (fun vs _ => vs) := binds_pos F fun _ _ _ _ _ _ us hl => match us, hl with | [_, _, _], _ => rfl
theorem b_ring_of (F : Fun K "ring_of" "ring_of" s_ring_of f fd) : KBinds K fd ["levels", "pairs"] [] (fun us _ => us) (fun vs _ => vs) := binds_pos F fun _ _ _ _ _ _ us hl => match us, hl with | [_, _], _ => rfl
theorem b_order_of (F : Fun K "order_of" "order_of" s_order_of f fd) : KBinds K fd ["levels", "pairs"] [] (fun us _ => us) (fun vs _ => vs) := binds_pos F fun _ _ _ _ _ _ us hl => match us, hl with | [_, _], _ => rfl
theorem b_is_lot (F : Fun K "is_lot" "is_lot" s_is_lot f fd) : KBinds K fd ["order", "value"] [] (fun us _ => us) (fun vs _ => vs) := binds_pos F fun _ _ _ _ _ _ us hl => match us, hl with | [_, _], _ => rfl
theorem b_lot_within (F : Fun K "lot_within" "lot_within" s_lot_within f fd) : KBinds K fd ["order", "lot", "level"] [] (fun us _ => us) (fun vs _ => vs) := binds_pos F fun _ _ _ _ _ _ us hl => match us, hl with | [_, _, _], _ => rfl
theorem b_joined_lots (F : Fun K "joined_lots" "joined_lots" s_joined_lots f fd) : KBinds K fd ["one", "other"] [] (fun us _ => us) (fun vs _ => vs) := binds_pos F fun _ _ _ _ _ _ us hl => match us, hl with | [_, _], _ => rfl
theorem b_watchers (F : Fun K "watchers" "watchers" s_watchers f fd) : KBinds K fd ["order", "lot"] [] (fun us _ => us) (fun vs _ => vs) := binds_pos F fun _ _ _ _ _ _ us hl => match us, hl with | [_, _], _ => rfl
theorem b_covered (F : Fun K "covered" "covered" s_covered f fd) : KBinds K fd ["order", "one", "other"] [] (fun us _ => us) (fun vs _ => vs) := binds_pos F fun _ _ _ _ _ _ us hl => match us, hl with | [_, _, _], _ => rfl
theorem b_is_input (F : Fun K "is_input" "is_input" s_is_input f fd) : KBinds K fd ["order", "value"] [] (fun us _ => us) (fun vs _ => vs) := binds_pos F fun _ _ _ _ _ _ us hl => match us, hl with | [_, _], _ => rfl
theorem b_alike_inputs (F : Fun K "alike_inputs" "alike_inputs" s_alike_inputs f fd) : KBinds K fd ["order", "level", "one", "other"] [] (fun us _ => us) (fun vs _ => vs) := binds_pos F fun _ _ _ _ _ _ us hl => match us, hl with | [_, _, _, _], _ => rfl
theorem b_is_deed (F : Fun K "is_deed" "is_deed" s_is_deed f fd) : KBinds K fd ["order", "value"] [] (fun us _ => us) (fun vs _ => vs) := binds_pos F fun _ _ _ _ _ _ us hl => match us, hl with | [_, _], _ => rfl
theorem b_is_record (F : Fun K "is_record" "is_record" s_is_record f fd) : KBinds K fd ["order", "value"] [] (fun us _ => us) (fun vs _ => vs) := binds_pos F fun _ _ _ _ _ _ us hl => match us, hl with | [_, _], _ => rfl
theorem b_is_seen (F : Fun K "is_seen" "is_seen" s_is_seen f fd) : KBinds K fd ["order", "level", "ends", "deed"] [] (fun us _ => us) (fun vs _ => vs) := binds_pos F fun _ _ _ _ _ _ us hl => match us, hl with | [_, _, _, _], _ => rfl
theorem b_seen (F : Fun K "seen" "seen" s_seen f fd) : KBinds K fd ["order", "level", "ends", "record"] [] (fun us _ => us) (fun vs _ => vs) := binds_pos F fun _ _ _ _ _ _ us hl => match us, hl with | [_, _, _, _], _ => rfl
theorem b_cut_record (F : Fun K "cut_record" "cut_record" s_cut_record f fd) : KBinds K fd ["record", "tick"] [] (fun us _ => us) (fun vs _ => vs) := binds_pos F fun _ _ _ _ _ _ us hl => match us, hl with | [_, _], _ => rfl
theorem b__law_draw (F : Fun K "_law_draw" "_law_draw" s__law_draw f fd) : KBinds K fd ["script", "salt"] [] (fun us _ => us) (fun vs _ => vs) := binds_pos F fun _ _ _ _ _ _ us hl => match us, hl with | [_, _], _ => rfl
theorem b__law_any (F : Fun K "_law_any" "_law_any" s__law_any f fd) : KBinds K fd ["deal", "bound"] [] (fun us _ => us) (fun vs _ => vs) := binds_pos F fun _ _ _ _ _ _ us hl => match us, hl with | [_, _], _ => rfl
theorem b__law_of (F : Fun K "_law_of" "_law_of" s__law_of f fd) : KBinds K fd ["deal", "some"] [] (fun us _ => us) (fun vs _ => vs) := binds_pos F fun _ _ _ _ _ _ us hl => match us, hl with | [_, _], _ => rfl
theorem b__law_size (F : Fun K "_law_size" "_law_size" s__law_size f fd) : KBinds K fd ["deal", "least", "most"] [] (fun us _ => us) (fun vs _ => vs) := binds_pos F fun _ _ _ _ _ _ us hl => match us, hl with | [_, _, _], _ => rfl
theorem b__law_row (F : Fun K "_law_row" "_law_row" s__law_row f fd) : KBinds K fd ["deal", "many"] [] (fun us _ => us) (fun vs _ => vs) := binds_pos F fun _ _ _ _ _ _ us hl => match us, hl with | [_, _], _ => rfl
theorem b__law_closed (F : Fun K "_law_closed" "_law_closed" s__law_closed f fd) : KBinds K fd ["row", "pairs"] [] (fun us _ => us) (fun vs _ => vs) := binds_pos F fun _ _ _ _ _ _ us hl => match us, hl with | [_, _], _ => rfl
theorem b__law_pairs (F : Fun K "_law_pairs" "_law_pairs" s__law_pairs f fd) : KBinds K fd ["deal", "row"] [] (fun us _ => us) (fun vs _ => vs) := binds_pos F fun _ _ _ _ _ _ us hl => match us, hl with | [_, _], _ => rfl
theorem b__law_refused (F : Fun K "_law_refused" "_law_refused" s__law_refused f fd) : KBinds K fd ["levels", "pairs"] [] (fun us _ => us) (fun vs _ => vs) := binds_pos F fun _ _ _ _ _ _ us hl => match us, hl with | [_, _], _ => rfl
theorem b__law_is_ring (F : Fun K "_law_is_ring" "_law_is_ring" s__law_is_ring f fd) : KBinds K fd ["pairs", "ring"] [] (fun us _ => us) (fun vs _ => vs) := binds_pos F fun _ _ _ _ _ _ us hl => match us, hl with | [_, _], _ => rfl
theorem b__law_within (F : Fun K "_law_within" "_law_within" s__law_within f fd) : KBinds K fd ["order", "lot", "level"] [] (fun us _ => us) (fun vs _ => vs) := binds_pos F fun _ _ _ _ _ _ us hl => match us, hl with | [_, _, _], _ => rfl
theorem b__law_lots_hold (F : Fun K "_law_lots_hold" "_law_lots_hold" s__law_lots_hold f fd) : KBinds K fd ["deal", "order"] [] (fun us _ => us) (fun vs _ => vs) := binds_pos F fun _ _ _ _ _ _ us hl => match us, hl with | [_, _], _ => rfl
theorem b__law_order_spoilt (F : Fun K "_law_order_spoilt" "_law_order_spoilt" s__law_order_spoilt f fd) : KBinds K fd ["deal", "order"] [] (fun us _ => us) (fun vs _ => vs) := binds_pos F fun _ _ _ _ _ _ us hl => match us, hl with | [_, _], _ => rfl
theorem b__law_record (F : Fun K "_law_record" "_law_record" s__law_record f fd) : KBinds K fd ["deal", "levels", "threads"] [] (fun us _ => us) (fun vs _ => vs) := binds_pos F fun _ _ _ _ _ _ us hl => match us, hl with | [_, _, _], _ => rfl
theorem b__law_records_hold (F : Fun K "_law_records_hold" "_law_records_hold" s__law_records_hold f fd) : KBinds K fd ["deal", "order"] [] (fun us _ => us) (fun vs _ => vs) := binds_pos F fun _ _ _ _ _ _ us hl => match us, hl with | [_, _], _ => rfl
theorem b__law_inputs_hold (F : Fun K "_law_inputs_hold" "_law_inputs_hold" s__law_inputs_hold f fd) : KBinds K fd ["deal", "order"] [] (fun us _ => us) (fun vs _ => vs) := binds_pos F fun _ _ _ _ _ _ us hl => match us, hl with | [_, _], _ => rfl
theorem b_law (F : Fun K "law" "law" s_law f fd) : KBinds K fd ["script"] [] (fun us _ => us) (fun vs _ => vs) := binds_pos F fun _ _ _ _ _ _ us hl => match us, hl with | [_], _ => rfl
def kf_is_lot_0_order_value {α : Type} (us ws : List α) : List α := match us, ws with | [], [k0, k1] => [k0, k1] | _, _ => []
theorem kr_is_lot_0_order_value {vs zs : List V} {us ws : List Value} (h1 : Vals vs us) (h2 : Vals zs ws) : Vals (kf_is_lot_0_order_value vs zs) (kf_is_lot_0_order_value us ws) := by
  cases h1 with
  | nil =>
    cases h2 with
    | nil => first | exact .nil | (cases h2 <;> exact .nil)
    | cons r_order h2 =>
      cases h2 with
      | nil => first | exact .nil | (cases h2 <;> exact .nil)
      | cons r_value h2 =>
        cases h2 with
        | nil =>
          exact (.cons r_order (.cons r_value .nil))
        | cons _ _ => first | exact .nil | (cases h2 <;> exact .nil)
  | cons _ _ => first | exact .nil | (cases h2 <;> exact .nil)
theorem kd_is_lot_0_order_value {H : Hp} {vs zs : List V} {us ws : List D} (h1 : DqAll K H vs us) (h2 : DqAll K H zs ws) : DqAll K H (kf_is_lot_0_order_value vs zs) (kf_is_lot_0_order_value us ws) := by
  cases h1 with
  | nil =>
    cases h2 with
    | nil => first | exact .nil | (cases h2 <;> exact .nil)
    | cons r_order h2 =>
      cases h2 with
      | nil => first | exact .nil | (cases h2 <;> exact .nil)
      | cons r_value h2 =>
        cases h2 with
        | nil =>
          exact (.cons r_order (.cons r_value .nil))
        | cons _ _ => first | exact .nil | (cases h2 <;> exact .nil)
  | cons _ _ => first | exact .nil | (cases h2 <;> exact .nil)
theorem kb_is_lot_0_order_value (F : Fun K "is_lot" "is_lot" s_is_lot f fd) : KBinds K fd ["order", "value"] ["order", "value"] (fun us ws => kf_is_lot_0_order_value us ws) (fun vs zs => kf_is_lot_0_order_value vs zs) := by
  refine binds_kw F ["order", "value"] kf_is_lot_0_order_value kr_is_lot_0_order_value fun _ _ _ _ _ _ us ws hl => ?_
  rcases us with _ | ⟨_, us⟩ <;> rcases ws with _ | ⟨x1, _ | ⟨x0, _ | ⟨_, ws⟩⟩⟩ <;> first | rfl | (cases hl; done)
def kf_covered_0_order_one_other {α : Type} (us ws : List α) : List α := match us, ws with | [], [k0, k1, k2] => [k0, k1, k2] | _, _ => []
theorem kr_covered_0_order_one_other {vs zs : List V} {us ws : List Value} (h1 : Vals vs us) (h2 : Vals zs ws) : Vals (kf_covered_0_order_one_other vs zs) (kf_covered_0_order_one_other us ws) := by
  cases h1 with
  | nil =>
    cases h2 with
    | nil => first | exact .nil | (cases h2 <;> exact .nil)
    | cons r_order h2 =>
      cases h2 with
      | nil => first | exact .nil | (cases h2 <;> exact .nil)
      | cons r_one h2 =>
        cases h2 with
        | nil => first | exact .nil | (cases h2 <;> exact .nil)
        | cons r_other h2 =>
          cases h2 with
          | nil =>
            exact (.cons r_order (.cons r_one (.cons r_other .nil)))
          | cons _ _ => first | exact .nil | (cases h2 <;> exact .nil)
  | cons _ _ => first | exact .nil | (cases h2 <;> exact .nil)
theorem kd_covered_0_order_one_other {H : Hp} {vs zs : List V} {us ws : List D} (h1 : DqAll K H vs us) (h2 : DqAll K H zs ws) : DqAll K H (kf_covered_0_order_one_other vs zs) (kf_covered_0_order_one_other us ws) := by
  cases h1 with
  | nil =>
    cases h2 with
    | nil => first | exact .nil | (cases h2 <;> exact .nil)
    | cons r_order h2 =>
      cases h2 with
      | nil => first | exact .nil | (cases h2 <;> exact .nil)
      | cons r_one h2 =>
        cases h2 with
        | nil => first | exact .nil | (cases h2 <;> exact .nil)
        | cons r_other h2 =>
          cases h2 with
          | nil =>
            exact (.cons r_order (.cons r_one (.cons r_other .nil)))
          | cons _ _ => first | exact .nil | (cases h2 <;> exact .nil)
  | cons _ _ => first | exact .nil | (cases h2 <;> exact .nil)
theorem kb_covered_0_order_one_other (F : Fun K "covered" "covered" s_covered f fd) : KBinds K fd ["order", "one", "other"] ["order", "one", "other"] (fun us ws => kf_covered_0_order_one_other us ws) (fun vs zs => kf_covered_0_order_one_other vs zs) := by
  refine binds_kw F ["order", "one", "other"] kf_covered_0_order_one_other kr_covered_0_order_one_other fun _ _ _ _ _ _ us ws hl => ?_
  rcases us with _ | ⟨_, us⟩ <;> rcases ws with _ | ⟨x2, _ | ⟨x1, _ | ⟨x0, _ | ⟨_, ws⟩⟩⟩⟩ <;> first | rfl | (cases hl; done)
def kf_joined_lots_0_one_other {α : Type} (us ws : List α) : List α := match us, ws with | [], [k0, k1] => [k0, k1] | _, _ => []
theorem kr_joined_lots_0_one_other {vs zs : List V} {us ws : List Value} (h1 : Vals vs us) (h2 : Vals zs ws) : Vals (kf_joined_lots_0_one_other vs zs) (kf_joined_lots_0_one_other us ws) := by
  cases h1 with
  | nil =>
    cases h2 with
    | nil => first | exact .nil | (cases h2 <;> exact .nil)
    | cons r_one h2 =>
      cases h2 with
      | nil => first | exact .nil | (cases h2 <;> exact .nil)
      | cons r_other h2 =>
        cases h2 with
        | nil =>
          exact (.cons r_one (.cons r_other .nil))
        | cons _ _ => first | exact .nil | (cases h2 <;> exact .nil)
  | cons _ _ => first | exact .nil | (cases h2 <;> exact .nil)
theorem kd_joined_lots_0_one_other {H : Hp} {vs zs : List V} {us ws : List D} (h1 : DqAll K H vs us) (h2 : DqAll K H zs ws) : DqAll K H (kf_joined_lots_0_one_other vs zs) (kf_joined_lots_0_one_other us ws) := by
  cases h1 with
  | nil =>
    cases h2 with
    | nil => first | exact .nil | (cases h2 <;> exact .nil)
    | cons r_one h2 =>
      cases h2 with
      | nil => first | exact .nil | (cases h2 <;> exact .nil)
      | cons r_other h2 =>
        cases h2 with
        | nil =>
          exact (.cons r_one (.cons r_other .nil))
        | cons _ _ => first | exact .nil | (cases h2 <;> exact .nil)
  | cons _ _ => first | exact .nil | (cases h2 <;> exact .nil)
theorem kb_joined_lots_0_one_other (F : Fun K "joined_lots" "joined_lots" s_joined_lots f fd) : KBinds K fd ["one", "other"] ["one", "other"] (fun us ws => kf_joined_lots_0_one_other us ws) (fun vs zs => kf_joined_lots_0_one_other vs zs) := by
  refine binds_kw F ["one", "other"] kf_joined_lots_0_one_other kr_joined_lots_0_one_other fun _ _ _ _ _ _ us ws hl => ?_
  rcases us with _ | ⟨_, us⟩ <;> rcases ws with _ | ⟨x1, _ | ⟨x0, _ | ⟨_, ws⟩⟩⟩ <;> first | rfl | (cases hl; done)
def kf_watchers_0_order_lot {α : Type} (us ws : List α) : List α := match us, ws with | [], [k0, k1] => [k0, k1] | _, _ => []
theorem kr_watchers_0_order_lot {vs zs : List V} {us ws : List Value} (h1 : Vals vs us) (h2 : Vals zs ws) : Vals (kf_watchers_0_order_lot vs zs) (kf_watchers_0_order_lot us ws) := by
  cases h1 with
  | nil =>
    cases h2 with
    | nil => first | exact .nil | (cases h2 <;> exact .nil)
    | cons r_order h2 =>
      cases h2 with
      | nil => first | exact .nil | (cases h2 <;> exact .nil)
      | cons r_lot h2 =>
        cases h2 with
        | nil =>
          exact (.cons r_order (.cons r_lot .nil))
        | cons _ _ => first | exact .nil | (cases h2 <;> exact .nil)
  | cons _ _ => first | exact .nil | (cases h2 <;> exact .nil)
theorem kd_watchers_0_order_lot {H : Hp} {vs zs : List V} {us ws : List D} (h1 : DqAll K H vs us) (h2 : DqAll K H zs ws) : DqAll K H (kf_watchers_0_order_lot vs zs) (kf_watchers_0_order_lot us ws) := by
  cases h1 with
  | nil =>
    cases h2 with
    | nil => first | exact .nil | (cases h2 <;> exact .nil)
    | cons r_order h2 =>
      cases h2 with
      | nil => first | exact .nil | (cases h2 <;> exact .nil)
      | cons r_lot h2 =>
        cases h2 with
        | nil =>
          exact (.cons r_order (.cons r_lot .nil))
        | cons _ _ => first | exact .nil | (cases h2 <;> exact .nil)
  | cons _ _ => first | exact .nil | (cases h2 <;> exact .nil)
theorem kb_watchers_0_order_lot (F : Fun K "watchers" "watchers" s_watchers f fd) : KBinds K fd ["order", "lot"] ["order", "lot"] (fun us ws => kf_watchers_0_order_lot us ws) (fun vs zs => kf_watchers_0_order_lot vs zs) := by
  refine binds_kw F ["order", "lot"] kf_watchers_0_order_lot kr_watchers_0_order_lot fun _ _ _ _ _ _ us ws hl => ?_
  rcases us with _ | ⟨_, us⟩ <;> rcases ws with _ | ⟨x1, _ | ⟨x0, _ | ⟨_, ws⟩⟩⟩ <;> first | rfl | (cases hl; done)
def kf_lot_within_0_order_lot_level {α : Type} (us ws : List α) : List α := match us, ws with | [], [k0, k1, k2] => [k0, k1, k2] | _, _ => []
theorem kr_lot_within_0_order_lot_level {vs zs : List V} {us ws : List Value} (h1 : Vals vs us) (h2 : Vals zs ws) : Vals (kf_lot_within_0_order_lot_level vs zs) (kf_lot_within_0_order_lot_level us ws) := by
  cases h1 with
  | nil =>
    cases h2 with
    | nil => first | exact .nil | (cases h2 <;> exact .nil)
    | cons r_order h2 =>
      cases h2 with
      | nil => first | exact .nil | (cases h2 <;> exact .nil)
      | cons r_lot h2 =>
        cases h2 with
        | nil => first | exact .nil | (cases h2 <;> exact .nil)
        | cons r_level h2 =>
          cases h2 with
          | nil =>
            exact (.cons r_order (.cons r_lot (.cons r_level .nil)))
          | cons _ _ => first | exact .nil | (cases h2 <;> exact .nil)
  | cons _ _ => first | exact .nil | (cases h2 <;> exact .nil)
theorem kd_lot_within_0_order_lot_level {H : Hp} {vs zs : List V} {us ws : List D} (h1 : DqAll K H vs us) (h2 : DqAll K H zs ws) : DqAll K H (kf_lot_within_0_order_lot_level vs zs) (kf_lot_within_0_order_lot_level us ws) := by
  cases h1 with
  | nil =>
    cases h2 with
    | nil => first | exact .nil | (cases h2 <;> exact .nil)
    | cons r_order h2 =>
      cases h2 with
      | nil => first | exact .nil | (cases h2 <;> exact .nil)
      | cons r_lot h2 =>
        cases h2 with
        | nil => first | exact .nil | (cases h2 <;> exact .nil)
        | cons r_level h2 =>
          cases h2 with
          | nil =>
            exact (.cons r_order (.cons r_lot (.cons r_level .nil)))
          | cons _ _ => first | exact .nil | (cases h2 <;> exact .nil)
  | cons _ _ => first | exact .nil | (cases h2 <;> exact .nil)
theorem kb_lot_within_0_order_lot_level (F : Fun K "lot_within" "lot_within" s_lot_within f fd) : KBinds K fd ["order", "lot", "level"] ["order", "lot", "level"] (fun us ws => kf_lot_within_0_order_lot_level us ws) (fun vs zs => kf_lot_within_0_order_lot_level vs zs) := by
  refine binds_kw F ["order", "lot", "level"] kf_lot_within_0_order_lot_level kr_lot_within_0_order_lot_level fun _ _ _ _ _ _ us ws hl => ?_
  rcases us with _ | ⟨_, us⟩ <;> rcases ws with _ | ⟨x2, _ | ⟨x1, _ | ⟨x0, _ | ⟨_, ws⟩⟩⟩⟩ <;> first | rfl | (cases hl; done)
def kf_cut_record_0_record_tick {α : Type} (us ws : List α) : List α := match us, ws with | [], [k0, k1] => [k0, k1] | _, _ => []
theorem kr_cut_record_0_record_tick {vs zs : List V} {us ws : List Value} (h1 : Vals vs us) (h2 : Vals zs ws) : Vals (kf_cut_record_0_record_tick vs zs) (kf_cut_record_0_record_tick us ws) := by
  cases h1 with
  | nil =>
    cases h2 with
    | nil => first | exact .nil | (cases h2 <;> exact .nil)
    | cons r_record h2 =>
      cases h2 with
      | nil => first | exact .nil | (cases h2 <;> exact .nil)
      | cons r_tick h2 =>
        cases h2 with
        | nil =>
          exact (.cons r_record (.cons r_tick .nil))
        | cons _ _ => first | exact .nil | (cases h2 <;> exact .nil)
  | cons _ _ => first | exact .nil | (cases h2 <;> exact .nil)
theorem kd_cut_record_0_record_tick {H : Hp} {vs zs : List V} {us ws : List D} (h1 : DqAll K H vs us) (h2 : DqAll K H zs ws) : DqAll K H (kf_cut_record_0_record_tick vs zs) (kf_cut_record_0_record_tick us ws) := by
  cases h1 with
  | nil =>
    cases h2 with
    | nil => first | exact .nil | (cases h2 <;> exact .nil)
    | cons r_record h2 =>
      cases h2 with
      | nil => first | exact .nil | (cases h2 <;> exact .nil)
      | cons r_tick h2 =>
        cases h2 with
        | nil =>
          exact (.cons r_record (.cons r_tick .nil))
        | cons _ _ => first | exact .nil | (cases h2 <;> exact .nil)
  | cons _ _ => first | exact .nil | (cases h2 <;> exact .nil)
theorem kb_cut_record_0_record_tick (F : Fun K "cut_record" "cut_record" s_cut_record f fd) : KBinds K fd ["record", "tick"] ["record", "tick"] (fun us ws => kf_cut_record_0_record_tick us ws) (fun vs zs => kf_cut_record_0_record_tick vs zs) := by
  refine binds_kw F ["record", "tick"] kf_cut_record_0_record_tick kr_cut_record_0_record_tick fun _ _ _ _ _ _ us ws hl => ?_
  rcases us with _ | ⟨_, us⟩ <;> rcases ws with _ | ⟨x1, _ | ⟨x0, _ | ⟨_, ws⟩⟩⟩ <;> first | rfl | (cases hl; done)
def kf_seen_0_order_level_ends_record {α : Type} (us ws : List α) : List α := match us, ws with | [], [k0, k1, k2, k3] => [k0, k1, k2, k3] | _, _ => []
theorem kr_seen_0_order_level_ends_record {vs zs : List V} {us ws : List Value} (h1 : Vals vs us) (h2 : Vals zs ws) : Vals (kf_seen_0_order_level_ends_record vs zs) (kf_seen_0_order_level_ends_record us ws) := by
  cases h1 with
  | nil =>
    cases h2 with
    | nil => first | exact .nil | (cases h2 <;> exact .nil)
    | cons r_order h2 =>
      cases h2 with
      | nil => first | exact .nil | (cases h2 <;> exact .nil)
      | cons r_level h2 =>
        cases h2 with
        | nil => first | exact .nil | (cases h2 <;> exact .nil)
        | cons r_ends h2 =>
          cases h2 with
          | nil => first | exact .nil | (cases h2 <;> exact .nil)
          | cons r_record h2 =>
            cases h2 with
            | nil =>
              exact (.cons r_order (.cons r_level (.cons r_ends (.cons r_record .nil))))
            | cons _ _ => first | exact .nil | (cases h2 <;> exact .nil)
  | cons _ _ => first | exact .nil | (cases h2 <;> exact .nil)
theorem kd_seen_0_order_level_ends_record {H : Hp} {vs zs : List V} {us ws : List D} (h1 : DqAll K H vs us) (h2 : DqAll K H zs ws) : DqAll K H (kf_seen_0_order_level_ends_record vs zs) (kf_seen_0_order_level_ends_record us ws) := by
  cases h1 with
  | nil =>
    cases h2 with
    | nil => first | exact .nil | (cases h2 <;> exact .nil)
    | cons r_order h2 =>
      cases h2 with
      | nil => first | exact .nil | (cases h2 <;> exact .nil)
      | cons r_level h2 =>
        cases h2 with
        | nil => first | exact .nil | (cases h2 <;> exact .nil)
        | cons r_ends h2 =>
          cases h2 with
          | nil => first | exact .nil | (cases h2 <;> exact .nil)
          | cons r_record h2 =>
            cases h2 with
            | nil =>
              exact (.cons r_order (.cons r_level (.cons r_ends (.cons r_record .nil))))
            | cons _ _ => first | exact .nil | (cases h2 <;> exact .nil)
  | cons _ _ => first | exact .nil | (cases h2 <;> exact .nil)
theorem kb_seen_0_order_level_ends_record (F : Fun K "seen" "seen" s_seen f fd) : KBinds K fd ["order", "level", "ends", "record"] ["order", "level", "ends", "record"] (fun us ws => kf_seen_0_order_level_ends_record us ws) (fun vs zs => kf_seen_0_order_level_ends_record vs zs) := by
  refine binds_kw F ["order", "level", "ends", "record"] kf_seen_0_order_level_ends_record kr_seen_0_order_level_ends_record fun _ _ _ _ _ _ us ws hl => ?_
  rcases us with _ | ⟨_, us⟩ <;> rcases ws with _ | ⟨x3, _ | ⟨x2, _ | ⟨x1, _ | ⟨x0, _ | ⟨_, ws⟩⟩⟩⟩⟩ <;> first | rfl | (cases hl; done)
def kf_is_record_0_order_value {α : Type} (us ws : List α) : List α := match us, ws with | [], [k0, k1] => [k0, k1] | _, _ => []
theorem kr_is_record_0_order_value {vs zs : List V} {us ws : List Value} (h1 : Vals vs us) (h2 : Vals zs ws) : Vals (kf_is_record_0_order_value vs zs) (kf_is_record_0_order_value us ws) := by
  cases h1 with
  | nil =>
    cases h2 with
    | nil => first | exact .nil | (cases h2 <;> exact .nil)
    | cons r_order h2 =>
      cases h2 with
      | nil => first | exact .nil | (cases h2 <;> exact .nil)
      | cons r_value h2 =>
        cases h2 with
        | nil =>
          exact (.cons r_order (.cons r_value .nil))
        | cons _ _ => first | exact .nil | (cases h2 <;> exact .nil)
  | cons _ _ => first | exact .nil | (cases h2 <;> exact .nil)
theorem kd_is_record_0_order_value {H : Hp} {vs zs : List V} {us ws : List D} (h1 : DqAll K H vs us) (h2 : DqAll K H zs ws) : DqAll K H (kf_is_record_0_order_value vs zs) (kf_is_record_0_order_value us ws) := by
  cases h1 with
  | nil =>
    cases h2 with
    | nil => first | exact .nil | (cases h2 <;> exact .nil)
    | cons r_order h2 =>
      cases h2 with
      | nil => first | exact .nil | (cases h2 <;> exact .nil)
      | cons r_value h2 =>
        cases h2 with
        | nil =>
          exact (.cons r_order (.cons r_value .nil))
        | cons _ _ => first | exact .nil | (cases h2 <;> exact .nil)
  | cons _ _ => first | exact .nil | (cases h2 <;> exact .nil)
theorem kb_is_record_0_order_value (F : Fun K "is_record" "is_record" s_is_record f fd) : KBinds K fd ["order", "value"] ["order", "value"] (fun us ws => kf_is_record_0_order_value us ws) (fun vs zs => kf_is_record_0_order_value vs zs) := by
  refine binds_kw F ["order", "value"] kf_is_record_0_order_value kr_is_record_0_order_value fun _ _ _ _ _ _ us ws hl => ?_
  rcases us with _ | ⟨_, us⟩ <;> rcases ws with _ | ⟨x1, _ | ⟨x0, _ | ⟨_, ws⟩⟩⟩ <;> first | rfl | (cases hl; done)
def kf_is_input_0_order_value {α : Type} (us ws : List α) : List α := match us, ws with | [], [k0, k1] => [k0, k1] | _, _ => []
theorem kr_is_input_0_order_value {vs zs : List V} {us ws : List Value} (h1 : Vals vs us) (h2 : Vals zs ws) : Vals (kf_is_input_0_order_value vs zs) (kf_is_input_0_order_value us ws) := by
  cases h1 with
  | nil =>
    cases h2 with
    | nil => first | exact .nil | (cases h2 <;> exact .nil)
    | cons r_order h2 =>
      cases h2 with
      | nil => first | exact .nil | (cases h2 <;> exact .nil)
      | cons r_value h2 =>
        cases h2 with
        | nil =>
          exact (.cons r_order (.cons r_value .nil))
        | cons _ _ => first | exact .nil | (cases h2 <;> exact .nil)
  | cons _ _ => first | exact .nil | (cases h2 <;> exact .nil)
theorem kd_is_input_0_order_value {H : Hp} {vs zs : List V} {us ws : List D} (h1 : DqAll K H vs us) (h2 : DqAll K H zs ws) : DqAll K H (kf_is_input_0_order_value vs zs) (kf_is_input_0_order_value us ws) := by
  cases h1 with
  | nil =>
    cases h2 with
    | nil => first | exact .nil | (cases h2 <;> exact .nil)
    | cons r_order h2 =>
      cases h2 with
      | nil => first | exact .nil | (cases h2 <;> exact .nil)
      | cons r_value h2 =>
        cases h2 with
        | nil =>
          exact (.cons r_order (.cons r_value .nil))
        | cons _ _ => first | exact .nil | (cases h2 <;> exact .nil)
  | cons _ _ => first | exact .nil | (cases h2 <;> exact .nil)
theorem kb_is_input_0_order_value (F : Fun K "is_input" "is_input" s_is_input f fd) : KBinds K fd ["order", "value"] ["order", "value"] (fun us ws => kf_is_input_0_order_value us ws) (fun vs zs => kf_is_input_0_order_value vs zs) := by
  refine binds_kw F ["order", "value"] kf_is_input_0_order_value kr_is_input_0_order_value fun _ _ _ _ _ _ us ws hl => ?_
  rcases us with _ | ⟨_, us⟩ <;> rcases ws with _ | ⟨x1, _ | ⟨x0, _ | ⟨_, ws⟩⟩⟩ <;> first | rfl | (cases hl; done)
def kf_alike_inputs_0_order_level_one_other {α : Type} (us ws : List α) : List α := match us, ws with | [], [k0, k1, k2, k3] => [k0, k1, k2, k3] | _, _ => []
theorem kr_alike_inputs_0_order_level_one_other {vs zs : List V} {us ws : List Value} (h1 : Vals vs us) (h2 : Vals zs ws) : Vals (kf_alike_inputs_0_order_level_one_other vs zs) (kf_alike_inputs_0_order_level_one_other us ws) := by
  cases h1 with
  | nil =>
    cases h2 with
    | nil => first | exact .nil | (cases h2 <;> exact .nil)
    | cons r_order h2 =>
      cases h2 with
      | nil => first | exact .nil | (cases h2 <;> exact .nil)
      | cons r_level h2 =>
        cases h2 with
        | nil => first | exact .nil | (cases h2 <;> exact .nil)
        | cons r_one h2 =>
          cases h2 with
          | nil => first | exact .nil | (cases h2 <;> exact .nil)
          | cons r_other h2 =>
            cases h2 with
            | nil =>
              exact (.cons r_order (.cons r_level (.cons r_one (.cons r_other .nil))))
            | cons _ _ => first | exact .nil | (cases h2 <;> exact .nil)
  | cons _ _ => first | exact .nil | (cases h2 <;> exact .nil)
theorem kd_alike_inputs_0_order_level_one_other {H : Hp} {vs zs : List V} {us ws : List D} (h1 : DqAll K H vs us) (h2 : DqAll K H zs ws) : DqAll K H (kf_alike_inputs_0_order_level_one_other vs zs) (kf_alike_inputs_0_order_level_one_other us ws) := by
  cases h1 with
  | nil =>
    cases h2 with
    | nil => first | exact .nil | (cases h2 <;> exact .nil)
    | cons r_order h2 =>
      cases h2 with
      | nil => first | exact .nil | (cases h2 <;> exact .nil)
      | cons r_level h2 =>
        cases h2 with
        | nil => first | exact .nil | (cases h2 <;> exact .nil)
        | cons r_one h2 =>
          cases h2 with
          | nil => first | exact .nil | (cases h2 <;> exact .nil)
          | cons r_other h2 =>
            cases h2 with
            | nil =>
              exact (.cons r_order (.cons r_level (.cons r_one (.cons r_other .nil))))
            | cons _ _ => first | exact .nil | (cases h2 <;> exact .nil)
  | cons _ _ => first | exact .nil | (cases h2 <;> exact .nil)
theorem kb_alike_inputs_0_order_level_one_other (F : Fun K "alike_inputs" "alike_inputs" s_alike_inputs f fd) : KBinds K fd ["order", "level", "one", "other"] ["order", "level", "one", "other"] (fun us ws => kf_alike_inputs_0_order_level_one_other us ws) (fun vs zs => kf_alike_inputs_0_order_level_one_other vs zs) := by
  refine binds_kw F ["order", "level", "one", "other"] kf_alike_inputs_0_order_level_one_other kr_alike_inputs_0_order_level_one_other fun _ _ _ _ _ _ us ws hl => ?_
  rcases us with _ | ⟨_, us⟩ <;> rcases ws with _ | ⟨x3, _ | ⟨x2, _ | ⟨x1, _ | ⟨x0, _ | ⟨_, ws⟩⟩⟩⟩⟩ <;> first | rfl | (cases hl; done)
def kf_ring_of_0_levels_pairs {α : Type} (us ws : List α) : List α := match us, ws with | [], [k0, k1] => [k0, k1] | _, _ => []
theorem kr_ring_of_0_levels_pairs {vs zs : List V} {us ws : List Value} (h1 : Vals vs us) (h2 : Vals zs ws) : Vals (kf_ring_of_0_levels_pairs vs zs) (kf_ring_of_0_levels_pairs us ws) := by
  cases h1 with
  | nil =>
    cases h2 with
    | nil => first | exact .nil | (cases h2 <;> exact .nil)
    | cons r_levels h2 =>
      cases h2 with
      | nil => first | exact .nil | (cases h2 <;> exact .nil)
      | cons r_pairs h2 =>
        cases h2 with
        | nil =>
          exact (.cons r_levels (.cons r_pairs .nil))
        | cons _ _ => first | exact .nil | (cases h2 <;> exact .nil)
  | cons _ _ => first | exact .nil | (cases h2 <;> exact .nil)
theorem kd_ring_of_0_levels_pairs {H : Hp} {vs zs : List V} {us ws : List D} (h1 : DqAll K H vs us) (h2 : DqAll K H zs ws) : DqAll K H (kf_ring_of_0_levels_pairs vs zs) (kf_ring_of_0_levels_pairs us ws) := by
  cases h1 with
  | nil =>
    cases h2 with
    | nil => first | exact .nil | (cases h2 <;> exact .nil)
    | cons r_levels h2 =>
      cases h2 with
      | nil => first | exact .nil | (cases h2 <;> exact .nil)
      | cons r_pairs h2 =>
        cases h2 with
        | nil =>
          exact (.cons r_levels (.cons r_pairs .nil))
        | cons _ _ => first | exact .nil | (cases h2 <;> exact .nil)
  | cons _ _ => first | exact .nil | (cases h2 <;> exact .nil)
theorem kb_ring_of_0_levels_pairs (F : Fun K "ring_of" "ring_of" s_ring_of f fd) : KBinds K fd ["levels", "pairs"] ["levels", "pairs"] (fun us ws => kf_ring_of_0_levels_pairs us ws) (fun vs zs => kf_ring_of_0_levels_pairs vs zs) := by
  refine binds_kw F ["levels", "pairs"] kf_ring_of_0_levels_pairs kr_ring_of_0_levels_pairs fun _ _ _ _ _ _ us ws hl => ?_
  rcases us with _ | ⟨_, us⟩ <;> rcases ws with _ | ⟨x1, _ | ⟨x0, _ | ⟨_, ws⟩⟩⟩ <;> first | rfl | (cases hl; done)
def kf_is_order_0_value {α : Type} (us ws : List α) : List α := match us, ws with | [], [k0] => [k0] | _, _ => []
theorem kr_is_order_0_value {vs zs : List V} {us ws : List Value} (h1 : Vals vs us) (h2 : Vals zs ws) : Vals (kf_is_order_0_value vs zs) (kf_is_order_0_value us ws) := by
  cases h1 with
  | nil =>
    cases h2 with
    | nil => first | exact .nil | (cases h2 <;> exact .nil)
    | cons r_value h2 =>
      cases h2 with
      | nil =>
        exact (.cons r_value .nil)
      | cons _ _ => first | exact .nil | (cases h2 <;> exact .nil)
  | cons _ _ => first | exact .nil | (cases h2 <;> exact .nil)
theorem kd_is_order_0_value {H : Hp} {vs zs : List V} {us ws : List D} (h1 : DqAll K H vs us) (h2 : DqAll K H zs ws) : DqAll K H (kf_is_order_0_value vs zs) (kf_is_order_0_value us ws) := by
  cases h1 with
  | nil =>
    cases h2 with
    | nil => first | exact .nil | (cases h2 <;> exact .nil)
    | cons r_value h2 =>
      cases h2 with
      | nil =>
        exact (.cons r_value .nil)
      | cons _ _ => first | exact .nil | (cases h2 <;> exact .nil)
  | cons _ _ => first | exact .nil | (cases h2 <;> exact .nil)
theorem kb_is_order_0_value (F : Fun K "is_order" "is_order" s_is_order f fd) : KBinds K fd ["value"] ["value"] (fun us ws => kf_is_order_0_value us ws) (fun vs zs => kf_is_order_0_value vs zs) := by
  refine binds_kw F ["value"] kf_is_order_0_value kr_is_order_0_value fun _ _ _ _ _ _ us ws hl => ?_
  rcases us with _ | ⟨_, us⟩ <;> rcases ws with _ | ⟨x0, _ | ⟨_, ws⟩⟩ <;> first | rfl | (cases hl; done)
def kf_order_of_0_levels_pairs {α : Type} (us ws : List α) : List α := match us, ws with | [], [k0, k1] => [k0, k1] | _, _ => []
theorem kr_order_of_0_levels_pairs {vs zs : List V} {us ws : List Value} (h1 : Vals vs us) (h2 : Vals zs ws) : Vals (kf_order_of_0_levels_pairs vs zs) (kf_order_of_0_levels_pairs us ws) := by
  cases h1 with
  | nil =>
    cases h2 with
    | nil => first | exact .nil | (cases h2 <;> exact .nil)
    | cons r_levels h2 =>
      cases h2 with
      | nil => first | exact .nil | (cases h2 <;> exact .nil)
      | cons r_pairs h2 =>
        cases h2 with
        | nil =>
          exact (.cons r_levels (.cons r_pairs .nil))
        | cons _ _ => first | exact .nil | (cases h2 <;> exact .nil)
  | cons _ _ => first | exact .nil | (cases h2 <;> exact .nil)
theorem kd_order_of_0_levels_pairs {H : Hp} {vs zs : List V} {us ws : List D} (h1 : DqAll K H vs us) (h2 : DqAll K H zs ws) : DqAll K H (kf_order_of_0_levels_pairs vs zs) (kf_order_of_0_levels_pairs us ws) := by
  cases h1 with
  | nil =>
    cases h2 with
    | nil => first | exact .nil | (cases h2 <;> exact .nil)
    | cons r_levels h2 =>
      cases h2 with
      | nil => first | exact .nil | (cases h2 <;> exact .nil)
      | cons r_pairs h2 =>
        cases h2 with
        | nil =>
          exact (.cons r_levels (.cons r_pairs .nil))
        | cons _ _ => first | exact .nil | (cases h2 <;> exact .nil)
  | cons _ _ => first | exact .nil | (cases h2 <;> exact .nil)
theorem kb_order_of_0_levels_pairs (F : Fun K "order_of" "order_of" s_order_of f fd) : KBinds K fd ["levels", "pairs"] ["levels", "pairs"] (fun us ws => kf_order_of_0_levels_pairs us ws) (fun vs zs => kf_order_of_0_levels_pairs vs zs) := by
  refine binds_kw F ["levels", "pairs"] kf_order_of_0_levels_pairs kr_order_of_0_levels_pairs fun _ _ _ _ _ _ us ws hl => ?_
  rcases us with _ | ⟨_, us⟩ <;> rcases ws with _ | ⟨x1, _ | ⟨x0, _ | ⟨_, ws⟩⟩⟩ <;> first | rfl | (cases hl; done)
end
/-! ### promises -/
abbrev sp_is_integer (K : PySem.W.Frag) : Sp := Pu K P_is_integer R_is_integer
abbrev sp_is_number (K : PySem.W.Frag) : Sp := Pu K P_is_number R_is_number
abbrev sp_is_index (K : PySem.W.Frag) : Sp := Pu K P_is_index R_is_index
abbrev sp_is_sequence (K : PySem.W.Frag) : Sp := Pu K P_is_sequence R_is_sequence
abbrev sp_is_row_of (K : PySem.W.Frag) : Sp := Pu K P_is_row_of R_is_row_of
abbrev sp_is_rising (K : PySem.W.Frag) : Sp := Pa K A_is_rising P_is_rising R_is_rising
abbrev sp_is_order (K : PySem.W.Frag) : Sp := Pa K A_is_order P_is_order R_is_order
abbrev sp_checked_pairs {K : PySem.W.Frag} {mg : Str → Option Value} (T : Top K mg) : Sp := Pxa K T.X_InvalidOrder.C "at" A_checked_pairs P_checked_pairs R_checked_pairs W_checked_pairs
abbrev sp_ways_up (K : PySem.W.Frag) : Sp := Pa K A_ways_up P_ways_up R_ways_up
abbrev sp_ring_of {K : PySem.W.Frag} {mg : Str → Option Value} (T : Top K mg) : Sp := Pxa K T.X_InvalidOrder.C "at" A_ring_of P_ring_of R_ring_of W_ring_of
abbrev sp_order_of {K : PySem.W.Frag} {mg : Str → Option Value} (T : Top K mg) : Sp := Pxa K T.X_InvalidOrder.C "at" A_order_of P_order_of R_order_of W_order_of
abbrev sp_is_lot (K : PySem.W.Frag) : Sp := Pa K A_is_lot P_is_lot R_is_lot
abbrev sp_lot_within (K : PySem.W.Frag) : Sp := Pa K A_lot_within P_lot_within R_lot_within
abbrev sp_joined_lots (K : PySem.W.Frag) : Sp := Pa K A_joined_lots P_joined_lots R_joined_lots
abbrev sp_watchers (K : PySem.W.Frag) : Sp := Pa K A_watchers P_watchers R_watchers
abbrev sp_covered (K : PySem.W.Frag) : Sp := Pa K A_covered P_covered R_covered
abbrev sp_is_input (K : PySem.W.Frag) : Sp := Pa K A_is_input P_is_input R_is_input
abbrev sp_alike_inputs (K : PySem.W.Frag) : Sp := Pa K A_alike_inputs P_alike_inputs R_alike_inputs
abbrev sp_is_deed (K : PySem.W.Frag) : Sp := Pa K A_is_deed P_is_deed R_is_deed
abbrev sp_is_record (K : PySem.W.Frag) : Sp := Pa K A_is_record P_is_record R_is_record
abbrev sp_is_seen (K : PySem.W.Frag) : Sp := Pa K A_is_seen P_is_seen R_is_seen
abbrev sp_seen (K : PySem.W.Frag) : Sp := Pa K A_seen P_seen R_seen
abbrev sp_cut_record (K : PySem.W.Frag) : Sp := Pa K A_cut_record P_cut_record R_cut_record
abbrev sp__law_draw (K : PySem.W.Frag) : Sp := Dr K
abbrev sp__law_any (K : PySem.W.Frag) : Sp := De K P__law_any R__law_any
abbrev sp__law_of (K : PySem.W.Frag) : Sp := De K P__law_of R__law_of
abbrev sp__law_size (K : PySem.W.Frag) : Sp := Da K A__law_size P__law_size R__law_size
abbrev sp__law_row (K : PySem.W.Frag) : Sp := Da K A__law_row P__law_row R__law_row
abbrev sp__law_closed (K : PySem.W.Frag) : Sp := Pa K A__law_closed P__law_closed R__law_closed
abbrev sp__law_pairs (K : PySem.W.Frag) : Sp := Da K A__law_pairs P__law_pairs R__law_pairs
abbrev sp__law_refused (K : PySem.W.Frag) : Sp := Pa K A__law_refused P__law_refused R__law_refused
abbrev sp__law_is_ring (K : PySem.W.Frag) : Sp := Pa K A__law_is_ring P__law_is_ring R__law_is_ring
abbrev sp__law_within (K : PySem.W.Frag) : Sp := Pa K A__law_within P__law_within R__law_within
abbrev sp__law_lots_hold (K : PySem.W.Frag) : Sp := Da K A__law_lots_hold P__law_lots_hold R__law_lots_hold
abbrev sp__law_order_spoilt (K : PySem.W.Frag) : Sp := Da K A__law_order_spoilt P__law_order_spoilt R__law_order_spoilt
abbrev sp__law_record (K : PySem.W.Frag) : Sp := Da K A__law_record P__law_record R__law_record
abbrev sp__law_records_hold (K : PySem.W.Frag) : Sp := Da K A__law_records_hold P__law_records_hold R__law_records_hold
abbrev sp__law_inputs_hold (K : PySem.W.Frag) : Sp := Da K A__law_inputs_hold P__law_inputs_hold R__law_inputs_hold
abbrev sp_law (K : PySem.W.Frag) : Sp := Lw K
/-! ### readings and derivations -/
section
variable {w : World} {K : PySem.W.Frag} {mg : Str → Option Value} {base : Heap}
def t_is_integer (T : Top K mg) : TS :=
      (tRet (tAndV (tCB (rIsAny K) (tCons (tVar 0) (tCons (tC (.ty "int")) tNil))) (tNotV (tCB (rIsAny K) (tCons (tVar 0) (tCons (tC (.ty "bool")) tNil))))))
theorem d_is_integer (T : Top K mg)  (cdv : Value) (A : Around) (outer : List Env) (s : Shared) (H : Hp) (E : XK) (hg : (cxOf CX0 P0 w K mg base ["value"] "is_integer" (defScope s_is_integer) T.f_is_integer cdv A outer s H E).A.guards = some []) (hr : Room 0 (cxOf CX0 P0 w K mg base ["value"] "is_integer" (defScope s_is_integer) T.f_is_integer cdv A outer s H E).A) :
    PSs (cxOf CX0 P0 w K mg base ["value"] "is_integer" (defScope s_is_integer) T.f_is_integer cdv A outer s H E).nox (defBody s_is_integer) (t_is_integer T) :=
      (pss_one (ps_ret (pe_and (pe_callB cq_isi (by rfl) T.n_isinstance (by decide +kernel) (pa_cons (pv 0) (pa_cons (pe_bltn (v := .ty "int") (by rfl) T.n_int (by decide +kernel) rfl) pa_nil))) (pe_one (pe_not (pe_callB cq_isi (by rfl) T.n_isinstance (by decide +kernel) (pa_cons (pv 0) (pa_cons (pe_bltn (v := .ty "bool") (by rfl) T.n_bool (by decide +kernel) rfl) pa_nil))))))))
def t_is_number (T : Top K mg) : TS :=
      (tRet (tAndV (tCallK (sp_is_integer K) (fun vs _ => vs) E0 (tCons (tVar 0) tNil) tNil) (tOp (rI0 fun i j => .bl (decide (j ≤ i))) (tVar 0) (tC (.int 0)))))
theorem d_is_number (T : Top K mg) (G_is_integer : GOk P0 w K mg base CX0 1 T.f_is_integer T.fd_is_integer ["value"] (sp_is_integer K)) (cdv : Value) (A : Around) (outer : List Env) (s : Shared) (H : Hp) (E : XK) (hg : (cxOf CX0 P0 w K mg base ["value"] "is_number" (defScope s_is_number) T.f_is_number cdv A outer s H E).A.guards = some []) (hr : Room 1 (cxOf CX0 P0 w K mg base ["value"] "is_number" (defScope s_is_number) T.f_is_number cdv A outer s H E).A) :
    PSs (cxOf CX0 P0 w K mg base ["value"] "is_number" (defScope s_is_number) T.f_is_number cdv A outer s H E).nox (defBody s_is_number) (t_is_number T) :=
      (pss_one (ps_ret (pe_and (pe_g G_is_integer hg hr (by rfl) T.g_is_integer T.F_is_integer.kp (b_is_integer T.F_is_integer) pass0 (pa_cons (pv 0) pa_nil)) (pe_one (pe_cmpR op_ge (pv 0) pe_int (nomark _))))))
def t_is_index (T : Top K mg) : TS :=
      (tRet (tAndV (tCallK (sp_is_number K) (fun vs _ => vs) E0 (tCons (tVar 0) tNil) tNil) (tOp rLtA (tVar 0) (tVar 1))))
theorem d_is_index (T : Top K mg) (G_is_number : GOk P0 w K mg base CX0 2 T.f_is_number T.fd_is_number ["value"] (sp_is_number K)) (cdv : Value) (A : Around) (outer : List Env) (s : Shared) (H : Hp) (E : XK) (hg : (cxOf CX0 P0 w K mg base ["value", "many"] "is_index" (defScope s_is_index) T.f_is_index cdv A outer s H E).A.guards = some []) (hr : Room 2 (cxOf CX0 P0 w K mg base ["value", "many"] "is_index" (defScope s_is_index) T.f_is_index cdv A outer s H E).A) :
    PSs (cxOf CX0 P0 w K mg base ["value", "many"] "is_index" (defScope s_is_index) T.f_is_index cdv A outer s H E).nox (defBody s_is_index) (t_is_index T) :=
      (pss_one (ps_ret (pe_and (pe_g G_is_number hg hr (by rfl) T.g_is_number T.F_is_number.kp (b_is_number T.F_is_number) pass0 (pa_cons (pv 0) pa_nil)) (pe_one (pe_cmpR oq_lt (pv 0) (pv 1) (nomark _))))))
def t_is_sequence (T : Top K mg) : TS :=
      (tRet (tCB (rIsAny K) (tCons (tVar 0) (tCons (tTup (tCons (tC (.ty "list")) (tCons (tC (.ty "tuple")) tNil))) tNil))))
theorem d_is_sequence (T : Top K mg)  (cdv : Value) (A : Around) (outer : List Env) (s : Shared) (H : Hp) (E : XK) (hg : (cxOf CX0 P0 w K mg base ["value"] "is_sequence" (defScope s_is_sequence) T.f_is_sequence cdv A outer s H E).A.guards = some []) (hr : Room 0 (cxOf CX0 P0 w K mg base ["value"] "is_sequence" (defScope s_is_sequence) T.f_is_sequence cdv A outer s H E).A) :
    PSs (cxOf CX0 P0 w K mg base ["value"] "is_sequence" (defScope s_is_sequence) T.f_is_sequence cdv A outer s H E).nox (defBody s_is_sequence) (t_is_sequence T) :=
      (pss_one (ps_ret (pe_callB cq_isi (by rfl) T.n_isinstance (by decide +kernel) (pa_cons (pv 0) (pa_cons (pe_tup (pa_cons (pe_bltn (v := .ty "list") (by rfl) T.n_list (by decide +kernel) rfl) (pa_cons (pe_bltn (v := .ty "tuple") (by rfl) T.n_tuple (by decide +kernel) rfl) pa_nil))) pa_nil)))))
def t_is_row_of (T : Top K mg) : TS :=
      (tRet (tAndV (tCB (rIsAny K) (tCons (tVar 0) (tCons (tC (.ty "tuple")) tNil))) (tOp (rInA K) (tCB (rLen K) (tCons (tVar 0) tNil)) (tVar 1))))
theorem d_is_row_of (T : Top K mg)  (cdv : Value) (A : Around) (outer : List Env) (s : Shared) (H : Hp) (E : XK) (hg : (cxOf CX0 P0 w K mg base ["value", "sizes"] "is_row_of" (defScope s_is_row_of) T.f_is_row_of cdv A outer s H E).A.guards = some []) (hr : Room 0 (cxOf CX0 P0 w K mg base ["value", "sizes"] "is_row_of" (defScope s_is_row_of) T.f_is_row_of cdv A outer s H E).A) :
    PSs (cxOf CX0 P0 w K mg base ["value", "sizes"] "is_row_of" (defScope s_is_row_of) T.f_is_row_of cdv A outer s H E).nox (defBody s_is_row_of) (t_is_row_of T) :=
      (pss_one (ps_ret (pe_and (pe_callB cq_isi (by rfl) T.n_isinstance (by decide +kernel) (pa_cons (pv 0) (pa_cons (pe_bltn (v := .ty "tuple") (by rfl) T.n_tuple (by decide +kernel) rfl) pa_nil))) (pe_one (pe_cmpR (oq_in hr) (pe_callB cq_len (by rfl) T.n_len (by decide +kernel) (pa_cons (pv 0) pa_nil)) (pv 1) (by rfl))))))
def t_is_rising (T : Top K mg) : TS :=
      (tSeq (tIfS (tOr (tNot (tB (tCB (rIsAny K) (tCons (tVar 0) (tCons (tC (.ty "tuple")) tNil))))) (tNot (tB (tCB (rAll K) (tCons (tLc (iAny K (tVar 0)) (gName 2) tYes (tCallK (sp_is_index K) (fun vs _ => vs) E0 (tCons (tVar 2) (tCons (tVar 1) tNil)) tNil) [2]) tNil))))) (tRet (tC (.bl false))) tNext)
      (tRet (tCB (rAll K) (tCons (tLc (iRng1 (tCons (tOp (rI0 fun i j => .int (i - j)) (tCB (rLen K) (tCons (tVar 0) tNil)) (tC (.int 1))) tNil)) (gName 3) tYes (tOp rLtA (tOp (rIx K) (tVar 0) (tVar 3)) (tOp (rIx K) (tVar 0) (tOp (rAddA K) (tVar 3) (tC (.int 1))))) [3]) tNil))))
theorem d_is_rising (T : Top K mg) (G_is_index : GOk P0 w K mg base CX0 3 T.f_is_index T.fd_is_index ["value", "many"] (sp_is_index K)) (cdv : Value) (A : Around) (outer : List Env) (s : Shared) (H : Hp) (E : XK) (hg : (cxOf CX0 P0 w K mg base ["value", "many", "one", "at"] "is_rising" (defScope s_is_rising) T.f_is_rising cdv A outer s H E).A.guards = some []) (hr : Room 3 (cxOf CX0 P0 w K mg base ["value", "many", "one", "at"] "is_rising" (defScope s_is_rising) T.f_is_rising cdv A outer s H E).A) :
    PSs (cxOf CX0 P0 w K mg base ["value", "many", "one", "at"] "is_rising" (defScope s_is_rising) T.f_is_rising cdv A outer s H E).nox (defBody s_is_rising) (t_is_rising T) :=
      (pss_cons (ps_if (PW.pt (pw_or (pt_not (pt_val (pe_callB cq_isi (by rfl) T.n_isinstance (by decide +kernel) (pa_cons (pv 0) (pa_cons (pe_bltn (v := .ty "tuple") (by rfl) T.n_tuple (by decide +kernel) rfl) pa_nil))))) (pw_or1 (pt_not (pt_val (pe_callB (cr_all rfl) (by rfl) T.n_all (by decide +kernel) (pa_cons (pe_lc (own := [("one", 2)]) (by rfl) sc_is_rising.nd (pi_any (pv 0)) (blkOk_by (own := [("one", 2)]) (N := ["value", "many", "one", "at"]) (sc := defScope s_is_rising) (by decide +kernel)) (fun _ _ _ _ _ => (pg_name (i := 2) sc_is_rising.nd rfl (.inl rfl))) (fun _ _ _ _ _ => pts_nil) (fun _ _ _ _ _ => (pe_g G_is_index hg hr (by rfl) T.g_is_index T.F_is_index.kp (b_is_index T.F_is_index) pass0 (pa_cons (pv 2) (pa_cons (pv 1) pa_nil))))) pa_nil))))))) (pss_one (ps_ret pe_bl)) pss_nil)
      (pss_one (ps_ret (pe_callB (cr_all rfl) (by rfl) T.n_all (by decide +kernel) (pa_cons (pe_lc (own := [("at", 3)]) (by rfl) sc_is_rising.nd (pi_range1 (by rfl) T.n_range (pa_cons (pe_op op_sub (pe_callB cq_len (by rfl) T.n_len (by decide +kernel) (pa_cons (pv 0) pa_nil)) pe_int) pa_nil)) (blkOk_by (own := [("at", 3)]) (N := ["value", "many", "one", "at"]) (sc := defScope s_is_rising) (by decide +kernel)) (fun _ _ _ _ _ => (pg_name (i := 3) sc_is_rising.nd rfl (.inl rfl))) (fun _ _ _ _ _ => pts_nil) (fun _ _ _ _ _ => (pe_cmpR oq_lt (pe_ix ix_seq (pv 0) (pv 3) (fun _ _ => rfl)) (pe_ix ix_seq (pv 0) (pe_op oq_add (pv 3) pe_int) (fun _ _ => rfl)) (nomark _)))) pa_nil)))))
def t_is_order (T : Top K mg) : TS :=
      (tSeq (tIfS (tOr (tNot (tB (tCB (rIsAny K) (tCons (tVar 0) (tCons (tC (.ty "tuple")) tNil))))) (tNot (tTest (tChain rLeA rLeA (tC (.int 1)) (tCB (rLen K) (tCons (tVar 0) tNil)) (tC T.v_MOST))))) (tRet (tC (.bl false))) tNext)
      (tSeq (tIfS (tNot (tB (tCB (rAll K) (tCons (tLc (iAny K (tVar 0)) (gName 1) tYes (tCallK (sp_is_rising K) (fun vs _ => vs) E0 (tCons (tVar 1) (tCons (tCB (rLen K) (tCons (tVar 0) tNil)) tNil)) tNil) [1]) tNil)))) (tRet (tC (.bl false))) tNext)
      (tSeq (tFor (iEnumT K (tCons (tVar 0) tNil)) (gTup K 2 (gCons (gName 2) (gCons (gName 1) gNil))) (tSeq (tIfS (tTest (tOp (rNotInA K) (tVar 2) (tVar 1))) (tRet (tC (.bl false))) tNext)
        (tFor (iAny K (tVar 1)) (gName 3) (tSeq (tIfS (tAnd (tTest (tOp (rNeA K) (tVar 3) (tVar 2))) (tTest (tOp (rInA K) (tVar 2) (tOp (rIx K) (tVar 0) (tVar 3))))) (tRet (tC (.bl false))) tNext)
          (tIfS (tNot (tB (tCB (rAll K) (tCons (tLc (iAny K (tOp (rIx K) (tVar 0) (tVar 3))) (gName 4) tYes (tOp (rInA K) (tVar 4) (tVar 1)) [4]) tNil)))) (tRet (tC (.bl false))) tNext)))))
      (tRet (tC (.bl true))))))
theorem d_is_order (T : Top K mg) (G_is_rising : GOk P0 w K mg base CX0 4 T.f_is_rising T.fd_is_rising ["value", "many"] (sp_is_rising K)) (cdv : Value) (A : Around) (outer : List Env) (s : Shared) (H : Hp) (E : XK) (hg : (cxOf CX0 P0 w K mg base ["value", "below", "level", "lower", "one"] "is_order" (defScope s_is_order) T.f_is_order cdv A outer s H E).A.guards = some []) (hr : Room 4 (cxOf CX0 P0 w K mg base ["value", "below", "level", "lower", "one"] "is_order" (defScope s_is_order) T.f_is_order cdv A outer s H E).A) :
    PSs (cxOf CX0 P0 w K mg base ["value", "below", "level", "lower", "one"] "is_order" (defScope s_is_order) T.f_is_order cdv A outer s H E).nox (defBody s_is_order) (t_is_order T) :=
      (pss_cons (ps_if (PW.pt (pw_or (pt_not (pt_val (pe_callB cq_isi (by rfl) T.n_isinstance (by decide +kernel) (pa_cons (pv 0) (pa_cons (pe_bltn (v := .ty "tuple") (by rfl) T.n_tuple (by decide +kernel) rfl) pa_nil))))) (pw_or1 (pt_not (pt_chain oq_le oq_le pe_int (pe_callB cq_len (by rfl) T.n_len (by decide +kernel) (pa_cons (pv 0) pa_nil)) (pe_glob (by rfl) T.m_MOST T.r_MOST)))))) (pss_one (ps_ret pe_bl)) pss_nil)
      (pss_cons (ps_if (pt_not (pt_val (pe_callB (cr_all rfl) (by rfl) T.n_all (by decide +kernel) (pa_cons (pe_lc (own := [("below", 1)]) (by rfl) sc_is_order.nd (pi_any (pv 0)) (blkOk_by (own := [("below", 1)]) (N := ["value", "below", "level", "lower", "one"]) (sc := defScope s_is_order) (by decide +kernel)) (fun _ _ _ _ _ => (pg_name (i := 1) sc_is_order.nd rfl (by first | exact .inl rfl | exact .inr rfl))) (fun _ _ _ _ _ => pts_nil) (fun _ _ _ _ _ => (pe_g G_is_rising hg hr (by rfl) T.g_is_rising T.F_is_rising.kp (b_is_rising T.F_is_rising) pass0 (pa_cons (pv 1) (pa_cons (pe_callB cq_len (by rfl) T.n_len (by decide +kernel) (pa_cons (pv 0) pa_nil)) pa_nil))))) pa_nil)))) (pss_one (ps_ret pe_bl)) pss_nil)
      (pss_cons (ps_for PassesOwn.never rfl (pi_enumT (by rfl) T.n_enumerate (pa_cons (pv 0) pa_nil)) (pg_tup (by rfl) (pgs_cons (pg_name (i := 2) sc_is_order.nd rfl (.inl rfl)) (pgs_cons (pg_name (i := 1) sc_is_order.nd rfl (.inr rfl)) pgs_nil))) (pss_cons (ps_if (pt_cmpR (oq_notin hr) (pv 2) (pv 1) (by rfl)) (pss_one (ps_ret pe_bl)) pss_nil)
        (pss_one (ps_for PassesOwn.never rfl (pi_any (pv 1)) (pg_name (i := 3) sc_is_order.nd rfl (.inl rfl)) (pss_cons (ps_if (PW.pt (pw_and (pt_cmpR (oq_ne hr) (pv 3) (pv 2) (nomark _)) (pw_and1 (pt_cmpR (oq_in hr) (pv 2) (pe_ix ix_seq (pv 0) (pv 3) (fun _ _ => rfl)) (by rfl))))) (pss_one (ps_ret pe_bl)) pss_nil)
          (pss_one (ps_if (pt_not (pt_val (pe_callB (cr_all rfl) (by rfl) T.n_all (by decide +kernel) (pa_cons (pe_lc (own := [("one", 4)]) (by rfl) sc_is_order.nd (pi_any (pe_ix ix_seq (pv 0) (pv 3) (fun _ _ => rfl))) (blkOk_by (own := [("one", 4)]) (N := ["value", "below", "level", "lower", "one"]) (sc := defScope s_is_order) (by decide +kernel)) (fun _ _ _ _ _ => (pg_name (i := 4) sc_is_order.nd rfl (.inl rfl))) (fun _ _ _ _ _ => pts_nil) (fun _ _ _ _ _ => (pe_cmpR (oq_in hr) (pv 4) (pv 1) (by rfl)))) pa_nil)))) (pss_one (ps_ret pe_bl)) pss_nil)))))))
      (pss_one (ps_ret pe_bl)))))
def t_checked_pairs (T : Top K mg) (E : XK) : TS :=
      (tSeq (tIfS (tOr (tNot (tB (tCallK (sp_is_integer K) (fun vs _ => vs) E0 (tCons (tVar 0) tNil) tNil))) (tNot (tTest (tChain rLeA rLeA (tC (.int 1)) (tVar 0) (tC T.v_MOST))))) (tRz K T.X_InvalidOrder.C "at" (tCons (tC (.int 0)) tNil) E) tNext)
      (tSeq (tIfS (tNot (tB (tCallK (sp_is_sequence K) (fun vs _ => vs) E0 (tCons (tVar 1) tNil) tNil))) (tRz K T.X_InvalidOrder.C "at" (tCons (tC (.int 1)) tNil) E) tNext)
      (tFor (iAny K (tVar 1)) (gName 2) (tIfS (tOr (tNot (tB (tCallK (sp_is_row_of K) (fun vs _ => vs) E0 (tCons (tVar 2) (tCons (tTup (tCons (tC (.int 2)) tNil)) tNil)) tNil))) (tNot (tB (tCB (rAll K) (tCons (tLc (iAny K (tVar 2)) (gName 3) tYes (tCallK (sp_is_index K) (fun vs _ => vs) E0 (tCons (tVar 3) (tCons (tVar 0) tNil)) tNil) [3]) tNil))))) (tRz K T.X_InvalidOrder.C "at" (tCons (tC (.int 1)) tNil) E) tNext))))
theorem d_checked_pairs (T : Top K mg) (G_is_sequence : GOk P0 w K mg base CX0 1 T.f_is_sequence T.fd_is_sequence ["value"] (sp_is_sequence K)) (G_is_integer : GOk P0 w K mg base CX0 1 T.f_is_integer T.fd_is_integer ["value"] (sp_is_integer K)) (G_is_row_of : GOk P0 w K mg base CX0 1 T.f_is_row_of T.fd_is_row_of ["value", "sizes"] (sp_is_row_of K)) (G_is_index : GOk P0 w K mg base CX0 3 T.f_is_index T.fd_is_index ["value", "many"] (sp_is_index K)) (cdv : Value) (A : Around) (outer : List Env) (s : Shared) (H : Hp) (E : XK) (hg : (cxOf (L2.CX P0 w) P0 w K mg base ["levels", "pairs", "pair", "one"] "checked_pairs" (defScope s_checked_pairs) T.f_checked_pairs cdv A outer s H E).A.guards = some []) (hr : Room 3 (cxOf (L2.CX P0 w) P0 w K mg base ["levels", "pairs", "pair", "one"] "checked_pairs" (defScope s_checked_pairs) T.f_checked_pairs cdv A outer s H E).A) (tk : Takes (cxOf (L2.CX P0 w) P0 w K mg base ["levels", "pairs", "pair", "one"] "checked_pairs" (defScope s_checked_pairs) T.f_checked_pairs cdv A outer s H E) (fun cls d _ H => E cls d H)) :
    PSs (cxOf (L2.CX P0 w) P0 w K mg base ["levels", "pairs", "pair", "one"] "checked_pairs" (defScope s_checked_pairs) T.f_checked_pairs cdv A outer s H E) (defBody s_checked_pairs) (t_checked_pairs T E) :=
      (pss_cons (ps_if (PW.pt (pw_or (pt_not (pt_val (pe_g G_is_integer hg (hr.mono (by decide)) (by rfl) T.g_is_integer T.F_is_integer.kp (b_is_integer T.F_is_integer) pass0 (pa_cons (pv 0) pa_nil)))) (pw_or1 (pt_not (pt_chain oq_le oq_le pe_int (pv 0) (pe_glob (by rfl) T.m_MOST T.r_MOST)))))) (pss_one (ps_raiseX T.X_InvalidOrder tk (hr.mono (by decide)) (by rfl) (pa_cons pe_int pa_nil))) pss_nil)
      (pss_cons (ps_if (pt_not (pt_val (pe_g G_is_sequence hg (hr.mono (by decide)) (by rfl) T.g_is_sequence T.F_is_sequence.kp (b_is_sequence T.F_is_sequence) pass0 (pa_cons (pv 1) pa_nil)))) (pss_one (ps_raiseX T.X_InvalidOrder tk (hr.mono (by decide)) (by rfl) (pa_cons pe_int pa_nil))) pss_nil)
      (pss_one (ps_for (passes_of rfl) rfl (pi_any (pv 1)) (pg_name (i := 2) sc_checked_pairs.nd rfl (.inl rfl)) (pss_one (ps_if (PW.pt (pw_or (pt_not (pt_val (pe_g G_is_row_of hg (hr.mono (by decide)) (by rfl) T.g_is_row_of T.F_is_row_of.kp (b_is_row_of T.F_is_row_of) pass0 (pa_cons (pv 2) (pa_cons (pe_tup (pa_cons pe_int pa_nil)) pa_nil))))) (pw_or1 (pt_not (pt_val (pe_callB (cr_all rfl) (by rfl) T.n_all (by decide +kernel) (pa_cons (pe_lc (own := [("one", 3)]) (by rfl) sc_checked_pairs.nd (pi_any (pv 2)) (blkOk_by (own := [("one", 3)]) (N := ["levels", "pairs", "pair", "one"]) (sc := defScope s_checked_pairs) (by decide +kernel)) (fun _ _ _ _ _ => (pg_name (i := 3) sc_checked_pairs.nd rfl (.inl rfl))) (fun _ _ _ _ _ => pts_nil) (fun _ _ _ _ _ => (pe_g G_is_index hg hr (by rfl) T.g_is_index T.F_is_index.kp (b_is_index T.F_is_index) pass0 (pa_cons (pv 3) (pa_cons (pv 0) pa_nil))))) pa_nil))))))) (pss_one (ps_raiseX T.X_InvalidOrder tk (hr.mono (by decide)) (by rfl) (pa_cons pe_int pa_nil))) pss_nil))))))
def t_ways_up (T : Top K mg) : TS :=
      (tSeq (tPar 3 4 (tCons tDNewK (tCons (tLst (tCons (tVar 2) tNil)) tNil)))
      (tSeq (tWhile (tTest (tOp (rI0 fun i j => .bl (decide (j < i))) (tCB (rLen K) (tCons (tVar 4) tNil)) (tC (.int 0)))) (tSeq (tAsg (tLst tNil) (gName 5))
        (tSeq (tFor (iAny K (tVar 4)) (gName 6) (tFor (iAny K (tVar 1)) (gTup K 2 (gCons (gName 7) (gCons (gName 8) gNil))) (tIfS (tAnd (tTest (tOp (rEqA K) (tVar 7) (tVar 6))) (tAnd (tTest (tOp (rNeA K) (tVar 8) (tVar 6))) (tTest (tOp rNotInK (tVar 8) (tVar 3))))) (tSeq (tAsg (tVar 6) (gSub (tVar 3) (tVar 8) rSetD))
              (tDrop (tBM K "list" rAppend (tVar 5) (tCons (tVar 8) tNil)))) tNext)))
        (tAsg (tVar 5) (gName 4)))))
      (tRet (tVar 3))))
theorem d_ways_up (T : Top K mg)  (cdv : Value) (A : Around) (outer : List Env) (s : Shared) (H : Hp) (E : XK) (hg : (cxOf CX0 P0 w K mg base ["levels", "pairs", "level", "before", "fresh", "later", "one", "low", "high"] "ways_up" (defScope s_ways_up) T.f_ways_up cdv A outer s H E).A.guards = some []) (hr : Room 0 (cxOf CX0 P0 w K mg base ["levels", "pairs", "level", "before", "fresh", "later", "one", "low", "high"] "ways_up" (defScope s_ways_up) T.f_ways_up cdv A outer s H E).A) :
    PSs (cxOf CX0 P0 w K mg base ["levels", "pairs", "level", "before", "fresh", "later", "one", "low", "high"] "ways_up" (defScope s_ways_up) T.f_ways_up cdv A outer s H E).nox (defBody s_ways_up) (t_ways_up T) :=
      (pss_cons (ps_par (i := 3) (j := 4) (by rfl) sc_ways_up.nd rfl rfl (by decide) rfl rfl (pa_cons pe_dnewK (pa_cons (pe_lst (pa_cons (pv 2) pa_nil)) pa_nil)) (by rfl))
      (pss_cons (ps_while PassesOwn.never (pt_cmpR op_gt (pe_callB cq_len (by rfl) T.n_len (by decide +kernel) (pa_cons (pv 4) pa_nil)) pe_int (nomark _)) (pss_cons (ps_set (i := 5) sc_ways_up.nd rfl (.inl rfl) (pe_lst pa_nil))
        (pss_cons (ps_for PassesOwn.never rfl (pi_any (pv 4)) (pg_name (i := 6) sc_ways_up.nd rfl (.inl rfl)) (pss_one (ps_for PassesOwn.never rfl (pi_any (pv 1)) (pg_tup (by rfl) (pgs_cons (pg_name (i := 7) sc_ways_up.nd rfl (.inl rfl)) (pgs_cons (pg_name (i := 8) sc_ways_up.nd rfl (.inl rfl)) pgs_nil))) (pss_one (ps_if (PW.pt (pw_and (pt_cmpR (oq_eq hr) (pv 7) (pv 6) (nomark _)) (pw_and (pt_cmpR (oq_ne hr) (pv 8) (pv 6) (nomark _)) (pw_and1 (pt_cmpR (op_notInK (un1 hr)) (pv 8) (pv 3) (by rfl)))))) (pss_cons (ps_asg (pv 6) (pg_sub (pv 3) (pv 8) (set_dict (un1 hr))))
              (pss_one (ps_expr (pe_bm PySem.F.plainAttrs_list PySem.F.slot_list_append PySem.F.type_list_append mt_append (pv 5) (pa_cons (pv 8) pa_nil))))) pss_nil)))))
        (pss_one (ps_set (i := 4) sc_ways_up.nd rfl (.inl rfl) (pv 5))))))
      (pss_one (ps_ret (pv 3)))))
def t_ring_of (T : Top K mg) (E : XK) : TS :=
      (tSeq (tDrop (tCallK (sp_checked_pairs T) (fun vs _ => vs) E (tCons (tVar 0) (tCons (tVar 1) tNil)) tNil))
      (tSeq (tFor (iRng1 (tCons (tVar 0) tNil)) (gName 2) (tSeq (tAsg (tCallK (sp_ways_up K) (fun vs _ => vs) E0 (tCons (tVar 0) (tCons (tVar 1) (tCons (tVar 2) tNil))) tNil) (gName 3))
        (tIfS (tTest (tOp rInK (tVar 2) (tVar 3))) (tSeq (tPar 4 5 (tCons (tLst tNil) (tCons (tDGet (tVar 3) (tVar 2)) tNil)))
          (tSeq (tWhile (tTest (tOp (rNeA K) (tVar 5) (tVar 2))) (tSeq (tDrop (tBM K "list" rAppend (tVar 4) (tCons (tVar 5) tNil)))
            (tAsg (tDGet (tVar 3) (tVar 5)) (gName 5))))
          (tRet (tTup (tCons (tVar 2) (StX.tStar K (tRevL K (tVar 4)) tNil)))))) tNext)))
      (tRet (tC .non))))
theorem d_ring_of (T : Top K mg) (G_checked_pairs : GOk P0 w K mg base (L2.CX P0 w) 4 T.f_checked_pairs T.fd_checked_pairs ["levels", "pairs"] (sp_checked_pairs T)) (G_ways_up : GOk P0 w K mg base CX0 1 T.f_ways_up T.fd_ways_up ["levels", "pairs", "level"] (sp_ways_up K)) (cdv : Value) (A : Around) (outer : List Env) (s : Shared) (H : Hp) (E : XK) (hg : (cxOf (L2.CX P0 w) P0 w K mg base ["levels", "pairs", "level", "before", "found", "at"] "ring_of" (defScope s_ring_of) T.f_ring_of cdv A outer s H E).A.guards = some []) (hr : Room 4 (cxOf (L2.CX P0 w) P0 w K mg base ["levels", "pairs", "level", "before", "found", "at"] "ring_of" (defScope s_ring_of) T.f_ring_of cdv A outer s H E).A) (tk : Takes (cxOf (L2.CX P0 w) P0 w K mg base ["levels", "pairs", "level", "before", "found", "at"] "ring_of" (defScope s_ring_of) T.f_ring_of cdv A outer s H E) (fun cls d _ H => E cls d H)) :
    PSs (cxOf (L2.CX P0 w) P0 w K mg base ["levels", "pairs", "level", "before", "found", "at"] "ring_of" (defScope s_ring_of) T.f_ring_of cdv A outer s H E) (defBody s_ring_of) (t_ring_of T E) :=
      (pss_cons (ps_expr (pe_g G_checked_pairs hg hr (by rfl) T.g_checked_pairs T.F_checked_pairs.kp (b_checked_pairs T.F_checked_pairs) (passes_call tk fun _ _ _ _ h => h) (pa_cons (pv 0) (pa_cons (pv 1) pa_nil))))
      (pss_cons (ps_for (passes_of rfl) rfl (pi_range1 (by rfl) T.n_range (pa_cons (pv 0) pa_nil)) (pg_name (i := 2) sc_ring_of.nd rfl (.inl rfl)) (pss_cons (ps_set (i := 3) sc_ring_of.nd rfl (.inl rfl) (pe_g G_ways_up hg (hr.mono (by decide)) (by rfl) T.g_ways_up T.F_ways_up.kp (b_ways_up T.F_ways_up) pass0 (pa_cons (pv 0) (pa_cons (pv 1) (pa_cons (pv 2) pa_nil)))))
        (pss_one (ps_if (pt_cmpR (op_inK (un1 hr)) (pv 2) (pv 3) (by rfl)) (pss_cons (ps_par (i := 4) (j := 5) (by rfl) sc_ring_of.nd rfl rfl (by decide) rfl rfl (pa_cons (pe_lst pa_nil) (pa_cons (pe_dget (un1 hr) (pv 3) (pv 2) (fun _ _ => rfl)) pa_nil)) (by rfl))
          (pss_cons (ps_while (passes_of rfl) (pt_cmpR (oq_ne hr) (pv 5) (pv 2) (nomark _)) (pss_cons (ps_expr (pe_bm PySem.F.plainAttrs_list PySem.F.slot_list_append PySem.F.type_list_append mt_append (pv 4) (pa_cons (pv 5) pa_nil)))
            (pss_one (ps_set (i := 5) sc_ring_of.nd rfl (.inl rfl) (pe_dget (un1 hr) (pv 3) (pv 5) (fun _ _ => rfl))))))
          (pss_one (ps_ret (pe_tup (pa_cons (pv 2) (StX.pa_star (pe_revL (pv 4)) pa_nil))))))) pss_nil))))
      (pss_one (ps_ret pe_non))))
def t_order_of (T : Top K mg) (E : XK) : TS :=
      (tSeq (tIfS (tTest (tOp rNotNo (tCallK (sp_ring_of T) (fun vs _ => vs) E (tCons (tVar 0) (tCons (tVar 1) tNil)) tNil) (tC .non))) (tRz K T.X_InvalidOrder.C "at" (tCons (tC (.int 2)) tNil) E) tNext)
      (tSeq (tAsg (tLc (iRng1 (tCons (tVar 0) tNil)) (gName 3) tYes (tLst (tCons (tVar 3) (tStarK (tCallK (sp_ways_up K) (fun vs _ => vs) E0 (tCons (tVar 0) (tCons (tVar 1) (tCons (tVar 3) tNil))) tNil) tNil))) [3]) (gName 2))
      (tRet (tCB (rTup K) (tCons (tLc (iRng1 (tCons (tVar 0) tNil)) (gName 3) tYes (tCB (rTup K) (tCons (tLc (iRng1 (tCons (tVar 0) tNil)) (gName 4) (tTest (tOp (rInA K) (tVar 3) (tOp (rIx K) (tVar 2) (tVar 4)))) (tVar 4) [4]) tNil)) [3]) tNil)))))
theorem d_order_of (T : Top K mg) (G_ring_of : GOk P0 w K mg base (L2.CX P0 w) 5 T.f_ring_of T.fd_ring_of ["levels", "pairs"] (sp_ring_of T)) (G_ways_up : GOk P0 w K mg base CX0 1 T.f_ways_up T.fd_ways_up ["levels", "pairs", "level"] (sp_ways_up K)) (cdv : Value) (A : Around) (outer : List Env) (s : Shared) (H : Hp) (E : XK) (hg : (cxOf (L2.CX P0 w) P0 w K mg base ["levels", "pairs", "above", "level", "low"] "order_of" (defScope s_order_of) T.f_order_of cdv A outer s H E).A.guards = some []) (hr : Room 5 (cxOf (L2.CX P0 w) P0 w K mg base ["levels", "pairs", "above", "level", "low"] "order_of" (defScope s_order_of) T.f_order_of cdv A outer s H E).A) (tk : Takes (cxOf (L2.CX P0 w) P0 w K mg base ["levels", "pairs", "above", "level", "low"] "order_of" (defScope s_order_of) T.f_order_of cdv A outer s H E) (fun cls d _ H => E cls d H)) :
    PSs (cxOf (L2.CX P0 w) P0 w K mg base ["levels", "pairs", "above", "level", "low"] "order_of" (defScope s_order_of) T.f_order_of cdv A outer s H E) (defBody s_order_of) (t_order_of T E) :=
      (pss_cons (ps_if (pt_cmpR oq_notN (pe_g G_ring_of hg hr (by rfl) T.g_ring_of T.F_ring_of.kp (b_ring_of T.F_ring_of) (passes_call tk fun _ _ _ _ h => h) (pa_cons (pv 0) (pa_cons (pv 1) pa_nil))) pe_non (nomark _)) (pss_one (ps_raiseX T.X_InvalidOrder tk (hr.mono (by decide)) (by rfl) (pa_cons pe_int pa_nil))) pss_nil)
      (pss_cons (ps_set (i := 2) sc_order_of.nd rfl (.inr rfl) (pe_lc (own := [("level", 3)]) (by rfl) sc_order_of.nd (pi_range1 (by rfl) T.n_range (pa_cons (pv 0) pa_nil)) (blkOk_by (own := [("level", 3)]) (N := ["levels", "pairs", "above", "level", "low"]) (sc := defScope s_order_of) (by decide +kernel)) (fun _ _ _ _ _ => (pg_name (i := 3) sc_order_of.nd rfl (by first | exact .inl rfl | exact .inr rfl))) (fun _ _ _ _ _ => pts_nil) (fun _ _ _ _ _ => (pe_lst (pa_cons (pv 3) (pa_starK rfl (pe_g G_ways_up hg (hr.mono (by decide)) (by rfl) T.g_ways_up T.F_ways_up.kp (b_ways_up T.F_ways_up) pass0 (pa_cons (pv 0) (pa_cons (pv 1) (pa_cons (pv 3) pa_nil)))) pa_nil))))))
      (pss_one (ps_ret (pe_callTy cq_tup (by rfl) T.n_tuple (by decide +kernel) (pa_cons (pe_lc (own := [("level", 3)]) (by rfl) sc_order_of.nd (pi_range1 (by rfl) T.n_range (pa_cons (pv 0) pa_nil)) (blkOk_by (own := [("level", 3)]) (N := ["levels", "pairs", "above", "level", "low"]) (sc := defScope s_order_of) (by decide +kernel)) (fun _ _ _ _ _ => (pg_name (i := 3) sc_order_of.nd rfl (by first | exact .inl rfl | exact .inr rfl))) (fun _ _ _ _ _ => pts_nil) (fun _ _ _ _ _ => (pe_callTy cq_tup (by rfl) T.n_tuple (by decide +kernel) (pa_cons (pe_lc (own := [("low", 4)]) (by rfl) sc_order_of.nd (pi_range1 (by rfl) T.n_range (pa_cons (pv 0) pa_nil)) (blkOk_by (own := [("low", 4)]) (by kernel_rfl)) (fun _ _ _ _ _ => (pg_name (i := 4) sc_order_of.nd rfl (.inl rfl))) (fun _ _ _ _ _ => (pts_one (pt_cmpR (oq_in hr) (pv 3) (pe_ix ix_seq (pv 2) (pv 4) (fun _ _ => rfl)) (by rfl)))) (fun _ _ _ _ _ => (pv 4))) pa_nil)))) pa_nil))))))
def t_is_lot (T : Top K mg) : TS :=
      (tRet (tCallK (sp_is_rising K) (fun vs _ => vs) E0 (tCons (tVar 1) (tCons (tCB (rLen K) (tCons (tVar 0) tNil)) tNil)) tNil))
theorem d_is_lot (T : Top K mg) (G_is_rising : GOk P0 w K mg base CX0 4 T.f_is_rising T.fd_is_rising ["value", "many"] (sp_is_rising K)) (cdv : Value) (A : Around) (outer : List Env) (s : Shared) (H : Hp) (E : XK) (hg : (cxOf CX0 P0 w K mg base ["order", "value"] "is_lot" (defScope s_is_lot) T.f_is_lot cdv A outer s H E).A.guards = some []) (hr : Room 4 (cxOf CX0 P0 w K mg base ["order", "value"] "is_lot" (defScope s_is_lot) T.f_is_lot cdv A outer s H E).A) :
    PSs (cxOf CX0 P0 w K mg base ["order", "value"] "is_lot" (defScope s_is_lot) T.f_is_lot cdv A outer s H E).nox (defBody s_is_lot) (t_is_lot T) :=
      (pss_one (ps_ret (pe_g G_is_rising hg hr (by rfl) T.g_is_rising T.F_is_rising.kp (b_is_rising T.F_is_rising) pass0 (pa_cons (pv 1) (pa_cons (pe_callB cq_len (by rfl) T.n_len (by decide +kernel) (pa_cons (pv 0) pa_nil)) pa_nil)))))
def t_lot_within (T : Top K mg) : TS :=
      (tRet (tCB (rAll K) (tCons (tLc (iAny K (tVar 1)) (gName 3) tYes (tOp (rInA K) (tVar 3) (tOp (rIx K) (tVar 0) (tVar 2))) [3]) tNil)))
theorem d_lot_within (T : Top K mg)  (cdv : Value) (A : Around) (outer : List Env) (s : Shared) (H : Hp) (E : XK) (hg : (cxOf CX0 P0 w K mg base ["order", "lot", "level", "one"] "lot_within" (defScope s_lot_within) T.f_lot_within cdv A outer s H E).A.guards = some []) (hr : Room 0 (cxOf CX0 P0 w K mg base ["order", "lot", "level", "one"] "lot_within" (defScope s_lot_within) T.f_lot_within cdv A outer s H E).A) :
    PSs (cxOf CX0 P0 w K mg base ["order", "lot", "level", "one"] "lot_within" (defScope s_lot_within) T.f_lot_within cdv A outer s H E).nox (defBody s_lot_within) (t_lot_within T) :=
      (pss_one (ps_ret (pe_callB (cr_all rfl) (by rfl) T.n_all (by decide +kernel) (pa_cons (pe_lc (own := [("one", 3)]) (by rfl) sc_lot_within.nd (pi_any (pv 1)) (blkOk_by (own := [("one", 3)]) (N := ["order", "lot", "level", "one"]) (sc := defScope s_lot_within) (by decide +kernel)) (fun _ _ _ _ _ => (pg_name (i := 3) sc_lot_within.nd rfl (.inl rfl))) (fun _ _ _ _ _ => pts_nil) (fun _ _ _ _ _ => (pe_cmpR (oq_in hr) (pv 3) (pe_ix ix_seq (pv 0) (pv 2) (fun _ _ => rfl)) (by rfl)))) pa_nil))))
def t_joined_lots (T : Top K mg) (w : World) : TS :=
      (tRet (tCB (rTup K) (tCons (tCB (rSortedSet w) (tCons (tCB (rSetTI K w) (tCons (tOp (rAddA K) (tVar 0) (tVar 1)) tNil)) tNil)) tNil)))
theorem d_joined_lots (T : Top K mg)  (cdv : Value) (A : Around) (outer : List Env) (s : Shared) (H : Hp) (E : XK) (hg : (cxOf CX0 P0 w K mg base ["one", "other"] "joined_lots" (defScope s_joined_lots) T.f_joined_lots cdv A outer s H E).A.guards = some []) (hr : Room 0 (cxOf CX0 P0 w K mg base ["one", "other"] "joined_lots" (defScope s_joined_lots) T.f_joined_lots cdv A outer s H E).A) :
    PSs (cxOf CX0 P0 w K mg base ["one", "other"] "joined_lots" (defScope s_joined_lots) T.f_joined_lots cdv A outer s H E).nox (defBody s_joined_lots) (t_joined_lots T w) :=
      (pss_one (ps_ret (pe_callTy cq_tup (by rfl) T.n_tuple (by decide +kernel) (pa_cons (pe_callB (cr_sortedSet rfl) (by rfl) T.n_sorted (by decide +kernel) (pa_cons (pe_callTy (cr_setTI rfl) (by rfl) T.n_set (by decide +kernel) (pa_cons (pe_op oq_add (pv 0) (pv 1)) pa_nil)) pa_nil)) pa_nil))))
def t_watchers (T : Top K mg) : TS :=
      (tRet (tCB (rTup K) (tCons (tLc (iRng1 (tCons (tCB (rLen K) (tCons (tVar 0) tNil)) tNil)) (gName 2) (tB (tCallK (sp_lot_within K) (fun vs _ => vs) E0 (tCons (tVar 0) (tCons (tVar 1) (tCons (tVar 2) tNil))) tNil)) (tVar 2) [2]) tNil)))
theorem d_watchers (T : Top K mg) (G_lot_within : GOk P0 w K mg base CX0 1 T.f_lot_within T.fd_lot_within ["order", "lot", "level"] (sp_lot_within K)) (cdv : Value) (A : Around) (outer : List Env) (s : Shared) (H : Hp) (E : XK) (hg : (cxOf CX0 P0 w K mg base ["order", "lot", "level"] "watchers" (defScope s_watchers) T.f_watchers cdv A outer s H E).A.guards = some []) (hr : Room 1 (cxOf CX0 P0 w K mg base ["order", "lot", "level"] "watchers" (defScope s_watchers) T.f_watchers cdv A outer s H E).A) :
    PSs (cxOf CX0 P0 w K mg base ["order", "lot", "level"] "watchers" (defScope s_watchers) T.f_watchers cdv A outer s H E).nox (defBody s_watchers) (t_watchers T) :=
      (pss_one (ps_ret (pe_callTy cq_tup (by rfl) T.n_tuple (by decide +kernel) (pa_cons (pe_lc (own := [("level", 2)]) (by rfl) sc_watchers.nd (pi_range1 (by rfl) T.n_range (pa_cons (pe_callB cq_len (by rfl) T.n_len (by decide +kernel) (pa_cons (pv 0) pa_nil)) pa_nil)) (blkOk_by (own := [("level", 2)]) (N := ["order", "lot", "level"]) (sc := defScope s_watchers) (by decide +kernel)) (fun _ _ _ _ _ => (pg_name (i := 2) sc_watchers.nd rfl (.inl rfl))) (fun _ _ _ _ _ => (pts_one (pt_val (pe_g G_lot_within hg hr (by rfl) T.g_lot_within T.F_lot_within.kp (b_lot_within T.F_lot_within) pass0 (pa_cons (pv 0) (pa_cons (pv 1) (pa_cons (pv 2) pa_nil))))))) (fun _ _ _ _ _ => (pv 2))) pa_nil))))
def t_covered (T : Top K mg) : TS :=
      (tRet (tCB (rAll K) (tCons (tLc (iAny K (tCallK (sp_watchers K) (fun vs _ => vs) E0 (tCons (tVar 0) (tCons (tVar 2) tNil)) tNil)) (gName 3) tYes (tCallK (sp_lot_within K) (fun vs _ => vs) E0 (tCons (tVar 0) (tCons (tVar 1) (tCons (tVar 3) tNil))) tNil) [3]) tNil)))
theorem d_covered (T : Top K mg) (G_lot_within : GOk P0 w K mg base CX0 1 T.f_lot_within T.fd_lot_within ["order", "lot", "level"] (sp_lot_within K)) (G_watchers : GOk P0 w K mg base CX0 2 T.f_watchers T.fd_watchers ["order", "lot"] (sp_watchers K)) (cdv : Value) (A : Around) (outer : List Env) (s : Shared) (H : Hp) (E : XK) (hg : (cxOf CX0 P0 w K mg base ["order", "one", "other", "level"] "covered" (defScope s_covered) T.f_covered cdv A outer s H E).A.guards = some []) (hr : Room 2 (cxOf CX0 P0 w K mg base ["order", "one", "other", "level"] "covered" (defScope s_covered) T.f_covered cdv A outer s H E).A) :
    PSs (cxOf CX0 P0 w K mg base ["order", "one", "other", "level"] "covered" (defScope s_covered) T.f_covered cdv A outer s H E).nox (defBody s_covered) (t_covered T) :=
      (pss_one (ps_ret (pe_callB (cr_all rfl) (by rfl) T.n_all (by decide +kernel) (pa_cons (pe_lc (own := [("level", 3)]) (by rfl) sc_covered.nd (pi_any (pe_g G_watchers hg hr (by rfl) T.g_watchers T.F_watchers.kp (b_watchers T.F_watchers) pass0 (pa_cons (pv 0) (pa_cons (pv 2) pa_nil)))) (blkOk_by (own := [("level", 3)]) (N := ["order", "one", "other", "level"]) (sc := defScope s_covered) (by decide +kernel)) (fun _ _ _ _ _ => (pg_name (i := 3) sc_covered.nd rfl (.inl rfl))) (fun _ _ _ _ _ => pts_nil) (fun _ _ _ _ _ => (pe_g G_lot_within hg (hr.mono (by decide)) (by rfl) T.g_lot_within T.F_lot_within.kp (b_lot_within T.F_lot_within) pass0 (pa_cons (pv 0) (pa_cons (pv 1) (pa_cons (pv 3) pa_nil)))))) pa_nil))))
def t_is_input (T : Top K mg) : TS :=
      (tSeq (tIfS (tOr (tNot (tB (tCallK (sp_is_row_of K) (fun vs _ => vs) E0 (tCons (tVar 1) (tCons (tTup (tCons (tCB (rLen K) (tCons (tVar 0) tNil)) tNil)) tNil)) tNil))) (tNot (tB (tCB (rAll K) (tCons (tLc (iAny K (tVar 1)) (gName 2) tYes (tCB (rIsAny K) (tCons (tVar 2) (tCons (tC (.ty "tuple")) tNil))) [2]) tNil))))) (tRet (tC (.bl false))) tNext)
      (tRet (tCB (rAll K) (tCons (tLc (iAny K (tVar 1)) (gName 2) tYes (tCB (rAll K) (tCons (tLc (iAny K (tVar 2)) (gName 3) tYes (tCallK (sp_is_number K) (fun vs _ => vs) E0 (tCons (tVar 3) tNil) tNil) [3]) tNil)) [2]) tNil))))
theorem d_is_input (T : Top K mg) (G_is_row_of : GOk P0 w K mg base CX0 1 T.f_is_row_of T.fd_is_row_of ["value", "sizes"] (sp_is_row_of K)) (G_is_number : GOk P0 w K mg base CX0 2 T.f_is_number T.fd_is_number ["value"] (sp_is_number K)) (cdv : Value) (A : Around) (outer : List Env) (s : Shared) (H : Hp) (E : XK) (hg : (cxOf CX0 P0 w K mg base ["order", "value", "stream", "one"] "is_input" (defScope s_is_input) T.f_is_input cdv A outer s H E).A.guards = some []) (hr : Room 2 (cxOf CX0 P0 w K mg base ["order", "value", "stream", "one"] "is_input" (defScope s_is_input) T.f_is_input cdv A outer s H E).A) :
    PSs (cxOf CX0 P0 w K mg base ["order", "value", "stream", "one"] "is_input" (defScope s_is_input) T.f_is_input cdv A outer s H E).nox (defBody s_is_input) (t_is_input T) :=
      (pss_cons (ps_if (PW.pt (pw_or (pt_not (pt_val (pe_g G_is_row_of hg (hr.mono (by decide)) (by rfl) T.g_is_row_of T.F_is_row_of.kp (b_is_row_of T.F_is_row_of) pass0 (pa_cons (pv 1) (pa_cons (pe_tup (pa_cons (pe_callB cq_len (by rfl) T.n_len (by decide +kernel) (pa_cons (pv 0) pa_nil)) pa_nil)) pa_nil))))) (pw_or1 (pt_not (pt_val (pe_callB (cr_all rfl) (by rfl) T.n_all (by decide +kernel) (pa_cons (pe_lc (own := [("stream", 2)]) (by rfl) sc_is_input.nd (pi_any (pv 1)) (blkOk_by (own := [("stream", 2)]) (N := ["order", "value", "stream", "one"]) (sc := defScope s_is_input) (by decide +kernel)) (fun _ _ _ _ _ => (pg_name (i := 2) sc_is_input.nd rfl (.inl rfl))) (fun _ _ _ _ _ => pts_nil) (fun _ _ _ _ _ => (pe_callB cq_isi (by rfl) T.n_isinstance (by decide +kernel) (pa_cons (pv 2) (pa_cons (pe_bltn (v := .ty "tuple") (by rfl) T.n_tuple (by decide +kernel) rfl) pa_nil))))) pa_nil))))))) (pss_one (ps_ret pe_bl)) pss_nil)
      (pss_one (ps_ret (pe_callB (cr_all rfl) (by rfl) T.n_all (by decide +kernel) (pa_cons (pe_lc (own := [("stream", 2)]) (by rfl) sc_is_input.nd (pi_any (pv 1)) (blkOk_by (own := [("stream", 2)]) (N := ["order", "value", "stream", "one"]) (sc := defScope s_is_input) (by decide +kernel)) (fun _ _ _ _ _ => (pg_name (i := 2) sc_is_input.nd rfl (.inl rfl))) (fun _ _ _ _ _ => pts_nil) (fun _ _ _ _ _ => (pe_callB (cr_all rfl) (by rfl) T.n_all (by decide +kernel) (pa_cons (pe_lc (own := [("one", 3)]) (by rfl) sc_is_input.nd (pi_any (pv 2)) (blkOk_by (own := [("one", 3)]) (by kernel_rfl)) (fun _ _ _ _ _ => (pg_name (i := 3) sc_is_input.nd rfl (.inl rfl))) (fun _ _ _ _ _ => pts_nil) (fun _ _ _ _ _ => (pe_g G_is_number hg hr (by rfl) T.g_is_number T.F_is_number.kp (b_is_number T.F_is_number) pass0 (pa_cons (pv 3) pa_nil)))) pa_nil)))) pa_nil)))))
def t_alike_inputs (T : Top K mg) : TS :=
      (tRet (tCB (rAll K) (tCons (tLc (iAny K (tOp (rIx K) (tVar 0) (tVar 1))) (gName 4) tYes (tOp (rEqA K) (tOp (rIx K) (tVar 2) (tVar 4)) (tOp (rIx K) (tVar 3) (tVar 4))) [4]) tNil)))
theorem d_alike_inputs (T : Top K mg)  (cdv : Value) (A : Around) (outer : List Env) (s : Shared) (H : Hp) (E : XK) (hg : (cxOf CX0 P0 w K mg base ["order", "level", "one", "other", "lower"] "alike_inputs" (defScope s_alike_inputs) T.f_alike_inputs cdv A outer s H E).A.guards = some []) (hr : Room 0 (cxOf CX0 P0 w K mg base ["order", "level", "one", "other", "lower"] "alike_inputs" (defScope s_alike_inputs) T.f_alike_inputs cdv A outer s H E).A) :
    PSs (cxOf CX0 P0 w K mg base ["order", "level", "one", "other", "lower"] "alike_inputs" (defScope s_alike_inputs) T.f_alike_inputs cdv A outer s H E).nox (defBody s_alike_inputs) (t_alike_inputs T) :=
      (pss_one (ps_ret (pe_callB (cr_all rfl) (by rfl) T.n_all (by decide +kernel) (pa_cons (pe_lc (own := [("lower", 4)]) (by rfl) sc_alike_inputs.nd (pi_any (pe_ix ix_seq (pv 0) (pv 1) (fun _ _ => rfl))) (blkOk_by (own := [("lower", 4)]) (N := ["order", "level", "one", "other", "lower"]) (sc := defScope s_alike_inputs) (by decide +kernel)) (fun _ _ _ _ _ => (pg_name (i := 4) sc_alike_inputs.nd rfl (.inl rfl))) (fun _ _ _ _ _ => pts_nil) (fun _ _ _ _ _ => (pe_cmpR (oq_eq hr) (pe_ix ix_seq (pv 2) (pv 4) (fun _ _ => rfl)) (pe_ix ix_seq (pv 3) (pv 4) (fun _ _ => rfl)) (nomark _)))) pa_nil))))
def t_is_deed (T : Top K mg) : TS :=
      (tSeq (tIfS (tAnd (tB (tCallK (sp_is_row_of K) (fun vs _ => vs) E0 (tCons (tVar 1) (tCons (tTup (tCons (tC (.int 3)) tNil)) tNil)) tNil)) (tTest (tOp (rEqA K) (tOp (rIx K) (tVar 1) (tC (.int 0))) (tC (.str "out"))))) (tRet (tAndV (tCallK (sp_is_index K) (fun vs _ => vs) E0 (tCons (tOp (rIx K) (tVar 1) (tC (.int 1))) (tCons (tCB (rLen K) (tCons (tVar 0) tNil)) tNil)) tNil) (tCallK (sp_is_number K) (fun vs _ => vs) E0 (tCons (tOp (rIx K) (tVar 1) (tC (.int 2))) tNil) tNil))) tNext)
      (tRet (tAndV (tCallK (sp_is_row_of K) (fun vs _ => vs) E0 (tCons (tVar 1) (tCons (tTup (tCons (tC (.int 2)) tNil)) tNil)) tNil) (tAndV (tOp (rEqA K) (tOp (rIx K) (tVar 1) (tC (.int 0))) (tC (.str "end"))) (tCallK (sp_is_number K) (fun vs _ => vs) E0 (tCons (tOp (rIx K) (tVar 1) (tC (.int 1))) tNil) tNil)))))
theorem d_is_deed (T : Top K mg) (G_is_row_of : GOk P0 w K mg base CX0 1 T.f_is_row_of T.fd_is_row_of ["value", "sizes"] (sp_is_row_of K)) (G_is_number : GOk P0 w K mg base CX0 2 T.f_is_number T.fd_is_number ["value"] (sp_is_number K)) (G_is_index : GOk P0 w K mg base CX0 3 T.f_is_index T.fd_is_index ["value", "many"] (sp_is_index K)) (cdv : Value) (A : Around) (outer : List Env) (s : Shared) (H : Hp) (E : XK) (hg : (cxOf CX0 P0 w K mg base ["order", "value"] "is_deed" (defScope s_is_deed) T.f_is_deed cdv A outer s H E).A.guards = some []) (hr : Room 3 (cxOf CX0 P0 w K mg base ["order", "value"] "is_deed" (defScope s_is_deed) T.f_is_deed cdv A outer s H E).A) :
    PSs (cxOf CX0 P0 w K mg base ["order", "value"] "is_deed" (defScope s_is_deed) T.f_is_deed cdv A outer s H E).nox (defBody s_is_deed) (t_is_deed T) :=
      (pss_cons (ps_if (PW.pt (pw_and (pt_val (pe_g G_is_row_of hg (hr.mono (by decide)) (by rfl) T.g_is_row_of T.F_is_row_of.kp (b_is_row_of T.F_is_row_of) pass0 (pa_cons (pv 1) (pa_cons (pe_tup (pa_cons pe_int pa_nil)) pa_nil)))) (pw_and1 (pt_cmpR (oq_eq hr) (pe_ix ix_seq (pv 1) pe_int (fun _ _ => rfl)) pe_str (nomark _))))) (pss_one (ps_ret (pe_and (pe_g G_is_index hg hr (by rfl) T.g_is_index T.F_is_index.kp (b_is_index T.F_is_index) pass0 (pa_cons (pe_ix ix_seq (pv 1) pe_int (fun _ _ => rfl)) (pa_cons (pe_callB cq_len (by rfl) T.n_len (by decide +kernel) (pa_cons (pv 0) pa_nil)) pa_nil))) (pe_one (pe_g G_is_number hg (hr.mono (by decide)) (by rfl) T.g_is_number T.F_is_number.kp (b_is_number T.F_is_number) pass0 (pa_cons (pe_ix ix_seq (pv 1) pe_int (fun _ _ => rfl)) pa_nil)))))) pss_nil)
      (pss_one (ps_ret (pe_and (pe_g G_is_row_of hg (hr.mono (by decide)) (by rfl) T.g_is_row_of T.F_is_row_of.kp (b_is_row_of T.F_is_row_of) pass0 (pa_cons (pv 1) (pa_cons (pe_tup (pa_cons pe_int pa_nil)) pa_nil))) (pe_and (pe_cmpR (oq_eq hr) (pe_ix ix_seq (pv 1) pe_int (fun _ _ => rfl)) pe_str (nomark _)) (pe_one (pe_g G_is_number hg (hr.mono (by decide)) (by rfl) T.g_is_number T.F_is_number.kp (b_is_number T.F_is_number) pass0 (pa_cons (pe_ix ix_seq (pv 1) pe_int (fun _ _ => rfl)) pa_nil))))))))
def t_is_record (T : Top K mg) : TS :=
      (tSeq (tIfS (tOr (tNot (tB (tCB (rIsAny K) (tCons (tVar 1) (tCons (tC (.ty "tuple")) tNil))))) (tNot (tB (tCB (rAll K) (tCons (tLc (iAny K (tVar 1)) (gName 2) tYes (tCallK (sp_is_row_of K) (fun vs _ => vs) E0 (tCons (tVar 2) (tCons (tTup (tCons (tC (.int 2)) tNil)) tNil)) tNil) [2]) tNil))))) (tRet (tC (.bl false))) tNext)
      (tSeq (tIfS (tNot (tB (tCB (rAll K) (tCons (tLc (iAny K (tVar 1)) (gTup K 2 (gCons (gName 3) (gCons (gName 4) gNil))) tYes (tAndV (tCallK (sp_is_number K) (fun vs _ => vs) E0 (tCons (tVar 3) tNil) tNil) (tCallK (sp_is_deed K) (fun vs _ => vs) E0 (tCons (tVar 0) (tCons (tVar 4) tNil)) tNil)) [3, 4]) tNil)))) (tRet (tC (.bl false))) tNext)
      (tRet (tCB (rAll K) (tCons (tLc (iRng1 (tCons (tOp (rI0 fun i j => .int (i - j)) (tCB (rLen K) (tCons (tVar 1) tNil)) (tC (.int 1))) tNil)) (gName 5) tYes (tOp rLeA (tOp (rIx K) (tOp (rIx K) (tVar 1) (tVar 5)) (tC (.int 0))) (tOp (rIx K) (tOp (rIx K) (tVar 1) (tOp (rAddA K) (tVar 5) (tC (.int 1)))) (tC (.int 0)))) [5]) tNil)))))
theorem d_is_record (T : Top K mg) (G_is_row_of : GOk P0 w K mg base CX0 1 T.f_is_row_of T.fd_is_row_of ["value", "sizes"] (sp_is_row_of K)) (G_is_number : GOk P0 w K mg base CX0 2 T.f_is_number T.fd_is_number ["value"] (sp_is_number K)) (G_is_deed : GOk P0 w K mg base CX0 4 T.f_is_deed T.fd_is_deed ["order", "value"] (sp_is_deed K)) (cdv : Value) (A : Around) (outer : List Env) (s : Shared) (H : Hp) (E : XK) (hg : (cxOf CX0 P0 w K mg base ["order", "value", "pair", "tick", "deed", "at"] "is_record" (defScope s_is_record) T.f_is_record cdv A outer s H E).A.guards = some []) (hr : Room 4 (cxOf CX0 P0 w K mg base ["order", "value", "pair", "tick", "deed", "at"] "is_record" (defScope s_is_record) T.f_is_record cdv A outer s H E).A) :
    PSs (cxOf CX0 P0 w K mg base ["order", "value", "pair", "tick", "deed", "at"] "is_record" (defScope s_is_record) T.f_is_record cdv A outer s H E).nox (defBody s_is_record) (t_is_record T) :=
      (pss_cons (ps_if (PW.pt (pw_or (pt_not (pt_val (pe_callB cq_isi (by rfl) T.n_isinstance (by decide +kernel) (pa_cons (pv 1) (pa_cons (pe_bltn (v := .ty "tuple") (by rfl) T.n_tuple (by decide +kernel) rfl) pa_nil))))) (pw_or1 (pt_not (pt_val (pe_callB (cr_all rfl) (by rfl) T.n_all (by decide +kernel) (pa_cons (pe_lc (own := [("pair", 2)]) (by rfl) sc_is_record.nd (pi_any (pv 1)) (blkOk_by (own := [("pair", 2)]) (N := ["order", "value", "pair", "tick", "deed", "at"]) (sc := defScope s_is_record) (by decide +kernel)) (fun _ _ _ _ _ => (pg_name (i := 2) sc_is_record.nd rfl (.inl rfl))) (fun _ _ _ _ _ => pts_nil) (fun _ _ _ _ _ => (pe_g G_is_row_of hg (hr.mono (by decide)) (by rfl) T.g_is_row_of T.F_is_row_of.kp (b_is_row_of T.F_is_row_of) pass0 (pa_cons (pv 2) (pa_cons (pe_tup (pa_cons pe_int pa_nil)) pa_nil))))) pa_nil))))))) (pss_one (ps_ret pe_bl)) pss_nil)
      (pss_cons (ps_if (pt_not (pt_val (pe_callB (cr_all rfl) (by rfl) T.n_all (by decide +kernel) (pa_cons (pe_lc (own := [("tick", 3), ("deed", 4)]) (by rfl) sc_is_record.nd (pi_any (pv 1)) (blkOk_by (own := [("tick", 3), ("deed", 4)]) (N := ["order", "value", "pair", "tick", "deed", "at"]) (sc := defScope s_is_record) (by decide +kernel)) (fun _ _ _ _ _ => (pg_tup (by rfl) (pgs_cons (pg_name (i := 3) sc_is_record.nd rfl (.inl rfl)) (pgs_cons (pg_name (i := 4) sc_is_record.nd rfl (.inl rfl)) pgs_nil)))) (fun _ _ _ _ _ => pts_nil) (fun _ _ _ _ _ => (pe_and (pe_g G_is_number hg (hr.mono (by decide)) (by rfl) T.g_is_number T.F_is_number.kp (b_is_number T.F_is_number) pass0 (pa_cons (pv 3) pa_nil)) (pe_one (pe_g G_is_deed hg hr (by rfl) T.g_is_deed T.F_is_deed.kp (b_is_deed T.F_is_deed) pass0 (pa_cons (pv 0) (pa_cons (pv 4) pa_nil))))))) pa_nil)))) (pss_one (ps_ret pe_bl)) pss_nil)
      (pss_one (ps_ret (pe_callB (cr_all rfl) (by rfl) T.n_all (by decide +kernel) (pa_cons (pe_lc (own := [("at", 5)]) (by rfl) sc_is_record.nd (pi_range1 (by rfl) T.n_range (pa_cons (pe_op op_sub (pe_callB cq_len (by rfl) T.n_len (by decide +kernel) (pa_cons (pv 1) pa_nil)) pe_int) pa_nil)) (blkOk_by (own := [("at", 5)]) (N := ["order", "value", "pair", "tick", "deed", "at"]) (sc := defScope s_is_record) (by decide +kernel)) (fun _ _ _ _ _ => (pg_name (i := 5) sc_is_record.nd rfl (.inl rfl))) (fun _ _ _ _ _ => pts_nil) (fun _ _ _ _ _ => (pe_cmpR oq_le (pe_ix ix_seq (pe_ix ix_seq (pv 1) (pv 5) (fun _ _ => rfl)) pe_int (fun _ _ => rfl)) (pe_ix ix_seq (pe_ix ix_seq (pv 1) (pe_op oq_add (pv 5) pe_int) (fun _ _ => rfl)) pe_int (fun _ _ => rfl)) (nomark _)))) pa_nil))))))
def t_is_seen (T : Top K mg) : TS :=
      (tSeq (tIfS (tTest (tOp (rEqA K) (tOp (rIx K) (tVar 3) (tC (.int 0))) (tC (.str "out")))) (tRet (tOp (rInA K) (tOp (rIx K) (tVar 3) (tC (.int 1))) (tOp (rIx K) (tVar 0) (tVar 1)))) tNext)
      (tRet (tCallK (sp_lot_within K) (fun vs _ => vs) E0 (tCons (tVar 0) (tCons (tOp (rIx K) (tVar 2) (tOp (rIx K) (tVar 3) (tC (.int 1)))) (tCons (tVar 1) tNil))) tNil)))
theorem d_is_seen (T : Top K mg) (G_lot_within : GOk P0 w K mg base CX0 1 T.f_lot_within T.fd_lot_within ["order", "lot", "level"] (sp_lot_within K)) (cdv : Value) (A : Around) (outer : List Env) (s : Shared) (H : Hp) (E : XK) (hg : (cxOf CX0 P0 w K mg base ["order", "level", "ends", "deed"] "is_seen" (defScope s_is_seen) T.f_is_seen cdv A outer s H E).A.guards = some []) (hr : Room 1 (cxOf CX0 P0 w K mg base ["order", "level", "ends", "deed"] "is_seen" (defScope s_is_seen) T.f_is_seen cdv A outer s H E).A) :
    PSs (cxOf CX0 P0 w K mg base ["order", "level", "ends", "deed"] "is_seen" (defScope s_is_seen) T.f_is_seen cdv A outer s H E).nox (defBody s_is_seen) (t_is_seen T) :=
      (pss_cons (ps_if (pt_cmpR (oq_eq hr) (pe_ix ix_seq (pv 3) pe_int (fun _ _ => rfl)) pe_str (nomark _)) (pss_one (ps_ret (pe_cmpR (oq_in hr) (pe_ix ix_seq (pv 3) pe_int (fun _ _ => rfl)) (pe_ix ix_seq (pv 0) (pv 1) (fun _ _ => rfl)) (by rfl)))) pss_nil)
      (pss_one (ps_ret (pe_g G_lot_within hg hr (by rfl) T.g_lot_within T.F_lot_within.kp (b_lot_within T.F_lot_within) pass0 (pa_cons (pv 0) (pa_cons (pe_ix ix_seq (pv 2) (pe_ix ix_seq (pv 3) pe_int (fun _ _ => rfl)) (fun _ _ => rfl)) (pa_cons (pv 1) pa_nil)))))))
def t_seen (T : Top K mg) : TS :=
      (tRet (tCB (rTup K) (tCons (tLc (iAny K (tVar 3)) (gName 4) (tB (tCallK (sp_is_seen K) (fun vs _ => vs) E0 (tCons (tVar 0) (tCons (tVar 1) (tCons (tVar 2) (tCons (tOp (rIx K) (tVar 4) (tC (.int 1))) tNil)))) tNil)) (tVar 4) [4]) tNil)))
theorem d_seen (T : Top K mg) (G_is_seen : GOk P0 w K mg base CX0 2 T.f_is_seen T.fd_is_seen ["order", "level", "ends", "deed"] (sp_is_seen K)) (cdv : Value) (A : Around) (outer : List Env) (s : Shared) (H : Hp) (E : XK) (hg : (cxOf CX0 P0 w K mg base ["order", "level", "ends", "record", "pair"] "seen" (defScope s_seen) T.f_seen cdv A outer s H E).A.guards = some []) (hr : Room 2 (cxOf CX0 P0 w K mg base ["order", "level", "ends", "record", "pair"] "seen" (defScope s_seen) T.f_seen cdv A outer s H E).A) :
    PSs (cxOf CX0 P0 w K mg base ["order", "level", "ends", "record", "pair"] "seen" (defScope s_seen) T.f_seen cdv A outer s H E).nox (defBody s_seen) (t_seen T) :=
      (pss_one (ps_ret (pe_callTy cq_tup (by rfl) T.n_tuple (by decide +kernel) (pa_cons (pe_lc (own := [("pair", 4)]) (by rfl) sc_seen.nd (pi_any (pv 3)) (blkOk_by (own := [("pair", 4)]) (N := ["order", "level", "ends", "record", "pair"]) (sc := defScope s_seen) (by decide +kernel)) (fun _ _ _ _ _ => (pg_name (i := 4) sc_seen.nd rfl (.inl rfl))) (fun _ _ _ _ _ => (pts_one (pt_val (pe_g G_is_seen hg hr (by rfl) T.g_is_seen T.F_is_seen.kp (b_is_seen T.F_is_seen) pass0 (pa_cons (pv 0) (pa_cons (pv 1) (pa_cons (pv 2) (pa_cons (pe_ix ix_seq (pv 4) pe_int (fun _ _ => rfl)) pa_nil)))))))) (fun _ _ _ _ _ => (pv 4))) pa_nil))))
def t_cut_record (T : Top K mg) : TS :=
      (tRet (tCB (rTup K) (tCons (tLc (iAny K (tVar 0)) (gName 2) (tTest (tOp rLtA (tOp (rIx K) (tVar 2) (tC (.int 0))) (tVar 1))) (tVar 2) [2]) tNil)))
theorem d_cut_record (T : Top K mg)  (cdv : Value) (A : Around) (outer : List Env) (s : Shared) (H : Hp) (E : XK) (hg : (cxOf CX0 P0 w K mg base ["record", "tick", "pair"] "cut_record" (defScope s_cut_record) T.f_cut_record cdv A outer s H E).A.guards = some []) (hr : Room 0 (cxOf CX0 P0 w K mg base ["record", "tick", "pair"] "cut_record" (defScope s_cut_record) T.f_cut_record cdv A outer s H E).A) :
    PSs (cxOf CX0 P0 w K mg base ["record", "tick", "pair"] "cut_record" (defScope s_cut_record) T.f_cut_record cdv A outer s H E).nox (defBody s_cut_record) (t_cut_record T) :=
      (pss_one (ps_ret (pe_callTy cq_tup (by rfl) T.n_tuple (by decide +kernel) (pa_cons (pe_lc (own := [("pair", 2)]) (by rfl) sc_cut_record.nd (pi_any (pv 0)) (blkOk_by (own := [("pair", 2)]) (N := ["record", "tick", "pair"]) (sc := defScope s_cut_record) (by decide +kernel)) (fun _ _ _ _ _ => (pg_name (i := 2) sc_cut_record.nd rfl (.inl rfl))) (fun _ _ _ _ _ => (pts_one (pt_cmpR oq_lt (pe_ix ix_seq (pv 2) pe_int (fun _ _ => rfl)) (pv 1) (nomark _)))) (fun _ _ _ _ _ => (pv 2))) pa_nil))))
def t__law_draw (T : Top K mg) : TS :=
      (tSeq (tAsg (tLc (iAny K (tSl (rSlany K) (tVar 0) tNoPart (tPart (tC (.int 48))))) (gName 3) tYes (tCB rAbs (tCons (tCB rInt1 (tCons (tVar 3) tNil)) tNil)) [3]) (gName 2))
      (tSeq (tAsg (tOp (rAddA K) (tC (.int 7919)) (tOp (rI CMulW fun i j => .int (i * j)) (tC (.int 104729)) (tVar 1))) (gName 4))
      (tSeq (tFor (iAny K (tVar 2)) (gName 3) (tAsg (tOp (rI (fun _ j => 0 < j) fun i j => .int (i % j)) (tCB rInt1 (tCons (tOp (rAddA K) (tOp (rAddA K) (tOp (rI CMulW fun i j => .int (i * j)) (tVar 4) (tC (.int 48271))) (tOp (rI (fun _ j => 0 < j) fun i j => .int (i % j)) (tVar 3) (tC (.int 2147483549)))) (tC (.int 11))) tNil)) (tC (.int 2147483647))) (gName 4)))
      (tRet (tLst (tCons (tRevL K (tLc (iAny K (tVar 2)) (gName 3) (tTest (tOp (rI0 fun i j => .bl (decide (j ≤ i))) (tVar 3) (tOp (rI CPow fun i j => .int (i ^ j.toNat)) (tC (.int 10)) (tC (.int 18))))) (tVar 3) [3])) (tCons (tVar 4) tNil)))))))
theorem d__law_draw (T : Top K mg)  (cdv : Value) (A : Around) (outer : List Env) (s : Shared) (H : Hp) (E : XK) (hg : (cxOf CX0 P0 w K mg base ["script", "salt", "cells", "cell", "blend"] "_law_draw" (defScope s__law_draw) T.f__law_draw cdv A outer s H E).A.guards = some []) (hr : Room 0 (cxOf CX0 P0 w K mg base ["script", "salt", "cells", "cell", "blend"] "_law_draw" (defScope s__law_draw) T.f__law_draw cdv A outer s H E).A) :
    PSs (cxOf CX0 P0 w K mg base ["script", "salt", "cells", "cell", "blend"] "_law_draw" (defScope s__law_draw) T.f__law_draw cdv A outer s H E).nox (defBody s__law_draw) (t__law_draw T) :=
      (pss_cons (ps_setLc (i := 2) (own := [("cell", 3)]) (by rfl) sc__law_draw.nd rfl rfl (sw_true rfl rfl rfl (by decide +kernel)) (pi_any (pe_slice sq_any (pv 0) po_none (po_some pe_int))) (blkOk_by (own := [("cell", 3)]) (N := ["script", "salt", "cells", "cell", "blend"]) (sc := defScope s__law_draw) (by decide +kernel)) (fun _ _ _ _ _ => (pg_name (i := 3) sc__law_draw.nd rfl (.inl rfl))) (fun _ _ _ _ _ => pts_nil) (fun _ _ _ _ _ => (pe_callB cq_abs (by rfl) T.n_abs (by decide +kernel) (pa_cons (pe_callTy cq_int (by rfl) T.n_int (by decide +kernel) (pa_cons (pv 3) pa_nil)) pa_nil))))
      (pss_cons (ps_set (i := 4) sc__law_draw.nd rfl (.inl rfl) (pe_op oq_add pe_int (pe_op op_mulW pe_int (pv 1))))
      (pss_cons (ps_for PassesOwn.never rfl (pi_any (pv 2)) (pg_name (i := 3) sc__law_draw.nd rfl (.inl rfl)) (pss_one (ps_set (i := 4) sc__law_draw.nd rfl (.inl rfl) (pe_op op_mod (pe_callTy cq_int (by rfl) T.n_int (by decide +kernel) (pa_cons (pe_op oq_add (pe_op oq_add (pe_op op_mulW (pv 4) pe_int) (pe_op op_mod (pv 3) pe_int)) pe_int) pa_nil)) pe_int))))
      (pss_one (ps_ret (pe_lst (pa_cons (pe_revL (pe_lc (own := [("cell", 3)]) (by rfl) sc__law_draw.nd (pi_any (pv 2)) (blkOk_by (own := [("cell", 3)]) (N := ["script", "salt", "cells", "cell", "blend"]) (sc := defScope s__law_draw) (by decide +kernel)) (fun _ _ _ _ _ => (pg_name (i := 3) sc__law_draw.nd rfl (.inl rfl))) (fun _ _ _ _ _ => (pts_one (pt_cmpR op_ge (pv 3) (pe_op op_pow pe_int pe_int) (nomark _)))) (fun _ _ _ _ _ => (pv 3)))) (pa_cons (pv 4) pa_nil))))))))
def t__law_any (T : Top K mg) : TS :=
      (tSeq (tWhile (tAnd (tTest (tOp (rNeA K) (tOp (rIx K) (tVar 0) (tC (.int 0))) (tLst tNil))) (tTest (tOp (rEqA K) (tOp (rIx K) (tOp (rIx K) (tVar 0) (tC (.int 0))) (tUn (rU fun i => .int (-i)) (tC (.int 1)))) (tC (.int 0))))) (tDrop (tBM0 K "list" rPop (tOp (rIx K) (tVar 0) (tC (.int 0))))))
      (tSeq (tIfS (tTest (tOp (rNeA K) (tOp (rIx K) (tVar 0) (tC (.int 0))) (tLst tNil))) (tSeq (tAsg (tCB rInt1 (tCons (tBM0 K "list" rPop (tOp (rIx K) (tVar 0) (tC (.int 0)))) tNil)) (gName 2))
        (tSeq (tDrop (tBM K "list" rAppend (tOp (rIx K) (tVar 0) (tC (.int 0))) (tCons (tOp (rI (fun _ j => 0 < j) fun i j => .int (i / j)) (tVar 2) (tVar 1)) tNil)))
        (tRet (tOp (rI (fun _ j => 0 < j) fun i j => .int (i % j)) (tVar 2) (tVar 1))))) tNext)
      (tSeq (tAsg (tOp (rI (fun _ j => 0 < j) fun i j => .int (i % j)) (tCB rInt1 (tCons (tOp (rAddA K) (tOp (rI CMulW fun i j => .int (i * j)) (tOp (rIx K) (tVar 0) (tC (.int 1))) (tC (.int 40693))) (tC (.int 71))) tNil)) (tC (.int 2147483647))) (gSub (tVar 0) (tC (.int 1)) rSetL))
      (tRet (tOp (rI (fun _ j => 0 < j) fun i j => .int (i % j)) (tCB rInt1 (tCons (tOp (rI (fun _ j => 0 < j) fun i j => .int (i / j)) (tOp (rIx K) (tVar 0) (tC (.int 1))) (tC (.int 64))) tNil)) (tVar 1))))))
theorem d__law_any (T : Top K mg)  (cdv : Value) (A : Around) (outer : List Env) (s : Shared) (H : Hp) (E : XK) (NS : base.NoSeer) (hg : (cxOf CX0 P0 w K mg base ["deal", "bound", "rest"] "_law_any" (defScope s__law_any) T.f__law_any cdv A outer s H E).A.guards = some []) (hr : Room 32 (cxOf CX0 P0 w K mg base ["deal", "bound", "rest"] "_law_any" (defScope s__law_any) T.f__law_any cdv A outer s H E).A) :
    PSs (cxOf CX0 P0 w K mg base ["deal", "bound", "rest"] "_law_any" (defScope s__law_any) T.f__law_any cdv A outer s H E).nox (defBody s__law_any) (t__law_any T) :=
      (pss_cons (ps_while PassesOwn.never (PW.pt (pw_and (pt_cmpR (oq_ne hr) (pe_ix ix_seq (pv 0) pe_int (fun _ _ => rfl)) (pe_lst pa_nil) (nomark _)) (pw_and1 (pt_cmpR (oq_eq hr) (pe_ix ix_seq (pe_ix ix_seq (pv 0) pe_int (fun _ _ => rfl)) (pe_un un_neg pe_int) (fun _ _ => rfl)) pe_int (nomark _))))) (pss_one (ps_expr (pe_bm0 PySem.F.plainAttrs_list PySem.F.slot_list_pop PySem.F.type_list_pop mt_pop (pe_ix ix_seq (pv 0) pe_int (fun _ _ => rfl))))))
      (pss_cons (ps_if (pt_cmpR (oq_ne hr) (pe_ix ix_seq (pv 0) pe_int (fun _ _ => rfl)) (pe_lst pa_nil) (nomark _)) (pss_cons (ps_set (i := 2) sc__law_any.nd rfl (.inl rfl) (pe_callTy cq_int (by rfl) T.n_int (by decide +kernel) (pa_cons (pe_bm0 PySem.F.plainAttrs_list PySem.F.slot_list_pop PySem.F.type_list_pop mt_pop (pe_ix ix_seq (pv 0) pe_int (fun _ _ => rfl))) pa_nil)))
        (pss_cons (ps_expr (pe_bm PySem.F.plainAttrs_list PySem.F.slot_list_append PySem.F.type_list_append mt_append (pe_ix ix_seq (pv 0) pe_int (fun _ _ => rfl)) (pa_cons (pe_op (op_fdivP NS rfl rfl rfl rfl hr (by decide)) (pv 2) (pv 1)) pa_nil)))
        (pss_one (ps_ret (pe_op op_mod (pv 2) (pv 1)))))) pss_nil)
      (pss_cons (ps_asg (pe_op op_mod (pe_callTy cq_int (by rfl) T.n_int (by decide +kernel) (pa_cons (pe_op oq_add (pe_op op_mulW (pe_ix ix_seq (pv 0) pe_int (fun _ _ => rfl)) pe_int) pe_int) pa_nil)) pe_int) (pg_sub (pv 0) pe_int set_list))
      (pss_one (ps_ret (pe_op op_mod (pe_callTy cq_int (by rfl) T.n_int (by decide +kernel) (pa_cons (pe_op (op_fdivP NS rfl rfl rfl rfl hr (by decide)) (pe_ix ix_seq (pv 0) pe_int (fun _ _ => rfl)) pe_int) pa_nil)) (pv 1)))))))
def t__law_of (T : Top K mg) : TS :=
      (tRet (tOp (rIx K) (tVar 1) (tCallK (sp__law_any K) (fun vs _ => vs) E0 (tCons (tVar 0) (tCons (tCB (rLen K) (tCons (tVar 1) tNil)) tNil)) tNil)))
theorem d__law_of (T : Top K mg) (G__law_any : GOk P0 w K mg base CX0 33 T.f__law_any T.fd__law_any ["deal", "bound"] (sp__law_any K)) (cdv : Value) (A : Around) (outer : List Env) (s : Shared) (H : Hp) (E : XK) (hg : (cxOf CX0 P0 w K mg base ["deal", "some"] "_law_of" (defScope s__law_of) T.f__law_of cdv A outer s H E).A.guards = some []) (hr : Room 33 (cxOf CX0 P0 w K mg base ["deal", "some"] "_law_of" (defScope s__law_of) T.f__law_of cdv A outer s H E).A) :
    PSs (cxOf CX0 P0 w K mg base ["deal", "some"] "_law_of" (defScope s__law_of) T.f__law_of cdv A outer s H E).nox (defBody s__law_of) (t__law_of T) :=
      (pss_one (ps_ret (pe_ix ix_seq (pv 1) (pe_g G__law_any hg hr (by rfl) T.g__law_any T.F__law_any.kp (b__law_any T.F__law_any) pass0 (pa_cons (pv 0) (pa_cons (pe_callB cq_len (by rfl) T.n_len (by decide +kernel) (pa_cons (pv 1) pa_nil)) pa_nil))) (fun _ _ => rfl))))
def t__law_size (T : Top K mg) : TS :=
      (tSeq (tAsg (tCallK (sp__law_any K) (fun vs _ => vs) E0 (tCons (tVar 0) (tCons (tC (.int 3)) tNil)) tNil) (gName 3))
      (tSeq (tIfS (tTest (tOp (rEqA K) (tVar 3) (tC (.int 0)))) (tRet (tVar 2)) tNext)
      (tRet (tOp (rAddA K) (tVar 1) (tCallK (sp__law_any K) (fun vs _ => vs) E0 (tCons (tVar 0) (tCons (tIf (tTest (tOp (rEqA K) (tVar 3) (tC (.int 1)))) (tCB rMn (tCons (tC (.int 3)) (tCons (tOp (rAddA K) (tOp (rI0 fun i j => .int (i - j)) (tVar 2) (tVar 1)) (tC (.int 1))) tNil))) (tOp (rAddA K) (tOp (rI0 fun i j => .int (i - j)) (tVar 2) (tVar 1)) (tC (.int 1)))) tNil)) tNil)))))
theorem d__law_size (T : Top K mg) (G__law_any : GOk P0 w K mg base CX0 33 T.f__law_any T.fd__law_any ["deal", "bound"] (sp__law_any K)) (cdv : Value) (A : Around) (outer : List Env) (s : Shared) (H : Hp) (E : XK) (hg : (cxOf CX0 P0 w K mg base ["deal", "least", "most", "form"] "_law_size" (defScope s__law_size) T.f__law_size cdv A outer s H E).A.guards = some []) (hr : Room 33 (cxOf CX0 P0 w K mg base ["deal", "least", "most", "form"] "_law_size" (defScope s__law_size) T.f__law_size cdv A outer s H E).A) :
    PSs (cxOf CX0 P0 w K mg base ["deal", "least", "most", "form"] "_law_size" (defScope s__law_size) T.f__law_size cdv A outer s H E).nox (defBody s__law_size) (t__law_size T) :=
      (pss_cons (ps_set (i := 3) sc__law_size.nd rfl (.inl rfl) (pe_g G__law_any hg hr (by rfl) T.g__law_any T.F__law_any.kp (b__law_any T.F__law_any) pass0 (pa_cons (pv 0) (pa_cons pe_int pa_nil))))
      (pss_cons (ps_if (pt_cmpR (oq_eq hr) (pv 3) pe_int (nomark _)) (pss_one (ps_ret (pv 2))) pss_nil)
      (pss_one (ps_ret (pe_op oq_add (pv 1) (pe_g G__law_any hg hr (by rfl) T.g__law_any T.F__law_any.kp (b__law_any T.F__law_any) pass0 (pa_cons (pv 0) (pa_cons (pe_ifExp (pt_cmpR (oq_eq hr) (pv 3) pe_int (nomark _)) (pe_callB (cq_min rfl) (by rfl) T.n_min (by decide +kernel) (pa_cons pe_int (pa_cons (pe_op oq_add (pe_op op_sub (pv 2) (pv 1)) pe_int) pa_nil))) (pe_op oq_add (pe_op op_sub (pv 2) (pv 1)) pe_int)) pa_nil))))))))
def t__law_row (T : Top K mg) : TS :=
      (tSeq (tPar 2 3 (tCons (tLstRg (tRg1 (tVar 1))) (tCons (tLst tNil) tNil)))
      (tSeq (tFor (iRng1 (tCons (tVar 1) tNil)) (gName 4) (tDrop (tBM K "list" rAppend (tVar 3) (tCons (tBM K "list" rPopAt (tVar 2) (tCons (tCallK (sp__law_any K) (fun vs _ => vs) E0 (tCons (tVar 0) (tCons (tCB (rLen K) (tCons (tVar 2) tNil)) tNil)) tNil) tNil)) tNil))))
      (tRet (tVar 3))))
theorem d__law_row (T : Top K mg) (G__law_any : GOk P0 w K mg base CX0 33 T.f__law_any T.fd__law_any ["deal", "bound"] (sp__law_any K)) (cdv : Value) (A : Around) (outer : List Env) (s : Shared) (H : Hp) (E : XK) (hg : (cxOf CX0 P0 w K mg base ["deal", "many", "left", "found", "turn"] "_law_row" (defScope s__law_row) T.f__law_row cdv A outer s H E).A.guards = some []) (hr : Room 33 (cxOf CX0 P0 w K mg base ["deal", "many", "left", "found", "turn"] "_law_row" (defScope s__law_row) T.f__law_row cdv A outer s H E).A) :
    PSs (cxOf CX0 P0 w K mg base ["deal", "many", "left", "found", "turn"] "_law_row" (defScope s__law_row) T.f__law_row cdv A outer s H E).nox (defBody s__law_row) (t__law_row T) :=
      (pss_cons (ps_par (i := 2) (j := 3) (by rfl) sc__law_row.nd rfl rfl (by decide) rfl rfl (pa_cons (pe_listRg rfl (by rfl) T.n_list (prg_1 (by rfl) T.n_range (pv 1))) (pa_cons (pe_lst pa_nil) pa_nil)) (by rfl))
      (pss_cons (ps_for PassesOwn.never rfl (pi_range1 (by rfl) T.n_range (pa_cons (pv 1) pa_nil)) (pg_name (i := 4) sc__law_row.nd rfl (.inl rfl)) (pss_one (ps_expr (pe_bm PySem.F.plainAttrs_list PySem.F.slot_list_append PySem.F.type_list_append mt_append (pv 3) (pa_cons (pe_bm PySem.F.plainAttrs_list PySem.F.slot_list_pop PySem.F.type_list_pop mt_popAt (pv 2) (pa_cons (pe_g G__law_any hg hr (by rfl) T.g__law_any T.F__law_any.kp (b__law_any T.F__law_any) pass0 (pa_cons (pv 0) (pa_cons (pe_callB cq_len (by rfl) T.n_len (by decide +kernel) (pa_cons (pv 2) pa_nil)) pa_nil))) pa_nil)) pa_nil)))))
      (pss_one (ps_ret (pv 3)))))
def t__law_closed (T : Top K mg) (w : World) : TS :=
      (tSeq (tAsg (tCB (rDictP K) (tCons (tLc (iAny K (tVar 0)) (gName 3) tYes (tTup (tCons (tVar 3) (tCons (tLst (tCons (tVar 3) tNil)) tNil))) [3]) tNil)) (gName 2))
      (tSeq (tFor (iAny K (tVar 0)) (gName 4) (tFor (iAny K (tVar 1)) (gTup K 2 (gCons (gName 5) (gCons (gName 6) gNil))) (tIfS (tAnd (tTest (tOp (rEqA K) (tVar 6) (tVar 4))) (tTest (tOp (rNeA K) (tVar 5) (tVar 4)))) (tAsg (tOp (rAddA K) (tDGet (tVar 2) (tVar 4)) (tLc (iAny K (tDGet (tVar 2) (tVar 5))) (gName 3) (tTest (tOp (rNotInA K) (tVar 3) (tDGet (tVar 2) (tVar 4)))) (tVar 3) [3])) (gSub (tVar 2) (tVar 4) rSetD)) tNext)))
      (tRet (tCB (rTup K) (tCons (tLc (iRng1 (tCons (tCB (rLen K) (tCons (tVar 0) tNil)) tNil)) (gName 3) tYes (tCB (rTup K) (tCons (tCB (rSortedSet w) (tCons (tCB (rSetLI K w) (tCons (tDGet (tVar 2) (tVar 3)) tNil)) tNil)) tNil)) [3]) tNil)))))
theorem d__law_closed (T : Top K mg)  (cdv : Value) (A : Around) (outer : List Env) (s : Shared) (H : Hp) (E : XK) (hg : (cxOf CX0 P0 w K mg base ["row", "pairs", "below", "level", "high", "low", "other"] "_law_closed" (defScope s__law_closed) T.f__law_closed cdv A outer s H E).A.guards = some []) (hr : Room 0 (cxOf CX0 P0 w K mg base ["row", "pairs", "below", "level", "high", "low", "other"] "_law_closed" (defScope s__law_closed) T.f__law_closed cdv A outer s H E).A) :
    PSs (cxOf CX0 P0 w K mg base ["row", "pairs", "below", "level", "high", "low", "other"] "_law_closed" (defScope s__law_closed) T.f__law_closed cdv A outer s H E).nox (defBody s__law_closed) (t__law_closed T w) :=
      (pss_cons (ps_set (i := 2) sc__law_closed.nd rfl (.inr rfl) (pe_callTy (cr_dictP rfl) (by rfl) T.n_dict (by decide +kernel) (pa_cons (pe_lc (own := [("level", 3)]) (by rfl) sc__law_closed.nd (pi_any (pv 0)) (blkOk_by (own := [("level", 3)]) (N := ["row", "pairs", "below", "level", "high", "low", "other"]) (sc := defScope s__law_closed) (by decide +kernel)) (fun _ _ _ _ _ => (pg_name (i := 3) sc__law_closed.nd rfl (.inl rfl))) (fun _ _ _ _ _ => pts_nil) (fun _ _ _ _ _ => (pe_tup (pa_cons (pv 3) (pa_cons (pe_lst (pa_cons (pv 3) pa_nil)) pa_nil))))) pa_nil)))
      (pss_cons (ps_for PassesOwn.never rfl (pi_any (pv 0)) (pg_name (i := 4) sc__law_closed.nd rfl (.inr rfl)) (pss_one (ps_for PassesOwn.never rfl (pi_any (pv 1)) (pg_tup (by rfl) (pgs_cons (pg_name (i := 5) sc__law_closed.nd rfl (.inl rfl)) (pgs_cons (pg_name (i := 6) sc__law_closed.nd rfl (.inl rfl)) pgs_nil))) (pss_one (ps_if (PW.pt (pw_and (pt_cmpR (oq_eq hr) (pv 6) (pv 4) (nomark _)) (pw_and1 (pt_cmpR (oq_ne hr) (pv 5) (pv 4) (nomark _))))) (pss_one (ps_asg (pe_op oq_add (pe_dget (un1 hr) (pv 2) (pv 4) (fun _ _ => rfl)) (pe_lc (own := [("level", 3)]) (by rfl) sc__law_closed.nd (pi_any (pe_dget (un1 hr) (pv 2) (pv 5) (fun _ _ => rfl))) (blkOk_by (own := [("level", 3)]) (N := ["row", "pairs", "below", "level", "high", "low", "other"]) (sc := defScope s__law_closed) (by decide +kernel)) (fun _ _ _ _ _ => (pg_name (i := 3) sc__law_closed.nd rfl (.inl rfl))) (fun _ _ _ _ _ => (pts_one (pt_cmpR (oq_notin hr) (pv 3) (pe_dget (un1 hr) (pv 2) (pv 4) (fun _ _ => rfl)) (by rfl)))) (fun _ _ _ _ _ => (pv 3)))) (pg_sub (pv 2) (pv 4) (set_dict (un1 hr))))) pss_nil)))))
      (pss_one (ps_ret (pe_callTy cq_tup (by rfl) T.n_tuple (by decide +kernel) (pa_cons (pe_lc (own := [("level", 3)]) (by rfl) sc__law_closed.nd (pi_range1 (by rfl) T.n_range (pa_cons (pe_callB cq_len (by rfl) T.n_len (by decide +kernel) (pa_cons (pv 0) pa_nil)) pa_nil)) (blkOk_by (own := [("level", 3)]) (N := ["row", "pairs", "below", "level", "high", "low", "other"]) (sc := defScope s__law_closed) (by decide +kernel)) (fun _ _ _ _ _ => (pg_name (i := 3) sc__law_closed.nd rfl (.inl rfl))) (fun _ _ _ _ _ => pts_nil) (fun _ _ _ _ _ => (pe_callTy cq_tup (by rfl) T.n_tuple (by decide +kernel) (pa_cons (pe_callB (cr_sortedSet rfl) (by rfl) T.n_sorted (by decide +kernel) (pa_cons (pe_callTy (cr_setLI rfl) (by rfl) T.n_set (by decide +kernel) (pa_cons (pe_dget (un1 hr) (pv 2) (pv 3) (fun _ _ => rfl)) pa_nil)) pa_nil)) pa_nil)))) pa_nil))))))
def t__law_pairs (T : Top K mg) : TS :=
      (tSeq (tAsg (tTup (tCons (tCallK (sp__law_any K) (fun vs _ => vs) E0 (tCons (tVar 0) (tCons (tC (.int 3)) tNil)) tNil) (tCons (tLst tNil) tNil))) (gTup K 2 (gCons (gName 2) (gCons (gName 3) gNil))))
      (tSeq (tIfS (tTest (tOp rLtA (tVar 2) (tC (.int 2)))) (tAsg (tLc (iRng1 (tCons (tOp (rI0 fun i j => .int (i - j)) (tCB (rLen K) (tCons (tVar 1) tNil)) (tC (.int 1))) tNil)) (gName 4) (tOr (tTest (tOp (rEqA K) (tVar 2) (tC (.int 0)))) (tTest (tOp (rI0 fun i j => .bl (decide (j < i))) (tCallK (sp__law_any K) (fun vs _ => vs) E0 (tCons (tVar 0) (tCons (tC (.int 4)) tNil)) tNil) (tC (.int 0))))) (tTup (tCons (tOp (rIx K) (tVar 1) (tVar 4)) (tCons (tOp (rIx K) (tVar 1) (tOp (rAddA K) (tVar 4) (tC (.int 1)))) tNil))) [4]) (gName 3)) tNext)
      (tSeq (tFor (iRng1 (tCons (tCallK (sp__law_size K) (fun vs _ => vs) E0 (tCons (tVar 0) (tCons (tC (.int 0)) (tCons (tC (.int 80)) tNil))) tNil) tNil)) (gName 5) (tSeq (tPar 6 7 (tCons (tCallK (sp__law_any K) (fun vs _ => vs) E0 (tCons (tVar 0) (tCons (tCB (rLen K) (tCons (tVar 1) tNil)) tNil)) tNil) (tCons (tCallK (sp__law_any K) (fun vs _ => vs) E0 (tCons (tVar 0) (tCons (tCB (rLen K) (tCons (tVar 1) tNil)) tNil)) tNil) tNil)))
        (tDrop (tBM K "list" rAppend (tVar 3) (tCons (tTup (tCons (tOp (rIx K) (tVar 1) (tCB rMn (tCons (tVar 6) (tCons (tVar 7) tNil)))) (tCons (tOp (rIx K) (tVar 1) (tCB rMx (tCons (tVar 6) (tCons (tVar 7) tNil)))) tNil))) tNil)))))
      (tRet (tIf (tTest (tOp (rEqA K) (tCallK (sp__law_any K) (fun vs _ => vs) E0 (tCons (tVar 0) (tCons (tC (.int 2)) tNil)) tNil) (tC (.int 0)))) (tRevL K (tVar 3)) (tVar 3))))))
theorem d__law_pairs (T : Top K mg) (G__law_any : GOk P0 w K mg base CX0 33 T.f__law_any T.fd__law_any ["deal", "bound"] (sp__law_any K)) (G__law_size : GOk P0 w K mg base CX0 34 T.f__law_size T.fd__law_size ["deal", "least", "most"] (sp__law_size K)) (cdv : Value) (A : Around) (outer : List Env) (s : Shared) (H : Hp) (E : XK) (hg : (cxOf CX0 P0 w K mg base ["deal", "row", "form", "pairs", "at", "turn", "one", "other"] "_law_pairs" (defScope s__law_pairs) T.f__law_pairs cdv A outer s H E).A.guards = some []) (hr : Room 34 (cxOf CX0 P0 w K mg base ["deal", "row", "form", "pairs", "at", "turn", "one", "other"] "_law_pairs" (defScope s__law_pairs) T.f__law_pairs cdv A outer s H E).A) :
    PSs (cxOf CX0 P0 w K mg base ["deal", "row", "form", "pairs", "at", "turn", "one", "other"] "_law_pairs" (defScope s__law_pairs) T.f__law_pairs cdv A outer s H E).nox (defBody s__law_pairs) (t__law_pairs T) :=
      (pss_cons (ps_asg (pe_tup (pa_cons (pe_g G__law_any hg (hr.mono (by decide)) (by rfl) T.g__law_any T.F__law_any.kp (b__law_any T.F__law_any) pass0 (pa_cons (pv 0) (pa_cons pe_int pa_nil))) (pa_cons (pe_lst pa_nil) pa_nil))) (pg_tup (by rfl) (pgs_cons (pg_name (i := 2) sc__law_pairs.nd rfl (.inr rfl)) (pgs_cons (pg_name (i := 3) sc__law_pairs.nd rfl (.inl rfl)) pgs_nil))))
      (pss_cons (ps_if (pt_cmpR oq_lt (pv 2) pe_int (nomark _)) (pss_one (ps_setLc (i := 3) (own := [("at", 4)]) (by rfl) sc__law_pairs.nd rfl rfl (sw_true rfl rfl rfl (by decide +kernel)) (pi_range1 (by rfl) T.n_range (pa_cons (pe_op op_sub (pe_callB cq_len (by rfl) T.n_len (by decide +kernel) (pa_cons (pv 1) pa_nil)) pe_int) pa_nil)) (blkOk_by (own := [("at", 4)]) (N := ["deal", "row", "form", "pairs", "at", "turn", "one", "other"]) (sc := defScope s__law_pairs) (by decide +kernel)) (fun _ _ _ _ _ => (pg_name (i := 4) sc__law_pairs.nd rfl (.inl rfl))) (fun _ _ _ _ _ => (pts_one (PW.pt (pw_or (pt_cmpR (oq_eq hr) (pv 2) pe_int (nomark _)) (pw_or1 (pt_cmpR op_gt (pe_g G__law_any hg (hr.mono (by decide)) (by rfl) T.g__law_any T.F__law_any.kp (b__law_any T.F__law_any) pass0 (pa_cons (pv 0) (pa_cons pe_int pa_nil))) pe_int (nomark _))))))) (fun _ _ _ _ _ => (pe_tup (pa_cons (pe_ix ix_seq (pv 1) (pv 4) (fun _ _ => rfl)) (pa_cons (pe_ix ix_seq (pv 1) (pe_op oq_add (pv 4) pe_int) (fun _ _ => rfl)) pa_nil)))))) pss_nil)
      (pss_cons (ps_for PassesOwn.never rfl (pi_range1 (by rfl) T.n_range (pa_cons (pe_g G__law_size hg hr (by rfl) T.g__law_size T.F__law_size.kp (b__law_size T.F__law_size) pass0 (pa_cons (pv 0) (pa_cons pe_int (pa_cons pe_int pa_nil)))) pa_nil)) (pg_name (i := 5) sc__law_pairs.nd rfl (.inl rfl)) (pss_cons (ps_par (i := 6) (j := 7) (by rfl) sc__law_pairs.nd rfl rfl (by decide) rfl rfl (pa_cons (pe_g G__law_any hg (hr.mono (by decide)) (by rfl) T.g__law_any T.F__law_any.kp (b__law_any T.F__law_any) pass0 (pa_cons (pv 0) (pa_cons (pe_callB cq_len (by rfl) T.n_len (by decide +kernel) (pa_cons (pv 1) pa_nil)) pa_nil))) (pa_cons (pe_g G__law_any hg (hr.mono (by decide)) (by rfl) T.g__law_any T.F__law_any.kp (b__law_any T.F__law_any) pass0 (pa_cons (pv 0) (pa_cons (pe_callB cq_len (by rfl) T.n_len (by decide +kernel) (pa_cons (pv 1) pa_nil)) pa_nil))) pa_nil)) (by rfl))
        (pss_one (ps_expr (pe_bm PySem.F.plainAttrs_list PySem.F.slot_list_append PySem.F.type_list_append mt_append (pv 3) (pa_cons (pe_tup (pa_cons (pe_ix ix_seq (pv 1) (pe_callB (cq_min rfl) (by rfl) T.n_min (by decide +kernel) (pa_cons (pv 6) (pa_cons (pv 7) pa_nil))) (fun _ _ => rfl)) (pa_cons (pe_ix ix_seq (pv 1) (pe_callB (cq_max rfl) (by rfl) T.n_max (by decide +kernel) (pa_cons (pv 6) (pa_cons (pv 7) pa_nil))) (fun _ _ => rfl)) pa_nil))) pa_nil))))))
      (pss_one (ps_ret (pe_ifExp (pt_cmpR (oq_eq hr) (pe_g G__law_any hg (hr.mono (by decide)) (by rfl) T.g__law_any T.F__law_any.kp (b__law_any T.F__law_any) pass0 (pa_cons (pv 0) (pa_cons pe_int pa_nil))) pe_int (nomark _)) (pe_revL (pv 3)) (pv 3)))))))
def t__law_refused (T : Top K mg) : TS :=
      (tSeq (tTryR K T.X_InvalidOrder.C "at" (fun E' => (tCallK (sp_order_of T) (fun vs _ => vs) E' (tCons (tVar 0) (tCons (tVar 1) tNil)) tNil)))
      (tRet (tC .non)))
theorem d__law_refused (T : Top K mg) (G_order_of : GOk P0 w K mg base (L2.CX P0 w) 6 T.f_order_of T.fd_order_of ["levels", "pairs"] (sp_order_of T)) (cdv : Value) (A : Around) (outer : List Env) (s : Shared) (H : Hp) (E : XK) (hg : (cxOf CX0 P0 w K mg base ["levels", "pairs", "e"] "_law_refused" (defScope s__law_refused) T.f__law_refused cdv A outer s H E).A.guards = some []) (hr : Room 6 (cxOf CX0 P0 w K mg base ["levels", "pairs", "e"] "_law_refused" (defScope s__law_refused) T.f__law_refused cdv A outer s H E).A) :
    PSs (cxOf CX0 P0 w K mg base ["levels", "pairs", "e"] "_law_refused" (defScope s__law_refused) T.f__law_refused cdv A outer s H E).nox (defBody s__law_refused) (t__law_refused T) :=
      (pss_cons (ps_tryR (i := 2) rfl rfl sc__law_refused.nd rfl rfl (by rfl) T.X_InvalidOrder.m T.X_InvalidOrder.f T.X_InvalidOrder.x.no (by rfl) T.n_repr (fun W pn xe E' tk' hW => (pe_g G_order_of hg hr (by rfl) T.g_order_of T.F_order_of.kp (b_order_of T.F_order_of) (passes_call tk' hW) (pa_cons (pv 0) (pa_cons (pv 1) pa_nil)))))
      (pss_one (ps_ret pe_non)))
def t__law_is_ring (T : Top K mg) (w : World) : TS :=
      (tSeq (tIfS (tOr (tNot (tB (tCB (rIsAny K) (tCons (tVar 1) (tCons (tC (.ty "tuple")) tNil))))) (tOr (tTest (tOp rLtA (tCB (rLen K) (tCons (tVar 1) tNil)) (tC (.int 2)))) (tTest (tOp rLtA (tCB (rLenSet w) (tCons (tCB (rSetTI K w) (tCons (tVar 1) tNil)) tNil)) (tCB (rLen K) (tCons (tVar 1) tNil)))))) (tRet (tC (.bl false))) tNext)
      (tSeq (tIfS (tTest (tOp (rNeA K) (tLc (iAny K (tVar 1)) (gName 2) (tOr (tB (tCB (rIsAny K) (tCons (tVar 2) (tCons (tC (.ty "bool")) tNil)))) (tNot (tB (tCB (rIsAny K) (tCons (tVar 2) (tCons (tC (.ty "int")) tNil)))))) (tVar 2) [2]) (tLst tNil))) (tRet (tC (.bl false))) tNext)
      (tRet (tOp (rEqA K) (tLc (iRng1 (tCons (tCB (rLen K) (tCons (tVar 1) tNil)) tNil)) (gName 3) (tTest (tOp (rNotInA K) (tTup (tCons (tOp (rIx K) (tVar 1) (tOp (rI0 fun i j => .int (i - j)) (tVar 3) (tC (.int 1)))) (tCons (tOp (rIx K) (tVar 1) (tVar 3)) tNil))) (tVar 0))) (tVar 3) [3]) (tLst tNil)))))
theorem d__law_is_ring (T : Top K mg)  (cdv : Value) (A : Around) (outer : List Env) (s : Shared) (H : Hp) (E : XK) (hg : (cxOf CX0 P0 w K mg base ["pairs", "ring", "level", "at"] "_law_is_ring" (defScope s__law_is_ring) T.f__law_is_ring cdv A outer s H E).A.guards = some []) (hr : Room 0 (cxOf CX0 P0 w K mg base ["pairs", "ring", "level", "at"] "_law_is_ring" (defScope s__law_is_ring) T.f__law_is_ring cdv A outer s H E).A) :
    PSs (cxOf CX0 P0 w K mg base ["pairs", "ring", "level", "at"] "_law_is_ring" (defScope s__law_is_ring) T.f__law_is_ring cdv A outer s H E).nox (defBody s__law_is_ring) (t__law_is_ring T w) :=
      (pss_cons (ps_if (PW.pt (pw_or (pt_not (pt_val (pe_callB cq_isi (by rfl) T.n_isinstance (by decide +kernel) (pa_cons (pv 1) (pa_cons (pe_bltn (v := .ty "tuple") (by rfl) T.n_tuple (by decide +kernel) rfl) pa_nil))))) (pw_or (pt_cmpR oq_lt (pe_callB cq_len (by rfl) T.n_len (by decide +kernel) (pa_cons (pv 1) pa_nil)) pe_int (nomark _)) (pw_or1 (pt_cmpR oq_lt (pe_callB cr_lenSet (by rfl) T.n_len (by decide +kernel) (pa_cons (pe_callTy (cr_setTI rfl) (by rfl) T.n_set (by decide +kernel) (pa_cons (pv 1) pa_nil)) pa_nil)) (pe_callB cq_len (by rfl) T.n_len (by decide +kernel) (pa_cons (pv 1) pa_nil)) (nomark _)))))) (pss_one (ps_ret pe_bl)) pss_nil)
      (pss_cons (ps_if (pt_cmpR (oq_ne hr) (pe_lc (own := [("level", 2)]) (by rfl) sc__law_is_ring.nd (pi_any (pv 1)) (blkOk_by (own := [("level", 2)]) (N := ["pairs", "ring", "level", "at"]) (sc := defScope s__law_is_ring) (by decide +kernel)) (fun _ _ _ _ _ => (pg_name (i := 2) sc__law_is_ring.nd rfl (.inl rfl))) (fun _ _ _ _ _ => (pts_one (PW.pt (pw_or (pt_val (pe_callB cq_isi (by rfl) T.n_isinstance (by decide +kernel) (pa_cons (pv 2) (pa_cons (pe_bltn (v := .ty "bool") (by rfl) T.n_bool (by decide +kernel) rfl) pa_nil)))) (pw_or1 (pt_not (pt_val (pe_callB cq_isi (by rfl) T.n_isinstance (by decide +kernel) (pa_cons (pv 2) (pa_cons (pe_bltn (v := .ty "int") (by rfl) T.n_int (by decide +kernel) rfl) pa_nil)))))))))) (fun _ _ _ _ _ => (pv 2))) (pe_lst pa_nil) (nomark _)) (pss_one (ps_ret pe_bl)) pss_nil)
      (pss_one (ps_ret (pe_cmpR (oq_eq hr) (pe_lc (own := [("at", 3)]) (by rfl) sc__law_is_ring.nd (pi_range1 (by rfl) T.n_range (pa_cons (pe_callB cq_len (by rfl) T.n_len (by decide +kernel) (pa_cons (pv 1) pa_nil)) pa_nil)) (blkOk_by (own := [("at", 3)]) (N := ["pairs", "ring", "level", "at"]) (sc := defScope s__law_is_ring) (by decide +kernel)) (fun _ _ _ _ _ => (pg_name (i := 3) sc__law_is_ring.nd rfl (.inl rfl))) (fun _ _ _ _ _ => (pts_one (pt_cmpR (oq_notin hr) (pe_tup (pa_cons (pe_ix ix_seq (pv 1) (pe_op op_sub (pv 3) pe_int) (fun _ _ => rfl)) (pa_cons (pe_ix ix_seq (pv 1) (pv 3) (fun _ _ => rfl)) pa_nil))) (pv 0) (by rfl)))) (fun _ _ _ _ _ => (pv 3))) (pe_lst pa_nil) (nomark _))))))
def t__law_within (T : Top K mg) : TS :=
      (tRet (tOp (rEqA K) (tLc (iAny K (tVar 1)) (gName 3) (tTest (tOp (rNotInA K) (tVar 3) (tOp (rIx K) (tVar 0) (tVar 2)))) (tVar 3) [3]) (tLst tNil)))
theorem d__law_within (T : Top K mg)  (cdv : Value) (A : Around) (outer : List Env) (s : Shared) (H : Hp) (E : XK) (hg : (cxOf CX0 P0 w K mg base ["order", "lot", "level", "one"] "_law_within" (defScope s__law_within) T.f__law_within cdv A outer s H E).A.guards = some []) (hr : Room 0 (cxOf CX0 P0 w K mg base ["order", "lot", "level", "one"] "_law_within" (defScope s__law_within) T.f__law_within cdv A outer s H E).A) :
    PSs (cxOf CX0 P0 w K mg base ["order", "lot", "level", "one"] "_law_within" (defScope s__law_within) T.f__law_within cdv A outer s H E).nox (defBody s__law_within) (t__law_within T) :=
      (pss_one (ps_ret (pe_cmpR (oq_eq hr) (pe_lc (own := [("one", 3)]) (by rfl) sc__law_within.nd (pi_any (pv 1)) (blkOk_by (own := [("one", 3)]) (N := ["order", "lot", "level", "one"]) (sc := defScope s__law_within) (by decide +kernel)) (fun _ _ _ _ _ => (pg_name (i := 3) sc__law_within.nd rfl (.inl rfl))) (fun _ _ _ _ _ => (pts_one (pt_cmpR (oq_notin hr) (pv 3) (pe_ix ix_seq (pv 0) (pv 2) (fun _ _ => rfl)) (by rfl)))) (fun _ _ _ _ _ => (pv 3))) (pe_lst pa_nil) (nomark _))))
def t__law_lots_hold (T : Top K mg) (w : World) : TS :=
      (tSeq (tAsg (tTup (tCons (tCB (rLen K) (tCons (tVar 1) tNil)) (tCons (tLst tNil) tNil))) (gTup K 2 (gCons (gName 2) (gCons (gName 3) gNil))))
      (tSeq (tFor (iRng1 (tCons (tC (.int 2)) tNil)) (gName 4) (tDrop (tBM K "list" rAppend (tVar 3) (tCons (tCB (rTup K) (tCons (tLc (iRng1 (tCons (tVar 2) tNil)) (gName 5) (tTest (tOp (rEqA K) (tCallK (sp__law_any K) (fun vs _ => vs) E0 (tCons (tVar 0) (tCons (tCallK (sp__law_of K) (fun vs _ => vs) E0 (tCons (tVar 0) (tCons (tLst (tCons (tC (.int 2)) (tCons (tC (.int 6)) tNil))) tNil)) tNil) tNil)) tNil) (tC (.int 0)))) (tVar 5) [5]) tNil)) tNil))))
      (tSeq (tAsg (tVar 3) (gLst K 2 (gCons (gName 6) (gCons (gName 7) gNil))))
      (tSeq (tAsg (tLc (iAny K (tVar 3)) (gName 9) tYes (tLc (iRng1 (tCons (tVar 2) tNil)) (gName 5) (tB (tCallK (sp__law_within K) (fun vs _ => vs) E0 (tCons (tVar 1) (tCons (tVar 9) (tCons (tVar 5) tNil))) tNil)) (tVar 5) [5]) [9]) (gName 8))
      (tSeq (tFor (iRng1 (tCons (tVar 2) tNil)) (gName 5) (tIfS (tTest (tOp (rNeA K) (tCB (rRepr K) (tCons (tCallK (sp_lot_within K) (fun vs zs => kf_lot_within_0_order_lot_level vs zs) E0 tNil (tCons (tVar 1) (tCons (tVar 6) (tCons (tVar 5) tNil)))) tNil)) (tCB (rRepr K) (tCons (tOp (rInA K) (tVar 5) (tOp (rIx K) (tVar 8) (tC (.int 0)))) tNil)))) (tRet (tC (.bl false))) tNext))
      (tSeq (tIfS (tTest (tOp (rNeA K) (tCB (rRepr K) (tCons (tCallK (sp_watchers K) (fun vs zs => kf_watchers_0_order_lot vs zs) E0 tNil (tCons (tVar 1) (tCons (tVar 6) tNil))) tNil)) (tCB (rRepr K) (tCons (tCB (rTup K) (tCons (tOp (rIx K) (tVar 8) (tC (.int 0))) tNil)) tNil)))) (tRet (tC (.bl false))) tNext)
      (tSeq (tIfS (tTest (tOp (rNeA K) (tCB (rRepr K) (tCons (tCallK (sp_joined_lots K) (fun vs zs => kf_joined_lots_0_one_other vs zs) E0 tNil (tCons (tVar 6) (tCons (tVar 7) tNil))) tNil)) (tCB (rRepr K) (tCons (tCB (rTup K) (tCons (tCB (rSortedSet w) (tCons (tCB (rSetTI K w) (tCons (tOp (rAddA K) (tVar 6) (tVar 7)) tNil)) tNil)) tNil)) tNil)))) (tRet (tC (.bl false))) tNext)
      (tSeq (tAsg (tOp (rEqA K) (tLc (iAny K (tOp (rIx K) (tVar 8) (tC (.int 1)))) (gName 5) (tTest (tOp (rNotInA K) (tVar 5) (tOp (rIx K) (tVar 8) (tC (.int 0))))) (tVar 5) [5]) (tLst tNil)) (gName 10))
      (tSeq (tIfS (tTest (tOp (rNeA K) (tCB (rRepr K) (tCons (tCallK (sp_covered K) (fun vs zs => kf_covered_0_order_one_other vs zs) E0 tNil (tCons (tVar 1) (tCons (tVar 6) (tCons (tVar 7) tNil)))) tNil)) (tCB (rRepr K) (tCons (tVar 10) tNil)))) (tRet (tC (.bl false))) tNext)
      (tSeq (tAsg (tLst (tCons (tOp (rAddA K) (tVar 6) (tTup (tCons (tVar 2) tNil))) (tCons (tIf (tTest (tOp (rNeA K) (tVar 6) (tTup tNil))) (tOp (rAddA K) (tVar 6) (tSl (rSlany K) (tVar 6) (tPart (tUn (rU fun i => .int (-i)) (tC (.int 1)))) tNoPart)) (tTup (tCons (tUn (rU fun i => .int (-i)) (tC (.int 1))) tNil))) (tCons (tIf (tTest (tOp (rI0 fun i j => .bl (decide (j < i))) (tCB (rLen K) (tCons (tVar 6) tNil)) (tC (.int 1)))) (tRevT K (tVar 6)) (tLst (tCons (tC (.int 0)) tNil))) tNil)))) (gName 11))
      (tSeq (tAsg (tCallK (sp__law_of K) (fun vs _ => vs) E0 (tCons (tVar 0) (tCons (tOp (rAddA K) (tVar 11) (tLst (tCons (tCB (rList K) (tCons (tVar 6) tNil)) (tCons (tIf (tTest (tOp (rI0 fun i j => .bl (decide (j < i))) (tVar 2) (tC (.int 1)))) (tTup (tCons (tC (.bl true)) tNil)) (tTup (tCons (tC (.int 1)) tNil))) (tCons (tTup (tCons (tC .non) tNil)) tNil))))) tNil)) tNil) (gName 12))
      (tRet (tAndV (tOp rIsB (tCallK (sp_is_lot K) (fun vs zs => kf_is_lot_0_order_value vs zs) E0 tNil (tCons (tVar 1) (tCons (tVar 6) tNil))) (tC (.bl true))) (tOp rIsB (tCallK (sp_is_lot K) (fun vs _ => vs) E0 (tCons (tVar 1) (tCons (tVar 12) tNil)) tNil) (tC (.bl false))))))))))))))))
theorem d__law_lots_hold (T : Top K mg) (G__law_of : GOk P0 w K mg base CX0 34 T.f__law_of T.fd__law_of ["deal", "some"] (sp__law_of K)) (G_watchers : GOk P0 w K mg base CX0 2 T.f_watchers T.fd_watchers ["order", "lot"] (sp_watchers K)) (G_joined_lots : GOk P0 w K mg base CX0 1 T.f_joined_lots T.fd_joined_lots ["one", "other"] (sp_joined_lots K)) (G_covered : GOk P0 w K mg base CX0 3 T.f_covered T.fd_covered ["order", "one", "other"] (sp_covered K)) (G_is_lot : GOk P0 w K mg base CX0 5 T.f_is_lot T.fd_is_lot ["order", "value"] (sp_is_lot K)) (G__law_within : GOk P0 w K mg base CX0 1 T.f__law_within T.fd__law_within ["order", "lot", "level"] (sp__law_within K)) (G_lot_within : GOk P0 w K mg base CX0 1 T.f_lot_within T.fd_lot_within ["order", "lot", "level"] (sp_lot_within K)) (G__law_any : GOk P0 w K mg base CX0 33 T.f__law_any T.fd__law_any ["deal", "bound"] (sp__law_any K)) (cdv : Value) (A : Around) (outer : List Env) (s : Shared) (H : Hp) (E : XK) (hg : (cxOf CX0 P0 w K mg base ["deal", "order", "many", "lots", "turn", "level", "one", "other", "seers", "lot", "due", "kinds", "wrong"] "_law_lots_hold" (defScope s__law_lots_hold) T.f__law_lots_hold cdv A outer s H E).A.guards = some []) (hr : Room 34 (cxOf CX0 P0 w K mg base ["deal", "order", "many", "lots", "turn", "level", "one", "other", "seers", "lot", "due", "kinds", "wrong"] "_law_lots_hold" (defScope s__law_lots_hold) T.f__law_lots_hold cdv A outer s H E).A) :
    PSs (cxOf CX0 P0 w K mg base ["deal", "order", "many", "lots", "turn", "level", "one", "other", "seers", "lot", "due", "kinds", "wrong"] "_law_lots_hold" (defScope s__law_lots_hold) T.f__law_lots_hold cdv A outer s H E).nox (defBody s__law_lots_hold) (t__law_lots_hold T w) :=
      (pss_cons (ps_asg (pe_tup (pa_cons (pe_callB cq_len (by rfl) T.n_len (by decide +kernel) (pa_cons (pv 1) pa_nil)) (pa_cons (pe_lst pa_nil) pa_nil))) (pg_tup (by rfl) (pgs_cons (pg_name (i := 2) sc__law_lots_hold.nd rfl (.inr rfl)) (pgs_cons (pg_name (i := 3) sc__law_lots_hold.nd rfl (.inl rfl)) pgs_nil))))
      (pss_cons (ps_for PassesOwn.never rfl (pi_range1 (by rfl) T.n_range (pa_cons pe_int pa_nil)) (pg_name (i := 4) sc__law_lots_hold.nd rfl (.inl rfl)) (pss_one (ps_expr (pe_bm PySem.F.plainAttrs_list PySem.F.slot_list_append PySem.F.type_list_append mt_append (pv 3) (pa_cons (pe_callTy cq_tup (by rfl) T.n_tuple (by decide +kernel) (pa_cons (pe_lc (own := [("level", 5)]) (by rfl) sc__law_lots_hold.nd (pi_range1 (by rfl) T.n_range (pa_cons (pv 2) pa_nil)) (blkOk_by (own := [("level", 5)]) (N := ["deal", "order", "many", "lots", "turn", "level", "one", "other", "seers", "lot", "due", "kinds", "wrong"]) (sc := defScope s__law_lots_hold) (by decide +kernel)) (fun _ _ _ _ _ => (pg_name (i := 5) sc__law_lots_hold.nd rfl (.inl rfl))) (fun _ _ _ _ _ => (pts_one (pt_cmpR (oq_eq hr) (pe_g G__law_any hg (hr.mono (by decide)) (by rfl) T.g__law_any T.F__law_any.kp (b__law_any T.F__law_any) pass0 (pa_cons (pv 0) (pa_cons (pe_g G__law_of hg hr (by rfl) T.g__law_of T.F__law_of.kp (b__law_of T.F__law_of) pass0 (pa_cons (pv 0) (pa_cons (pe_lst (pa_cons pe_int (pa_cons pe_int pa_nil))) pa_nil))) pa_nil))) pe_int (nomark _)))) (fun _ _ _ _ _ => (pv 5))) pa_nil)) pa_nil)))))
      (pss_cons (ps_asg (pv 3) (pg_lst rfl (pgs_cons (pg_name (i := 6) sc__law_lots_hold.nd rfl (.inl rfl)) (pgs_cons (pg_name (i := 7) sc__law_lots_hold.nd rfl (.inl rfl)) pgs_nil))))
      (pss_cons (ps_set (i := 8) sc__law_lots_hold.nd rfl (.inr rfl) (pe_lc (own := [("lot", 9)]) (by rfl) sc__law_lots_hold.nd (pi_any (pv 3)) (blkOk_by (own := [("lot", 9)]) (N := ["deal", "order", "many", "lots", "turn", "level", "one", "other", "seers", "lot", "due", "kinds", "wrong"]) (sc := defScope s__law_lots_hold) (by decide +kernel)) (fun _ _ _ _ _ => (pg_name (i := 9) sc__law_lots_hold.nd rfl (by first | exact .inl rfl | exact .inr rfl))) (fun _ _ _ _ _ => pts_nil) (fun _ _ _ _ _ => (pe_lc (own := [("level", 5)]) (by rfl) sc__law_lots_hold.nd (pi_range1 (by rfl) T.n_range (pa_cons (pv 2) pa_nil)) (blkOk_by (own := [("level", 5)]) (by kernel_rfl)) (fun _ _ _ _ _ => (pg_name (i := 5) sc__law_lots_hold.nd rfl (.inl rfl))) (fun _ _ _ _ _ => (pts_one (pt_val (pe_g G__law_within hg (hr.mono (by decide)) (by rfl) T.g__law_within T.F__law_within.kp (b__law_within T.F__law_within) pass0 (pa_cons (pv 1) (pa_cons (pv 9) (pa_cons (pv 5) pa_nil))))))) (fun _ _ _ _ _ => (pv 5))))))
      (pss_cons (ps_for PassesOwn.never rfl (pi_range1 (by rfl) T.n_range (pa_cons (pv 2) pa_nil)) (pg_name (i := 5) sc__law_lots_hold.nd rfl (.inl rfl)) (pss_one (ps_if (pt_cmpR (oq_ne hr) (pe_callB (cq_repr hg hr) (by rfl) T.n_repr (by decide +kernel) (pa_cons (pe_gk0 G_lot_within hg (hr.mono (by decide)) (by rfl) T.g_lot_within T.F_lot_within.kp (kb_lot_within_0_order_lot_level T.F_lot_within) pass0 (pk_cons (pv 1) (pk_cons (pv 6) (pk_cons (pv 5) pk_nil)))) pa_nil)) (pe_callB (cq_repr hg hr) (by rfl) T.n_repr (by decide +kernel) (pa_cons (pe_cmpR (oq_in hr) (pv 5) (pe_ix ix_seq (pv 8) pe_int (fun _ _ => rfl)) (by rfl)) pa_nil)) (nomark _)) (pss_one (ps_ret pe_bl)) pss_nil)))
      (pss_cons (ps_if (pt_cmpR (oq_ne hr) (pe_callB (cq_repr hg hr) (by rfl) T.n_repr (by decide +kernel) (pa_cons (pe_gk0 G_watchers hg (hr.mono (by decide)) (by rfl) T.g_watchers T.F_watchers.kp (kb_watchers_0_order_lot T.F_watchers) pass0 (pk_cons (pv 1) (pk_cons (pv 6) pk_nil))) pa_nil)) (pe_callB (cq_repr hg hr) (by rfl) T.n_repr (by decide +kernel) (pa_cons (pe_callTy cq_tup (by rfl) T.n_tuple (by decide +kernel) (pa_cons (pe_ix ix_seq (pv 8) pe_int (fun _ _ => rfl)) pa_nil)) pa_nil)) (nomark _)) (pss_one (ps_ret pe_bl)) pss_nil)
      (pss_cons (ps_if (pt_cmpR (oq_ne hr) (pe_callB (cq_repr hg hr) (by rfl) T.n_repr (by decide +kernel) (pa_cons (pe_gk0 G_joined_lots hg (hr.mono (by decide)) (by rfl) T.g_joined_lots T.F_joined_lots.kp (kb_joined_lots_0_one_other T.F_joined_lots) pass0 (pk_cons (pv 6) (pk_cons (pv 7) pk_nil))) pa_nil)) (pe_callB (cq_repr hg hr) (by rfl) T.n_repr (by decide +kernel) (pa_cons (pe_callTy cq_tup (by rfl) T.n_tuple (by decide +kernel) (pa_cons (pe_callB (cr_sortedSet rfl) (by rfl) T.n_sorted (by decide +kernel) (pa_cons (pe_callTy (cr_setTI rfl) (by rfl) T.n_set (by decide +kernel) (pa_cons (pe_op oq_add (pv 6) (pv 7)) pa_nil)) pa_nil)) pa_nil)) pa_nil)) (nomark _)) (pss_one (ps_ret pe_bl)) pss_nil)
      (pss_cons (ps_set (i := 10) sc__law_lots_hold.nd rfl (.inl rfl) (pe_cmpR (oq_eq hr) (pe_lc (own := [("level", 5)]) (by rfl) sc__law_lots_hold.nd (pi_any (pe_ix ix_seq (pv 8) pe_int (fun _ _ => rfl))) (blkOk_by (own := [("level", 5)]) (N := ["deal", "order", "many", "lots", "turn", "level", "one", "other", "seers", "lot", "due", "kinds", "wrong"]) (sc := defScope s__law_lots_hold) (by decide +kernel)) (fun _ _ _ _ _ => (pg_name (i := 5) sc__law_lots_hold.nd rfl (.inl rfl))) (fun _ _ _ _ _ => (pts_one (pt_cmpR (oq_notin hr) (pv 5) (pe_ix ix_seq (pv 8) pe_int (fun _ _ => rfl)) (by rfl)))) (fun _ _ _ _ _ => (pv 5))) (pe_lst pa_nil) (nomark _)))
      (pss_cons (ps_if (pt_cmpR (oq_ne hr) (pe_callB (cq_repr hg hr) (by rfl) T.n_repr (by decide +kernel) (pa_cons (pe_gk0 G_covered hg (hr.mono (by decide)) (by rfl) T.g_covered T.F_covered.kp (kb_covered_0_order_one_other T.F_covered) pass0 (pk_cons (pv 1) (pk_cons (pv 6) (pk_cons (pv 7) pk_nil)))) pa_nil)) (pe_callB (cq_repr hg hr) (by rfl) T.n_repr (by decide +kernel) (pa_cons (pv 10) pa_nil)) (nomark _)) (pss_one (ps_ret pe_bl)) pss_nil)
      (pss_cons (ps_set (i := 11) sc__law_lots_hold.nd rfl (.inl rfl) (pe_lst (pa_cons (pe_op oq_add (pv 6) (pe_tup (pa_cons (pv 2) pa_nil))) (pa_cons (pe_ifExp (pt_cmpR (oq_ne hr) (pv 6) (pe_tup pa_nil) (nomark _)) (pe_op oq_add (pv 6) (pe_slice sq_any (pv 6) (po_some (pe_un un_neg pe_int)) po_none)) (pe_tup (pa_cons (pe_un un_neg pe_int) pa_nil))) (pa_cons (pe_ifExp (pt_cmpR op_gt (pe_callB cq_len (by rfl) T.n_len (by decide +kernel) (pa_cons (pv 6) pa_nil)) pe_int (nomark _)) (pe_revT (pv 6)) (pe_lst (pa_cons pe_int pa_nil))) pa_nil)))))
      (pss_cons (ps_set (i := 12) sc__law_lots_hold.nd rfl (.inl rfl) (pe_g G__law_of hg hr (by rfl) T.g__law_of T.F__law_of.kp (b__law_of T.F__law_of) pass0 (pa_cons (pv 0) (pa_cons (pe_op oq_add (pv 11) (pe_lst (pa_cons (pe_callTy cq_list (by rfl) T.n_list (by decide +kernel) (pa_cons (pv 6) pa_nil)) (pa_cons (pe_ifExp (pt_cmpR op_gt (pv 2) pe_int (nomark _)) (pe_tup (pa_cons pe_bl pa_nil)) (pe_tup (pa_cons pe_int pa_nil))) (pa_cons (pe_tup (pa_cons pe_non pa_nil)) pa_nil))))) pa_nil))))
      (pss_one (ps_ret (pe_and (pe_cmpR op_isBl (pe_gk0 G_is_lot hg (hr.mono (by decide)) (by rfl) T.g_is_lot T.F_is_lot.kp (kb_is_lot_0_order_value T.F_is_lot) pass0 (pk_cons (pv 1) (pk_cons (pv 6) pk_nil))) pe_bl (nomark _)) (pe_one (pe_cmpR op_isBl (pe_g G_is_lot hg (hr.mono (by decide)) (by rfl) T.g_is_lot T.F_is_lot.kp (b_is_lot T.F_is_lot) pass0 (pa_cons (pv 1) (pa_cons (pv 12) pa_nil))) pe_bl (nomark _)))))))))))))))))
def t__law_order_spoilt (T : Top K mg) : TS :=
      (tSeq (tAsg (tCallK (sp__law_of K) (fun vs _ => vs) E0 (tCons (tVar 0) (tCons (tLst (tCons (tOp (rI0 fun i j => .int (i - j)) (tCB (rLen K) (tCons (tVar 1) tNil)) (tC (.int 1))) (tCons (tCallK (sp__law_any K) (fun vs _ => vs) E0 (tCons (tVar 0) (tCons (tCB (rLen K) (tCons (tVar 1) tNil)) tNil)) tNil) tNil))) tNil)) tNil) (gName 2))
      (tSeq (tAsg (tLst (tCons (tCB (rTup K) (tCons (tLc (iAny K (tOp (rIx K) (tVar 1) (tVar 2))) (gName 4) (tTest (tOp (rNeA K) (tVar 4) (tVar 2))) (tVar 4) [4]) tNil)) (tCons (tOp (rAddA K) (tOp (rIx K) (tVar 1) (tVar 2)) (tTup (tCons (tCB (rLen K) (tCons (tVar 1) tNil)) tNil))) (tCons (tCB (rList K) (tCons (tOp (rIx K) (tVar 1) (tVar 2)) tNil)) tNil)))) (gName 3))
      (tSeq (tAsg (tOp (rAddA K) (tVar 3) (tLst (tCons (tOp (rAddA K) (tOp (rIx K) (tVar 1) (tVar 2)) (tSl (rSlany K) (tOp (rIx K) (tVar 1) (tVar 2)) (tPart (tUn (rU fun i => .int (-i)) (tC (.int 1)))) tNoPart)) (tCons (tTup (tCons (tC (.bl true)) tNil)) (tCons (tC .non) tNil))))) (gName 3))
      (tSeq (tAsg (tLc (iRng1 (tCons (tCB (rLen K) (tCons (tVar 1) tNil)) tNil)) (gName 4) (tTest (tOp (rI0 fun i j => .bl (decide (j < i))) (tCB (rLen K) (tCons (tOp (rIx K) (tVar 1) (tVar 4)) tNil)) (tC (.int 2)))) (tVar 4) [4]) (gName 5))
      (tSeq (tIfS (tTest (tOp (rNeA K) (tVar 5) (tLst tNil))) (tSeq (tAsg (tOp (rIx K) (tVar 5) (tUn (rU fun i => .int (-i)) (tC (.int 1)))) (gName 6))
        (tSeq (tAsg (tLc (iAny K (tOp (rIx K) (tVar 1) (tVar 6))) (gName 4) (tAnd (tTest (tOp (rNeA K) (tVar 4) (tVar 6))) (tTest (tOp (rI0 fun i j => .bl (decide (j < i))) (tCB (rLen K) (tCons (tOp (rIx K) (tVar 1) (tVar 4)) tNil)) (tC (.int 1))))) (tVar 4) [4]) (gName 7))
        (tIfS (tTest (tOp (rNeA K) (tVar 7) (tLst tNil))) (tSeq (tAsg (tOp (rIx K) (tLc (iAny K (tOp (rIx K) (tVar 1) (tOp (rIx K) (tVar 7) (tUn (rU fun i => .int (-i)) (tC (.int 1)))))) (gName 4) (tTest (tOp (rNeA K) (tVar 4) (tOp (rIx K) (tVar 7) (tUn (rU fun i => .int (-i)) (tC (.int 1)))))) (tVar 4) [4]) (tC (.int 0))) (gName 8))
          (tRet (tOp (rAddA K) (tOp (rAddA K) (tSl (rSlany K) (tVar 1) tNoPart (tPart (tVar 6))) (tTup (tCons (tCB (rTup K) (tCons (tLc (iAny K (tOp (rIx K) (tVar 1) (tVar 6))) (gName 4) (tTest (tOp (rNeA K) (tVar 4) (tVar 8))) (tVar 4) [4]) tNil)) tNil))) (tSl (rSlany K) (tVar 1) (tPart (tOp (rAddA K) (tVar 6) (tC (.int 1)))) tNoPart)))) tNext))) tNext)
      (tRet (tOp (rAddA K) (tOp (rAddA K) (tSl (rSlany K) (tVar 1) tNoPart (tPart (tVar 2))) (tTup (tCons (tCallK (sp__law_of K) (fun vs _ => vs) E0 (tCons (tVar 0) (tCons (tVar 3) tNil)) tNil) tNil))) (tSl (rSlany K) (tVar 1) (tPart (tOp (rAddA K) (tVar 2) (tC (.int 1)))) tNoPart))))))))
theorem d__law_order_spoilt (T : Top K mg) (G__law_of : GOk P0 w K mg base CX0 34 T.f__law_of T.fd__law_of ["deal", "some"] (sp__law_of K)) (G__law_any : GOk P0 w K mg base CX0 33 T.f__law_any T.fd__law_any ["deal", "bound"] (sp__law_any K)) (cdv : Value) (A : Around) (outer : List Env) (s : Shared) (H : Hp) (E : XK) (hg : (cxOf CX0 P0 w K mg base ["deal", "order", "at", "some", "level", "high", "top", "mid", "low"] "_law_order_spoilt" (defScope s__law_order_spoilt) T.f__law_order_spoilt cdv A outer s H E).A.guards = some []) (hr : Room 34 (cxOf CX0 P0 w K mg base ["deal", "order", "at", "some", "level", "high", "top", "mid", "low"] "_law_order_spoilt" (defScope s__law_order_spoilt) T.f__law_order_spoilt cdv A outer s H E).A) :
    PSs (cxOf CX0 P0 w K mg base ["deal", "order", "at", "some", "level", "high", "top", "mid", "low"] "_law_order_spoilt" (defScope s__law_order_spoilt) T.f__law_order_spoilt cdv A outer s H E).nox (defBody s__law_order_spoilt) (t__law_order_spoilt T) :=
      (pss_cons (ps_set (i := 2) sc__law_order_spoilt.nd rfl (.inr rfl) (pe_g G__law_of hg hr (by rfl) T.g__law_of T.F__law_of.kp (b__law_of T.F__law_of) pass0 (pa_cons (pv 0) (pa_cons (pe_lst (pa_cons (pe_op op_sub (pe_callB cq_len (by rfl) T.n_len (by decide +kernel) (pa_cons (pv 1) pa_nil)) pe_int) (pa_cons (pe_g G__law_any hg (hr.mono (by decide)) (by rfl) T.g__law_any T.F__law_any.kp (b__law_any T.F__law_any) pass0 (pa_cons (pv 0) (pa_cons (pe_callB cq_len (by rfl) T.n_len (by decide +kernel) (pa_cons (pv 1) pa_nil)) pa_nil))) pa_nil))) pa_nil))))
      (pss_cons (ps_set (i := 3) sc__law_order_spoilt.nd rfl (.inl rfl) (pe_lst (pa_cons (pe_callTy cq_tup (by rfl) T.n_tuple (by decide +kernel) (pa_cons (pe_lc (own := [("level", 4)]) (by rfl) sc__law_order_spoilt.nd (pi_any (pe_ix ix_seq (pv 1) (pv 2) (fun _ _ => rfl))) (blkOk_by (own := [("level", 4)]) (N := ["deal", "order", "at", "some", "level", "high", "top", "mid", "low"]) (sc := defScope s__law_order_spoilt) (by decide +kernel)) (fun _ _ _ _ _ => (pg_name (i := 4) sc__law_order_spoilt.nd rfl (.inl rfl))) (fun _ _ _ _ _ => (pts_one (pt_cmpR (oq_ne hr) (pv 4) (pv 2) (nomark _)))) (fun _ _ _ _ _ => (pv 4))) pa_nil)) (pa_cons (pe_op oq_add (pe_ix ix_seq (pv 1) (pv 2) (fun _ _ => rfl)) (pe_tup (pa_cons (pe_callB cq_len (by rfl) T.n_len (by decide +kernel) (pa_cons (pv 1) pa_nil)) pa_nil))) (pa_cons (pe_callTy cq_list (by rfl) T.n_list (by decide +kernel) (pa_cons (pe_ix ix_seq (pv 1) (pv 2) (fun _ _ => rfl)) pa_nil)) pa_nil)))))
      (pss_cons (ps_set (i := 3) sc__law_order_spoilt.nd rfl (.inl rfl) (pe_op oq_add (pv 3) (pe_lst (pa_cons (pe_op oq_add (pe_ix ix_seq (pv 1) (pv 2) (fun _ _ => rfl)) (pe_slice sq_any (pe_ix ix_seq (pv 1) (pv 2) (fun _ _ => rfl)) (po_some (pe_un un_neg pe_int)) po_none)) (pa_cons (pe_tup (pa_cons pe_bl pa_nil)) (pa_cons pe_non pa_nil))))))
      (pss_cons (ps_setLc (i := 5) (own := [("level", 4)]) (by rfl) sc__law_order_spoilt.nd rfl rfl (sw_true rfl rfl rfl (by decide +kernel)) (pi_range1 (by rfl) T.n_range (pa_cons (pe_callB cq_len (by rfl) T.n_len (by decide +kernel) (pa_cons (pv 1) pa_nil)) pa_nil)) (blkOk_by (own := [("level", 4)]) (N := ["deal", "order", "at", "some", "level", "high", "top", "mid", "low"]) (sc := defScope s__law_order_spoilt) (by decide +kernel)) (fun _ _ _ _ _ => (pg_name (i := 4) sc__law_order_spoilt.nd rfl (.inl rfl))) (fun _ _ _ _ _ => (pts_one (pt_cmpR op_gt (pe_callB cq_len (by rfl) T.n_len (by decide +kernel) (pa_cons (pe_ix ix_seq (pv 1) (pv 4) (fun _ _ => rfl)) pa_nil)) pe_int (nomark _)))) (fun _ _ _ _ _ => (pv 4)))
      (pss_cons (ps_if (pt_cmpR (oq_ne hr) (pv 5) (pe_lst pa_nil) (nomark _)) (pss_cons (ps_set (i := 6) sc__law_order_spoilt.nd rfl (.inr rfl) (pe_ix ix_seq (pv 5) (pe_un un_neg pe_int) (fun _ _ => rfl)))
        (pss_cons (ps_set (i := 7) sc__law_order_spoilt.nd rfl (.inr rfl) (pe_lc (own := [("level", 4)]) (by rfl) sc__law_order_spoilt.nd (pi_any (pe_ix ix_seq (pv 1) (pv 6) (fun _ _ => rfl))) (blkOk_by (own := [("level", 4)]) (N := ["deal", "order", "at", "some", "level", "high", "top", "mid", "low"]) (sc := defScope s__law_order_spoilt) (by decide +kernel)) (fun _ _ _ _ _ => (pg_name (i := 4) sc__law_order_spoilt.nd rfl (.inl rfl))) (fun _ _ _ _ _ => (pts_one (PW.pt (pw_and (pt_cmpR (oq_ne hr) (pv 4) (pv 6) (nomark _)) (pw_and1 (pt_cmpR op_gt (pe_callB cq_len (by rfl) T.n_len (by decide +kernel) (pa_cons (pe_ix ix_seq (pv 1) (pv 4) (fun _ _ => rfl)) pa_nil)) pe_int (nomark _))))))) (fun _ _ _ _ _ => (pv 4))))
        (pss_one (ps_if (pt_cmpR (oq_ne hr) (pv 7) (pe_lst pa_nil) (nomark _)) (pss_cons (ps_set (i := 8) sc__law_order_spoilt.nd rfl (.inr rfl) (pe_ix ix_seq (pe_lc (own := [("level", 4)]) (by rfl) sc__law_order_spoilt.nd (pi_any (pe_ix ix_seq (pv 1) (pe_ix ix_seq (pv 7) (pe_un un_neg pe_int) (fun _ _ => rfl)) (fun _ _ => rfl))) (blkOk_by (own := [("level", 4)]) (N := ["deal", "order", "at", "some", "level", "high", "top", "mid", "low"]) (sc := defScope s__law_order_spoilt) (by decide +kernel)) (fun _ _ _ _ _ => (pg_name (i := 4) sc__law_order_spoilt.nd rfl (.inl rfl))) (fun _ _ _ _ _ => (pts_one (pt_cmpR (oq_ne hr) (pv 4) (pe_ix ix_seq (pv 7) (pe_un un_neg pe_int) (fun _ _ => rfl)) (nomark _)))) (fun _ _ _ _ _ => (pv 4))) pe_int (fun _ _ => rfl)))
          (pss_one (ps_ret (pe_op oq_add (pe_op oq_add (pe_slice sq_any (pv 1) po_none (po_some (pv 6))) (pe_tup (pa_cons (pe_callTy cq_tup (by rfl) T.n_tuple (by decide +kernel) (pa_cons (pe_lc (own := [("level", 4)]) (by rfl) sc__law_order_spoilt.nd (pi_any (pe_ix ix_seq (pv 1) (pv 6) (fun _ _ => rfl))) (blkOk_by (own := [("level", 4)]) (N := ["deal", "order", "at", "some", "level", "high", "top", "mid", "low"]) (sc := defScope s__law_order_spoilt) (by decide +kernel)) (fun _ _ _ _ _ => (pg_name (i := 4) sc__law_order_spoilt.nd rfl (.inl rfl))) (fun _ _ _ _ _ => (pts_one (pt_cmpR (oq_ne hr) (pv 4) (pv 8) (nomark _)))) (fun _ _ _ _ _ => (pv 4))) pa_nil)) pa_nil))) (pe_slice sq_any (pv 1) (po_some (pe_op oq_add (pv 6) pe_int)) po_none))))) pss_nil)))) pss_nil)
      (pss_one (ps_ret (pe_op oq_add (pe_op oq_add (pe_slice sq_any (pv 1) po_none (po_some (pv 2))) (pe_tup (pa_cons (pe_g G__law_of hg hr (by rfl) T.g__law_of T.F__law_of.kp (b__law_of T.F__law_of) pass0 (pa_cons (pv 0) (pa_cons (pv 3) pa_nil))) pa_nil))) (pe_slice sq_any (pv 1) (po_some (pe_op oq_add (pv 2) pe_int)) po_none)))))))))
def t__law_record (T : Top K mg) : TS :=
      (tSeq (tPar 3 4 (tCons (tLst tNil) (tCons (tC (.int 0)) tNil)))
      (tSeq (tFor (iRng1 (tCons (tCallK (sp__law_size K) (fun vs _ => vs) E0 (tCons (tVar 0) (tCons (tC (.int 0)) (tCons (tC (.int 300)) tNil))) tNil) tNil)) (gName 5) (tSeq (tAsg (tOp (rAddA K) (tVar 4) (tCallK (sp__law_of K) (fun vs _ => vs) E0 (tCons (tVar 0) (tCons (tLst (tCons (tC (.int 0)) (tCons (tC (.int 1)) (tCons (tC (.int 1)) (tCons (tCallK (sp__law_any K) (fun vs _ => vs) E0 (tCons (tVar 0) (tCons (tC (.int 9000)) tNil)) tNil) tNil))))) tNil)) tNil)) (gName 4))
        (tDrop (tBM K "list" rAppend (tVar 3) (tCons (tTup (tCons (tVar 4) (tCons (tIf (tTest (tOp (rEqA K) (tCallK (sp__law_any K) (fun vs _ => vs) E0 (tCons (tVar 0) (tCons (tC (.int 5)) tNil)) tNil) (tC (.int 0)))) (tTup (tCons (tC (.str "end")) (tCons (tCallK (sp__law_any K) (fun vs _ => vs) E0 (tCons (tVar 0) (tCons (tVar 2) tNil)) tNil) tNil))) (tTup (tCons (tC (.str "out")) (tCons (tCallK (sp__law_any K) (fun vs _ => vs) E0 (tCons (tVar 0) (tCons (tVar 1) tNil)) tNil) (tCons (tCallK (sp__law_any K) (fun vs _ => vs) E0 (tCons (tVar 0) (tCons (tOp (rI CPow fun i j => .int (i * 2 ^ j.toNat)) (tC (.int 1)) (tC (.int 32))) tNil)) tNil) tNil))))) tNil))) tNil)))))
      (tRet (tCB (rTup K) (tCons (tVar 3) tNil)))))
theorem d__law_record (T : Top K mg) (G__law_size : GOk P0 w K mg base CX0 34 T.f__law_size T.fd__law_size ["deal", "least", "most"] (sp__law_size K)) (G__law_of : GOk P0 w K mg base CX0 34 T.f__law_of T.fd__law_of ["deal", "some"] (sp__law_of K)) (G__law_any : GOk P0 w K mg base CX0 33 T.f__law_any T.fd__law_any ["deal", "bound"] (sp__law_any K)) (cdv : Value) (A : Around) (outer : List Env) (s : Shared) (H : Hp) (E : XK) (hg : (cxOf CX0 P0 w K mg base ["deal", "levels", "threads", "found", "tick", "turn"] "_law_record" (defScope s__law_record) T.f__law_record cdv A outer s H E).A.guards = some []) (hr : Room 34 (cxOf CX0 P0 w K mg base ["deal", "levels", "threads", "found", "tick", "turn"] "_law_record" (defScope s__law_record) T.f__law_record cdv A outer s H E).A) :
    PSs (cxOf CX0 P0 w K mg base ["deal", "levels", "threads", "found", "tick", "turn"] "_law_record" (defScope s__law_record) T.f__law_record cdv A outer s H E).nox (defBody s__law_record) (t__law_record T) :=
      (pss_cons (ps_par (i := 3) (j := 4) (by rfl) sc__law_record.nd rfl rfl (by decide) rfl rfl (pa_cons (pe_lst pa_nil) (pa_cons pe_int pa_nil)) (by rfl))
      (pss_cons (ps_for PassesOwn.never rfl (pi_range1 (by rfl) T.n_range (pa_cons (pe_g G__law_size hg hr (by rfl) T.g__law_size T.F__law_size.kp (b__law_size T.F__law_size) pass0 (pa_cons (pv 0) (pa_cons pe_int (pa_cons pe_int pa_nil)))) pa_nil)) (pg_name (i := 5) sc__law_record.nd rfl (.inl rfl)) (pss_cons (ps_set (i := 4) sc__law_record.nd rfl (.inl rfl) (pe_op oq_add (pv 4) (pe_g G__law_of hg hr (by rfl) T.g__law_of T.F__law_of.kp (b__law_of T.F__law_of) pass0 (pa_cons (pv 0) (pa_cons (pe_lst (pa_cons pe_int (pa_cons pe_int (pa_cons pe_int (pa_cons (pe_g G__law_any hg (hr.mono (by decide)) (by rfl) T.g__law_any T.F__law_any.kp (b__law_any T.F__law_any) pass0 (pa_cons (pv 0) (pa_cons pe_int pa_nil))) pa_nil))))) pa_nil)))))
        (pss_one (ps_expr (pe_bm PySem.F.plainAttrs_list PySem.F.slot_list_append PySem.F.type_list_append mt_append (pv 3) (pa_cons (pe_tup (pa_cons (pv 4) (pa_cons (pe_ifExp (pt_cmpR (oq_eq hr) (pe_g G__law_any hg (hr.mono (by decide)) (by rfl) T.g__law_any T.F__law_any.kp (b__law_any T.F__law_any) pass0 (pa_cons (pv 0) (pa_cons pe_int pa_nil))) pe_int (nomark _)) (pe_tup (pa_cons pe_str (pa_cons (pe_g G__law_any hg (hr.mono (by decide)) (by rfl) T.g__law_any T.F__law_any.kp (b__law_any T.F__law_any) pass0 (pa_cons (pv 0) (pa_cons (pv 2) pa_nil))) pa_nil))) (pe_tup (pa_cons pe_str (pa_cons (pe_g G__law_any hg (hr.mono (by decide)) (by rfl) T.g__law_any T.F__law_any.kp (b__law_any T.F__law_any) pass0 (pa_cons (pv 0) (pa_cons (pv 1) pa_nil))) (pa_cons (pe_g G__law_any hg (hr.mono (by decide)) (by rfl) T.g__law_any T.F__law_any.kp (b__law_any T.F__law_any) pass0 (pa_cons (pv 0) (pa_cons (pe_op op_shl pe_int pe_int) pa_nil))) pa_nil))))) pa_nil))) pa_nil))))))
      (pss_one (ps_ret (pe_callTy cq_tup (by rfl) T.n_tuple (by decide +kernel) (pa_cons (pv 3) pa_nil))))))
def t__law_records_hold (T : Top K mg) : TS :=
      (tSeq (tAsg (tCallK (sp__law_size K) (fun vs _ => vs) E0 (tCons (tVar 0) (tCons (tC (.int 1)) (tCons (tC (.int 8)) tNil))) tNil) (gName 2))
      (tSeq (tAsg (tCB (rTup K) (tCons (tLc (iRng1 (tCons (tVar 2) tNil)) (gName 5) tYes (tCB (rTup K) (tCons (tLc (iRng1 (tCons (tCB (rLen K) (tCons (tVar 1) tNil)) tNil)) (gName 4) (tTest (tOp (rEqA K) (tCallK (sp__law_any K) (fun vs _ => vs) E0 (tCons (tVar 0) (tCons (tC (.int 5)) tNil)) tNil) (tC (.int 0)))) (tVar 4) [4]) tNil)) [5]) tNil)) (gName 3))
      (tSeq (tAsg (tTup (tCons (tCallK (sp__law_record K) (fun vs _ => vs) E0 (tCons (tVar 0) (tCons (tCB (rLen K) (tCons (tVar 1) tNil)) (tCons (tVar 2) tNil))) tNil) (tCons (tCallK (sp__law_any K) (fun vs _ => vs) E0 (tCons (tVar 0) (tCons (tCB (rLen K) (tCons (tVar 1) tNil)) tNil)) tNil) tNil))) (gTup K 2 (gCons (gName 6) (gCons (gName 4) gNil))))
      (tSeq (tAsg (tCB (rTup K) (tCons (tLc (iAny K (tVar 6)) (gName 8) (tB (tCallK (sp__law_within K) (fun vs _ => vs) E0 (tCons (tVar 1) (tCons (tIf (tTest (tOp (rEqA K) (tOp (rIx K) (tOp (rIx K) (tVar 8) (tC (.int 1))) (tC (.int 0))) (tC (.str "out")))) (tSl (rSlany K) (tOp (rIx K) (tVar 8) (tC (.int 1))) (tPart (tC (.int 1))) (tPart (tC (.int 2)))) (tOp (rIx K) (tVar 3) (tOp (rIx K) (tOp (rIx K) (tVar 8) (tC (.int 1))) (tC (.int 1))))) (tCons (tVar 4) tNil))) tNil)) (tVar 8) [8]) tNil)) (gName 7))
      (tSeq (tIfS (tTest (tOp rNotB (tCallK (sp_is_record K) (fun vs zs => kf_is_record_0_order_value vs zs) E0 tNil (tCons (tVar 1) (tCons (tVar 6) tNil))) (tC (.bl true)))) (tRet (tC (.bl false))) tNext)
      (tSeq (tIfS (tTest (tOp (rNeA K) (tCB (rRepr K) (tCons (tCallK (sp_seen K) (fun vs zs => kf_seen_0_order_level_ends_record vs zs) E0 tNil (tCons (tVar 1) (tCons (tVar 4) (tCons (tVar 3) (tCons (tVar 6) tNil))))) tNil)) (tCB (rRepr K) (tCons (tVar 7) tNil)))) (tRet (tC (.bl false))) tNext)
      (tSeq (tAsg (tIf (tTest (tOp (rNeA K) (tVar 6) (tTup tNil))) (tCallK (sp__law_of K) (fun vs _ => vs) E0 (tCons (tVar 0) (tCons (tLst (tCons (tOp (rIx K) (tOp (rIx K) (tVar 6) (tUn (rU fun i => .int (-i)) (tC (.int 1)))) (tC (.int 0))) (tCons (tOp (rAddA K) (tOp (rIx K) (tOp (rIx K) (tVar 6) (tUn (rU fun i => .int (-i)) (tC (.int 1)))) (tC (.int 0))) (tC (.int 1))) (tCons (tCallK (sp__law_any K) (fun vs _ => vs) E0 (tCons (tVar 0) (tCons (tOp (rAddA K) (tOp (rIx K) (tOp (rIx K) (tVar 6) (tUn (rU fun i => .int (-i)) (tC (.int 1)))) (tC (.int 0))) (tC (.int 1))) tNil)) tNil) tNil)))) tNil)) tNil) (tC (.int 3))) (gName 9))
      (tSeq (tIfS (tTest (tOp (rNeA K) (tCB (rRepr K) (tCons (tCallK (sp_cut_record K) (fun vs zs => kf_cut_record_0_record_tick vs zs) E0 tNil (tCons (tVar 6) (tCons (tVar 9) tNil))) tNil)) (tCB (rRepr K) (tCons (tCB (rTup K) (tCons (tLc (iAny K (tVar 6)) (gName 8) (tTest (tOp rLtA (tOp (rIx K) (tVar 8) (tC (.int 0))) (tVar 9))) (tVar 8) [8]) tNil)) tNil)))) (tRet (tC (.bl false))) tNext)
      (tSeq (tIfS (tTest (tOp (rEqA K) (tVar 6) (tTup tNil))) (tRet (tC (.bl true))) tNext)
      (tSeq (tAsg (tCallK (sp__law_of K) (fun vs _ => vs) E0 (tCons (tVar 0) (tCons (tLst (tCons (tOp (rI0 fun i j => .int (i - j)) (tCB (rLen K) (tCons (tVar 6) tNil)) (tC (.int 1))) (tCons (tCallK (sp__law_any K) (fun vs _ => vs) E0 (tCons (tVar 0) (tCons (tCB (rLen K) (tCons (tVar 6) tNil)) tNil)) tNil) tNil))) tNil)) tNil) (gName 10))
      (tSeq (tAsg (tLst (tCons (tTup (tCons (tOp (rIx K) (tOp (rIx K) (tVar 6) (tVar 10)) (tC (.int 0))) (tCons (tTup (tCons (tC (.str "out")) (tCons (tCB (rLen K) (tCons (tVar 1) tNil)) (tCons (tC (.int 1)) tNil)))) tNil))) (tCons (tTup (tCons (tOp (rIx K) (tOp (rIx K) (tVar 6) (tVar 10)) (tC (.int 0))) (tCons (tTup (tCons (tC (.str "out")) (tCons (tC (.int 0)) (tCons (tUn (rU fun i => .int (-i)) (tC (.int 1))) tNil)))) tNil))) tNil))) (gName 11))
      (tSeq (tAsg (tOp (rAddA K) (tVar 11) (tLst (tCons (tTup (tCons (tUn (rU fun i => .int (-i)) (tC (.int 1))) (tCons (tTup (tCons (tC (.str "end")) (tCons (tC (.int 0)) tNil))) tNil))) (tCons (tTup (tCons (tOp (rIx K) (tOp (rIx K) (tVar 6) (tVar 10)) (tC (.int 0))) (tCons (tTup (tCons (tC (.str "end")) (tCons (tC (.int 0)) (tCons (tC (.int 1)) tNil)))) tNil))) (tCons (tTup (tCons (tC (.bl true)) (tCons (tTup (tCons (tC (.str "end")) (tCons (tC (.int 0)) tNil))) tNil))) tNil))))) (gName 11))
      (tSeq (tAsg (tOp (rAddA K) (tVar 11) (tLst (tCons (tCB (rList K) (tCons (tOp (rIx K) (tVar 6) (tVar 10)) tNil)) (tCons (tOp (rAddA K) (tOp (rIx K) (tVar 6) (tVar 10)) (tTup (tCons (tC (.int 0)) tNil))) tNil)))) (gName 11))
      (tSeq (tAsg (tOp (rAddA K) (tVar 11) (tLst (tCons (tTup (tCons (tOp (rIx K) (tOp (rIx K) (tVar 6) (tVar 10)) (tC (.int 0))) (tCons (tLst (tCons (tC (.str "end")) (tCons (tC (.int 0)) tNil))) tNil))) (tCons (tTup (tCons (tOp (rIx K) (tOp (rIx K) (tVar 6) (tVar 10)) (tC (.int 0))) (tCons (tTup (tCons (tC (.str "end")) (tCons (tC .non) tNil))) tNil))) (tCons (tTup (tCons (tOp (rIx K) (tOp (rIx K) (tVar 6) (tVar 10)) (tC (.int 0))) (tCons (tTup (tCons (tC (.str "take")) (tCons (tC (.int 0)) tNil))) tNil))) tNil))))) (gName 11))
      (tSeq (tAsg (tOp (rAddA K) (tOp (rAddA K) (tSl (rSlany K) (tVar 6) tNoPart (tPart (tVar 10))) (tTup (tCons (tCallK (sp__law_of K) (fun vs _ => vs) E0 (tCons (tVar 0) (tCons (tVar 11) tNil)) tNil) tNil))) (tSl (rSlany K) (tVar 6) (tPart (tOp (rAddA K) (tVar 10) (tC (.int 1)))) tNoPart)) (gName 12))
      (tSeq (tAsg (tOp (rAddA K) (tVar 6) (tTup (tCons (tTup (tCons (tOp (rI0 fun i j => .int (i - j)) (tOp (rIx K) (tOp (rIx K) (tVar 6) (tUn (rU fun i => .int (-i)) (tC (.int 1)))) (tC (.int 0))) (tC (.int 1))) (tCons (tTup (tCons (tC (.str "end")) (tCons (tC (.int 0)) tNil))) tNil))) tNil))) (gName 13))
      (tRet (tAndV (tOp rIsB (tCallK (sp_is_record K) (fun vs _ => vs) E0 (tCons (tVar 1) (tCons (tVar 12) tNil)) tNil) (tC (.bl false))) (tAndV (tOp rIsB (tCallK (sp_is_record K) (fun vs _ => vs) E0 (tCons (tVar 1) (tCons (tVar 13) tNil)) tNil) (tC (.bl false))) (tOp rIsB (tCallK (sp_is_record K) (fun vs _ => vs) E0 (tCons (tVar 1) (tCons (tCB (rList K) (tCons (tVar 6) tNil)) tNil)) tNil) (tC (.bl false))))))))))))))))))))))
theorem d__law_records_hold (T : Top K mg) (G__law_size : GOk P0 w K mg base CX0 34 T.f__law_size T.fd__law_size ["deal", "least", "most"] (sp__law_size K)) (G__law_of : GOk P0 w K mg base CX0 34 T.f__law_of T.fd__law_of ["deal", "some"] (sp__law_of K)) (G__law_record : GOk P0 w K mg base CX0 35 T.f__law_record T.fd__law_record ["deal", "levels", "threads"] (sp__law_record K)) (G__law_any : GOk P0 w K mg base CX0 33 T.f__law_any T.fd__law_any ["deal", "bound"] (sp__law_any K)) (G_is_record : GOk P0 w K mg base CX0 5 T.f_is_record T.fd_is_record ["order", "value"] (sp_is_record K)) (G_seen : GOk P0 w K mg base CX0 3 T.f_seen T.fd_seen ["order", "level", "ends", "record"] (sp_seen K)) (G_cut_record : GOk P0 w K mg base CX0 1 T.f_cut_record T.fd_cut_record ["record", "tick"] (sp_cut_record K)) (G__law_within : GOk P0 w K mg base CX0 1 T.f__law_within T.fd__law_within ["order", "lot", "level"] (sp__law_within K)) (cdv : Value) (A : Around) (outer : List Env) (s : Shared) (H : Hp) (E : XK) (hg : (cxOf CX0 P0 w K mg base ["deal", "order", "threads", "ends", "level", "turn", "record", "due", "one", "tick", "at", "wrong", "value", "back"] "_law_records_hold" (defScope s__law_records_hold) T.f__law_records_hold cdv A outer s H E).A.guards = some []) (hr : Room 35 (cxOf CX0 P0 w K mg base ["deal", "order", "threads", "ends", "level", "turn", "record", "due", "one", "tick", "at", "wrong", "value", "back"] "_law_records_hold" (defScope s__law_records_hold) T.f__law_records_hold cdv A outer s H E).A) :
    PSs (cxOf CX0 P0 w K mg base ["deal", "order", "threads", "ends", "level", "turn", "record", "due", "one", "tick", "at", "wrong", "value", "back"] "_law_records_hold" (defScope s__law_records_hold) T.f__law_records_hold cdv A outer s H E).nox (defBody s__law_records_hold) (t__law_records_hold T) :=
      (pss_cons (ps_set (i := 2) sc__law_records_hold.nd rfl (.inl rfl) (pe_g G__law_size hg (hr.mono (by decide)) (by rfl) T.g__law_size T.F__law_size.kp (b__law_size T.F__law_size) pass0 (pa_cons (pv 0) (pa_cons pe_int (pa_cons pe_int pa_nil)))))
      (pss_cons (ps_set (i := 3) sc__law_records_hold.nd rfl (.inr rfl) (pe_callTy cq_tup (by rfl) T.n_tuple (by decide +kernel) (pa_cons (pe_lc (own := [("turn", 5)]) (by rfl) sc__law_records_hold.nd (pi_range1 (by rfl) T.n_range (pa_cons (pv 2) pa_nil)) (blkOk_by (own := [("turn", 5)]) (N := ["deal", "order", "threads", "ends", "level", "turn", "record", "due", "one", "tick", "at", "wrong", "value", "back"]) (sc := defScope s__law_records_hold) (by decide +kernel)) (fun _ _ _ _ _ => (pg_name (i := 5) sc__law_records_hold.nd rfl (.inl rfl))) (fun _ _ _ _ _ => pts_nil) (fun _ _ _ _ _ => (pe_callTy cq_tup (by rfl) T.n_tuple (by decide +kernel) (pa_cons (pe_lc (own := [("level", 4)]) (by rfl) sc__law_records_hold.nd (pi_range1 (by rfl) T.n_range (pa_cons (pe_callB cq_len (by rfl) T.n_len (by decide +kernel) (pa_cons (pv 1) pa_nil)) pa_nil)) (blkOk_by (own := [("level", 4)]) (by kernel_rfl)) (fun _ _ _ _ _ => (pg_name (i := 4) sc__law_records_hold.nd rfl (by first | exact .inl rfl | exact .inr rfl))) (fun _ _ _ _ _ => (pts_one (pt_cmpR (oq_eq hr) (pe_g G__law_any hg (hr.mono (by decide)) (by rfl) T.g__law_any T.F__law_any.kp (b__law_any T.F__law_any) pass0 (pa_cons (pv 0) (pa_cons pe_int pa_nil))) pe_int (nomark _)))) (fun _ _ _ _ _ => (pv 4))) pa_nil)))) pa_nil)))
      (pss_cons (ps_asg (pe_tup (pa_cons (pe_g G__law_record hg hr (by rfl) T.g__law_record T.F__law_record.kp (b__law_record T.F__law_record) pass0 (pa_cons (pv 0) (pa_cons (pe_callB cq_len (by rfl) T.n_len (by decide +kernel) (pa_cons (pv 1) pa_nil)) (pa_cons (pv 2) pa_nil)))) (pa_cons (pe_g G__law_any hg (hr.mono (by decide)) (by rfl) T.g__law_any T.F__law_any.kp (b__law_any T.F__law_any) pass0 (pa_cons (pv 0) (pa_cons (pe_callB cq_len (by rfl) T.n_len (by decide +kernel) (pa_cons (pv 1) pa_nil)) pa_nil))) pa_nil))) (pg_tup (by rfl) (pgs_cons (pg_name (i := 6) sc__law_records_hold.nd rfl (.inl rfl)) (pgs_cons (pg_name (i := 4) sc__law_records_hold.nd rfl (.inr rfl)) pgs_nil))))
      (pss_cons (ps_set (i := 7) sc__law_records_hold.nd rfl (.inl rfl) (pe_callTy cq_tup (by rfl) T.n_tuple (by decide +kernel) (pa_cons (pe_lc (own := [("one", 8)]) (by rfl) sc__law_records_hold.nd (pi_any (pv 6)) (blkOk_by (own := [("one", 8)]) (N := ["deal", "order", "threads", "ends", "level", "turn", "record", "due", "one", "tick", "at", "wrong", "value", "back"]) (sc := defScope s__law_records_hold) (by decide +kernel)) (fun _ _ _ _ _ => (pg_name (i := 8) sc__law_records_hold.nd rfl (.inl rfl))) (fun _ _ _ _ _ => (pts_one (pt_val (pe_g G__law_within hg (hr.mono (by decide)) (by rfl) T.g__law_within T.F__law_within.kp (b__law_within T.F__law_within) pass0 (pa_cons (pv 1) (pa_cons (pe_ifExp (pt_cmpR (oq_eq hr) (pe_ix ix_seq (pe_ix ix_seq (pv 8) pe_int (fun _ _ => rfl)) pe_int (fun _ _ => rfl)) pe_str (nomark _)) (pe_slice sq_any (pe_ix ix_seq (pv 8) pe_int (fun _ _ => rfl)) (po_some pe_int) (po_some pe_int)) (pe_ix ix_seq (pv 3) (pe_ix ix_seq (pe_ix ix_seq (pv 8) pe_int (fun _ _ => rfl)) pe_int (fun _ _ => rfl)) (fun _ _ => rfl))) (pa_cons (pv 4) pa_nil))))))) (fun _ _ _ _ _ => (pv 8))) pa_nil)))
      (pss_cons (ps_if (pt_cmpR op_notBl (pe_gk0 G_is_record hg (hr.mono (by decide)) (by rfl) T.g_is_record T.F_is_record.kp (kb_is_record_0_order_value T.F_is_record) pass0 (pk_cons (pv 1) (pk_cons (pv 6) pk_nil))) pe_bl (nomark _)) (pss_one (ps_ret pe_bl)) pss_nil)
      (pss_cons (ps_if (pt_cmpR (oq_ne hr) (pe_callB (cq_repr hg hr) (by rfl) T.n_repr (by decide +kernel) (pa_cons (pe_gk0 G_seen hg (hr.mono (by decide)) (by rfl) T.g_seen T.F_seen.kp (kb_seen_0_order_level_ends_record T.F_seen) pass0 (pk_cons (pv 1) (pk_cons (pv 4) (pk_cons (pv 3) (pk_cons (pv 6) pk_nil))))) pa_nil)) (pe_callB (cq_repr hg hr) (by rfl) T.n_repr (by decide +kernel) (pa_cons (pv 7) pa_nil)) (nomark _)) (pss_one (ps_ret pe_bl)) pss_nil)
      (pss_cons (ps_set (i := 9) sc__law_records_hold.nd rfl (.inr rfl) (pe_ifExp (pt_cmpR (oq_ne hr) (pv 6) (pe_tup pa_nil) (nomark _)) (pe_g G__law_of hg (hr.mono (by decide)) (by rfl) T.g__law_of T.F__law_of.kp (b__law_of T.F__law_of) pass0 (pa_cons (pv 0) (pa_cons (pe_lst (pa_cons (pe_ix ix_seq (pe_ix ix_seq (pv 6) (pe_un un_neg pe_int) (fun _ _ => rfl)) pe_int (fun _ _ => rfl)) (pa_cons (pe_op oq_add (pe_ix ix_seq (pe_ix ix_seq (pv 6) (pe_un un_neg pe_int) (fun _ _ => rfl)) pe_int (fun _ _ => rfl)) pe_int) (pa_cons (pe_g G__law_any hg (hr.mono (by decide)) (by rfl) T.g__law_any T.F__law_any.kp (b__law_any T.F__law_any) pass0 (pa_cons (pv 0) (pa_cons (pe_op oq_add (pe_ix ix_seq (pe_ix ix_seq (pv 6) (pe_un un_neg pe_int) (fun _ _ => rfl)) pe_int (fun _ _ => rfl)) pe_int) pa_nil))) pa_nil)))) pa_nil))) pe_int))
      (pss_cons (ps_if (pt_cmpR (oq_ne hr) (pe_callB (cq_repr hg hr) (by rfl) T.n_repr (by decide +kernel) (pa_cons (pe_gk0 G_cut_record hg (hr.mono (by decide)) (by rfl) T.g_cut_record T.F_cut_record.kp (kb_cut_record_0_record_tick T.F_cut_record) pass0 (pk_cons (pv 6) (pk_cons (pv 9) pk_nil))) pa_nil)) (pe_callB (cq_repr hg hr) (by rfl) T.n_repr (by decide +kernel) (pa_cons (pe_callTy cq_tup (by rfl) T.n_tuple (by decide +kernel) (pa_cons (pe_lc (own := [("one", 8)]) (by rfl) sc__law_records_hold.nd (pi_any (pv 6)) (blkOk_by (own := [("one", 8)]) (N := ["deal", "order", "threads", "ends", "level", "turn", "record", "due", "one", "tick", "at", "wrong", "value", "back"]) (sc := defScope s__law_records_hold) (by decide +kernel)) (fun _ _ _ _ _ => (pg_name (i := 8) sc__law_records_hold.nd rfl (.inl rfl))) (fun _ _ _ _ _ => (pts_one (pt_cmpR oq_lt (pe_ix ix_seq (pv 8) pe_int (fun _ _ => rfl)) (pv 9) (nomark _)))) (fun _ _ _ _ _ => (pv 8))) pa_nil)) pa_nil)) (nomark _)) (pss_one (ps_ret pe_bl)) pss_nil)
      (pss_cons (ps_if (pt_cmpR (oq_eq hr) (pv 6) (pe_tup pa_nil) (nomark _)) (pss_one (ps_ret pe_bl)) pss_nil)
      (pss_cons (ps_set (i := 10) sc__law_records_hold.nd rfl (.inl rfl) (pe_g G__law_of hg (hr.mono (by decide)) (by rfl) T.g__law_of T.F__law_of.kp (b__law_of T.F__law_of) pass0 (pa_cons (pv 0) (pa_cons (pe_lst (pa_cons (pe_op op_sub (pe_callB cq_len (by rfl) T.n_len (by decide +kernel) (pa_cons (pv 6) pa_nil)) pe_int) (pa_cons (pe_g G__law_any hg (hr.mono (by decide)) (by rfl) T.g__law_any T.F__law_any.kp (b__law_any T.F__law_any) pass0 (pa_cons (pv 0) (pa_cons (pe_callB cq_len (by rfl) T.n_len (by decide +kernel) (pa_cons (pv 6) pa_nil)) pa_nil))) pa_nil))) pa_nil))))
      (pss_cons (ps_set (i := 11) sc__law_records_hold.nd rfl (.inl rfl) (pe_lst (pa_cons (pe_tup (pa_cons (pe_ix ix_seq (pe_ix ix_seq (pv 6) (pv 10) (fun _ _ => rfl)) pe_int (fun _ _ => rfl)) (pa_cons (pe_tup (pa_cons pe_str (pa_cons (pe_callB cq_len (by rfl) T.n_len (by decide +kernel) (pa_cons (pv 1) pa_nil)) (pa_cons pe_int pa_nil)))) pa_nil))) (pa_cons (pe_tup (pa_cons (pe_ix ix_seq (pe_ix ix_seq (pv 6) (pv 10) (fun _ _ => rfl)) pe_int (fun _ _ => rfl)) (pa_cons (pe_tup (pa_cons pe_str (pa_cons pe_int (pa_cons (pe_un un_neg pe_int) pa_nil)))) pa_nil))) pa_nil))))
      (pss_cons (ps_set (i := 11) sc__law_records_hold.nd rfl (.inl rfl) (pe_op oq_add (pv 11) (pe_lst (pa_cons (pe_tup (pa_cons (pe_un un_neg pe_int) (pa_cons (pe_tup (pa_cons pe_str (pa_cons pe_int pa_nil))) pa_nil))) (pa_cons (pe_tup (pa_cons (pe_ix ix_seq (pe_ix ix_seq (pv 6) (pv 10) (fun _ _ => rfl)) pe_int (fun _ _ => rfl)) (pa_cons (pe_tup (pa_cons pe_str (pa_cons pe_int (pa_cons pe_int pa_nil)))) pa_nil))) (pa_cons (pe_tup (pa_cons pe_bl (pa_cons (pe_tup (pa_cons pe_str (pa_cons pe_int pa_nil))) pa_nil))) pa_nil))))))
      (pss_cons (ps_set (i := 11) sc__law_records_hold.nd rfl (.inl rfl) (pe_op oq_add (pv 11) (pe_lst (pa_cons (pe_callTy cq_list (by rfl) T.n_list (by decide +kernel) (pa_cons (pe_ix ix_seq (pv 6) (pv 10) (fun _ _ => rfl)) pa_nil)) (pa_cons (pe_op oq_add (pe_ix ix_seq (pv 6) (pv 10) (fun _ _ => rfl)) (pe_tup (pa_cons pe_int pa_nil))) pa_nil)))))
      (pss_cons (ps_set (i := 11) sc__law_records_hold.nd rfl (.inl rfl) (pe_op oq_add (pv 11) (pe_lst (pa_cons (pe_tup (pa_cons (pe_ix ix_seq (pe_ix ix_seq (pv 6) (pv 10) (fun _ _ => rfl)) pe_int (fun _ _ => rfl)) (pa_cons (pe_lst (pa_cons pe_str (pa_cons pe_int pa_nil))) pa_nil))) (pa_cons (pe_tup (pa_cons (pe_ix ix_seq (pe_ix ix_seq (pv 6) (pv 10) (fun _ _ => rfl)) pe_int (fun _ _ => rfl)) (pa_cons (pe_tup (pa_cons pe_str (pa_cons pe_non pa_nil))) pa_nil))) (pa_cons (pe_tup (pa_cons (pe_ix ix_seq (pe_ix ix_seq (pv 6) (pv 10) (fun _ _ => rfl)) pe_int (fun _ _ => rfl)) (pa_cons (pe_tup (pa_cons pe_str (pa_cons pe_int pa_nil))) pa_nil))) pa_nil))))))
      (pss_cons (ps_set (i := 12) sc__law_records_hold.nd rfl (.inl rfl) (pe_op oq_add (pe_op oq_add (pe_slice sq_any (pv 6) po_none (po_some (pv 10))) (pe_tup (pa_cons (pe_g G__law_of hg (hr.mono (by decide)) (by rfl) T.g__law_of T.F__law_of.kp (b__law_of T.F__law_of) pass0 (pa_cons (pv 0) (pa_cons (pv 11) pa_nil))) pa_nil))) (pe_slice sq_any (pv 6) (po_some (pe_op oq_add (pv 10) pe_int)) po_none)))
      (pss_cons (ps_set (i := 13) sc__law_records_hold.nd rfl (.inl rfl) (pe_op oq_add (pv 6) (pe_tup (pa_cons (pe_tup (pa_cons (pe_op op_sub (pe_ix ix_seq (pe_ix ix_seq (pv 6) (pe_un un_neg pe_int) (fun _ _ => rfl)) pe_int (fun _ _ => rfl)) pe_int) (pa_cons (pe_tup (pa_cons pe_str (pa_cons pe_int pa_nil))) pa_nil))) pa_nil))))
      (pss_one (ps_ret (pe_and (pe_cmpR op_isBl (pe_g G_is_record hg (hr.mono (by decide)) (by rfl) T.g_is_record T.F_is_record.kp (b_is_record T.F_is_record) pass0 (pa_cons (pv 1) (pa_cons (pv 12) pa_nil))) pe_bl (nomark _)) (pe_and (pe_cmpR op_isBl (pe_g G_is_record hg (hr.mono (by decide)) (by rfl) T.g_is_record T.F_is_record.kp (b_is_record T.F_is_record) pass0 (pa_cons (pv 1) (pa_cons (pv 13) pa_nil))) pe_bl (nomark _)) (pe_one (pe_cmpR op_isBl (pe_g G_is_record hg (hr.mono (by decide)) (by rfl) T.g_is_record T.F_is_record.kp (b_is_record T.F_is_record) pass0 (pa_cons (pv 1) (pa_cons (pe_callTy cq_list (by rfl) T.n_list (by decide +kernel) (pa_cons (pv 6) pa_nil)) pa_nil))) pe_bl (nomark _)))))))))))))))))))))))
def t__law_inputs_hold (T : Top K mg) : TS :=
      (tSeq (tAsg (tTup (tCons (tLst tNil) (tCons (tLst tNil) tNil))) (gTup K 2 (gCons (gName 2) (gCons (gName 3) gNil))))
      (tSeq (tFor (iRng1 (tCons (tCB (rLen K) (tCons (tVar 1) tNil)) tNil)) (gName 4) (tSeq (tAsg (tCB (rTup K) (tCons (tLc (iRng1 (tCons (tCallK (sp__law_size K) (fun vs _ => vs) E0 (tCons (tVar 0) (tCons (tC (.int 0)) (tCons (tC (.int 40)) tNil))) tNil) tNil)) (gName 6) tYes (tCallK (sp__law_any K) (fun vs _ => vs) E0 (tCons (tVar 0) (tCons (tOp (rI CPow fun i j => .int (i * 2 ^ j.toNat)) (tC (.int 1)) (tCallK (sp__law_of K) (fun vs _ => vs) E0 (tCons (tVar 0) (tCons (tLst (tCons (tC (.int 1)) (tCons (tC (.int 32)) (tCons (tIf (tTest (tOp (rEqA K) (tVar 4) (tC (.int 0)))) (tC (.int 13000)) (tC (.int 64))) tNil)))) tNil)) tNil)) tNil)) tNil) [6]) tNil)) (gName 5))
        (tSeq (tDrop (tBM K "list" rAppend (tVar 2) (tCons (tVar 5) tNil)))
        (tDrop (tBM K "list" rAppend (tVar 3) (tCons (tIf (tOr (tTest (tOp (rI0 fun i j => .bl (decide (j < i))) (tCallK (sp__law_any K) (fun vs _ => vs) E0 (tCons (tVar 0) (tCons (tC (.int 3)) tNil)) tNil) (tC (.int 0)))) (tTest (tOp (rEqA K) (tVar 5) (tTup tNil)))) (tVar 5) (tOp (rAddA K) (tSl (rSlany K) (tVar 5) tNoPart (tPart (tUn (rU fun i => .int (-i)) (tC (.int 1))))) (tTup (tCons (tOp (rAddA K) (tOp (rIx K) (tVar 5) (tUn (rU fun i => .int (-i)) (tC (.int 1)))) (tC (.int 1))) tNil)))) tNil))))))
      (tSeq (tAsg (tTup (tCons (tCB (rTup K) (tCons (tVar 2) tNil)) (tCons (tCB (rTup K) (tCons (tVar 3) tNil)) (tCons (tCallK (sp__law_any K) (fun vs _ => vs) E0 (tCons (tVar 0) (tCons (tCB (rLen K) (tCons (tVar 1) tNil)) tNil)) tNil) tNil)))) (gTup K 3 (gCons (gName 2) (gCons (gName 3) (gCons (gName 7) gNil)))))
      (tSeq (tFor (iRng1 (tCons (tCB (rLen K) (tCons (tVar 1) tNil)) tNil)) (gName 4) (tSeq (tAsg (tOp (rEqA K) (tLc (iAny K (tOp (rIx K) (tVar 1) (tVar 4))) (gName 9) (tTest (tOp (rNeA K) (tOp (rIx K) (tVar 2) (tVar 9)) (tOp (rIx K) (tVar 3) (tVar 9)))) (tVar 9) [9]) (tLst tNil)) (gName 8))
        (tIfS (tTest (tOp (rNeA K) (tCB (rRepr K) (tCons (tCallK (sp_alike_inputs K) (fun vs zs => kf_alike_inputs_0_order_level_one_other vs zs) E0 tNil (tCons (tVar 1) (tCons (tVar 4) (tCons (tVar 2) (tCons (tVar 3) tNil))))) tNil)) (tCB (rRepr K) (tCons (tVar 8) tNil)))) (tRet (tC (.bl false))) tNext)))
      (tSeq (tAsg (tLst (tCons (tOp (rAddA K) (tOp (rIx K) (tVar 2) (tVar 7)) (tTup (tCons (tUn (rU fun i => .int (-i)) (tC (.int 1))) tNil))) (tCons (tOp (rAddA K) (tOp (rIx K) (tVar 2) (tVar 7)) (tTup (tCons (tC (.bl true)) tNil))) (tCons (tCB (rList K) (tCons (tOp (rIx K) (tVar 2) (tVar 7)) tNil)) (tCons (tOp (rAddA K) (tOp (rIx K) (tVar 2) (tVar 7)) (tTup (tCons (tC .non) tNil))) (tCons (tC (.int 7)) tNil)))))) (gName 10))
      (tSeq (tAsg (tOp (rAddA K) (tOp (rAddA K) (tSl (rSlany K) (tVar 2) tNoPart (tPart (tVar 7))) (tTup (tCons (tCallK (sp__law_of K) (fun vs _ => vs) E0 (tCons (tVar 0) (tCons (tVar 10) tNil)) tNil) tNil))) (tSl (rSlany K) (tVar 2) (tPart (tOp (rAddA K) (tVar 7) (tC (.int 1)))) tNoPart)) (gName 11))
      (tSeq (tIfS (tOr (tTest (tOp rNotB (tCallK (sp_is_input K) (fun vs zs => kf_is_input_0_order_value vs zs) E0 tNil (tCons (tVar 1) (tCons (tVar 2) tNil))) (tC (.bl true)))) (tTest (tOp rNotB (tCallK (sp_is_input K) (fun vs _ => vs) E0 (tCons (tVar 1) (tCons (tVar 11) tNil)) tNil) (tC (.bl false))))) (tRet (tC (.bl false))) tNext)
      (tRet (tAndV (tOp rIsB (tCallK (sp_is_input K) (fun vs _ => vs) E0 (tCons (tVar 1) (tCons (tOp (rAddA K) (tVar 2) (tTup (tCons (tTup tNil) tNil))) tNil)) tNil) (tC (.bl false))) (tAndV (tOp rIsB (tCallK (sp_is_input K) (fun vs _ => vs) E0 (tCons (tVar 1) (tCons (tSl (rSlany K) (tVar 2) tNoPart (tPart (tUn (rU fun i => .int (-i)) (tC (.int 1))))) tNil)) tNil) (tC (.bl false))) (tOp rIsB (tCallK (sp_is_input K) (fun vs _ => vs) E0 (tCons (tVar 1) (tCons (tCB (rList K) (tCons (tVar 2) tNil)) tNil)) tNil) (tC (.bl false)))))))))))))
theorem d__law_inputs_hold (T : Top K mg) (G__law_any : GOk P0 w K mg base CX0 33 T.f__law_any T.fd__law_any ["deal", "bound"] (sp__law_any K)) (G_is_input : GOk P0 w K mg base CX0 3 T.f_is_input T.fd_is_input ["order", "value"] (sp_is_input K)) (G_alike_inputs : GOk P0 w K mg base CX0 1 T.f_alike_inputs T.fd_alike_inputs ["order", "level", "one", "other"] (sp_alike_inputs K)) (G__law_of : GOk P0 w K mg base CX0 34 T.f__law_of T.fd__law_of ["deal", "some"] (sp__law_of K)) (G__law_size : GOk P0 w K mg base CX0 34 T.f__law_size T.fd__law_size ["deal", "least", "most"] (sp__law_size K)) (cdv : Value) (A : Around) (outer : List Env) (s : Shared) (H : Hp) (E : XK) (hg : (cxOf CX0 P0 w K mg base ["deal", "order", "one", "other", "level", "words", "turn", "spot", "due", "low", "wrong", "value"] "_law_inputs_hold" (defScope s__law_inputs_hold) T.f__law_inputs_hold cdv A outer s H E).A.guards = some []) (hr : Room 34 (cxOf CX0 P0 w K mg base ["deal", "order", "one", "other", "level", "words", "turn", "spot", "due", "low", "wrong", "value"] "_law_inputs_hold" (defScope s__law_inputs_hold) T.f__law_inputs_hold cdv A outer s H E).A) :
    PSs (cxOf CX0 P0 w K mg base ["deal", "order", "one", "other", "level", "words", "turn", "spot", "due", "low", "wrong", "value"] "_law_inputs_hold" (defScope s__law_inputs_hold) T.f__law_inputs_hold cdv A outer s H E).nox (defBody s__law_inputs_hold) (t__law_inputs_hold T) :=
      (pss_cons (ps_asg (pe_tup (pa_cons (pe_lst pa_nil) (pa_cons (pe_lst pa_nil) pa_nil))) (pg_tup (by rfl) (pgs_cons (pg_name (i := 2) sc__law_inputs_hold.nd rfl (.inr rfl)) (pgs_cons (pg_name (i := 3) sc__law_inputs_hold.nd rfl (.inr rfl)) pgs_nil))))
      (pss_cons (ps_for PassesOwn.never rfl (pi_range1 (by rfl) T.n_range (pa_cons (pe_callB cq_len (by rfl) T.n_len (by decide +kernel) (pa_cons (pv 1) pa_nil)) pa_nil)) (pg_name (i := 4) sc__law_inputs_hold.nd rfl (.inr rfl)) (pss_cons (ps_set (i := 5) sc__law_inputs_hold.nd rfl (.inl rfl) (pe_callTy cq_tup (by rfl) T.n_tuple (by decide +kernel) (pa_cons (pe_lc (own := [("turn", 6)]) (by rfl) sc__law_inputs_hold.nd (pi_range1 (by rfl) T.n_range (pa_cons (pe_g G__law_size hg hr (by rfl) T.g__law_size T.F__law_size.kp (b__law_size T.F__law_size) pass0 (pa_cons (pv 0) (pa_cons pe_int (pa_cons pe_int pa_nil)))) pa_nil)) (blkOk_by (own := [("turn", 6)]) (N := ["deal", "order", "one", "other", "level", "words", "turn", "spot", "due", "low", "wrong", "value"]) (sc := defScope s__law_inputs_hold) (by decide +kernel)) (fun _ _ _ _ _ => (pg_name (i := 6) sc__law_inputs_hold.nd rfl (.inl rfl))) (fun _ _ _ _ _ => pts_nil) (fun _ _ _ _ _ => (pe_g G__law_any hg (hr.mono (by decide)) (by rfl) T.g__law_any T.F__law_any.kp (b__law_any T.F__law_any) pass0 (pa_cons (pv 0) (pa_cons (pe_op op_shl pe_int (pe_g G__law_of hg hr (by rfl) T.g__law_of T.F__law_of.kp (b__law_of T.F__law_of) pass0 (pa_cons (pv 0) (pa_cons (pe_lst (pa_cons pe_int (pa_cons pe_int (pa_cons (pe_ifExp (pt_cmpR (oq_eq hr) (pv 4) pe_int (nomark _)) pe_int pe_int) pa_nil)))) pa_nil)))) pa_nil))))) pa_nil)))
        (pss_cons (ps_expr (pe_bm PySem.F.plainAttrs_list PySem.F.slot_list_append PySem.F.type_list_append mt_append (pv 2) (pa_cons (pv 5) pa_nil)))
        (pss_one (ps_expr (pe_bm PySem.F.plainAttrs_list PySem.F.slot_list_append PySem.F.type_list_append mt_append (pv 3) (pa_cons (pe_ifExp (PW.pt (pw_or (pt_cmpR op_gt (pe_g G__law_any hg (hr.mono (by decide)) (by rfl) T.g__law_any T.F__law_any.kp (b__law_any T.F__law_any) pass0 (pa_cons (pv 0) (pa_cons pe_int pa_nil))) pe_int (nomark _)) (pw_or1 (pt_cmpR (oq_eq hr) (pv 5) (pe_tup pa_nil) (nomark _))))) (pv 5) (pe_op oq_add (pe_slice sq_any (pv 5) po_none (po_some (pe_un un_neg pe_int))) (pe_tup (pa_cons (pe_op oq_add (pe_ix ix_seq (pv 5) (pe_un un_neg pe_int) (fun _ _ => rfl)) pe_int) pa_nil)))) pa_nil)))))))
      (pss_cons (ps_asg (pe_tup (pa_cons (pe_callTy cq_tup (by rfl) T.n_tuple (by decide +kernel) (pa_cons (pv 2) pa_nil)) (pa_cons (pe_callTy cq_tup (by rfl) T.n_tuple (by decide +kernel) (pa_cons (pv 3) pa_nil)) (pa_cons (pe_g G__law_any hg (hr.mono (by decide)) (by rfl) T.g__law_any T.F__law_any.kp (b__law_any T.F__law_any) pass0 (pa_cons (pv 0) (pa_cons (pe_callB cq_len (by rfl) T.n_len (by decide +kernel) (pa_cons (pv 1) pa_nil)) pa_nil))) pa_nil)))) (pg_tup (by rfl) (pgs_cons (pg_name (i := 2) sc__law_inputs_hold.nd rfl (.inr rfl)) (pgs_cons (pg_name (i := 3) sc__law_inputs_hold.nd rfl (.inr rfl)) (pgs_cons (pg_name (i := 7) sc__law_inputs_hold.nd rfl (.inl rfl)) pgs_nil)))))
      (pss_cons (ps_for PassesOwn.never rfl (pi_range1 (by rfl) T.n_range (pa_cons (pe_callB cq_len (by rfl) T.n_len (by decide +kernel) (pa_cons (pv 1) pa_nil)) pa_nil)) (pg_name (i := 4) sc__law_inputs_hold.nd rfl (.inr rfl)) (pss_cons (ps_set (i := 8) sc__law_inputs_hold.nd rfl (.inl rfl) (pe_cmpR (oq_eq hr) (pe_lc (own := [("low", 9)]) (by rfl) sc__law_inputs_hold.nd (pi_any (pe_ix ix_seq (pv 1) (pv 4) (fun _ _ => rfl))) (blkOk_by (own := [("low", 9)]) (N := ["deal", "order", "one", "other", "level", "words", "turn", "spot", "due", "low", "wrong", "value"]) (sc := defScope s__law_inputs_hold) (by decide +kernel)) (fun _ _ _ _ _ => (pg_name (i := 9) sc__law_inputs_hold.nd rfl (.inl rfl))) (fun _ _ _ _ _ => (pts_one (pt_cmpR (oq_ne hr) (pe_ix ix_seq (pv 2) (pv 9) (fun _ _ => rfl)) (pe_ix ix_seq (pv 3) (pv 9) (fun _ _ => rfl)) (nomark _)))) (fun _ _ _ _ _ => (pv 9))) (pe_lst pa_nil) (nomark _)))
        (pss_one (ps_if (pt_cmpR (oq_ne hr) (pe_callB (cq_repr hg hr) (by rfl) T.n_repr (by decide +kernel) (pa_cons (pe_gk0 G_alike_inputs hg (hr.mono (by decide)) (by rfl) T.g_alike_inputs T.F_alike_inputs.kp (kb_alike_inputs_0_order_level_one_other T.F_alike_inputs) pass0 (pk_cons (pv 1) (pk_cons (pv 4) (pk_cons (pv 2) (pk_cons (pv 3) pk_nil))))) pa_nil)) (pe_callB (cq_repr hg hr) (by rfl) T.n_repr (by decide +kernel) (pa_cons (pv 8) pa_nil)) (nomark _)) (pss_one (ps_ret pe_bl)) pss_nil))))
      (pss_cons (ps_set (i := 10) sc__law_inputs_hold.nd rfl (.inl rfl) (pe_lst (pa_cons (pe_op oq_add (pe_ix ix_seq (pv 2) (pv 7) (fun _ _ => rfl)) (pe_tup (pa_cons (pe_un un_neg pe_int) pa_nil))) (pa_cons (pe_op oq_add (pe_ix ix_seq (pv 2) (pv 7) (fun _ _ => rfl)) (pe_tup (pa_cons pe_bl pa_nil))) (pa_cons (pe_callTy cq_list (by rfl) T.n_list (by decide +kernel) (pa_cons (pe_ix ix_seq (pv 2) (pv 7) (fun _ _ => rfl)) pa_nil)) (pa_cons (pe_op oq_add (pe_ix ix_seq (pv 2) (pv 7) (fun _ _ => rfl)) (pe_tup (pa_cons pe_non pa_nil))) (pa_cons pe_int pa_nil)))))))
      (pss_cons (ps_set (i := 11) sc__law_inputs_hold.nd rfl (.inl rfl) (pe_op oq_add (pe_op oq_add (pe_slice sq_any (pv 2) po_none (po_some (pv 7))) (pe_tup (pa_cons (pe_g G__law_of hg hr (by rfl) T.g__law_of T.F__law_of.kp (b__law_of T.F__law_of) pass0 (pa_cons (pv 0) (pa_cons (pv 10) pa_nil))) pa_nil))) (pe_slice sq_any (pv 2) (po_some (pe_op oq_add (pv 7) pe_int)) po_none)))
      (pss_cons (ps_if (PW.pt (pw_or (pt_cmpR op_notBl (pe_gk0 G_is_input hg (hr.mono (by decide)) (by rfl) T.g_is_input T.F_is_input.kp (kb_is_input_0_order_value T.F_is_input) pass0 (pk_cons (pv 1) (pk_cons (pv 2) pk_nil))) pe_bl (nomark _)) (pw_or1 (pt_cmpR op_notBl (pe_g G_is_input hg (hr.mono (by decide)) (by rfl) T.g_is_input T.F_is_input.kp (b_is_input T.F_is_input) pass0 (pa_cons (pv 1) (pa_cons (pv 11) pa_nil))) pe_bl (nomark _))))) (pss_one (ps_ret pe_bl)) pss_nil)
      (pss_one (ps_ret (pe_and (pe_cmpR op_isBl (pe_g G_is_input hg (hr.mono (by decide)) (by rfl) T.g_is_input T.F_is_input.kp (b_is_input T.F_is_input) pass0 (pa_cons (pv 1) (pa_cons (pe_op oq_add (pv 2) (pe_tup (pa_cons (pe_tup pa_nil) pa_nil))) pa_nil))) pe_bl (nomark _)) (pe_and (pe_cmpR op_isBl (pe_g G_is_input hg (hr.mono (by decide)) (by rfl) T.g_is_input T.F_is_input.kp (b_is_input T.F_is_input) pass0 (pa_cons (pv 1) (pa_cons (pe_slice sq_any (pv 2) po_none (po_some (pe_un un_neg pe_int))) pa_nil))) pe_bl (nomark _)) (pe_one (pe_cmpR op_isBl (pe_g G_is_input hg (hr.mono (by decide)) (by rfl) T.g_is_input T.F_is_input.kp (b_is_input T.F_is_input) pass0 (pa_cons (pv 1) (pa_cons (pe_callTy cq_list (by rfl) T.n_list (by decide +kernel) (pa_cons (pv 2) pa_nil)) pa_nil))) pe_bl (nomark _))))))))))))))
def t_law (T : Top K mg) : TS :=
      (tSeq (tAsg (tCallK (sp__law_draw K) (fun vs _ => vs) E0 (tCons (tVar 0) (tCons (tC (.int 76)) tNil)) tNil) (gName 1))
      (tSeq (tAsg (tCallK (sp__law_row K) (fun vs _ => vs) E0 (tCons (tVar 1) (tCons (tCallK (sp__law_size K) (fun vs _ => vs) E0 (tCons (tVar 1) (tCons (tC (.int 1)) (tCons (tC (.int 12)) tNil))) tNil) tNil)) tNil) (gName 2))
      (tSeq (tAsg (tCallK (sp__law_pairs K) (fun vs _ => vs) E0 (tCons (tVar 1) (tCons (tVar 2) tNil)) tNil) (gName 3))
      (tSeq (tAsg (tCallK (sp__law_closed K) (fun vs _ => vs) E0 (tCons (tVar 2) (tCons (tVar 3) tNil)) tNil) (gName 4))
      (tSeq (tAsg (tCallK (sp_order_of T) (fun vs zs => kf_order_of_0_levels_pairs vs zs) E0 tNil (tCons (tCB (rLen K) (tCons (tVar 2) tNil)) (tCons (tCallK (sp__law_of K) (fun vs _ => vs) E0 (tCons (tVar 1) (tCons (tLst (tCons (tCB (rList K) (tCons (tVar 3) tNil)) (tCons (tCB (rTup K) (tCons (tVar 3) tNil)) tNil))) tNil)) tNil) tNil))) (gName 5))
      (tSeq (tIfS (tOr (tTest (tOp (rNeA K) (tCB (rRepr K) (tCons (tVar 5) tNil)) (tCB (rRepr K) (tCons (tVar 4) tNil)))) (tOr (tTest (tOp rNotB (tCallK (sp_is_order K) (fun vs zs => kf_is_order_0_value vs zs) E0 tNil (tCons (tVar 4) tNil)) (tC (.bl true)))) (tTest (tOp rNotNo (tCallK (sp_ring_of T) (fun vs _ => vs) E0 (tCons (tCB (rLen K) (tCons (tVar 2) tNil)) (tCons (tVar 3) tNil)) tNil) (tC .non))))) (tRet (tC (.bl false))) tNext)
      (tSeq (tIfS (tOr (tTest (tOp rNotB (tCallK (sp_is_order K) (fun vs _ => vs) E0 (tCons (tCallK (sp__law_order_spoilt K) (fun vs _ => vs) E0 (tCons (tVar 1) (tCons (tVar 4) tNil)) tNil) tNil) tNil) (tC (.bl false)))) (tNot (tB (tCallK (sp__law_lots_hold K) (fun vs _ => vs) E0 (tCons (tVar 1) (tCons (tVar 4) tNil)) tNil)))) (tRet (tC (.bl false))) tNext)
      (tSeq (tPar 6 7 (tCons (tCallK (sp__law_any K) (fun vs _ => vs) E0 (tCons (tVar 1) (tCons (tCB (rLen K) (tCons (tVar 2) tNil)) tNil)) tNil) (tCons (tCallK (sp__law_any K) (fun vs _ => vs) E0 (tCons (tVar 1) (tCons (tCB (rLen K) (tCons (tVar 2) tNil)) tNil)) tNil) tNil)))
      (tSeq (tAsg (tTup (tCons (tOp (rIx K) (tVar 2) (tCB rMx (tCons (tVar 6) (tCons (tVar 7) tNil)))) (tCons (tOp (rIx K) (tVar 2) (tCB rMn (tCons (tVar 6) (tCons (tVar 7) tNil)))) tNil))) (gName 8))
      (tSeq (tIfS (tTest (tOp (rEqA K) (tCallK (sp__law_any K) (fun vs _ => vs) E0 (tCons (tVar 1) (tCons (tC (.int 2)) tNil)) tNil) (tC (.int 0)))) (tAsg (tTup (tCons (tOp (rIx K) (tVar 2) (tUn (rU fun i => .int (-i)) (tC (.int 1)))) (tCons (tOp (rIx K) (tVar 2) (tC (.int 0))) tNil))) (gName 8)) tNext)
      (tSeq (tAsg (tOp (rAddA K) (tVar 3) (tLst (tCons (tVar 8) tNil))) (gName 9))
      (tSeq (tAsg (tCallK (sp_ring_of T) (fun vs zs => kf_ring_of_0_levels_pairs vs zs) E0 tNil (tCons (tCB (rLen K) (tCons (tVar 2) tNil)) (tCons (tVar 9) tNil))) (gName 10))
      (tSeq (tIfS (tAnd (tTest (tOp (rNeA K) (tOp (rIx K) (tVar 8) (tC (.int 0))) (tOp (rIx K) (tVar 8) (tC (.int 1))))) (tTest (tOp (rInA K) (tOp (rIx K) (tVar 8) (tC (.int 1))) (tOp (rIx K) (tVar 4) (tOp (rIx K) (tVar 8) (tC (.int 0))))))) (tIfS (tOr (tTest (tOp (rNeA K) (tCallK (sp__law_refused K) (fun vs _ => vs) E0 (tCons (tCB (rLen K) (tCons (tVar 2) tNil)) (tCons (tVar 9) tNil)) tNil) (tC (.str "2")))) (tNot (tB (tCallK (sp__law_is_ring K) (fun vs _ => vs) E0 (tCons (tVar 9) (tCons (tVar 10) tNil)) tNil)))) (tRet (tC (.bl false))) tNext) (tIfS (tOr (tTest (tOp rNotNo (tVar 10) (tC .non))) (tTest (tOp rNotNo (tCallK (sp__law_refused K) (fun vs _ => vs) E0 (tCons (tCB (rLen K) (tCons (tVar 2) tNil)) (tCons (tVar 9) tNil)) tNil) (tC .non)))) (tRet (tC (.bl false))) tNext))
      (tSeq (tAsg (tCallK (sp__law_of K) (fun vs _ => vs) E0 (tCons (tVar 1) (tCons (tLst (tCons (tTup (tCons (tC (.int 0)) (tCons (tCB (rLen K) (tCons (tVar 2) tNil)) tNil))) (tCons (tTup (tCons (tUn (rU fun i => .int (-i)) (tC (.int 1))) (tCons (tC (.int 0)) tNil))) (tCons (tLst (tCons (tC (.int 0)) (tCons (tC (.int 0)) tNil))) (tCons (tTup (tCons (tC (.int 0)) tNil)) (tCons (tTup (tCons (tC (.int 0)) (tCons (tC (.int 0)) (tCons (tC (.int 0)) tNil)))) (tCons (tTup (tCons (tC (.bl true)) (tCons (tC (.int 0)) tNil))) (tCons (tTup (tCons (tC (.int 0)) (tCons (tC .non) tNil))) tNil)))))))) tNil)) tNil) (gName 11))
      (tSeq (tIfS (tOr (tTest (tOp (rNeA K) (tCallK (sp__law_refused K) (fun vs _ => vs) E0 (tCons (tCB (rLen K) (tCons (tVar 2) tNil)) (tCons (tOp (rAddA K) (tVar 3) (tLst (tCons (tVar 11) tNil))) tNil)) tNil) (tC (.str "1")))) (tOr (tTest (tOp (rNeA K) (tCallK (sp__law_refused K) (fun vs _ => vs) E0 (tCons (tC (.int 13)) (tCons (tVar 3) tNil)) tNil) (tC (.str "0")))) (tTest (tOp (rNeA K) (tCallK (sp__law_refused K) (fun vs _ => vs) E0 (tCons (tC (.int 0)) (tCons (tVar 3) tNil)) tNil) (tC (.str "0")))))) (tRet (tC (.bl false))) tNext)
      (tRet (tAndV (tCallK (sp__law_records_hold K) (fun vs _ => vs) E0 (tCons (tVar 1) (tCons (tVar 4) tNil)) tNil) (tCallK (sp__law_inputs_hold K) (fun vs _ => vs) E0 (tCons (tVar 1) (tCons (tVar 4) tNil)) tNil))))))))))))))))))
theorem d_law (T : Top K mg) (G__law_draw : GOk P0 w K mg base CX0 1 T.f__law_draw T.fd__law_draw ["script", "salt"] (sp__law_draw K)) (G__law_row : GOk P0 w K mg base CX0 34 T.f__law_row T.fd__law_row ["deal", "many"] (sp__law_row K)) (G__law_pairs : GOk P0 w K mg base CX0 35 T.f__law_pairs T.fd__law_pairs ["deal", "row"] (sp__law_pairs K)) (G__law_closed : GOk P0 w K mg base CX0 1 T.f__law_closed T.fd__law_closed ["row", "pairs"] (sp__law_closed K)) (G_order_of : GOk P0 w K mg base (L2.CX P0 w) 6 T.f_order_of T.fd_order_of ["levels", "pairs"] (sp_order_of T)) (G_ring_of : GOk P0 w K mg base (L2.CX P0 w) 5 T.f_ring_of T.fd_ring_of ["levels", "pairs"] (sp_ring_of T)) (G__law_of : GOk P0 w K mg base CX0 34 T.f__law_of T.fd__law_of ["deal", "some"] (sp__law_of K)) (G__law_size : GOk P0 w K mg base CX0 34 T.f__law_size T.fd__law_size ["deal", "least", "most"] (sp__law_size K)) (G__law_any : GOk P0 w K mg base CX0 33 T.f__law_any T.fd__law_any ["deal", "bound"] (sp__law_any K)) (G__law_records_hold : GOk P0 w K mg base CX0 36 T.f__law_records_hold T.fd__law_records_hold ["deal", "order"] (sp__law_records_hold K)) (G__law_inputs_hold : GOk P0 w K mg base CX0 35 T.f__law_inputs_hold T.fd__law_inputs_hold ["deal", "order"] (sp__law_inputs_hold K)) (G_is_order : GOk P0 w K mg base CX0 5 T.f_is_order T.fd_is_order ["value"] (sp_is_order K)) (G__law_lots_hold : GOk P0 w K mg base CX0 35 T.f__law_lots_hold T.fd__law_lots_hold ["deal", "order"] (sp__law_lots_hold K)) (G__law_refused : GOk P0 w K mg base CX0 7 T.f__law_refused T.fd__law_refused ["levels", "pairs"] (sp__law_refused K)) (G__law_order_spoilt : GOk P0 w K mg base CX0 35 T.f__law_order_spoilt T.fd__law_order_spoilt ["deal", "order"] (sp__law_order_spoilt K)) (G__law_is_ring : GOk P0 w K mg base CX0 1 T.f__law_is_ring T.fd__law_is_ring ["pairs", "ring"] (sp__law_is_ring K)) (cdv : Value) (A : Around) (outer : List Env) (s : Shared) (H : Hp) (E : XK) (hg : (cxOf CX0 P0 w K mg base ["script", "deal", "row", "pairs", "order", "told", "low", "high", "back", "more", "ring", "wrong"] "law" (defScope s_law) T.f_law cdv A outer s H E).A.guards = some []) (hr : Room 36 (cxOf CX0 P0 w K mg base ["script", "deal", "row", "pairs", "order", "told", "low", "high", "back", "more", "ring", "wrong"] "law" (defScope s_law) T.f_law cdv A outer s H E).A) :
    PSs (cxOf CX0 P0 w K mg base ["script", "deal", "row", "pairs", "order", "told", "low", "high", "back", "more", "ring", "wrong"] "law" (defScope s_law) T.f_law cdv A outer s H E).nox (defBody s_law) (t_law T) :=
      (pss_cons (ps_set (i := 1) sc_law.nd rfl (.inl rfl) (pe_g G__law_draw hg (hr.mono (by decide)) (by rfl) T.g__law_draw T.F__law_draw.kp (b__law_draw T.F__law_draw) pass0 (pa_cons (pv 0) (pa_cons pe_int pa_nil))))
      (pss_cons (ps_set (i := 2) sc_law.nd rfl (.inl rfl) (pe_g G__law_row hg (hr.mono (by decide)) (by rfl) T.g__law_row T.F__law_row.kp (b__law_row T.F__law_row) pass0 (pa_cons (pv 1) (pa_cons (pe_g G__law_size hg (hr.mono (by decide)) (by rfl) T.g__law_size T.F__law_size.kp (b__law_size T.F__law_size) pass0 (pa_cons (pv 1) (pa_cons pe_int (pa_cons pe_int pa_nil)))) pa_nil))))
      (pss_cons (ps_set (i := 3) sc_law.nd rfl (.inl rfl) (pe_g G__law_pairs hg (hr.mono (by decide)) (by rfl) T.g__law_pairs T.F__law_pairs.kp (b__law_pairs T.F__law_pairs) pass0 (pa_cons (pv 1) (pa_cons (pv 2) pa_nil))))
      (pss_cons (ps_set (i := 4) sc_law.nd rfl (.inl rfl) (pe_g G__law_closed hg (hr.mono (by decide)) (by rfl) T.g__law_closed T.F__law_closed.kp (b__law_closed T.F__law_closed) pass0 (pa_cons (pv 2) (pa_cons (pv 3) pa_nil))))
      (pss_cons (ps_set (i := 5) sc_law.nd rfl (.inl rfl) (pe_gk0 G_order_of hg (hr.mono (by decide)) (by rfl) T.g_order_of T.F_order_of.kp (kb_order_of_0_levels_pairs T.F_order_of) passes0 (pk_cons (pe_callB cq_len (by rfl) T.n_len (by decide +kernel) (pa_cons (pv 2) pa_nil)) (pk_cons (pe_g G__law_of hg (hr.mono (by decide)) (by rfl) T.g__law_of T.F__law_of.kp (b__law_of T.F__law_of) pass0 (pa_cons (pv 1) (pa_cons (pe_lst (pa_cons (pe_callTy cq_list (by rfl) T.n_list (by decide +kernel) (pa_cons (pv 3) pa_nil)) (pa_cons (pe_callTy cq_tup (by rfl) T.n_tuple (by decide +kernel) (pa_cons (pv 3) pa_nil)) pa_nil))) pa_nil))) pk_nil))))
      (pss_cons (ps_if (PW.pt (pw_or (pt_cmpR (oq_ne hr) (pe_callB (cq_repr hg hr) (by rfl) T.n_repr (by decide +kernel) (pa_cons (pv 5) pa_nil)) (pe_callB (cq_repr hg hr) (by rfl) T.n_repr (by decide +kernel) (pa_cons (pv 4) pa_nil)) (nomark _)) (pw_or (pt_cmpR op_notBl (pe_gk0 G_is_order hg (hr.mono (by decide)) (by rfl) T.g_is_order T.F_is_order.kp (kb_is_order_0_value T.F_is_order) pass0 (pk_cons (pv 4) pk_nil)) pe_bl (nomark _)) (pw_or1 (pt_cmpR oq_notN (pe_g G_ring_of hg (hr.mono (by decide)) (by rfl) T.g_ring_of T.F_ring_of.kp (b_ring_of T.F_ring_of) passes0 (pa_cons (pe_callB cq_len (by rfl) T.n_len (by decide +kernel) (pa_cons (pv 2) pa_nil)) (pa_cons (pv 3) pa_nil))) pe_non (nomark _)))))) (pss_one (ps_ret pe_bl)) pss_nil)
      (pss_cons (ps_if (PW.pt (pw_or (pt_cmpR op_notBl (pe_g G_is_order hg (hr.mono (by decide)) (by rfl) T.g_is_order T.F_is_order.kp (b_is_order T.F_is_order) pass0 (pa_cons (pe_g G__law_order_spoilt hg (hr.mono (by decide)) (by rfl) T.g__law_order_spoilt T.F__law_order_spoilt.kp (b__law_order_spoilt T.F__law_order_spoilt) pass0 (pa_cons (pv 1) (pa_cons (pv 4) pa_nil))) pa_nil)) pe_bl (nomark _)) (pw_or1 (pt_not (pt_val (pe_g G__law_lots_hold hg (hr.mono (by decide)) (by rfl) T.g__law_lots_hold T.F__law_lots_hold.kp (b__law_lots_hold T.F__law_lots_hold) pass0 (pa_cons (pv 1) (pa_cons (pv 4) pa_nil)))))))) (pss_one (ps_ret pe_bl)) pss_nil)
      (pss_cons (ps_par (i := 6) (j := 7) (by rfl) sc_law.nd rfl rfl (by decide) rfl rfl (pa_cons (pe_g G__law_any hg (hr.mono (by decide)) (by rfl) T.g__law_any T.F__law_any.kp (b__law_any T.F__law_any) pass0 (pa_cons (pv 1) (pa_cons (pe_callB cq_len (by rfl) T.n_len (by decide +kernel) (pa_cons (pv 2) pa_nil)) pa_nil))) (pa_cons (pe_g G__law_any hg (hr.mono (by decide)) (by rfl) T.g__law_any T.F__law_any.kp (b__law_any T.F__law_any) pass0 (pa_cons (pv 1) (pa_cons (pe_callB cq_len (by rfl) T.n_len (by decide +kernel) (pa_cons (pv 2) pa_nil)) pa_nil))) pa_nil)) (by rfl))
      (pss_cons (ps_set (i := 8) sc_law.nd rfl (.inl rfl) (pe_tup (pa_cons (pe_ix ix_seq (pv 2) (pe_callB (cq_max rfl) (by rfl) T.n_max (by decide +kernel) (pa_cons (pv 6) (pa_cons (pv 7) pa_nil))) (fun _ _ => rfl)) (pa_cons (pe_ix ix_seq (pv 2) (pe_callB (cq_min rfl) (by rfl) T.n_min (by decide +kernel) (pa_cons (pv 6) (pa_cons (pv 7) pa_nil))) (fun _ _ => rfl)) pa_nil))))
      (pss_cons (ps_if (pt_cmpR (oq_eq hr) (pe_g G__law_any hg (hr.mono (by decide)) (by rfl) T.g__law_any T.F__law_any.kp (b__law_any T.F__law_any) pass0 (pa_cons (pv 1) (pa_cons pe_int pa_nil))) pe_int (nomark _)) (pss_one (ps_set (i := 8) sc_law.nd rfl (.inl rfl) (pe_tup (pa_cons (pe_ix ix_seq (pv 2) (pe_un un_neg pe_int) (fun _ _ => rfl)) (pa_cons (pe_ix ix_seq (pv 2) pe_int (fun _ _ => rfl)) pa_nil))))) pss_nil)
      (pss_cons (ps_set (i := 9) sc_law.nd rfl (.inl rfl) (pe_op oq_add (pv 3) (pe_lst (pa_cons (pv 8) pa_nil))))
      (pss_cons (ps_set (i := 10) sc_law.nd rfl (.inl rfl) (pe_gk0 G_ring_of hg (hr.mono (by decide)) (by rfl) T.g_ring_of T.F_ring_of.kp (kb_ring_of_0_levels_pairs T.F_ring_of) passes0 (pk_cons (pe_callB cq_len (by rfl) T.n_len (by decide +kernel) (pa_cons (pv 2) pa_nil)) (pk_cons (pv 9) pk_nil))))
      (pss_cons (ps_if (PW.pt (pw_and (pt_cmpR (oq_ne hr) (pe_ix ix_seq (pv 8) pe_int (fun _ _ => rfl)) (pe_ix ix_seq (pv 8) pe_int (fun _ _ => rfl)) (nomark _)) (pw_and1 (pt_cmpR (oq_in hr) (pe_ix ix_seq (pv 8) pe_int (fun _ _ => rfl)) (pe_ix ix_seq (pv 4) (pe_ix ix_seq (pv 8) pe_int (fun _ _ => rfl)) (fun _ _ => rfl)) (by rfl))))) (pss_one (ps_if (PW.pt (pw_or (pt_cmpR (oq_ne hr) (pe_g G__law_refused hg (hr.mono (by decide)) (by rfl) T.g__law_refused T.F__law_refused.kp (b__law_refused T.F__law_refused) pass0 (pa_cons (pe_callB cq_len (by rfl) T.n_len (by decide +kernel) (pa_cons (pv 2) pa_nil)) (pa_cons (pv 9) pa_nil))) pe_str (nomark _)) (pw_or1 (pt_not (pt_val (pe_g G__law_is_ring hg (hr.mono (by decide)) (by rfl) T.g__law_is_ring T.F__law_is_ring.kp (b__law_is_ring T.F__law_is_ring) pass0 (pa_cons (pv 9) (pa_cons (pv 10) pa_nil)))))))) (pss_one (ps_ret pe_bl)) pss_nil)) (pss_one (ps_if (PW.pt (pw_or (pt_cmpR oq_notN (pv 10) pe_non (nomark _)) (pw_or1 (pt_cmpR oq_notN (pe_g G__law_refused hg (hr.mono (by decide)) (by rfl) T.g__law_refused T.F__law_refused.kp (b__law_refused T.F__law_refused) pass0 (pa_cons (pe_callB cq_len (by rfl) T.n_len (by decide +kernel) (pa_cons (pv 2) pa_nil)) (pa_cons (pv 9) pa_nil))) pe_non (nomark _))))) (pss_one (ps_ret pe_bl)) pss_nil)))
      (pss_cons (ps_set (i := 11) sc_law.nd rfl (.inl rfl) (pe_g G__law_of hg (hr.mono (by decide)) (by rfl) T.g__law_of T.F__law_of.kp (b__law_of T.F__law_of) pass0 (pa_cons (pv 1) (pa_cons (pe_lst (pa_cons (pe_tup (pa_cons pe_int (pa_cons (pe_callB cq_len (by rfl) T.n_len (by decide +kernel) (pa_cons (pv 2) pa_nil)) pa_nil))) (pa_cons (pe_tup (pa_cons (pe_un un_neg pe_int) (pa_cons pe_int pa_nil))) (pa_cons (pe_lst (pa_cons pe_int (pa_cons pe_int pa_nil))) (pa_cons (pe_tup (pa_cons pe_int pa_nil)) (pa_cons (pe_tup (pa_cons pe_int (pa_cons pe_int (pa_cons pe_int pa_nil)))) (pa_cons (pe_tup (pa_cons pe_bl (pa_cons pe_int pa_nil))) (pa_cons (pe_tup (pa_cons pe_int (pa_cons pe_non pa_nil))) pa_nil)))))))) pa_nil))))
      (pss_cons (ps_if (PW.pt (pw_or (pt_cmpR (oq_ne hr) (pe_g G__law_refused hg (hr.mono (by decide)) (by rfl) T.g__law_refused T.F__law_refused.kp (b__law_refused T.F__law_refused) pass0 (pa_cons (pe_callB cq_len (by rfl) T.n_len (by decide +kernel) (pa_cons (pv 2) pa_nil)) (pa_cons (pe_op oq_add (pv 3) (pe_lst (pa_cons (pv 11) pa_nil))) pa_nil))) pe_str (nomark _)) (pw_or (pt_cmpR (oq_ne hr) (pe_g G__law_refused hg (hr.mono (by decide)) (by rfl) T.g__law_refused T.F__law_refused.kp (b__law_refused T.F__law_refused) pass0 (pa_cons pe_int (pa_cons (pv 3) pa_nil))) pe_str (nomark _)) (pw_or1 (pt_cmpR (oq_ne hr) (pe_g G__law_refused hg (hr.mono (by decide)) (by rfl) T.g__law_refused T.F__law_refused.kp (b__law_refused T.F__law_refused) pass0 (pa_cons pe_int (pa_cons (pv 3) pa_nil))) pe_str (nomark _)))))) (pss_one (ps_ret pe_bl)) pss_nil)
      (pss_one (ps_ret (pe_and (pe_g G__law_records_hold hg hr (by rfl) T.g__law_records_hold T.F__law_records_hold.kp (b__law_records_hold T.F__law_records_hold) pass0 (pa_cons (pv 1) (pa_cons (pv 4) pa_nil))) (pe_one (pe_g G__law_inputs_hold hg (hr.mono (by decide)) (by rfl) T.g__law_inputs_hold T.F__law_inputs_hold.kp (b__law_inputs_hold T.F__law_inputs_hold) pass0 (pa_cons (pv 1) (pa_cons (pv 4) pa_nil))))))))))))))))))))))
end
/-! ### the top -/
theorem top_mk {K : PySem.W.Frag} {h : Heap} {mg : Str → Option Value} {fa : Addr} (X : K.In h) (G : h.Ns mainGlobals mg) (hfa : mg "law" = some (.ref fa))
    {f0 : Addr} {od0 an0 : Option Addr} {sl0 : Array (Option Value)} {oc0 kV0 dc0 pm0 cd0 ct0 : Value}
    {f1 : Addr} {od1 an1 : Option Addr} {sl1 : Array (Option Value)} {oc1 kV1 dc1 pm1 cd1 ct1 : Value}
    {f2 : Addr} {od2 an2 : Option Addr} {sl2 : Array (Option Value)} {oc2 kV2 dc2 pm2 cd2 ct2 : Value}
    {f3 : Addr} {od3 an3 : Option Addr} {sl3 : Array (Option Value)} {oc3 kV3 dc3 pm3 cd3 ct3 : Value}
    {f4 : Addr} {od4 an4 : Option Addr} {sl4 : Array (Option Value)} {oc4 kV4 dc4 pm4 cd4 ct4 : Value}
    {f5 : Addr} {od5 an5 : Option Addr} {sl5 : Array (Option Value)} {oc5 kV5 dc5 pm5 cd5 ct5 : Value}
    {f6 : Addr} {od6 an6 : Option Addr} {sl6 : Array (Option Value)} {oc6 kV6 dc6 pm6 cd6 ct6 : Value}
    {f7 : Addr} {od7 an7 : Option Addr} {sl7 : Array (Option Value)} {oc7 kV7 dc7 pm7 cd7 ct7 : Value}
    {f8 : Addr} {od8 an8 : Option Addr} {sl8 : Array (Option Value)} {oc8 kV8 dc8 pm8 cd8 ct8 : Value}
    {f9 : Addr} {od9 an9 : Option Addr} {sl9 : Array (Option Value)} {oc9 kV9 dc9 pm9 cd9 ct9 : Value}
    {f10 : Addr} {od10 an10 : Option Addr} {sl10 : Array (Option Value)} {oc10 kV10 dc10 pm10 cd10 ct10 : Value}
    {f11 : Addr} {od11 an11 : Option Addr} {sl11 : Array (Option Value)} {oc11 kV11 dc11 pm11 cd11 ct11 : Value}
    {f12 : Addr} {od12 an12 : Option Addr} {sl12 : Array (Option Value)} {oc12 kV12 dc12 pm12 cd12 ct12 : Value}
    {f13 : Addr} {od13 an13 : Option Addr} {sl13 : Array (Option Value)} {oc13 kV13 dc13 pm13 cd13 ct13 : Value}
    {f14 : Addr} {od14 an14 : Option Addr} {sl14 : Array (Option Value)} {oc14 kV14 dc14 pm14 cd14 ct14 : Value}
    {f15 : Addr} {od15 an15 : Option Addr} {sl15 : Array (Option Value)} {oc15 kV15 dc15 pm15 cd15 ct15 : Value}
    {f16 : Addr} {od16 an16 : Option Addr} {sl16 : Array (Option Value)} {oc16 kV16 dc16 pm16 cd16 ct16 : Value}
    {f17 : Addr} {od17 an17 : Option Addr} {sl17 : Array (Option Value)} {oc17 kV17 dc17 pm17 cd17 ct17 : Value}
    {f18 : Addr} {od18 an18 : Option Addr} {sl18 : Array (Option Value)} {oc18 kV18 dc18 pm18 cd18 ct18 : Value}
    {f19 : Addr} {od19 an19 : Option Addr} {sl19 : Array (Option Value)} {oc19 kV19 dc19 pm19 cd19 ct19 : Value}
    {f20 : Addr} {od20 an20 : Option Addr} {sl20 : Array (Option Value)} {oc20 kV20 dc20 pm20 cd20 ct20 : Value}
    {f21 : Addr} {od21 an21 : Option Addr} {sl21 : Array (Option Value)} {oc21 kV21 dc21 pm21 cd21 ct21 : Value}
    {f22 : Addr} {od22 an22 : Option Addr} {sl22 : Array (Option Value)} {oc22 kV22 dc22 pm22 cd22 ct22 : Value}
    {f23 : Addr} {od23 an23 : Option Addr} {sl23 : Array (Option Value)} {oc23 kV23 dc23 pm23 cd23 ct23 : Value}
    {f24 : Addr} {od24 an24 : Option Addr} {sl24 : Array (Option Value)} {oc24 kV24 dc24 pm24 cd24 ct24 : Value}
    {f25 : Addr} {od25 an25 : Option Addr} {sl25 : Array (Option Value)} {oc25 kV25 dc25 pm25 cd25 ct25 : Value}
    {f26 : Addr} {od26 an26 : Option Addr} {sl26 : Array (Option Value)} {oc26 kV26 dc26 pm26 cd26 ct26 : Value}
    {f27 : Addr} {od27 an27 : Option Addr} {sl27 : Array (Option Value)} {oc27 kV27 dc27 pm27 cd27 ct27 : Value}
    {f28 : Addr} {od28 an28 : Option Addr} {sl28 : Array (Option Value)} {oc28 kV28 dc28 pm28 cd28 ct28 : Value}
    {f29 : Addr} {od29 an29 : Option Addr} {sl29 : Array (Option Value)} {oc29 kV29 dc29 pm29 cd29 ct29 : Value}
    {f30 : Addr} {od30 an30 : Option Addr} {sl30 : Array (Option Value)} {oc30 kV30 dc30 pm30 cd30 ct30 : Value}
    {f31 : Addr} {od31 an31 : Option Addr} {sl31 : Array (Option Value)} {oc31 kV31 dc31 pm31 cd31 ct31 : Value}
    {f32 : Addr} {od32 an32 : Option Addr} {sl32 : Array (Option Value)} {oc32 kV32 dc32 pm32 cd32 ct32 : Value}
    {f33 : Addr} {od33 an33 : Option Addr} {sl33 : Array (Option Value)} {oc33 kV33 dc33 pm33 cd33 ct33 : Value}
    {f34 : Addr} {od34 an34 : Option Addr} {sl34 : Array (Option Value)} {oc34 kV34 dc34 pm34 cd34 ct34 : Value}
    {f35 : Addr} {od35 an35 : Option Addr} {sl35 : Array (Option Value)} {oc35 kV35 dc35 pm35 cd35 ct35 : Value}
    {f36 : Addr} {od36 an36 : Option Addr} {sl36 : Array (Option Value)} {oc36 kV36 dc36 pm36 cd36 ct36 : Value}
    {f37 : Addr} {od37 an37 : Option Addr} {sl37 : Array (Option Value)} {oc37 kV37 dc37 pm37 cd37 ct37 : Value}
    {f38 : Addr} {od38 an38 : Option Addr} {sl38 : Array (Option Value)} {oc38 kV38 dc38 pm38 cd38 ct38 : Value}
    {tk0 : Tok}
    (X_InvalidOrder : XT P0 K mg "InvalidOrder" "at")
    (a0 : PySem.W.nsIn K mainGlobals "is_integer" = some (some (.ref f0))) (l0 : K.lookup f0 = some ⟨oc0, od0, .func (PySem.W.fnOf "is_integer" "is_integer" (defArgs s_is_integer) (defBody s_is_integer) (defScope s_is_integer) .none kV0 dc0 pm0 an0 cd0 ct0), sl0⟩) (c0 : PySem.W.codeIn K cd0 "is_integer" = true) (k0 : PySem.W.keepIn K (.ref f0) = true)
    (a1 : PySem.W.nsIn K mainGlobals "is_number" = some (some (.ref f1))) (l1 : K.lookup f1 = some ⟨oc1, od1, .func (PySem.W.fnOf "is_number" "is_number" (defArgs s_is_number) (defBody s_is_number) (defScope s_is_number) .none kV1 dc1 pm1 an1 cd1 ct1), sl1⟩) (c1 : PySem.W.codeIn K cd1 "is_number" = true) (k1 : PySem.W.keepIn K (.ref f1) = true)
    (a2 : PySem.W.nsIn K mainGlobals "is_index" = some (some (.ref f2))) (l2 : K.lookup f2 = some ⟨oc2, od2, .func (PySem.W.fnOf "is_index" "is_index" (defArgs s_is_index) (defBody s_is_index) (defScope s_is_index) .none kV2 dc2 pm2 an2 cd2 ct2), sl2⟩) (c2 : PySem.W.codeIn K cd2 "is_index" = true) (k2 : PySem.W.keepIn K (.ref f2) = true)
    (a3 : PySem.W.nsIn K mainGlobals "is_sequence" = some (some (.ref f3))) (l3 : K.lookup f3 = some ⟨oc3, od3, .func (PySem.W.fnOf "is_sequence" "is_sequence" (defArgs s_is_sequence) (defBody s_is_sequence) (defScope s_is_sequence) .none kV3 dc3 pm3 an3 cd3 ct3), sl3⟩) (c3 : PySem.W.codeIn K cd3 "is_sequence" = true) (k3 : PySem.W.keepIn K (.ref f3) = true)
    (a4 : PySem.W.nsIn K mainGlobals "is_row_of" = some (some (.ref f4))) (l4 : K.lookup f4 = some ⟨oc4, od4, .func (PySem.W.fnOf "is_row_of" "is_row_of" (defArgs s_is_row_of) (defBody s_is_row_of) (defScope s_is_row_of) .none kV4 dc4 pm4 an4 cd4 ct4), sl4⟩) (c4 : PySem.W.codeIn K cd4 "is_row_of" = true) (k4 : PySem.W.keepIn K (.ref f4) = true)
    (a5 : PySem.W.nsIn K mainGlobals "is_rising" = some (some (.ref f5))) (l5 : K.lookup f5 = some ⟨oc5, od5, .func (PySem.W.fnOf "is_rising" "is_rising" (defArgs s_is_rising) (defBody s_is_rising) (defScope s_is_rising) .none kV5 dc5 pm5 an5 cd5 ct5), sl5⟩) (c5 : PySem.W.codeIn K cd5 "is_rising" = true) (k5 : PySem.W.keepIn K (.ref f5) = true)
    (a6 : PySem.W.nsIn K mainGlobals "is_order" = some (some (.ref f6))) (l6 : K.lookup f6 = some ⟨oc6, od6, .func (PySem.W.fnOf "is_order" "is_order" (defArgs s_is_order) (defBody s_is_order) (defScope s_is_order) .none kV6 dc6 pm6 an6 cd6 ct6), sl6⟩) (c6 : PySem.W.codeIn K cd6 "is_order" = true) (k6 : PySem.W.keepIn K (.ref f6) = true)
    (a7 : PySem.W.nsIn K mainGlobals "checked_pairs" = some (some (.ref f7))) (l7 : K.lookup f7 = some ⟨oc7, od7, .func (PySem.W.fnOf "checked_pairs" "checked_pairs" (defArgs s_checked_pairs) (defBody s_checked_pairs) (defScope s_checked_pairs) .none kV7 dc7 pm7 an7 cd7 ct7), sl7⟩) (c7 : PySem.W.codeIn K cd7 "checked_pairs" = true) (k7 : PySem.W.keepIn K (.ref f7) = true)
    (a8 : PySem.W.nsIn K mainGlobals "ways_up" = some (some (.ref f8))) (l8 : K.lookup f8 = some ⟨oc8, od8, .func (PySem.W.fnOf "ways_up" "ways_up" (defArgs s_ways_up) (defBody s_ways_up) (defScope s_ways_up) .none kV8 dc8 pm8 an8 cd8 ct8), sl8⟩) (c8 : PySem.W.codeIn K cd8 "ways_up" = true) (k8 : PySem.W.keepIn K (.ref f8) = true)
    (a9 : PySem.W.nsIn K mainGlobals "ring_of" = some (some (.ref f9))) (l9 : K.lookup f9 = some ⟨oc9, od9, .func (PySem.W.fnOf "ring_of" "ring_of" (defArgs s_ring_of) (defBody s_ring_of) (defScope s_ring_of) .none kV9 dc9 pm9 an9 cd9 ct9), sl9⟩) (c9 : PySem.W.codeIn K cd9 "ring_of" = true) (k9 : PySem.W.keepIn K (.ref f9) = true)
    (a10 : PySem.W.nsIn K mainGlobals "order_of" = some (some (.ref f10))) (l10 : K.lookup f10 = some ⟨oc10, od10, .func (PySem.W.fnOf "order_of" "order_of" (defArgs s_order_of) (defBody s_order_of) (defScope s_order_of) .none kV10 dc10 pm10 an10 cd10 ct10), sl10⟩) (c10 : PySem.W.codeIn K cd10 "order_of" = true) (k10 : PySem.W.keepIn K (.ref f10) = true)
    (a11 : PySem.W.nsIn K mainGlobals "is_lot" = some (some (.ref f11))) (l11 : K.lookup f11 = some ⟨oc11, od11, .func (PySem.W.fnOf "is_lot" "is_lot" (defArgs s_is_lot) (defBody s_is_lot) (defScope s_is_lot) .none kV11 dc11 pm11 an11 cd11 ct11), sl11⟩) (c11 : PySem.W.codeIn K cd11 "is_lot" = true) (k11 : PySem.W.keepIn K (.ref f11) = true)
    (a12 : PySem.W.nsIn K mainGlobals "lot_within" = some (some (.ref f12))) (l12 : K.lookup f12 = some ⟨oc12, od12, .func (PySem.W.fnOf "lot_within" "lot_within" (defArgs s_lot_within) (defBody s_lot_within) (defScope s_lot_within) .none kV12 dc12 pm12 an12 cd12 ct12), sl12⟩) (c12 : PySem.W.codeIn K cd12 "lot_within" = true) (k12 : PySem.W.keepIn K (.ref f12) = true)
    (a13 : PySem.W.nsIn K mainGlobals "joined_lots" = some (some (.ref f13))) (l13 : K.lookup f13 = some ⟨oc13, od13, .func (PySem.W.fnOf "joined_lots" "joined_lots" (defArgs s_joined_lots) (defBody s_joined_lots) (defScope s_joined_lots) .none kV13 dc13 pm13 an13 cd13 ct13), sl13⟩) (c13 : PySem.W.codeIn K cd13 "joined_lots" = true) (k13 : PySem.W.keepIn K (.ref f13) = true)
    (a14 : PySem.W.nsIn K mainGlobals "watchers" = some (some (.ref f14))) (l14 : K.lookup f14 = some ⟨oc14, od14, .func (PySem.W.fnOf "watchers" "watchers" (defArgs s_watchers) (defBody s_watchers) (defScope s_watchers) .none kV14 dc14 pm14 an14 cd14 ct14), sl14⟩) (c14 : PySem.W.codeIn K cd14 "watchers" = true) (k14 : PySem.W.keepIn K (.ref f14) = true)
    (a15 : PySem.W.nsIn K mainGlobals "covered" = some (some (.ref f15))) (l15 : K.lookup f15 = some ⟨oc15, od15, .func (PySem.W.fnOf "covered" "covered" (defArgs s_covered) (defBody s_covered) (defScope s_covered) .none kV15 dc15 pm15 an15 cd15 ct15), sl15⟩) (c15 : PySem.W.codeIn K cd15 "covered" = true) (k15 : PySem.W.keepIn K (.ref f15) = true)
    (a16 : PySem.W.nsIn K mainGlobals "is_input" = some (some (.ref f16))) (l16 : K.lookup f16 = some ⟨oc16, od16, .func (PySem.W.fnOf "is_input" "is_input" (defArgs s_is_input) (defBody s_is_input) (defScope s_is_input) .none kV16 dc16 pm16 an16 cd16 ct16), sl16⟩) (c16 : PySem.W.codeIn K cd16 "is_input" = true) (k16 : PySem.W.keepIn K (.ref f16) = true)
    (a17 : PySem.W.nsIn K mainGlobals "alike_inputs" = some (some (.ref f17))) (l17 : K.lookup f17 = some ⟨oc17, od17, .func (PySem.W.fnOf "alike_inputs" "alike_inputs" (defArgs s_alike_inputs) (defBody s_alike_inputs) (defScope s_alike_inputs) .none kV17 dc17 pm17 an17 cd17 ct17), sl17⟩) (c17 : PySem.W.codeIn K cd17 "alike_inputs" = true) (k17 : PySem.W.keepIn K (.ref f17) = true)
    (a18 : PySem.W.nsIn K mainGlobals "is_deed" = some (some (.ref f18))) (l18 : K.lookup f18 = some ⟨oc18, od18, .func (PySem.W.fnOf "is_deed" "is_deed" (defArgs s_is_deed) (defBody s_is_deed) (defScope s_is_deed) .none kV18 dc18 pm18 an18 cd18 ct18), sl18⟩) (c18 : PySem.W.codeIn K cd18 "is_deed" = true) (k18 : PySem.W.keepIn K (.ref f18) = true)
    (a19 : PySem.W.nsIn K mainGlobals "is_record" = some (some (.ref f19))) (l19 : K.lookup f19 = some ⟨oc19, od19, .func (PySem.W.fnOf "is_record" "is_record" (defArgs s_is_record) (defBody s_is_record) (defScope s_is_record) .none kV19 dc19 pm19 an19 cd19 ct19), sl19⟩) (c19 : PySem.W.codeIn K cd19 "is_record" = true) (k19 : PySem.W.keepIn K (.ref f19) = true)
    (a20 : PySem.W.nsIn K mainGlobals "is_seen" = some (some (.ref f20))) (l20 : K.lookup f20 = some ⟨oc20, od20, .func (PySem.W.fnOf "is_seen" "is_seen" (defArgs s_is_seen) (defBody s_is_seen) (defScope s_is_seen) .none kV20 dc20 pm20 an20 cd20 ct20), sl20⟩) (c20 : PySem.W.codeIn K cd20 "is_seen" = true) (k20 : PySem.W.keepIn K (.ref f20) = true)
    (a21 : PySem.W.nsIn K mainGlobals "seen" = some (some (.ref f21))) (l21 : K.lookup f21 = some ⟨oc21, od21, .func (PySem.W.fnOf "seen" "seen" (defArgs s_seen) (defBody s_seen) (defScope s_seen) .none kV21 dc21 pm21 an21 cd21 ct21), sl21⟩) (c21 : PySem.W.codeIn K cd21 "seen" = true) (k21 : PySem.W.keepIn K (.ref f21) = true)
    (a22 : PySem.W.nsIn K mainGlobals "cut_record" = some (some (.ref f22))) (l22 : K.lookup f22 = some ⟨oc22, od22, .func (PySem.W.fnOf "cut_record" "cut_record" (defArgs s_cut_record) (defBody s_cut_record) (defScope s_cut_record) .none kV22 dc22 pm22 an22 cd22 ct22), sl22⟩) (c22 : PySem.W.codeIn K cd22 "cut_record" = true) (k22 : PySem.W.keepIn K (.ref f22) = true)
    (a23 : PySem.W.nsIn K mainGlobals "_law_draw" = some (some (.ref f23))) (l23 : K.lookup f23 = some ⟨oc23, od23, .func (PySem.W.fnOf "_law_draw" "_law_draw" (defArgs s__law_draw) (defBody s__law_draw) (defScope s__law_draw) .none kV23 dc23 pm23 an23 cd23 ct23), sl23⟩) (c23 : PySem.W.codeIn K cd23 "_law_draw" = true) (k23 : PySem.W.keepIn K (.ref f23) = true)
    (a24 : PySem.W.nsIn K mainGlobals "_law_any" = some (some (.ref f24))) (l24 : K.lookup f24 = some ⟨oc24, od24, .func (PySem.W.fnOf "_law_any" "_law_any" (defArgs s__law_any) (defBody s__law_any) (defScope s__law_any) .none kV24 dc24 pm24 an24 cd24 ct24), sl24⟩) (c24 : PySem.W.codeIn K cd24 "_law_any" = true) (k24 : PySem.W.keepIn K (.ref f24) = true)
    (a25 : PySem.W.nsIn K mainGlobals "_law_of" = some (some (.ref f25))) (l25 : K.lookup f25 = some ⟨oc25, od25, .func (PySem.W.fnOf "_law_of" "_law_of" (defArgs s__law_of) (defBody s__law_of) (defScope s__law_of) .none kV25 dc25 pm25 an25 cd25 ct25), sl25⟩) (c25 : PySem.W.codeIn K cd25 "_law_of" = true) (k25 : PySem.W.keepIn K (.ref f25) = true)
    (a26 : PySem.W.nsIn K mainGlobals "_law_size" = some (some (.ref f26))) (l26 : K.lookup f26 = some ⟨oc26, od26, .func (PySem.W.fnOf "_law_size" "_law_size" (defArgs s__law_size) (defBody s__law_size) (defScope s__law_size) .none kV26 dc26 pm26 an26 cd26 ct26), sl26⟩) (c26 : PySem.W.codeIn K cd26 "_law_size" = true) (k26 : PySem.W.keepIn K (.ref f26) = true)
    (a27 : PySem.W.nsIn K mainGlobals "_law_row" = some (some (.ref f27))) (l27 : K.lookup f27 = some ⟨oc27, od27, .func (PySem.W.fnOf "_law_row" "_law_row" (defArgs s__law_row) (defBody s__law_row) (defScope s__law_row) .none kV27 dc27 pm27 an27 cd27 ct27), sl27⟩) (c27 : PySem.W.codeIn K cd27 "_law_row" = true) (k27 : PySem.W.keepIn K (.ref f27) = true)
    (a28 : PySem.W.nsIn K mainGlobals "_law_closed" = some (some (.ref f28))) (l28 : K.lookup f28 = some ⟨oc28, od28, .func (PySem.W.fnOf "_law_closed" "_law_closed" (defArgs s__law_closed) (defBody s__law_closed) (defScope s__law_closed) .none kV28 dc28 pm28 an28 cd28 ct28), sl28⟩) (c28 : PySem.W.codeIn K cd28 "_law_closed" = true) (k28 : PySem.W.keepIn K (.ref f28) = true)
    (a29 : PySem.W.nsIn K mainGlobals "_law_pairs" = some (some (.ref f29))) (l29 : K.lookup f29 = some ⟨oc29, od29, .func (PySem.W.fnOf "_law_pairs" "_law_pairs" (defArgs s__law_pairs) (defBody s__law_pairs) (defScope s__law_pairs) .none kV29 dc29 pm29 an29 cd29 ct29), sl29⟩) (c29 : PySem.W.codeIn K cd29 "_law_pairs" = true) (k29 : PySem.W.keepIn K (.ref f29) = true)
    (a30 : PySem.W.nsIn K mainGlobals "_law_refused" = some (some (.ref f30))) (l30 : K.lookup f30 = some ⟨oc30, od30, .func (PySem.W.fnOf "_law_refused" "_law_refused" (defArgs s__law_refused) (defBody s__law_refused) (defScope s__law_refused) .none kV30 dc30 pm30 an30 cd30 ct30), sl30⟩) (c30 : PySem.W.codeIn K cd30 "_law_refused" = true) (k30 : PySem.W.keepIn K (.ref f30) = true)
    (a31 : PySem.W.nsIn K mainGlobals "_law_is_ring" = some (some (.ref f31))) (l31 : K.lookup f31 = some ⟨oc31, od31, .func (PySem.W.fnOf "_law_is_ring" "_law_is_ring" (defArgs s__law_is_ring) (defBody s__law_is_ring) (defScope s__law_is_ring) .none kV31 dc31 pm31 an31 cd31 ct31), sl31⟩) (c31 : PySem.W.codeIn K cd31 "_law_is_ring" = true) (k31 : PySem.W.keepIn K (.ref f31) = true)
    (a32 : PySem.W.nsIn K mainGlobals "_law_within" = some (some (.ref f32))) (l32 : K.lookup f32 = some ⟨oc32, od32, .func (PySem.W.fnOf "_law_within" "_law_within" (defArgs s__law_within) (defBody s__law_within) (defScope s__law_within) .none kV32 dc32 pm32 an32 cd32 ct32), sl32⟩) (c32 : PySem.W.codeIn K cd32 "_law_within" = true) (k32 : PySem.W.keepIn K (.ref f32) = true)
    (a33 : PySem.W.nsIn K mainGlobals "_law_lots_hold" = some (some (.ref f33))) (l33 : K.lookup f33 = some ⟨oc33, od33, .func (PySem.W.fnOf "_law_lots_hold" "_law_lots_hold" (defArgs s__law_lots_hold) (defBody s__law_lots_hold) (defScope s__law_lots_hold) .none kV33 dc33 pm33 an33 cd33 ct33), sl33⟩) (c33 : PySem.W.codeIn K cd33 "_law_lots_hold" = true) (k33 : PySem.W.keepIn K (.ref f33) = true)
    (a34 : PySem.W.nsIn K mainGlobals "_law_order_spoilt" = some (some (.ref f34))) (l34 : K.lookup f34 = some ⟨oc34, od34, .func (PySem.W.fnOf "_law_order_spoilt" "_law_order_spoilt" (defArgs s__law_order_spoilt) (defBody s__law_order_spoilt) (defScope s__law_order_spoilt) .none kV34 dc34 pm34 an34 cd34 ct34), sl34⟩) (c34 : PySem.W.codeIn K cd34 "_law_order_spoilt" = true) (k34 : PySem.W.keepIn K (.ref f34) = true)
    (a35 : PySem.W.nsIn K mainGlobals "_law_record" = some (some (.ref f35))) (l35 : K.lookup f35 = some ⟨oc35, od35, .func (PySem.W.fnOf "_law_record" "_law_record" (defArgs s__law_record) (defBody s__law_record) (defScope s__law_record) .none kV35 dc35 pm35 an35 cd35 ct35), sl35⟩) (c35 : PySem.W.codeIn K cd35 "_law_record" = true) (k35 : PySem.W.keepIn K (.ref f35) = true)
    (a36 : PySem.W.nsIn K mainGlobals "_law_records_hold" = some (some (.ref f36))) (l36 : K.lookup f36 = some ⟨oc36, od36, .func (PySem.W.fnOf "_law_records_hold" "_law_records_hold" (defArgs s__law_records_hold) (defBody s__law_records_hold) (defScope s__law_records_hold) .none kV36 dc36 pm36 an36 cd36 ct36), sl36⟩) (c36 : PySem.W.codeIn K cd36 "_law_records_hold" = true) (k36 : PySem.W.keepIn K (.ref f36) = true)
    (a37 : PySem.W.nsIn K mainGlobals "_law_inputs_hold" = some (some (.ref f37))) (l37 : K.lookup f37 = some ⟨oc37, od37, .func (PySem.W.fnOf "_law_inputs_hold" "_law_inputs_hold" (defArgs s__law_inputs_hold) (defBody s__law_inputs_hold) (defScope s__law_inputs_hold) .none kV37 dc37 pm37 an37 cd37 ct37), sl37⟩) (c37 : PySem.W.codeIn K cd37 "_law_inputs_hold" = true) (k37 : PySem.W.keepIn K (.ref f37) = true)
    (a38 : PySem.W.nsIn K mainGlobals "law" = some (some (.ref f38))) (l38 : K.lookup f38 = some ⟨oc38, od38, .func (PySem.W.fnOf "law" "law" (defArgs s_law) (defBody s_law) (defScope s_law) .none kV38 dc38 pm38 an38 cd38 ct38), sl38⟩) (c38 : PySem.W.codeIn K cd38 "law" = true) (k38 : PySem.W.keepIn K (.ref f38) = true)
    (q0 : PySem.W.nsIn K mainGlobals "MOST" = some (some (.int 12 tk0)))
    (z_isinstance : PySem.W.nsIn K mainGlobals "isinstance" = some none)
    (z_bool : PySem.W.nsIn K mainGlobals "bool" = some none)
    (z_int : PySem.W.nsIn K mainGlobals "int" = some none)
    (z_tuple : PySem.W.nsIn K mainGlobals "tuple" = some none)
    (z_list : PySem.W.nsIn K mainGlobals "list" = some none)
    (z_len : PySem.W.nsIn K mainGlobals "len" = some none)
    (z_all : PySem.W.nsIn K mainGlobals "all" = some none)
    (z_range : PySem.W.nsIn K mainGlobals "range" = some none)
    (z_enumerate : PySem.W.nsIn K mainGlobals "enumerate" = some none)
    (z_sorted : PySem.W.nsIn K mainGlobals "sorted" = some none)
    (z_set : PySem.W.nsIn K mainGlobals "set" = some none)
    (z_abs : PySem.W.nsIn K mainGlobals "abs" = some none)
    (z_min : PySem.W.nsIn K mainGlobals "min" = some none)
    (z_dict : PySem.W.nsIn K mainGlobals "dict" = some none)
    (z_max : PySem.W.nsIn K mainGlobals "max" = some none)
    (z_repr : PySem.W.nsIn K mainGlobals "repr" = some none) :
    ∃ T : Top K mg, T.f_law = fa ∧ ∀ (s : Shared) (u : Value), BindsTo s T.fd_law ⟨[u], []⟩ [("script", u)] := by
  have e := hfa.symm.trans (PySem.W.mg_of X G a38)
  cases e
  exact ⟨{ X_InvalidOrder := X_InvalidOrder, f_is_integer := f0, fd_is_integer := _, F_is_integer := fun_mk l0 c0 k0, g_is_integer := PySem.W.mg_of X G a0, f_is_number := f1, fd_is_number := _, F_is_number := fun_mk l1 c1 k1, g_is_number := PySem.W.mg_of X G a1, f_is_index := f2, fd_is_index := _, F_is_index := fun_mk l2 c2 k2, g_is_index := PySem.W.mg_of X G a2, f_is_sequence := f3, fd_is_sequence := _, F_is_sequence := fun_mk l3 c3 k3, g_is_sequence := PySem.W.mg_of X G a3, f_is_row_of := f4, fd_is_row_of := _, F_is_row_of := fun_mk l4 c4 k4, g_is_row_of := PySem.W.mg_of X G a4, f_is_rising := f5, fd_is_rising := _, F_is_rising := fun_mk l5 c5 k5, g_is_rising := PySem.W.mg_of X G a5, f_is_order := f6, fd_is_order := _, F_is_order := fun_mk l6 c6 k6, g_is_order := PySem.W.mg_of X G a6, f_checked_pairs := f7, fd_checked_pairs := _, F_checked_pairs := fun_mk l7 c7 k7, g_checked_pairs := PySem.W.mg_of X G a7, f_ways_up := f8, fd_ways_up := _, F_ways_up := fun_mk l8 c8 k8, g_ways_up := PySem.W.mg_of X G a8, f_ring_of := f9, fd_ring_of := _, F_ring_of := fun_mk l9 c9 k9, g_ring_of := PySem.W.mg_of X G a9, f_order_of := f10, fd_order_of := _, F_order_of := fun_mk l10 c10 k10, g_order_of := PySem.W.mg_of X G a10, f_is_lot := f11, fd_is_lot := _, F_is_lot := fun_mk l11 c11 k11, g_is_lot := PySem.W.mg_of X G a11, f_lot_within := f12, fd_lot_within := _, F_lot_within := fun_mk l12 c12 k12, g_lot_within := PySem.W.mg_of X G a12, f_joined_lots := f13, fd_joined_lots := _, F_joined_lots := fun_mk l13 c13 k13, g_joined_lots := PySem.W.mg_of X G a13, f_watchers := f14, fd_watchers := _, F_watchers := fun_mk l14 c14 k14, g_watchers := PySem.W.mg_of X G a14, f_covered := f15, fd_covered := _, F_covered := fun_mk l15 c15 k15, g_covered := PySem.W.mg_of X G a15, f_is_input := f16, fd_is_input := _, F_is_input := fun_mk l16 c16 k16, g_is_input := PySem.W.mg_of X G a16, f_alike_inputs := f17, fd_alike_inputs := _, F_alike_inputs := fun_mk l17 c17 k17, g_alike_inputs := PySem.W.mg_of X G a17, f_is_deed := f18, fd_is_deed := _, F_is_deed := fun_mk l18 c18 k18, g_is_deed := PySem.W.mg_of X G a18, f_is_record := f19, fd_is_record := _, F_is_record := fun_mk l19 c19 k19, g_is_record := PySem.W.mg_of X G a19, f_is_seen := f20, fd_is_seen := _, F_is_seen := fun_mk l20 c20 k20, g_is_seen := PySem.W.mg_of X G a20, f_seen := f21, fd_seen := _, F_seen := fun_mk l21 c21 k21, g_seen := PySem.W.mg_of X G a21, f_cut_record := f22, fd_cut_record := _, F_cut_record := fun_mk l22 c22 k22, g_cut_record := PySem.W.mg_of X G a22, f__law_draw := f23, fd__law_draw := _, F__law_draw := fun_mk l23 c23 k23, g__law_draw := PySem.W.mg_of X G a23, f__law_any := f24, fd__law_any := _, F__law_any := fun_mk l24 c24 k24, g__law_any := PySem.W.mg_of X G a24, f__law_of := f25, fd__law_of := _, F__law_of := fun_mk l25 c25 k25, g__law_of := PySem.W.mg_of X G a25, f__law_size := f26, fd__law_size := _, F__law_size := fun_mk l26 c26 k26, g__law_size := PySem.W.mg_of X G a26, f__law_row := f27, fd__law_row := _, F__law_row := fun_mk l27 c27 k27, g__law_row := PySem.W.mg_of X G a27, f__law_closed := f28, fd__law_closed := _, F__law_closed := fun_mk l28 c28 k28, g__law_closed := PySem.W.mg_of X G a28, f__law_pairs := f29, fd__law_pairs := _, F__law_pairs := fun_mk l29 c29 k29, g__law_pairs := PySem.W.mg_of X G a29, f__law_refused := f30, fd__law_refused := _, F__law_refused := fun_mk l30 c30 k30, g__law_refused := PySem.W.mg_of X G a30, f__law_is_ring := f31, fd__law_is_ring := _, F__law_is_ring := fun_mk l31 c31 k31, g__law_is_ring := PySem.W.mg_of X G a31, f__law_within := f32, fd__law_within := _, F__law_within := fun_mk l32 c32 k32, g__law_within := PySem.W.mg_of X G a32, f__law_lots_hold := f33, fd__law_lots_hold := _, F__law_lots_hold := fun_mk l33 c33 k33, g__law_lots_hold := PySem.W.mg_of X G a33, f__law_order_spoilt := f34, fd__law_order_spoilt := _, F__law_order_spoilt := fun_mk l34 c34 k34, g__law_order_spoilt := PySem.W.mg_of X G a34, f__law_record := f35, fd__law_record := _, F__law_record := fun_mk l35 c35 k35, g__law_record := PySem.W.mg_of X G a35, f__law_records_hold := f36, fd__law_records_hold := _, F__law_records_hold := fun_mk l36 c36 k36, g__law_records_hold := PySem.W.mg_of X G a36, f__law_inputs_hold := f37, fd__law_inputs_hold := _, F__law_inputs_hold := fun_mk l37 c37 k37, g__law_inputs_hold := PySem.W.mg_of X G a37, f_law := _, fd_law := _, F_law := fun_mk l38 c38 k38, g_law := PySem.W.mg_of X G a38, v_MOST := .int 12, u_MOST := .int 12 tk0, m_MOST := PySem.W.mg_of X G q0, r_MOST := ⟨_, rfl⟩, c_MOST := rfl, n_isinstance := PySem.W.mg_none_of X G z_isinstance, n_bool := PySem.W.mg_none_of X G z_bool, n_int := PySem.W.mg_none_of X G z_int, n_tuple := PySem.W.mg_none_of X G z_tuple, n_list := PySem.W.mg_none_of X G z_list, n_len := PySem.W.mg_none_of X G z_len, n_all := PySem.W.mg_none_of X G z_all, n_range := PySem.W.mg_none_of X G z_range, n_enumerate := PySem.W.mg_none_of X G z_enumerate, n_sorted := PySem.W.mg_none_of X G z_sorted, n_set := PySem.W.mg_none_of X G z_set, n_abs := PySem.W.mg_none_of X G z_abs, n_min := PySem.W.mg_none_of X G z_min, n_dict := PySem.W.mg_none_of X G z_dict, n_max := PySem.W.mg_none_of X G z_max, n_repr := PySem.W.mg_none_of X G z_repr }, rfl, fun s u => .of_eq rfl⟩
end Ly.K76
namespace Ly.K76
open PySem PySem.Spec PyProof.Rows L2
section
variable {w : World} {K : PySem.W.Frag} {mg : Str → Option Value} {base : Heap} {B H : Hp} {p q : Addr}
theorem ok__law_draw (T : Top K mg) : GOk P0 w K mg base CX0 1 T.f__law_draw T.fd__law_draw ["script", "salt"] (sp__law_draw K) :=
  draw_ok T.F__law_draw sc__law_draw rfl fun cdv A outer s H E hg hr => d__law_draw T cdv A outer s H E hg hr
theorem ok__law_any (T : Top K mg) (NS : base.NoSeer) : GOk P0 w K mg base CX0 33 T.f__law_any T.fd__law_any ["deal", "bound"] (sp__law_any K) :=
  de_ok 1 T.F__law_any sc__law_any (fun ds ⟨b, e, _⟩ => by rw [e]; rfl) rfl fun cdv A outer s H E hg hr => ⟨_, d__law_any T cdv A outer s H E NS hg hr, fun B H p q ds hP => vs_any hP⟩
theorem ok__law_of (T : Top K mg) (NS : base.NoSeer) : GOk P0 w K mg base CX0 34 T.f__law_of T.fd__law_of ["deal", "some"] (sp__law_of K) :=
  de_ok 0 T.F__law_of sc__law_of (fun ds ⟨xs, e, _⟩ => by rcases e with rfl | rfl <;> rfl) rfl fun cdv A outer s H E hg hr => ⟨_, d__law_of T (ok__law_any T NS) cdv A outer s H E hg hr, fun B H p q ds hP => vs_of hP⟩
theorem ok_is_integer (T : Top K mg) : GOk P0 w K mg base CX0 1 T.f_is_integer T.fd_is_integer ["value"] (sp_is_integer K) :=
  pu_ok 0 T.F_is_integer sc_is_integer (fun ds ⟨d, e⟩ => by rw [e]; rfl) rfl fun cdv A outer s H E hg hr => ⟨_, d_is_integer T cdv A outer s H E hg hr, fun B H ds hP => vs_isInt hP⟩
theorem ok_is_number (T : Top K mg) : GOk P0 w K mg base CX0 2 T.f_is_number T.fd_is_number ["value"] (sp_is_number K) :=
  pu_ok 0 T.F_is_number sc_is_number (fun ds ⟨d, e⟩ => by rw [e]; rfl) rfl fun cdv A outer s H E hg hr => ⟨_, d_is_number T (ok_is_integer T) cdv A outer s H E hg hr, fun B H ds hP => vs_isNum hP⟩
theorem ok_is_index (T : Top K mg) : GOk P0 w K mg base CX0 3 T.f_is_index T.fd_is_index ["value", "many"] (sp_is_index K) :=
  pu_ok 0 T.F_is_index sc_is_index (fun ds ⟨d, n, e⟩ => by rw [e]; rfl) rfl fun cdv A outer s H E hg hr => ⟨_, d_is_index T (ok_is_number T) cdv A outer s H E hg hr, fun B H ds hP => vs_isIdx hP⟩
theorem ok_is_row_of (T : Top K mg) : GOk P0 w K mg base CX0 1 T.f_is_row_of T.fd_is_row_of ["value", "sizes"] (sp_is_row_of K) :=
  pu_ok 0 T.F_is_row_of sc_is_row_of (fun ds ⟨d, n, e⟩ => by rw [e]; rfl) rfl fun cdv A outer s H E hg hr => ⟨_, d_is_row_of T cdv A outer s H E hg hr, fun B H ds hP => vs_isRow hP⟩
def isLst : D → Bool
  | .list _ => true
  | _ => false
theorem vs_is_sequence (T : Top K mg) {ds : List D} (hP : P_is1 ds) : VS ⟨K, B, H, none⟩ (t_is_sequence T) (slots ds 0) { nx := fun _ => R_isSeq ds .none, rt := R_isSeq ds } := by
  obtain ⟨d, rfl⟩ := hP
  have fin : VE ⟨K, B, H, none⟩ (tCB (rIsAny K) (tCons (tVar 0) (tCons (tTup (tCons (tC (.ty "list")) (tCons (tC (.ty "tuple")) tNil))) tNil))) (slots [d] 0) (Is (.bool (isSeq d))) := by
    have h1 : kitB (tyName d) "list" = some (isLst d) := by cases d <;> rfl
    have h2 : kitB (tyName d) "tuple" = some (isTup d) := by cases d <;> rfl
    exact (ve_isi2 (ve_var rfl).v h1 h2).to (by cases d <;> rfl)
  exact vs_retD fin fun d' e => by
    injection e with e
    subst e
    rfl
theorem ok_is_sequence (T : Top K mg) : GOk P0 w K mg base CX0 1 T.f_is_sequence T.fd_is_sequence ["value"] (sp_is_sequence K) :=
  pu_ok 0 T.F_is_sequence sc_is_sequence (fun ds ⟨d, e⟩ => by rw [e]; rfl) rfl fun cdv A outer s H E hg hr => ⟨_, d_is_sequence T cdv A outer s H E hg hr, fun B H ds hP => vs_is_sequence T hP⟩
/-! rows -/
theorem row_at {rs : List (List Nat)} {i : Nat} (h : i < rs.length) : (rs.map tnD)[i]? = some (tnD (rs.getD i [])) := by
  rw [List.getElem?_map, List.getElem?_eq_getElem h, List.getD_eq_getElem?_getD, List.getElem?_eq_getElem h]
  rfl
theorem row_mem {rs : List (List Nat)} {i : Nat} (h : i < rs.length) : rs.getD i [] ∈ rs := by
  rw [List.getD_eq_getElem?_getD, List.getElem?_eq_getElem h]
  exact List.getElem_mem h
theorem isTup_is {x : D} (h : isTup x = true) : ∃ xs, x = .tuple xs := by
  cases x <;> first | exact ⟨_, rfl⟩ | cases h
section
variable {C : Cn} {te t2 : TE} {Γ : List Sl}
theorem ve_row {rs : List (List Nat)} {i : Nat} (h : VE C te Γ (Is (ordD rs))) (h2 : VE C t2 Γ (Is (.int (i : Nat)))) (hi : i < rs.length) : VE C (tOp (rIx C.K) te t2) Γ (Is (tnD (rs.getD i []))) := ve_opD h.v h2.v (od_ixT (atI_pos (row_at hi)))
theorem ve_inRow {r : List Nat} {x : Nat} (h : VE C te Γ (Is (.int (x : Nat)))) (h2 : VE C t2 Γ (Is (tnD r))) : VE C (tOp (rInA C.K) te t2) Γ (Is (.bool (r.contains x))) := (ve_opD h.v h2.v (od_inT rfl (flat_ints r))).to (congrArg PyData.bool (any_ints r x))
theorem ve_notRow {r : List Nat} {x : Nat} (h : VE C te Γ (Is (.int (x : Nat)))) (h2 : VE C t2 Γ (Is (tnD r))) : VE C (tOp (rNotInA C.K) te t2) Γ (Is (.bool (!r.contains x))) := (ve_opD h.v h2.v (od_notinT rfl (flat_ints r))).to (congrArg (fun b => PyData.bool (!b)) (any_ints r x))
theorem ve_num {r : List Nat} {i : Nat} (h : VE C te Γ (Is (tnD r))) (h2 : VE C t2 Γ (Is (.int (i : Nat)))) (hi : i < r.length) : VE C (tOp (rIx C.K) te t2) Γ (Is (.int (r.getD i 0 : Nat))) :=
  ve_opD h.v h2.v (od_ixT (atI_pos (by rw [List.getElem?_map, List.getElem?_eq_getElem hi, List.getD_eq_getElem?_getD, List.getElem?_eq_getElem hi]; rfl)))
theorem vi_rngZ {z : Int} (h : VE C te Γ (Is (.int z))) (hn : z ≤ 1000000000000) (hm : -1000000000000 ≤ z) : VI C (iRng1 (tCons te tNil)) Γ (Is ((List.range z.toNat).map fun (i : Nat) => PyData.int (i : Nat))) := by
  have e : upTo 0 z.toNat = (List.range z.toNat).map fun (i : Nat) => PyData.int (i : Nat) := by
    unfold upTo
    exact List.map_congr_left fun i _ => by rw [Int.zero_add]
  rw [← e]
  exact vi_rng1D h hn hm
theorem ne_nat (a b : Nat) : (!decide ((a : Int) = (b : Int))) = (a != b) := by
  by_cases h : a = b
  · subst h
    simp
  · have : ¬ ((a : Int) = (b : Int)) := by omega
    rw [decide_eq_false this, bne_iff_ne.mpr h]
    rfl
theorem lt_nat (a b : Nat) : decide ((a : Int) < (b : Int)) = decide (a < b) := decide_eq_decide.mpr (by omega)
end
theorem idx_ns {n : Nat} : ∀ {xs : List D}, xs.all (isIdx (n : Nat)) = true → ∃ ns : List Nat, xs = nsD ns ∧ ∀ k ∈ ns, k < n
  | [], _ => ⟨[], rfl, fun _ h => nomatch h⟩
  | x :: xs, h => by
    rw [List.all_cons, Bool.and_eq_true] at h
    obtain ⟨ns, rfl, hn⟩ := idx_ns h.2
    cases x with
    | int i =>
      have h1 : (decide (0 ≤ i) && decide (i < (n : Int))) = true := h.1
      rw [Bool.and_eq_true, decide_eq_true_eq, decide_eq_true_eq] at h1
      refine ⟨i.toNat :: ns, ?_, fun k hk => ?_⟩
      · show _ = PyData.int ((i.toNat : Nat) : Int) :: _
        rw [Int.toNat_of_nonneg h1.1]
      · rcases List.mem_cons.mp hk with rfl | hk
        · omega
        · exact hn k hk
    | _ => exact absurd (show false = true from h.1) (by decide)
theorem ns_idx {n : Nat} {ns : List Nat} (h : ∀ k ∈ ns, k < n) : (nsD ns).all (isIdx (n : Nat)) = true := by
  rw [List.all_map, List.all_eq_true]
  intro k hk
  show (decide ((0 : Int) ≤ (k : Nat)) && decide (((k : Nat) : Int) < (n : Nat))) = true
  have := h k hk
  rw [decide_eq_true (by omega), decide_eq_true (by omega)]
  rfl
theorem natOf_ns (ns : List Nat) : (nsD ns).map natOf = ns := by
  rw [List.map_map]
  conv => rhs; rw [← List.map_id ns]
  exact List.map_congr_left fun k _ => rfl
theorem adj_iff : ∀ ns : List Nat, ((List.range (ns.length - 1)).all fun i => decide (ns.getD i 0 < ns.getD (i + 1) 0)) = true ↔ List.Pairwise (fun (x y : Nat) => x < y) ns
  | [] => by simp
  | [a] => by simp
  | a :: b :: l => by
    have ih := adj_iff (b :: l)
    have e1 : (a :: b :: l).length - 1 = ((b :: l).length - 1) + 1 := by simp
    rw [e1, List.range_succ_eq_map, List.all_cons, List.all_map]
    have e2 : ((fun i => decide ((a :: b :: l).getD i 0 < (a :: b :: l).getD (i + 1) 0)) ∘ Nat.succ) = fun i => decide ((b :: l).getD i 0 < (b :: l).getD (i + 1) 0) := by
      funext i
      rfl
    rw [e2, Bool.and_eq_true, ih, decide_eq_true_eq]
    refine Iff.trans ?_ List.pairwise_cons.symm
    show a < b ∧ _ ↔ _
    refine ⟨fun ⟨h, hp⟩ => ⟨fun y hy => ?_, hp⟩, fun ⟨h, hp⟩ => ⟨h b (List.mem_cons_self ..), hp⟩⟩
    rcases List.mem_cons.mp hy with rfl | hy
    · exact h
    · exact Nat.lt_trans h ((List.pairwise_cons.mp hp).1 y hy)
theorem adj_all (ns : List Nat) : ((List.range (ns.length - 1)).all fun i => decide (ns.getD i 0 < ns.getD (i + 1) 0)) = decide (List.Pairwise (fun (x y : Nat) => x < y) ns) := by
  rw [Bool.eq_iff_iff, adj_iff, decide_eq_true_eq]
theorem vs_is_rising (T : Top K mg) {a : D × Nat} (hP : P_is_rising a) : VS ⟨K, B, H, none⟩ (t_is_rising T) (slots (A_is_rising a) 2) { nx := fun _ => R_is_rising a .none, rt := R_is_rising a } := by
  obtain ⟨x, n⟩ := a
  obtain ⟨h1, h2⟩ := hP
  by_cases hx : isTup x = true
  · obtain ⟨xs, rfl⟩ := isTup_is hx
    have hl : xs.length ≤ 1000 := h1
    refine vq_ifD (x := !(xs.all (isIdx (n : Nat)))) ((vt_orD (b := false) (c := !xs.all (isIdx (n : Nat))) ((vt_notD (vt_BD (ve_isTup (ve_var rfl).v))).to rfl) fun _ => vt_notD (vt_BD (ve_allM (m := id) (isIdx (n : Nat)) (va_tupI (ve_var rfl)) (by omega) fun y _ => ⟨_, _, vg_name, fun j hj => hj, call_isIdx (ve_var rfl) (ve_var rfl)⟩))).to (Bool.false_or _)) (fun h => vq_leave (vs_retD ve_bl ?_)) fun h => vq_next ?_
    · have h : xs.all (isIdx (n : Nat)) = false := by simpa using h
      show PyData.bool false = .bool (xs.all _ && _)
      rw [h]
      rfl
    · have ha : xs.all (isIdx (n : Nat)) = true := by simpa using h
      obtain ⟨ns, rfl, hns⟩ := idx_ns ha
      have hl : ns.length ≤ 1000 := by rw [List.length_map] at hl; exact hl
      refine vs_retD (ve_allM (m := fun (i : Nat) => PyData.int (i : Nat)) (fun i : Nat => decide (ns.getD i 0 < ns.getD (i + 1) 0)) (vi_rngZ (z := (ns.length : Nat) - 1) ((ve_opD (ve_lenT (ve_var rfl)).v ve_int.v od_sub).to (by rw [List.length_map])) (by omega) (by omega)) (by rw [List.length_range]; omega) fun i hi => ⟨_, _, vg_name, fun j hj => hj, ?_⟩) ?_
      · have hi := List.mem_range.mp hi
        refine (ve_opD (ve_num (ve_var rfl) (ve_var rfl) (by omega)).v (ve_num (i := i + 1) (ve_var rfl) ((ve_opD (ve_var rfl).v ve_int.v od_add).to rfl) (by omega)).v od_lt).to ?_
        rw [lt_nat]
      · show PyData.bool _ = .bool ((nsD ns).all _ && decide (List.Pairwise _ ((nsD ns).map natOf)))
        rw [ha, natOf_ns, Bool.true_and, ← adj_all]
        congr 3
        omega
  · have hx := Bool.eq_false_iff.mpr hx
    refine vq_ifD (x := true) ((vt_orD (b := true) (c := true) ((vt_notD (vt_BD (ve_isTup (ve_var rfl).v))).to (by rw [hx]; rfl)) fun h => by cases h).to rfl) (fun _ => vq_leave (vs_retD ve_bl ?_)) (fun h => by cases h)
    show PyData.bool false = .bool (isRis n x)
    cases x <;> first | rfl | cases hx
theorem ok_is_rising (T : Top K mg) : GOk P0 w K mg base CX0 4 T.f_is_rising T.fd_is_rising ["value", "many"] (sp_is_rising K) :=
  pa_ok 2 T.F_is_rising sc_is_rising (fun _ => rfl) rfl fun cdv A outer s H E hg hr => ⟨_, d_is_rising T (ok_is_index T) cdv A outer s H E hg hr, fun B H a hP => vs_is_rising T hP⟩
end
end Ly.K76
namespace Ly.K76
open PySem PySem.Spec PyProof.Rows L2
section
variable {w : World} {K : PySem.W.Frag} {mg : Str → Option Value} {base : Heap} {B H : Hp} {p q : Addr} {E : XK}
theorem notT {b : Bool} (h : (!b) = true) : b = false := by cases b <;> first | rfl | cases h
theorem notF {b : Bool} (h : (!b) = false) : b = true := by cases b <;> first | rfl | cases h
theorem ve_most {C : Cn} {Γ : List Sl} {v : V} (e : v = .int 12) : VE C (tC v) Γ (Is (.int 12)) := by
  rw [e]
  exact ve_int
theorem vi_items {C : Cn} {Γ : List Sl} {t : TE} {d : D} (h : VE C t Γ (Is d)) (s : isSeq d = true) : VI C (iAny C.K t) Γ (Is (itemsOf d)) := by
  cases d with
  | list xs => exact va_listD h
  | tuple xs => exact va_tupD h
  | _ => cases s
/-! ### is_order -/
/-- the rows from one level on -/
def lvOk (rs : List (List Nat)) (l : Nat) : Bool := (rs.getD l []).contains l && (rs.getD l []).all fun x => !(x != l && (rs.getD x []).contains l) && (rs.getD x []).all fun y => (rs.getD l []).contains y
theorem ordOk_eq (rs : List (List Nat)) : ordOk rs = (List.range rs.length).all (lvOk rs) := rfl
theorem all_false {α : Type} {f : α → Bool} {xs : List α} {x : α} (h : x ∈ xs) (e : f x = false) : xs.all f = false := by
  rw [List.all_eq_false]
  exact ⟨x, h, by rw [e]; exact Bool.false_ne_true⟩
theorem ris_rows {n : Nat} : ∀ {xs : List D}, xs.all (isRis n) = true → ∃ rs : List (List Nat), xs = rs.map tnD ∧ ∀ r ∈ rs, (∀ x ∈ r, x < n) ∧ r.Pairwise (· < ·)
  | [], _ => ⟨[], rfl, fun _ h => nomatch h⟩
  | x :: xs, h => by
    rw [List.all_cons, Bool.and_eq_true] at h
    obtain ⟨rs, rfl, hr⟩ := ris_rows h.2
    cases x with
    | tuple ys =>
      have h1 : (ys.all (isIdx (n : Nat)) && decide (List.Pairwise (fun (x y : Nat) => x < y) (ys.map natOf))) = true := h.1
      rw [Bool.and_eq_true, decide_eq_true_eq] at h1
      obtain ⟨ns, rfl, hn⟩ := idx_ns h1.1
      rw [natOf_ns] at h1
      refine ⟨ns :: rs, rfl, fun r hm => ?_⟩
      rcases List.mem_cons.mp hm with rfl | hm
      · exact ⟨hn, h1.2⟩
      · exact hr r hm
    | _ => exact absurd (show false = true from h.1) (by decide)
theorem rowOf_rows (rs : List (List Nat)) : (rs.map tnD).map rowOf = rs := by
  rw [List.map_map]
  conv => rhs; rw [← List.map_id rs]
  exact List.map_congr_left fun r _ => natOf_ns r
theorem rows_ris {n : Nat} {rs : List (List Nat)} (h : ∀ r ∈ rs, (∀ x ∈ r, x < n) ∧ r.Pairwise (· < ·)) : (rs.map tnD).all (isRis n) = true := by
  rw [List.all_map, List.all_eq_true]
  intro r hr
  show ((nsD r).all (isIdx (n : Nat)) && decide (List.Pairwise (fun (x y : Nat) => x < y) ((nsD r).map natOf))) = true
  rw [ns_idx (h r hr).1, natOf_ns, decide_eq_true (h r hr).2]
  rfl
theorem isOrd_rows {rs : List (List Nat)} (h1 : 1 ≤ rs.length) (h2 : rs.length ≤ 12) (h : ∀ r ∈ rs, (∀ x ∈ r, x < rs.length) ∧ r.Pairwise (· < ·)) : isOrd (ordD rs) = ordOk rs := by
  show (decide (1 ≤ (rs.map tnD).length) && decide ((rs.map tnD).length ≤ 12) && (rs.map tnD).all (isRis (rs.map tnD).length) && ordOk ((rs.map tnD).map rowOf)) = _
  rw [List.length_map, decide_eq_true h1, decide_eq_true h2, rows_ris h, rowOf_rows]
  rfl
theorem vs_is_order (T : Top K mg) {a : D} (hP : P_is_order a) : VS ⟨K, B, H, none⟩ (t_is_order T) (slots (A_is_order a) 4) { nx := fun _ => R_is_order a .none, rt := R_is_order a } := by
  by_cases hx : isTup a = true
  · obtain ⟨xs, rfl⟩ := isTup_is hx
    obtain ⟨hl, hs⟩ : xs.length ≤ 1000 ∧ ∀ x ∈ xs, small x := hP
    have hch : VT ⟨K, B, H, none⟩ (tTest (tChain rLeA rLeA (tC (.int 1)) (tCB (rLen K) (tCons (tVar 0) tNil)) (tC T.v_MOST))) [.dat (.tuple xs), .no, .no, .no, .no] (Is (decide (1 ≤ xs.length) && decide (xs.length ≤ 12))) := by
      refine (vt_testD (ve_chainD ve_int (ve_lenT (ve_var rfl)) od_le (ve_most T.c_MOST).v od_le)).to ?_
      congr 1
      · exact decide_eq_decide.mpr (by omega)
      · exact decide_eq_decide.mpr (by omega)
    refine vq_ifD (x := !(decide (1 ≤ xs.length) && decide (xs.length ≤ 12))) ((vt_orD (b := false) ((vt_notD (vt_BD (ve_isTup (ve_var rfl).v))).to rfl) fun _ => vt_notD hch).to (Bool.false_or _)) (fun h => vq_leave (vs_retD ve_bl ?_)) fun h => vq_next ?_
    · have h := notT h
      show PyData.bool false = .bool (decide (1 ≤ xs.length) && decide (xs.length ≤ 12) && _ && _)
      rw [h]
      rfl
    have hlen := notF h
    have h12 : 1 ≤ xs.length ∧ xs.length ≤ 12 := by simpa using hlen
    refine vq_ifD (x := !(xs.all (isRis xs.length))) (vt_notD (vt_BD (ve_allM (m := id) (isRis xs.length) (va_tupI (ve_var rfl)) (by omega) fun y hy => ⟨_, _, vg_name, fun j hj => hj, (ve_callA (y, xs.length) (va_consD (ve_var rfl) (va_consD (ve_lenT (ve_var rfl)) va_nil)) ⟨hs y hy, hl⟩).imp fun d e => e⟩))) (fun h => vq_leave (vs_retD ve_bl ?_)) fun h => vq_next ?_
    · have h : xs.all (isRis xs.length) = false := by simpa using h
      show PyData.bool false = .bool (_ && xs.all (isRis xs.length) && _)
      rw [h, Bool.and_false, Bool.false_and]
    have hr : xs.all (isRis xs.length) = true := by simpa using h
    obtain ⟨rs, rfl, hrs⟩ := ris_rows hr
    rw [List.length_map] at h12 hrs
    have rowl : ∀ l, l < rs.length → (rs.getD l []).length ≤ 12 := fun l hl => by
      obtain ⟨k1, k2⟩ := hrs _ (row_mem hl)
      have := up_len k2 (lo := 0) (hi := rs.length) fun x hx => ⟨Nat.zero_le _, k1 x hx⟩
      omega
    have hO := isOrd_rows (rs := rs) h12.1 h12.2 hrs
    have no : ∀ l, l < rs.length → lvOk rs l = false → R_is_order (ordD rs) (.bool false) := fun l hl e => by
      show PyData.bool false = .bool (isOrd (ordD rs))
      rw [hO, ordOk_eq, all_false (List.mem_range.mpr hl) e]
    refine vs_seq (fun Γ => ∃ s1 s2 s3 s4, Γ = [.dat (ordD rs), s1, s2, s3, s4] ∧ ∀ l, l < rs.length → lvOk rs l = true) ?_ fun Γ ⟨s1, s2, s3, s4, e, hk⟩ => ?_
    · refine vs_for (vi_enumT (ds := rs.map tnD) (ve_var rfl)) fun ds e => ?_
      cases e
      refine ⟨fun i Γ => ∃ s1 s2 s3 s4, Γ = [.dat (ordD rs), s1, s2, s3, s4] ∧ ∀ l, l < i → lvOk rs l = true, ⟨_, _, _, _, rfl, fun l h => by omega⟩, ?_, fun Γ' ⟨s1, s2, s3, s4, e, h⟩ => ⟨s1, s2, s3, s4, e, fun l hl => h l (by rw [enumD_len, List.length_map]; exact hl)⟩⟩
      rintro i d Γ' hd ⟨s1, s2, s3, s4, rfl, hk⟩
      obtain ⟨x, hx, rfl⟩ := enumD_get hd
      have hi : i < rs.length := by
        have := (List.getElem?_eq_some_iff.mp hx).1
        rw [List.length_map] at this
        exact this
      rw [row_at hi] at hx
      cases hx
      refine ⟨_, _, vg_tup2 vg_name vg_name, ?_⟩
      show VS _ _ [.dat (ordD rs), .dat (tnD (rs.getD i [])), .dat (.int (i : Nat)), s3, s4] _
      refine vq_ifD (vt_testD (ve_notRow (ve_var rfl) (ve_var rfl))) (fun h => vq_leave (vs_retD ve_bl (no i hi ?_))) fun h => vq_next ?_
      · have h : (rs.getD i []).contains i = false := by simpa using h
        unfold lvOk
        rw [h, Bool.false_and]
      have hc : (rs.getD i []).contains i = true := by simpa using h
      have inn := (hrs _ (row_mem hi)).1
      refine vs_for (va_tupD (ds := nsD (rs.getD i [])) (ve_var rfl)) fun ds e => ?_
      cases e
      refine ⟨fun j Γ => ∃ s3 s4, Γ = [.dat (ordD rs), .dat (tnD (rs.getD i [])), .dat (.int (i : Nat)), s3, s4] ∧ ∀ k, k < j → ∀ x, (rs.getD i [])[k]? = some x → (!(x != i && (rs.getD x []).contains i) && (rs.getD x []).all fun y => (rs.getD i []).contains y) = true,
        ⟨_, _, rfl, fun k h => by omega⟩, ?_, fun Γ' ⟨s3, s4, e, h⟩ => ⟨_, _, s3, s4, e, fun l hl => ?_⟩⟩
      · rintro j d Γ' hd ⟨s3, s4, rfl, hj⟩
        rw [List.getElem?_map] at hd
        obtain ⟨x, hx, rfl⟩ := Option.map_eq_some_iff.mp hd
        have hxm := List.mem_of_getElem? hx
        have hxn := inn x hxm
        refine ⟨_, _, vg_name, ?_⟩
        show VS _ _ [.dat (ordD rs), .dat (tnD (rs.getD i [])), .dat (.int (i : Nat)), .dat (.int (x : Nat)), s4] _
        have bad : (!(x != i && (rs.getD x []).contains i) && (rs.getD x []).all fun y => (rs.getD i []).contains y) = false → lvOk rs i = false := fun e => by
          unfold lvOk
          rw [hc, Bool.true_and]
          exact all_false hxm e
        refine vq_ifD (x := x != i && (rs.getD x []).contains i) (vt_andD ((vt_testD (ve_opD (ve_var rfl).v (ve_var rfl).v od_neI)).to (ne_nat x i)) fun _ => vt_testD (ve_inRow (ve_var rfl) (ve_row (ve_var rfl) (ve_var rfl) hxn))) (fun h => vq_leave (vs_retD ve_bl (no i hi (bad ?_)))) fun h => vq_next ?_
        · rw [h]
          rfl
        refine vs_ifD (x := !((rs.getD x []).all fun y => (rs.getD i []).contains y)) (vt_notD (vt_BD (ve_allM (m := fun n : Nat => PyData.int (n : Nat)) (fun y => (rs.getD i []).contains y) (va_tupD (ve_row (ve_var rfl) (ve_var rfl) hxn)) (Nat.le_trans (rowl x hxn) (by decide)) fun y _ => ⟨_, _, vg_name, fun j hj => hj, ve_inRow (ve_var rfl) (ve_var rfl)⟩))) (fun h2 => vs_retD ve_bl (no i hi (bad ?_))) fun h2 => vs_next ⟨_, _, rfl, fun k hk y hy => ?_⟩
        · have h2 : ((rs.getD x []).all fun y => (rs.getD i []).contains y) = false := by simpa using h2
          rw [h2, Bool.and_false]
        · by_cases e : k = j
          · subst e
            rw [hx] at hy
            cases hy
            rw [h]
            simpa using h2
          · exact hj k (by omega) y hy
      · by_cases e2 : l = i
        · subst e2
          unfold lvOk
          rw [hc, Bool.true_and, List.all_eq_true]
          intro x hx
          obtain ⟨k, hk⟩ := List.getElem?_of_mem hx
          exact h k (by rw [List.length_map]; exact (List.getElem?_eq_some_iff.mp hk).1) x hk
        · exact hk l (by omega)
    · subst e
      refine vs_retD ve_bl ?_
      show PyData.bool true = .bool (isOrd (ordD rs))
      rw [hO, ordOk_eq, List.all_eq_true.mpr fun l hl => hk l (List.mem_range.mp hl)]
  · have hx := Bool.eq_false_iff.mpr hx
    refine vq_ifD (x := true) ((vt_orD (b := true) (c := true) ((vt_notD (vt_BD (ve_isTup (ve_var rfl).v))).to (by rw [hx]; rfl)) fun h => by cases h).to rfl) (fun _ => vq_leave (vs_retD ve_bl ?_)) (fun h => by cases h)
    show PyData.bool false = .bool (isOrd a)
    cases a <;> first | rfl | cases hx
theorem ok_is_order (T : Top K mg) : GOk P0 w K mg base CX0 5 T.f_is_order T.fd_is_order ["value"] (sp_is_order K) :=
  pa_ok 4 T.F_is_order sc_is_order (fun _ => rfl) rfl fun cdv A outer s H E hg hr => ⟨_, d_is_order T (ok_is_rising T) cdv A outer s H E hg hr, fun B H a hP => vs_is_order T hP⟩
/-! ### checked_pairs -/
theorem pairOk_no {n : Nat} {x : D} (h : isRow [2] x = false) : pairOk n x = false := by
  cases x with
  | tuple xs =>
    have h : [2].contains xs.length = false := h
    have h : ¬ xs.length = 2 := by simpa using h
    show (decide (xs.length = 2) && _) = false
    rw [decide_eq_false h, Bool.false_and]
  | _ => rfl
theorem vs_checked_pairs (T : Top K mg) {a : AskO} (hP : P_checked_pairs a) (t : Tks ⟨K, B, H, none⟩ T.X_InvalidOrder.C "at" (W_checked_pairs a) E) :
    VS ⟨K, B, H, none⟩ (t_checked_pairs T E) (slots (A_checked_pairs a) 2) { nx := fun _ => R_checked_pairs a .none, rt := R_checked_pairs a } := by
  obtain ⟨lv, pr⟩ := a
  obtain ⟨hl, hl2⟩ := hP
  have hl : (itemsOf pr).length ≤ 1000 := hl
  have hl2 : ∀ x ∈ itemsOf pr, (itemsOf x).length ≤ 1000 := hl2
  have rz : ∀ {Γ : List Sl} {po : Po} {ta : TA} {n : D}, VA ⟨K, B, H, none⟩ ta Γ (Is [n]) → W_checked_pairs ⟨lv, pr⟩ n → VS ⟨K, B, H, none⟩ (tRz K T.X_InvalidOrder.C "at" ta E) Γ po := fun h w => vs_rz (c := ⟨K, B, H, none⟩) T.X_InvalidOrder t h w
  have c1 : VE ⟨K, B, H, none⟩ (tCallK (sp_is_integer K) (fun vs _ => vs) E0 (tCons (tVar 0) tNil) tNil) [.dat lv, .dat pr, .no, .no] (Is (.bool (isInt lv))) := (ve_callD (va_consD (ve_var rfl) va_nil) ⟨lv, rfl⟩).imp fun r k => k lv rfl
  by_cases hi : isInt lv = true
  · obtain ⟨i, rfl⟩ : ∃ i, lv = .int i := by
      cases lv <;> first | exact ⟨_, rfl⟩ | cases hi
    have hch : VT ⟨K, B, H, none⟩ (tTest (tChain rLeA rLeA (tC (.int 1)) (tVar 0) (tC T.v_MOST))) [.dat (.int i), .dat pr, .no, .no] (Is (decide (1 ≤ i) && decide (i ≤ 12))) :=
      vt_testD (ve_chainD ve_int (ve_var rfl) od_le (ve_most T.c_MOST).v od_le)
    refine vq_ifD (x := !(decide (1 ≤ i) && decide (i ≤ 12))) ((vt_orD (b := false) ((vt_notD (vt_BD c1)).to rfl) fun _ => vt_notD hch).to (Bool.false_or _)) (fun h => vq_leave (rz (n := .int 0) (va_consD ve_int va_nil) ⟨0, ?_, rfl⟩)) fun h => vq_next ?_
    · have h : ¬ (1 ≤ i ∧ i ≤ 12) := by
        rintro ⟨z1, z2⟩
        rw [decide_eq_true z1, decide_eq_true z2] at h
        cases h
      show (if 1 ≤ i ∧ i ≤ 12 then _ else some 0) = some 0
      rw [if_neg h]
    have h12 : 1 ≤ i ∧ i ≤ 12 := by simpa using h
    have hn : ((i.toNat : Nat) : Int) = i := Int.toNat_of_nonneg (by omega)
    have chk_eq : chk (.int i) pr = if isSeq pr = true ∧ (itemsOf pr).all (pairOk i.toNat) = true then none else some 1 := if_pos h12
    have c2 : VE ⟨K, B, H, none⟩ (tCallK (sp_is_sequence K) (fun vs _ => vs) E0 (tCons (tVar 1) tNil) tNil) [.dat (.int i), .dat pr, .no, .no] (Is (.bool (isSeq pr))) := (ve_callD (va_consD (ve_var rfl) va_nil) ⟨pr, rfl⟩).imp fun r k => k pr rfl
    refine vq_ifD (x := !(isSeq pr)) (vt_notD (vt_BD c2)) (fun h => vq_leave (rz (n := .int 1) (va_consD ve_int va_nil) ⟨1, ?_, rfl⟩)) fun h => vq_next ?_
    · have h : isSeq pr = false := by simpa using h
      show chk (.int i) pr = some 1
      rw [chk_eq, if_neg (fun z => by rw [h] at z; cases z.1)]
    have hs : isSeq pr = true := by simpa using h
    have bad : ∀ x ∈ itemsOf pr, pairOk i.toNat x = false → W_checked_pairs ⟨.int i, pr⟩ (.int 1) := fun x hx e => by
      refine ⟨1, ?_, rfl⟩
      show chk (.int i) pr = some 1
      rw [chk_eq, if_neg (fun z => by have := List.all_eq_true.mp z.2 x hx; rw [e] at this; cases this)]
    refine vs_for (vi_items (d := pr) (ve_var rfl) hs) fun ds e => ?_
    cases e
    refine ⟨fun j Γ => ∃ s2 s3, Γ = [.dat (.int i), .dat pr, s2, s3] ∧ ∀ k, k < j → ∀ x, (itemsOf pr)[k]? = some x → pairOk i.toNat x = true, ⟨_, _, rfl, fun k h => by omega⟩, ?_, fun Γ' ⟨s2, s3, e, h⟩ => ⟨rfl, ?_⟩⟩
    · rintro j x Γ' hx ⟨s2, s3, rfl, hj⟩
      have hxm := List.mem_of_getElem? hx
      refine ⟨_, _, vg_name, ?_⟩
      show VS _ _ [.dat (.int i), .dat pr, .dat x, s3] _
      have c3 : VT ⟨K, B, H, none⟩ (tNot (tB (tCallK (sp_is_row_of K) (fun vs _ => vs) E0 (tCons (tVar 2) (tCons (tTup (tCons (tC (.int 2)) tNil)) tNil)) tNil))) [.dat (.int i), .dat pr, .dat x, s3] (Is (!isRow [2] x)) :=
        vt_notD (vt_BD (call_isRow [2] (ve_var rfl) ((ve_tupD (va_consD ve_int va_nil)).to rfl)))
      have fin : VT ⟨K, B, H, none⟩ (tOr (tNot (tB (tCallK (sp_is_row_of K) (fun vs _ => vs) E0 (tCons (tVar 2) (tCons (tTup (tCons (tC (.int 2)) tNil)) tNil)) tNil))) (tNot (tB (tCB (rAll K) (tCons (tLc (iAny K (tVar 2)) (gName 3) tYes (tCallK (sp_is_index K) (fun vs _ => vs) E0 (tCons (tVar 3) (tCons (tVar 0) tNil)) tNil) [3]) tNil))))) [.dat (.int i), .dat pr, .dat x, s3] (Is (!pairOk i.toNat x)) := by
        cases hr : isRow [2] x with
        | false =>
          refine (vt_orD (b := true) (c := true) (c3.to (by rw [hr]; rfl)) fun h => by cases h).to ?_
          rw [pairOk_no hr]
          rfl
        | true =>
          obtain ⟨xs, rfl⟩ : ∃ xs, x = .tuple xs := by
            cases x <;> first | exact ⟨_, rfl⟩ | cases hr
          have hr : [2].contains xs.length = true := hr
          have hxl : xs.length = 2 := by simpa using hr
          refine (vt_orD (b := false) (c := !xs.all (isIdx i)) (c3.to (by show (![2].contains xs.length) = false; rw [hr]; rfl)) fun _ => vt_notD (vt_BD (ve_allM (m := id) (isIdx i) (va_tupI (ve_var rfl)) (by omega) fun y _ => ⟨_, _, vg_name, fun j hj => hj, call_isIdx (ve_var rfl) (ve_var rfl)⟩))).to ?_
          show (!xs.all (isIdx i)) = !(decide (xs.length = 2) && xs.all (isIdx ((i.toNat : Nat) : Int)))
          rw [hn, decide_eq_true hxl, Bool.true_and]
      refine vs_ifD fin (fun h => rz (n := .int 1) (va_consD ve_int va_nil) (bad x hxm (by simpa using h))) fun h => vs_next ⟨_, _, rfl, fun k hk y hy => ?_⟩
      by_cases e : k = j
      · subst e
        rw [hx] at hy
        cases hy
        simpa using h
      · exact hj k (by omega) y hy
    · show chk (.int i) pr = none
      rw [chk_eq, if_pos ⟨hs, List.all_eq_true.mpr fun x hx => by
        obtain ⟨k, hk⟩ := List.getElem?_of_mem hx
        exact h k (List.getElem?_eq_some_iff.mp hk).1 x hk⟩]
  · have hi := Bool.eq_false_iff.mpr hi
    refine vq_ifD (x := true) ((vt_orD (b := true) (c := true) ((vt_notD (vt_BD c1)).to (by rw [hi]; rfl)) fun h => by cases h).to rfl) (fun _ => vq_leave (rz (n := .int 0) (va_consD ve_int va_nil) ⟨0, ?_, rfl⟩)) (fun h => by cases h)
    cases lv <;> first | rfl | cases hi
theorem ok_checked_pairs (T : Top K mg) : GOk P0 w K mg base (L2.CX P0 w) 4 T.f_checked_pairs T.fd_checked_pairs ["levels", "pairs"] (sp_checked_pairs T) :=
  pxa_ok 2 T.F_checked_pairs sc_checked_pairs (fun _ => rfl) rfl fun cdv A outer s H E hg hr tk => ⟨_, d_checked_pairs T (G_is_integer := ok_is_integer T) (G_is_sequence := ok_is_sequence T) (G_is_row_of := ok_is_row_of T) (G_is_index := ok_is_index T) cdv A outer s H E hg hr tk, fun B H a hP t => vs_checked_pairs T hP t⟩
end
end Ly.K76
namespace Ly.K76
open PySem PySem.Spec PyProof.Rows L2
/-! ### ways up, plain -/
abbrev keys (kvs : List (Nat × Nat)) : List Nat := kvs.map Prod.fst
/-- all that is one step on from x is there -/
def Cl (ps : List (Nat × Nat)) (ks : List Nat) (x : Nat) : Prop := ∀ h, (x, h) ∈ ps → h ≠ x → h ∈ ks
structure WI (n : Nat) (ps : List (Nat × Nat)) (l : Nat) (kvs : List (Nat × Nat)) : Prop where
  nd : (keys kvs).Nodup
  lt : ∀ k ∈ keys kvs, k < n
  from_ : ∀ (i k o : Nat), kvs[i]? = some (k, o) → (o, k) ∈ ps ∧ o ≠ k ∧ (o = l ∨ ∃ j p : Nat, j < i ∧ kvs[j]? = some (o, p))
theorem nd_len : ∀ {n : Nat} {xs : List Nat}, xs.Nodup → (∀ x ∈ xs, x < n) → xs.length ≤ n
  | 0, [], _, _ => Nat.le_refl _
  | 0, x :: _, _, k => absurd (k x (List.mem_cons_self ..)) (Nat.not_lt_zero _)
  | n + 1, xs, h, k => by
    by_cases hm : n ∈ xs
    · have := nd_len (n := n) (xs := xs.erase n) (h.erase n) fun x hx => by
        have h1 := h.mem_erase_iff.mp hx
        have h2 := k x h1.2
        have h3 := h1.1
        omega
      rw [List.length_erase_of_mem hm] at this
      omega
    · have := nd_len (n := n) h fun x hx => by
        have h2 := k x hx
        have h3 : x ≠ n := fun z => hm (z ▸ hx)
        omega
      omega
theorem WI.len {n l : Nat} {ps kvs : List (Nat × Nat)} (w : WI n ps l kvs) : kvs.length ≤ n := by
  have := nd_len w.nd w.lt
  rwa [List.length_map] at this
theorem key_at {kvs : List (Nat × Nat)} {x : Nat} (h : x ∈ keys kvs) : ∃ i p : Nat, i < kvs.length ∧ kvs[i]? = some (x, p) := by
  obtain ⟨⟨a, b⟩, hm, rfl⟩ := List.mem_map.mp h
  obtain ⟨i, hi⟩ := List.getElem?_of_mem hm
  exact ⟨i, b, (List.getElem?_eq_some_iff.mp hi).1, hi⟩
theorem WI.add {n l o h : Nat} {ps kvs : List (Nat × Nat)} (w : WI n ps l kvs) (hp : (o, h) ∈ ps) (ne : h ≠ o) (hh : h < n) (new : h ∉ keys kvs) (ho : o = l ∨ o ∈ keys kvs) : WI n ps l (kvs ++ [(h, o)]) := by
  have e : keys (kvs ++ [(h, o)]) = keys kvs ++ [h] := List.map_append
  refine ⟨?_, fun k hk => ?_, fun i k p hi => ?_⟩
  · rw [e]
    refine List.nodup_append.mpr ⟨w.nd, by simp, fun a ha b hb z => ?_⟩
    rw [List.mem_singleton.mp hb] at z
    exact new (z ▸ ha)
  · rw [e] at hk
    rcases List.mem_append.mp hk with hk | hk
    · exact w.lt k hk
    · rw [List.mem_singleton.mp hk]
      exact hh
  · by_cases hlt : i < kvs.length
    · rw [List.getElem?_append_left hlt] at hi
      obtain ⟨a, b, c⟩ := w.from_ i k p hi
      refine ⟨a, b, c.imp id fun ⟨j, q, hj, e⟩ => ⟨j, q, hj, ?_⟩⟩
      rw [List.getElem?_append_left (by omega)]
      exact e
    · rw [List.getElem?_append_right (by omega)] at hi
      have : i - kvs.length = 0 := by
        have := (List.getElem?_eq_some_iff.mp hi).1
        rw [List.length_singleton] at this
        omega
      rw [this] at hi
      cases hi
      refine ⟨hp, fun z => ne z.symm, ho.imp id fun hm => ?_⟩
      obtain ⟨j, q, hj, hq⟩ := key_at hm
      exact ⟨j, q, by omega, by rw [List.getElem?_append_left hj]; exact hq⟩
theorem Cl.mono {ps : List (Nat × Nat)} {ks ms : List Nat} {x : Nat} (h : Cl ps ks x) (s : ∀ k ∈ ks, k ∈ ms) : Cl ps ms x := fun y hy ne => s y (h y hy ne)
theorem ways_of {n l : Nat} {ps kvs : List (Nat × Nat)} (w : WI n ps l kvs) (c : ∀ x, (x = l ∨ x ∈ keys kvs) → Cl ps (keys kvs) x) : Ways ps l kvs := by
  have up : ∀ y, Up ps l y → y = l ∨ y ∈ keys kvs := fun y u => by
    induction u with
    | here => exact Or.inl rfl
    | @step y z t e ih =>
      by_cases h : z = y
      · rw [h]
        exact ih
      · exact Or.inr (c y ih z e h)
  exact ⟨w.nd, fun h ⟨y, u, e, ne⟩ => c y (up y u) h e (fun z => ne z.symm), w.from_⟩
/-! ### ways up, by the text -/
section
variable {w : World} {K : PySem.W.Frag} {mg : Str → Option Value} {base : Heap} {B H : Hp} {p q : Addr} {E : XK}
theorem isSeq_seqD (b : Bool) (xs : List D) : isSeq (seqD b xs) = true := by cases b <;> rfl
theorem itemsOf_seqD (b : Bool) (xs : List D) : itemsOf (seqD b xs) = xs := by cases b <;> rfl
theorem vi_seqD {C : Cn} {Γ : List Sl} {t : TE} {b : Bool} {xs : List D} (h : VE C t Γ (Is (seqD b xs))) : VI C (iAny C.K t) Γ (Is xs) := by
  have := vi_items h (isSeq_seqD b xs)
  rwa [itemsOf_seqD] at this
theorem getK_wD (kvs : List (Nat × Nat)) (h : Nat) : getK (wD kvs) (.inl (h : Nat)) = (kvs.find? fun p => decide (p.1 = h)).map fun p => .int (p.2 : Nat) := by
  induction kvs with
  | nil => rfl
  | cons p r ih =>
    show getK ((.inl ((p.1 : Nat) : Int), .int (p.2 : Nat)) :: wD r) (.inl (h : Nat)) = _
    by_cases e : p.1 = h
    · rw [getK_pos (by rw [← e]), List.find?_cons, decide_eq_true e]
      rfl
    · rw [getK_neg (fun z => e (Int.ofNat.inj (Sum.inl.inj z))), ih, List.find?_cons, decide_eq_false e]
theorem getK_not {kvs : List (Nat × Nat)} {h : Nat} : (getK (wD kvs) (.inl (h : Nat))).isSome = decide (h ∈ keys kvs) := by
  rw [getK_wD, Option.isSome_map, Bool.eq_iff_iff, List.find?_isSome]
  simp only [decide_eq_true_eq]
  refine ⟨fun ⟨x, hx, e⟩ => ?_, fun hm => ?_⟩
  · exact List.mem_map.mpr ⟨x, hx, by simpa using e⟩
  · obtain ⟨x, hx, e⟩ := List.mem_map.mp hm
    exact ⟨x, hx, by simpa using e⟩
theorem vs_ways_up (T : Top K mg) {a : AskW} (hP : P_ways_up a) : VS ⟨K, B, H, none⟩ (t_ways_up T) (slots (A_ways_up a) 6) { nx := fun _ => R_ways_up a .none, rt := R_ways_up a } := by
  obtain ⟨n, b, ps, l⟩ := a
  obtain ⟨h1, h2, h3, h4⟩ := hP
  have h1 : n ≤ 100 := h1
  have h2 : ps.length ≤ 1000 := h2
  have h3 : ∀ p ∈ ps, p.1 < n ∧ p.2 < n := h3
  have h4 : l < n := h4
  refine vs_seq (Is [.dat (.int (n : Nat)), .dat (seqD b (ps.map prD)), .dat (.int (l : Nat)), .odk (wD []), .own [.int (l : Nat)], .no, .no, .no, .no]) (vs_parNL (kvs := []) (S := Is [.int (l : Nat)]) vn_new (vl_lstD (va_consD (ve_var rfl) va_nil)) fun y ey => by cases ey; rfl) ?_
  rintro Γ rfl
  refine vs_freeze 4 rfl ?_
  refine vs_seq (fun Γ => ∃ kvs s4 s5 s6 s7 s8, Γ = [.dat (.int (n : Nat)), .dat (seqD b (ps.map prD)), .dat (.int (l : Nat)), .odk (wD kvs), s4, s5, s6, s7, s8] ∧ Ways ps l kvs) ?_ ?_
  · refine vs_while (fun m Γ => ∃ kvs fs s5 s6 s7 s8, Γ = [.dat (.int (n : Nat)), .dat (seqD b (ps.map prD)), .dat (.int (l : Nat)), .odk (wD kvs), .dat (lnD fs), s5, s6, s7, s8] ∧ WI n ps l kvs ∧ (∀ x ∈ fs, x = l ∨ x ∈ keys kvs) ∧ (∀ x, (x = l ∨ x ∈ keys kvs) → x ∈ fs ∨ Cl ps (keys kvs) x) ∧ fs.length ≤ 100 ∧ m = 2 * (n - kvs.length) + min fs.length 1) _
      ⟨[], [l], _, _, _, _, rfl, ⟨List.nodup_nil, (fun _ h => nomatch h), fun i k o h => by simp at h⟩, fun x hx => Or.inl (List.mem_singleton.mp hx), fun x hx => Or.inl (by rcases hx with rfl | hx; exact List.mem_singleton.mpr rfl; cases hx), by show 1 ≤ 100; decide, rfl⟩ ?_
    rintro m Γ ⟨kvs0, fs, s5, s6, s7, s8, rfl, hw0, hf, hc, hfl, rfl⟩
    refine ⟨Is (decide (0 < fs.length)), (vt_testD (ve_opD (ve_lenL (ve_var rfl).v).v ve_int.v od_gt)).to (by rw [List.length_map]; exact decide_eq_decide.mpr (by omega)), fun hh => ?_, fun hh => ?_⟩
    · have hpos : 0 < fs.length := of_decide_eq_true hh.symm
      refine vq_ownD (vl_lstD va_nil) ?_
      show VS _ _ [.dat (.int (n : Nat)), .dat (seqD b (ps.map prD)), .dat (.int (l : Nat)), .odk (wD kvs0), .dat (lnD fs), .own [], s6, s7, s8] _
      refine vs_seq (fun Γ => ∃ kvs ls s6 s7 s8, Γ = [.dat (.int (n : Nat)), .dat (seqD b (ps.map prD)), .dat (.int (l : Nat)), .odk (wD kvs), .dat (lnD fs), .own (nsD ls), s6, s7, s8] ∧ WI n ps l kvs ∧ (∀ x ∈ ls, x ∈ keys kvs) ∧ (∀ x, (x = l ∨ x ∈ keys kvs) → x ∈ ls ∨ Cl ps (keys kvs) x) ∧ kvs.length = kvs0.length + ls.length) ?_ ?_
      · refine vs_for (va_listD (ds := nsD fs) (ve_var rfl)) fun ds e => ?_
        cases e
        refine ⟨fun i Γ => ∃ kvs ls s6 s7 s8, Γ = [.dat (.int (n : Nat)), .dat (seqD b (ps.map prD)), .dat (.int (l : Nat)), .odk (wD kvs), .dat (lnD fs), .own (nsD ls), s6, s7, s8] ∧ WI n ps l kvs ∧ (∀ x ∈ keys kvs0, x ∈ keys kvs) ∧ (∀ x ∈ ls, x ∈ keys kvs) ∧ (∀ x, (x = l ∨ x ∈ keys kvs) → x ∈ ls ∨ x ∈ fs.drop i ∨ Cl ps (keys kvs) x) ∧ kvs.length = kvs0.length + ls.length,
          ⟨kvs0, [], _, _, _, rfl, hw0, (fun _ h => h), (fun _ h => nomatch h), fun x hx => Or.inr (hc x hx), by simp⟩, ?_, fun Γ' ⟨kvs, ls, s6, s7, s8, e, w1, w2, w3, w4, w5⟩ => ⟨kvs, ls, s6, s7, s8, e, w1, w3, fun x hx => (w4 x hx).imp id fun h => h.elim (fun h => by rw [List.length_map, List.drop_length] at h; cases h) id, w5⟩⟩
        rintro i d Γ' hd ⟨kvs, ls, s6, s7, s8, rfl, w1, w2, w3, w4, w5⟩
        rw [List.getElem?_map] at hd
        obtain ⟨one, ho, rfl⟩ := Option.map_eq_some_iff.mp hd
        have hi := (List.getElem?_eq_some_iff.mp ho).1
        have hone : one = l ∨ one ∈ keys kvs := (hf one (List.mem_of_getElem? ho)).imp id (w2 one)
        have hdrop : ∀ x, x ∈ fs.drop i → x = one ∨ x ∈ fs.drop (i + 1) := fun x hx => by
          rw [List.drop_eq_getElem_cons hi] at hx
          rcases List.mem_cons.mp hx with hx | hx
          · left
            rw [hx]
            have := (List.getElem?_eq_some_iff.mp ho).2
            exact this
          · exact Or.inr hx
        refine ⟨_, _, vg_name, ?_⟩
        show VS _ _ [.dat (.int (n : Nat)), .dat (seqD b (ps.map prD)), .dat (.int (l : Nat)), .odk (wD kvs), .dat (lnD fs), .own (nsD ls), .dat (.int (one : Nat)), s7, s8] _
        refine vs_for (vi_seqD (xs := ps.map prD) (b := b) (ve_var rfl)) fun ds e => ?_
        cases e
        refine ⟨fun j Γ => ∃ kvs ls s7 s8, Γ = [.dat (.int (n : Nat)), .dat (seqD b (ps.map prD)), .dat (.int (l : Nat)), .odk (wD kvs), .dat (lnD fs), .own (nsD ls), .dat (.int (one : Nat)), s7, s8] ∧ WI n ps l kvs ∧ (∀ x ∈ keys kvs0, x ∈ keys kvs) ∧ (one = l ∨ one ∈ keys kvs) ∧ (∀ x ∈ ls, x ∈ keys kvs) ∧
          (∀ x, (x = l ∨ x ∈ keys kvs) → x ∈ ls ∨ (x = one ∨ x ∈ fs.drop (i + 1)) ∨ Cl ps (keys kvs) x) ∧ kvs.length = kvs0.length + ls.length ∧ ∀ k, k < j → ∀ h, ps[k]? = some (one, h) → h ≠ one → h ∈ keys kvs,
          ⟨kvs, ls, _, _, rfl, w1, w2, hone, w3, fun x hx => (w4 x hx).imp id fun h => h.imp (hdrop x) id, w5, fun k h => by omega⟩, ?_, fun Γ' ⟨kvs, ls, s7, s8, e, w1, w2, _, w3, w4, w5, w6⟩ => ⟨kvs, ls, _, s7, s8, e, w1, w2, w3, fun x hx => ?_, w5⟩⟩
        · rintro j d Γ' hd ⟨kvs, ls, s7, s8, rfl, w1, w2, hone, w3, w4, w5, w6⟩
          rw [List.getElem?_map] at hd
          obtain ⟨⟨lo, hi'⟩, hp, rfl⟩ := Option.map_eq_some_iff.mp hd
          have hpm := List.mem_of_getElem? hp
          obtain ⟨hlo, hhi⟩ := h3 _ hpm
          have hhi : hi' < n := hhi
          refine ⟨_, _, vg_tup2 vg_name vg_name, ?_⟩
          show VS _ _ [.dat (.int (n : Nat)), .dat (seqD b (ps.map prD)), .dat (.int (l : Nat)), .odk (wD kvs), .dat (lnD fs), .own (nsD ls), .dat (.int (one : Nat)), .dat (.int (lo : Nat)), .dat (.int (hi' : Nat))] _
          have eqn : ∀ x y : Nat, decide ((x : Int) = (y : Int)) = decide (x = y) := fun x y => decide_eq_decide.mpr (by omega)
          refine vs_ifD (x := decide (lo = one) && (decide (hi' ≠ one) && decide (hi' ∉ keys kvs))) (vt_andD ((vt_testD (ve_opD (ve_var rfl).v (ve_var rfl).v od_eqI)).to (eqn _ _)) fun _ => vt_andD ((vt_testD (ve_opD (ve_var rfl).v (ve_var rfl).v od_neI)).to (by rw [eqn, decide_not])) fun _ => (vt_testD (ve_notInK (k := .inl (hi' : Nat)) (ve_var rfl) (vd_own rfl))).to (by rw [getK_not, decide_not])) (fun hh => ?_) fun hh => vs_next ⟨kvs, ls, _, _, rfl, w1, w2, hone, w3, w4, w5, fun k hk h hk2 ne => ?_⟩
          · have hh : lo = one ∧ hi' ≠ one ∧ hi' ∉ keys kvs := by simpa using hh
            obtain ⟨rfl, ne, new⟩ := hh
            have hlen : kvs.length ≤ n := w1.len
            have ek : keys (kvs ++ [(hi', lo)]) = keys kvs ++ [hi'] := List.map_append
            have w1' := w1.add hpm ne hhi new hone
            have sub : ∀ x ∈ keys kvs, x ∈ keys (kvs ++ [(hi', lo)]) := fun x hx => by rw [ek]; exact List.mem_append_left _ hx
            have hls : ls.length ≤ 100 := by omega
            refine vs_seq (Is [.dat (.int (n : Nat)), .dat (seqD b (ps.map prD)), .dat (.int (l : Nat)), .odk (wD (kvs ++ [(hi', lo)])), .dat (lnD fs), .own (nsD ls), .dat (.int (lo : Nat)), .dat (.int (lo : Nat)), .dat (.int (hi' : Nat))]) (vs_putNew (i := 3) (kvs := wD kvs) (k := .inl (hi' : Nat)) (d := .int (lo : Nat)) rfl (fun j zs hj e => ?_) (ve_var rfl) (ve_var rfl) ?_ ?_ ?_) ?_
            · match j, hj, e with
              | 0, _, e => cases e
              | 1, _, e => cases e
              | 2, _, e => cases e
              | 3, hj, _ => exact hj rfl
              | 4, _, e => cases e
              | 5, _, e => cases e
              | 6, _, e => cases e
              | 7, _, e => cases e
              | 8, _, e => cases e
              | _ + 9, _, e => cases e
            · have := getK_not (kvs := kvs) (h := hi')
              rw [decide_eq_false new] at this
              cases z : getK (wD kvs) (.inl (hi' : Nat)) with
              | none => rfl
              | some y => rw [z] at this; cases this
            · show (kvs.map _).length < _
              rw [List.length_map]
              omega
            · show _ = _
              unfold wD
              rw [List.map_append]
              rfl
            · rintro Γ rfl
              refine vs_app (i := 5) (ds := nsD ls) rfl (ve_var rfl) (by rw [List.length_map]; omega) fun d ed => ?_
              cases ed
              refine ⟨kvs ++ [(hi', lo)], ls ++ [hi'], .dat (.int (lo : Nat)), .dat (.int (hi' : Nat)), ?_, w1', fun x hx => sub x (w2 x hx), hone.imp id (sub _), fun x hx => ?_, fun x hx => ?_, ?_, fun k hk h hk2 ne' => ?_⟩
              · rw [show nsD (ls ++ [hi']) = nsD ls ++ [.int (hi' : Nat)] from List.map_append]
                rfl
              · rw [ek]
                rcases List.mem_append.mp hx with hx | hx
                · exact List.mem_append_left _ (w3 x hx)
                · exact List.mem_append_right _ hx
              · rw [ek] at hx ⊢
                have base : x ∈ ls ∨ (x = lo ∨ x ∈ fs.drop (i + 1)) ∨ Cl ps (keys kvs) x ∨ x = hi' := by
                  rcases hx with hx | hx
                  · rcases w4 x (Or.inl hx) with h | h | h
                    · exact Or.inl h
                    · exact Or.inr (Or.inl h)
                    · exact Or.inr (Or.inr (Or.inl h))
                  · rcases List.mem_append.mp hx with hx | hx
                    · rcases w4 x (Or.inr hx) with h | h | h
                      · exact Or.inl h
                      · exact Or.inr (Or.inl h)
                      · exact Or.inr (Or.inr (Or.inl h))
                    · exact Or.inr (Or.inr (Or.inr (List.mem_singleton.mp hx)))
                rcases base with h | h | h | h
                · exact Or.inl (List.mem_append_left _ h)
                · exact Or.inr (Or.inl h)
                · exact Or.inr (Or.inr (h.mono fun k hk => List.mem_append_left _ hk))
                · exact Or.inl (List.mem_append_right _ (List.mem_singleton.mpr h))
              · rw [List.length_append, List.length_append, w5]
                rfl
              · rw [ek]
                by_cases e : k = j
                · subst e
                  rw [hp] at hk2
                  cases hk2
                  exact List.mem_append_right _ (List.mem_singleton.mpr rfl)
                · exact List.mem_append_left _ (w6 k (by omega) h hk2 ne')
          · by_cases e : k = j
            · subst e
              rw [hp] at hk2
              cases hk2
              have hh : ¬ (hi' ≠ one ∧ hi' ∉ keys kvs) := by simpa using hh
              exact Classical.byContradiction fun z => hh ⟨ne, z⟩
            · exact w6 k (by omega) h hk2 ne
        · rcases w4 x hx with h | (h | h) | h
          · exact Or.inl h
          · refine Or.inr (Or.inr fun y hy ne => ?_)
            subst h
            obtain ⟨k, hk⟩ := List.getElem?_of_mem hy
            exact w6 k (by rw [List.length_map]; exact (List.getElem?_eq_some_iff.mp hk).1) y hk ne
          · exact Or.inr (Or.inl h)
          · exact Or.inr (Or.inr h)
      · rintro Γ ⟨kvs, ls, s6, s7, s8, rfl, w1, w3, w4, w5⟩
        have hlen := w1.len
        refine vs_freeze 5 rfl ?_
        refine vs_asgD (ve_var rfl) ⟨_, ?_, kvs, ls, _, _, _, _, rfl, w1, fun x hx => Or.inr (w3 x hx), w4, by omega, rfl⟩
        omega
    · have hz : fs = [] := by
        have : ¬ 0 < fs.length := of_decide_eq_false hh.symm
        exact List.eq_nil_of_length_eq_zero (by omega)
      subst hz
      exact ⟨kvs0, _, _, _, _, _, rfl, ways_of hw0 fun x hx => (hc x hx).elim (fun h => by cases h) id⟩
  · rintro Γ ⟨kvs, s4, s5, s6, s7, s8, rfl, hw⟩
    exact vs_retDk 3 rfl ⟨kvs, rfl, hw⟩
theorem ok_ways_up (T : Top K mg) : GOk P0 w K mg base CX0 1 T.f_ways_up T.fd_ways_up ["levels", "pairs", "level"] (sp_ways_up K) :=
  pa_ok 6 T.F_ways_up sc_ways_up (fun _ => rfl) rfl fun cdv A outer s H E hg hr => ⟨_, d_ways_up T cdv A outer s H E hg hr, fun B H a hP => vs_ways_up T hP⟩
end
end Ly.K76
namespace Ly.K76
open PySem PySem.Spec PyProof.Rows L2
/-! ### what is checked -/
theorem pair_is {n : Nat} : ∀ {xs : List D}, xs.all (pairOk n) = true → ∃ ps : List (Nat × Nat), xs = ps.map prD ∧ ∀ p ∈ ps, p.1 < n ∧ p.2 < n
  | [], _ => ⟨[], rfl, fun _ h => nomatch h⟩
  | x :: xs, h => by
    rw [List.all_cons, Bool.and_eq_true] at h
    obtain ⟨ps, rfl, hp⟩ := pair_is h.2
    cases x with
    | tuple ys =>
      have h1 : (decide (ys.length = 2) && ys.all (isIdx (n : Nat))) = true := h.1
      rw [Bool.and_eq_true, decide_eq_true_eq] at h1
      obtain ⟨ns, rfl, hn⟩ := idx_ns h1.2
      rw [List.length_map] at h1
      match ns, h1.1, hn with
      | [a, b], _, hn =>
        refine ⟨(a, b) :: ps, rfl, fun p hm => ?_⟩
        rcases List.mem_cons.mp hm with rfl | hm
        · exact ⟨hn a (by simp), hn b (by simp)⟩
        · exact hp p hm
    | _ => exact absurd (show false = true from h.1) (by decide)
theorem seq_is {pr : D} (h : isSeq pr = true) : ∃ b, pr = seqD b (itemsOf pr) := by
  cases pr with
  | list xs => exact ⟨true, rfl⟩
  | tuple xs => exact ⟨false, rfl⟩
  | _ => cases h
theorem chk_none {lv pr : D} (h : chk lv pr = none) : ∃ (n : Nat) (b : Bool) (ps : List (Nat × Nat)), lv = .int (n : Nat) ∧ 1 ≤ n ∧ n ≤ 12 ∧ pr = seqD b (ps.map prD) ∧ (∀ p ∈ ps, p.1 < n ∧ p.2 < n) ∧ ps.length = (itemsOf pr).length := by
  cases lv with
  | int i =>
    have h : (if 1 ≤ i ∧ i ≤ 12 then (if isSeq pr = true ∧ (itemsOf pr).all (pairOk i.toNat) = true then none else some 1) else some 0) = (none : Option Nat) := h
    split at h
    · rename_i h12
      split at h
      · rename_i hh
        obtain ⟨ps, e, hp⟩ := pair_is hh.2
        obtain ⟨b, e2⟩ := seq_is hh.1
        rw [e] at e2
        refine ⟨i.toNat, b, ps, by rw [Int.toNat_of_nonneg (by omega)], by omega, by omega, e2, hp, by rw [e, List.length_map]⟩
      · cases h
    · cases h
  | _ => cases h
theorem chk_good {n : Nat} {b : Bool} {ps : List (Nat × Nat)} (h1 : 1 ≤ n) (h2 : n ≤ 12) (hp : ∀ p ∈ ps, p.1 < n ∧ p.2 < n) : chk (.int (n : Nat)) (seqD b (ps.map prD)) = none := by
  show (if 1 ≤ (n : Int) ∧ (n : Int) ≤ 12 then (if isSeq (seqD b (ps.map prD)) = true ∧ (itemsOf (seqD b (ps.map prD))).all (pairOk ((n : Int)).toNat) = true then none else some 1) else some 0) = none
  rw [if_pos ⟨by omega, by omega⟩, if_pos]
  refine ⟨isSeq_seqD _ _, ?_⟩
  rw [itemsOf_seqD, List.all_map, List.all_eq_true]
  intro p hm
  obtain ⟨q1, q2⟩ := hp p hm
  show (decide (([PyData.int (p.1 : Nat), .int (p.2 : Nat)] : List D).length = 2) && (nsD [p.1, p.2]).all (isIdx (n : Nat))) = true
  rw [ns_idx fun k hk => by
    rcases List.mem_cons.mp hk with rfl | hk
    · exact q1
    · rw [List.mem_singleton.mp hk]; exact q2]
  rfl
/-! ### ways and rings, plain -/
theorem up_iff {ps : List (Nat × Nat)} {x h : Nat} : Up ps x h ↔ x = h ∨ Up1 ps x h := by
  refine ⟨fun u => ?_, fun k => ?_⟩
  · induction u with
    | here => exact Or.inl rfl
    | @step y z t e ih =>
      by_cases q : y = z
      · rw [← q]
        exact ih
      · exact Or.inr ⟨y, t, e, q⟩
  · rcases k with rfl | ⟨y, u, e, _⟩
    · exact .here _
    · exact .step u e
theorem Ways.up {ps kvs : List (Nat × Nat)} {l : Nat} (w : Ways ps l kvs) : ∀ (i k o : Nat), kvs[i]? = some (k, o) → Up1 ps l k := by
  intro i
  induction i using Nat.strongRecOn with
  | _ i ih =>
    intro k o h
    obtain ⟨e, ne, c⟩ := w.from_ i k o h
    rcases c with rfl | ⟨j, p, hj, hp⟩
    · exact ⟨o, .here _, e, ne⟩
    · exact ⟨o, up_iff.mpr (Or.inr (ih j hj o p hp)), e, ne⟩
theorem Ways.iff {ps kvs : List (Nat × Nat)} {l h : Nat} (w : Ways ps l kvs) : h ∈ keys kvs ↔ Up1 ps l h := by
  refine ⟨fun m => ?_, w.all h⟩
  obtain ⟨i, p, _, hi⟩ := key_at m
  exact w.up i h p hi
theorem Up1.lt {n : Nat} {ps : List (Nat × Nat)} {x h : Nat} (hp : ∀ p ∈ ps, p.1 < n ∧ p.2 < n) (u : Up1 ps x h) : h < n := by
  obtain ⟨y, _, e, _⟩ := u
  exact (hp _ e).2
theorem find_key {kvs : List (Nat × Nat)} (nd : (keys kvs).Nodup) {j k o : Nat} (h : kvs[j]? = some (k, o)) : kvs.find? (fun p => decide (p.1 = k)) = some (k, o) := by
  induction kvs generalizing j with
  | nil => simp at h
  | cons a r ih =>
    have nd : (a.1 :: keys r).Nodup := nd
    rw [List.nodup_cons] at nd
    rw [List.find?_cons]
    cases j with
    | zero =>
      have h : some a = some (k, o) := h
      cases h
      rw [decide_eq_true rfl]
    | succ j =>
      have h : r[j]? = some (k, o) := h
      have ne : ¬ a.1 = k := fun z => nd.1 (List.mem_map.mpr ⟨(k, o), List.mem_of_getElem? h, z.symm⟩)
      rw [decide_eq_false ne]
      exact ih nd.2 h
theorem key_inj {kvs : List (Nat × Nat)} (nd : (keys kvs).Nodup) {i j k o p : Nat} (h : kvs[i]? = some (k, o)) (h2 : kvs[j]? = some (k, p)) : i = j := by
  have hl := (List.getElem?_eq_some_iff.mp h).1
  refine (List.getElem?_inj (l := keys kvs) (by rw [List.length_map]; exact hl) nd).mp ?_
  rw [List.getElem?_map, List.getElem?_map, h, h2]
  rfl
/-- the way back to l: from a by the steps of r -/
def Lk (ps : List (Nat × Nat)) (l : Nat) : List Nat → Nat → Prop
  | [], a => (a, l) ∈ ps
  | x :: r, a => (a, x) ∈ ps ∧ Lk ps l r x
theorem Lk.at {ps : List (Nat × Nat)} {l : Nat} : ∀ {r : List Nat} {a : Nat}, Lk ps l r a → ∀ i, i ≤ r.length → ((a :: r).getD i 0, (r ++ [l]).getD i 0) ∈ ps
  | [], a, h, i, hi => by
    obtain rfl : i = 0 := by simpa using hi
    exact h
  | x :: r, a, h, 0, _ => h.1
  | x :: r, a, h, i + 1, hi => Lk.at h.2 i (by simpa using hi)
theorem ring_of_lk {ps : List (Nat × Nat)} {l : Nat} {r : List Nat} (h : Lk ps l r l) (ne : r ≠ []) (nd : r.Nodup) (nl : l ∉ r) : IsRing ps (l :: r) := by
  have hpos : 0 < r.length := List.length_pos_iff.mpr ne
  refine ⟨by rw [List.length_cons]; omega, List.nodup_cons.mpr ⟨nl, nd⟩, fun i hi => ?_⟩
  rw [List.length_cons] at hi ⊢
  cases i with
  | zero =>
    have := h.at r.length (Nat.le_refl _)
    rw [show (0 + (r.length + 1) - 1) % (r.length + 1) = r.length by rw [Nat.mod_eq_of_lt (by omega)]; omega]
    have e : (r ++ [l]).getD r.length 0 = l := by
      rw [List.getD_eq_getElem?_getD, List.getElem?_append_right (Nat.le_refl _), Nat.sub_self]
      rfl
    rw [e] at this
    exact this
  | succ i =>
    have := h.at i (by omega)
    rw [show (i + 1 + (r.length + 1) - 1) % (r.length + 1) = i by
      rw [show i + 1 + (r.length + 1) - 1 = i + (r.length + 1) by omega, Nat.add_mod_right, Nat.mod_eq_of_lt (by omega)]]
    have e : (r ++ [l]).getD i 0 = (l :: r).getD (i + 1) 0 := by
      rw [List.getD_eq_getElem?_getD, List.getElem?_append_left (by omega), List.getD_eq_getElem?_getD]
      rfl
    rw [e] at this
    exact this
section
variable {C : Cn} {A : TA} {Γ : List Sl} {te : TE} {P : Po} {R : D → Prop} {ds : List D}
theorem vs_dropR (h : VE C te Γ R) (k : ∀ d, R d → P.nx Γ) : VS C (tDrop te) Γ P := fun B H σ E F n r b c => h B H σ F _ fun d v B' H' rd s kd => n Γ B' H' σ (k d rd) s.ext (F.step s)
theorem va_starKR {S : List (Key × D) → Prop} (h : VE C te Γ (fun d => ∃ kvs, d = dictD kvs ∧ S kvs)) (k : VA C A Γ (Is ds)) : VA C (tStarK te A) Γ (fun es => ∃ kvs : List (Key × D), S kvs ∧ es = (kvs.map fun kv => kD kv.1) ++ ds) := fun B H σ F Q q => h B H σ F _ fun d v B1 H1 ⟨kvs, e, sk⟩ s1 kd => by
  subst e
  obtain ⟨a, ws, rfl, h1, h2, h3⟩ := dp_dct kd
  exact ⟨a, ws, rfl, same_rd (F.step s1).sub h1, k B1 H1 σ (F.step s1) _ fun xs vs B2 H2 e2 s2 k2 => by
    cases e2
    exact q _ _ B2 H2 ⟨kvs, sk, rfl⟩ (s1.trans F.dlNow s2) (dpall_app (keys_all h2) k2)⟩
end
section
variable {w : World} {K : PySem.W.Frag} {mg : Str → Option Value} {base : Heap} {B H : Hp} {p q : Addr} {E : XK}
theorem vs_ring_of (T : Top K mg) {a : AskO} (hP : P_ring_of a) (t : Tks ⟨K, B, H, none⟩ T.X_InvalidOrder.C "at" (W_ring_of a) E) :
    VS ⟨K, B, H, none⟩ (t_ring_of T E) (slots (A_ring_of a) 4) { nx := fun _ => R_ring_of a .none, rt := R_ring_of a } := by
  refine vs_seq (fun Γ => Γ = slots (A_ring_of a) 4 ∧ chk a.lv a.pr = none) (vs_dropR (ve_xa (C0 := ⟨K, B, H, none⟩) a (va_consD (ve_var rfl) (va_consD (ve_var rfl) va_nil)) hP t fun n h => h) fun d hd => ⟨rfl, hd.2⟩) ?_
  rintro Γ ⟨rfl, hchk⟩
  obtain ⟨lv, pr⟩ := a
  obtain ⟨n, b, ps, e1, n1, n2, e2, hps, hlen⟩ := chk_none hchk
  have e1 : lv = .int (n : Nat) := e1
  have e2 : pr = seqD b (ps.map prD) := e2
  subst e1 e2
  have hl : ps.length ≤ 1000 := by
    have := hP.1
    rw [← hlen] at this
    exact this
  refine vs_seq (fun _ => ∀ l, l < n → ¬ Up1 ps l l) ?_ fun Γ hno => vs_ret (ve_non.imp fun d e => by
    cases e
    exact ⟨hchk, n, b, ps, rfl, n2, rfl, hps, Or.inl ⟨rfl, hno⟩⟩)
  refine vs_for (vi_rngM (n := n) (ve_var rfl) (by omega)) fun ds e => ?_
  cases e
  refine ⟨fun i Γ => ∃ s2 s3 s4 s5, Γ = [.dat (.int (n : Nat)), .dat (seqD b (ps.map prD)), s2, s3, s4, s5] ∧ ∀ l, l < i → ¬ Up1 ps l l, ⟨_, _, _, _, rfl, fun l h => by omega⟩, ?_, fun Γ' ⟨_, _, _, _, _, h⟩ l hl => h l (by rw [List.length_map, List.length_range]; exact hl)⟩
  rintro i d Γ' hd ⟨s2, s3, s4, s5, rfl, hno⟩
  rw [List.getElem?_map] at hd
  obtain ⟨l, hli, rfl⟩ := Option.map_eq_some_iff.mp hd
  have hln : l < n := List.mem_range.mp (List.mem_of_getElem? hli)
  have eil : i = l := by
    rw [List.getElem?_range (by have := (List.getElem?_eq_some_iff.mp hli).1; rwa [List.length_range] at this)] at hli
    exact Option.some.inj hli
  subst eil
  refine ⟨_, _, vg_name, ?_⟩
  show VS _ _ [.dat (.int (n : Nat)), .dat (seqD b (ps.map prD)), .dat (.int (i : Nat)), s3, s4, s5] _
  refine vq_asg (ve_callA ⟨n, b, ps, i⟩ (va_consD (ve_var rfl) (va_consD (ve_var rfl) (va_consD (ve_var rfl) va_nil))) ⟨by show n ≤ 100; omega, hl, hps, hln⟩) fun d ⟨kvs, ed, hw⟩ => ?_
  subst ed
  have hw : Ways ps i kvs := hw
  show VS _ _ [.dat (.int (n : Nat)), .dat (seqD b (ps.map prD)), .dat (.int (i : Nat)), .dat (dictD (wD kvs)), s4, s5] _
  refine vs_ifD (x := decide (i ∈ keys kvs)) ((vt_testD (ve_inK (k := .inl (i : Nat)) (ve_var rfl) (vd_dat (ve_var rfl)))).to getK_not) (fun hh => ?_) fun hh => vs_next ⟨_, _, _, _, rfl, fun l hl => ?_⟩
  · have hik : i ∈ keys kvs := of_decide_eq_true hh
    have hup := hw.iff.mp hik
    obtain ⟨j0, o1, hj0, hk0⟩ := key_at hik
    obtain ⟨p1, ne1, c1⟩ := hw.from_ j0 i o1 hk0
    have getAt : ∀ {j k o : Nat}, kvs[j]? = some (k, o) → getK (wD kvs) (.inl (k : Nat)) = some (.int (o : Nat)) := fun h => by rw [getK_wD, find_key hw.nd h]; rfl
    have keyLt : ∀ {j k o : Nat}, kvs[j]? = some (k, o) → k < n := fun h => (hps _ (hw.from_ _ _ _ h).1).2
    refine vs_seq (Is [.dat (.int (n : Nat)), .dat (seqD b (ps.map prD)), .dat (.int (i : Nat)), .dat (dictD (wD kvs)), .own (nsD []), .dat (.int (o1 : Nat))]) (vs_parLE (S := Is []) (R2 := Is (.int (o1 : Nat))) (vl_lstD va_nil) (ve_dgetK (k := .inl (i : Nat)) (vd_dat (ve_var rfl)) (ve_var rfl) (getAt hk0)) fun x y ex ey => by cases ex; cases ey; rfl) ?_
    rintro Γ rfl
    refine vs_seq (fun Γ => ∃ fl : List Nat, Γ = [.dat (.int (n : Nat)), .dat (seqD b (ps.map prD)), .dat (.int (i : Nat)), .dat (dictD (wD kvs)), .own (nsD fl), .dat (.int (i : Nat))] ∧ fl ≠ [] ∧ fl.Nodup ∧ i ∉ fl ∧ (∀ x ∈ fl, x < n) ∧ Lk ps i fl.reverse i) ?_ ?_
    · refine vs_while (fun m Γ => ∃ (fl : List Nat) (at_ : Nat), Γ = [.dat (.int (n : Nat)), .dat (seqD b (ps.map prD)), .dat (.int (i : Nat)), .dat (dictD (wD kvs)), .own (nsD fl), .dat (.int (at_ : Nat))] ∧ (fl = [] → at_ ≠ i) ∧ fl.Nodup ∧ i ∉ fl ∧ (∀ x ∈ fl, x < n) ∧ (∀ x ∈ fl, ∃ j p : Nat, m ≤ j ∧ kvs[j]? = some (x, p)) ∧ Lk ps i fl.reverse at_ ∧ (at_ = i ∨ ∃ j p : Nat, j < m ∧ kvs[j]? = some (at_, p))) j0
        ⟨[], o1, rfl, fun _ => ne1, List.nodup_nil, by simp, (fun _ h => nomatch h), (fun _ h => nomatch h), p1, c1⟩ ?_
      rintro m Γ ⟨fl, at_, rfl, f1, f2, f3, f4, f5, f6, f7⟩
      have fln : fl.length ≤ n := nd_len f2 f4
      refine ⟨Is (at_ != i), (vt_testD (ve_opD (ve_var rfl).v (ve_var rfl).v od_neI)).to (ne_nat at_ i), fun hh => ?_, fun hh => ?_⟩
      · have ne : at_ ≠ i := bne_iff_ne.mp hh.symm
        obtain ⟨j, o, hj, hk⟩ := f7.resolve_left ne
        obtain ⟨q1, q2, q3⟩ := hw.from_ j at_ o hk
        have notin : at_ ∉ fl := fun hm => by
          obtain ⟨j2, p2, h2, h3⟩ := f5 at_ hm
          have := key_inj hw.nd h3 hk
          omega
        refine vq_app (i := 4) (ds := nsD fl) rfl (ve_var rfl) (by rw [List.length_map]; omega) fun d ed => ?_
        cases ed
        refine vs_asgD (ve_dgetK (k := .inl (at_ : Nat)) (vd_dat (ve_var rfl)) (ve_var rfl) (getAt hk)) ⟨j, hj, fl ++ [at_], o, ?_, fun z => absurd z (by simp), ?_, ?_, fun x hx => ?_, fun x hx => ?_, ?_, q3⟩
        · rw [show nsD (fl ++ [at_]) = nsD fl ++ [.int (at_ : Nat)] from List.map_append]
          rfl
        · exact List.nodup_append.mpr ⟨f2, by simp, fun a ha b hb z => notin (by rw [← List.mem_singleton.mp hb, ← z]; exact ha)⟩
        · intro hm
          rcases List.mem_append.mp hm with hm | hm
          · exact f3 hm
          · exact ne (List.mem_singleton.mp hm).symm
        · rcases List.mem_append.mp hx with hx | hx
          · exact f4 x hx
          · rw [List.mem_singleton.mp hx]
            exact keyLt hk
        · rcases List.mem_append.mp hx with hx | hx
          · obtain ⟨j2, p2, h2, h3⟩ := f5 x hx
            exact ⟨j2, p2, by omega, h3⟩
          · rw [List.mem_singleton.mp hx]
            exact ⟨j, o, Nat.le_refl _, hk⟩
        · rw [List.reverse_append]
          exact ⟨q1, f6⟩
      · have e : at_ = i := by
          have : (at_ != i) = false := hh.symm
          simpa using this
        subst e
        exact ⟨fl, rfl, fun z => f1 z rfl, f2, f3, f4, f6⟩
    · rintro Γ ⟨fl, rfl, f1, f2, f3, f4, f6⟩
      have fln : fl.length ≤ n := nd_len f2 f4
      refine vs_retD (ve_tupD (va_consD (ve_var rfl) (va_starL (vl_revD (vv_own rfl)).vd va_nil)) ?_) ?_
      · rw [List.length_cons, List.length_append, List.length_reverse, List.length_map]
        show fl.length + 0 + 1 ≤ _
        omega
      · refine ⟨hchk, n, b, ps, rfl, n2, rfl, hps, Or.inr ⟨i :: fl.reverse, ?_, ring_of_lk f6 (by simpa using f1) ((List.reverse_perm fl).nodup_iff.mpr f2) (by simpa using f3), fun x hx => ?_, i, hln, hup⟩⟩
        · rw [List.append_nil, ← List.map_reverse]
          rfl
        · rcases List.mem_cons.mp hx with rfl | hx
          · exact hln
          · exact f4 x (List.mem_reverse.mp hx)
  · have hh : i ∉ keys kvs := of_decide_eq_false hh
    by_cases e : l = i
    · subst e
      exact fun z => hh (hw.iff.mpr z)
    · exact hno l (by omega)
theorem ok_ring_of (T : Top K mg) : GOk P0 w K mg base (L2.CX P0 w) 5 T.f_ring_of T.fd_ring_of ["levels", "pairs"] (sp_ring_of T) :=
  pxa_ok 4 T.F_ring_of sc_ring_of (fun _ => rfl) rfl fun cdv A outer s H E hg hr tk => ⟨_, d_ring_of T (ok_checked_pairs T) (ok_ways_up T) cdv A outer s H E hg hr tk, fun B H a hP t => vs_ring_of T hP t⟩
end
end Ly.K76
namespace Ly.K76
open PySem PySem.Spec PyProof.Rows L2
theorem A2.at {α β γ δ : Type} {f : γ → α} {g : δ → β} {R : α → β → Prop} {Q : γ → δ → Prop} (h : ∀ x y, R (f x) y → ∃ r, y = g r ∧ Q x r) : ∀ {xs : List γ} {ys : List β}, A2 R (xs.map f) ys → ∃ rs : List δ, ys = rs.map g ∧ rs.length = xs.length ∧ ∀ (i : Nat) x, xs[i]? = some x → ∃ r, rs[i]? = some r ∧ Q x r
  | [], _, .nil => ⟨[], rfl, rfl, fun i x h => by simp at h⟩
  | x :: xs, _, .cons r t => by
    obtain ⟨z, rfl, hz⟩ := h _ _ r
    obtain ⟨rs, rfl, hl, hq⟩ := A2.at h t
    refine ⟨z :: rs, rfl, congrArg (· + 1) hl, fun i y hy => ?_⟩
    cases i with
    | zero =>
      cases hy
      exact ⟨z, rfl, hz⟩
    | succ i => exact hq i y hy
section
variable {w : World} {K : PySem.W.Frag} {mg : Str → Option Value} {base : Heap} {B H : Hp} {p q : Addr} {E : XK}
theorem wD_keys (kvs : List (Nat × Nat)) : ((wD kvs).map fun kv => kD kv.1) = nsD (keys kvs) := by
  show _ = (kvs.map Prod.fst).map fun n => PyData.int (n : Nat)
  unfold wD
  rw [List.map_map, List.map_map]
  rfl
theorem vs_order_of (T : Top K mg) {a : AskO} (hP : P_order_of a) (t : Tks ⟨K, B, H, none⟩ T.X_InvalidOrder.C "at" (W_order_of a) E) :
    VS ⟨K, B, H, none⟩ (t_order_of T E) (slots (A_order_of a) 3) { nx := fun _ => R_order_of a .none, rt := R_order_of a } := by
  obtain ⟨lv, pr⟩ := a
  have hc : VE ⟨K, B, H, none⟩ (tCallK (sp_ring_of T) (fun vs _ => vs) E (tCons (tVar 0) (tCons (tVar 1) tNil)) tNil) (slots (A_order_of ⟨lv, pr⟩) 3) (R_ring_of ⟨lv, pr⟩) :=
    ve_xa (C0 := ⟨K, B, H, none⟩) (Ar := A_ring_of) (P := P_ring_of) (R := R_ring_of) (W := W_ring_of) ⟨lv, pr⟩ (va_consD (ve_var rfl) (va_consD (ve_var rfl) va_nil)) hP t fun n h => Or.inl h
  refine vq_if (Q := fun c => chk lv pr = none ∧ ∃ (n : Nat) (b : Bool) (ps : List (Nat × Nat)), lv = .int (n : Nat) ∧ n ≤ 12 ∧ pr = seqD b (ps.map prD) ∧ (∀ p ∈ ps, p.1 < n ∧ p.2 < n) ∧ ((c = false ∧ ∀ l, l < n → ¬ Up1 ps l l) ∨ (c = true ∧ ∃ l, l < n ∧ Up1 ps l l)))
    (vt_test (ve_op (Rb := Is .none) hc.v ve_non.v fun x y hx ey => by
      cases ey
      obtain ⟨hchk, n, b, ps, e1, n2, e2, hps, hh⟩ := hx
      refine od_notN.imp fun d ed => ⟨_, ed, hchk, n, b, ps, e1, n2, e2, hps, ?_⟩
      rcases hh with ⟨rfl, hno⟩ | ⟨r, rfl, _, _, hl⟩
      · exact Or.inl ⟨rfl, hno⟩
      · exact Or.inr ⟨rfl, hl⟩)) (fun ⟨hchk, n, b, ps, e1, n2, e2, hps, hh⟩ => ?_) fun ⟨hchk, n, b, ps, e1, n2, e2, hps, hh⟩ => ?_
  · obtain ⟨_, hl⟩ := hh.resolve_left fun z => by cases z.1
    exact vq_leave (vs_rz (c := ⟨K, B, H, none⟩) (n := .int 2) T.X_InvalidOrder t (va_consD ve_int va_nil) (Or.inr ⟨rfl, hchk, n, b, ps, e1, e2, hl⟩))
  · obtain ⟨_, hno⟩ := hh.resolve_right fun z => by cases z.1
    have e1 : lv = .int (n : Nat) := e1
    have e2 : pr = seqD b (ps.map prD) := e2
    subst e1 e2
    have hl : ps.length ≤ 1000 := by
      have := hP.1
      rw [show itemsOf (AskO.mk (.int (n : Nat)) (seqD b (ps.map prD))).pr = ps.map prD from itemsOf_seqD _ _, List.length_map] at this
      exact this
    refine vq_next ?_
    refine vq_own (S := fun es => ∃ rs : List (List Nat), es = rs.map lnD ∧ rs.length = n ∧ ∀ l, l < n → ∀ h, h ∈ rs.getD l [] ↔ Up ps l h) ((vl_mapR (fun d y => ∀ l : Nat, d = .int (l : Nat) → ∃ ks : List Nat, y = lnD ks ∧ ∀ h, h ∈ ks ↔ Up ps l h) (vi_rngM (n := n) (ve_var rfl) (by omega)) (by rw [List.length_map, List.length_range]; omega) fun d hd => ⟨_, _, vg_name, fun j hj => hj, ?_⟩).imp fun es h => ?_) fun es ⟨rs, ees, hrl, hrs⟩ => ?_
    · obtain ⟨l, hl2, rfl⟩ := List.mem_map.mp hd
      have hln : l < n := List.mem_range.mp hl2
      have hw : VE ⟨K, B, H, none⟩ (tCallK (sp_ways_up K) (fun vs _ => vs) E0 (tCons (tVar 0) (tCons (tVar 1) (tCons (tVar 3) tNil))) tNil) [.dat (.int (n : Nat)), .dat (seqD b (ps.map prD)), .no, .dat (.int (l : Nat)), .no] (fun d => ∃ ks : List (Key × D), d = dictD ks ∧ ∃ kvs, ks = wD kvs ∧ Ways ps l kvs) :=
        (ve_callA (g := A_ways_up) (P := P_ways_up) (R := R_ways_up) ⟨n, b, ps, l⟩ (va_consD (ve_var rfl) (va_consD (ve_var rfl) (va_consD (ve_var rfl) va_nil))) ⟨by show n ≤ 100; omega, hl, hps, hln⟩).imp fun d ⟨kvs, ed, hw⟩ => ⟨_, ed, kvs, rfl, hw⟩
      refine (vl_lst (va_cons (R := Is (.int (l : Nat))) (ve_var rfl) (va_starKR hw va_nil)) fun ds ⟨d, ds', e, ed, ks, ⟨kvs, ek, hk⟩, e2⟩ => ?_).e.imp fun y ⟨ds, ey, d, ds', e, ed, ks, ⟨kvs, ek, hk⟩, e2⟩ l2 el => ?_
      · subst e e2 ek
        have : kvs.length ≤ n := by
          have := nd_len hk.nd fun x hx => (hk.iff.mp hx).lt hps
          rwa [List.length_map] at this
        rw [List.append_nil, wD_keys, List.length_cons, List.length_map, List.length_map]
        omega
      · obtain rfl : l = l2 := by
          injection el with el
          omega
        subst e e2 ek
        cases ed
        refine ⟨l :: keys kvs, ?_, fun h => ?_⟩
        · rw [ey, List.append_nil, wD_keys]
          rfl
        · rw [List.mem_cons, hk.iff, up_iff]
          exact or_congr ⟨fun h => h.symm, fun h => h.symm⟩ Iff.rfl
    · obtain ⟨rs, e, hl2, hq⟩ := A2.at (g := lnD) (Q := fun (l : Nat) ks => ∀ h, h ∈ ks ↔ Up ps l h) (fun x y hR => hR x rfl) h
      refine ⟨rs, e, by rw [hl2, List.length_range], fun l hl3 h => ?_⟩
      obtain ⟨r, e1, e2⟩ := hq l l (List.getElem?_range hl3)
      rw [List.getD_eq_getElem?_getD, e1]
      exact e2 h
    subst ees
    show VS _ _ [.dat (.int (n : Nat)), .dat (seqD b (ps.map prD)), .own (rs.map lnD), .no, .no] _
    have at2 : ∀ {Γ : List Sl} {te : TE} {k : Nat}, k < n → Γ[2]? = some (.own (rs.map lnD)) → VE ⟨K, B, H, none⟩ te Γ (Is (.int (k : Nat))) → VE ⟨K, B, H, none⟩ (tOp (rIx K) (tVar 2) te) Γ (Is (lnD (rs.getD k []))) := fun {Γ te k} hk h2 ht =>
      ve_opD (vv_own h2) ht.v (od_ixL (atI_pos (by rw [List.getElem?_map, getD_at (d := []) (by omega)]; rfl)))
    refine vs_retD (ve_tupL (vl_mapM (m := fun (i : Nat) => PyData.int (i : Nat)) (fun h => tnD ((List.range n).filter fun l => (rs.getD l []).contains h)) (vi_rngM (n := n) (ve_var rfl) (by omega)) (by rw [List.length_range]; omega) fun h hh => ⟨_, _, vg_name, fun j hj => hj, ve_tupL (vl_lcM (m := fun (i : Nat) => PyData.int (i : Nat)) (fun l => (rs.getD l []).contains h) (fun l => .int (l : Nat)) (vi_rngM (n := n) (ve_var rfl) (by omega)) (by rw [List.length_range]; omega) fun l hl3 => ⟨_, _, vg_name, fun j hj => hj,
      (vt_testD (ve_opD (ve_var rfl).v (at2 (List.mem_range.mp hl3) rfl (ve_var rfl)).v (od_inL rfl (shaped_ns _)))).to (any_ints _ h), fun _ => ve_var rfl⟩).vd⟩).vd) ?_
    refine ⟨hchk, n, b, ps, (List.range n).map fun h => (List.range n).filter fun l => (rs.getD l []).contains h, rfl, n2, rfl, hps, hno, ?_, ?_⟩
    · refine congrArg PyData.tuple ?_
      rw [List.map_map]
      rfl
    · have row : ∀ h, h < n → ((List.range n).map fun h => (List.range n).filter fun l => (rs.getD l []).contains h).getD h [] = (List.range n).filter fun l => (rs.getD l []).contains h := fun h hh => by
        rw [List.getD_eq_getElem?_getD, List.getElem?_map, List.getElem?_range hh]
        rfl
      refine ⟨by rw [List.length_map, List.length_range], fun h hh x => ?_, fun h hh => ?_⟩
      · rw [row h hh, List.mem_filter, List.mem_range]
        refine and_congr_right fun hx => ?_
        rw [List.contains_iff_mem, hrs x hx]
      · rw [row h hh]
        exact (List.pairwise_lt_range (n := n)).filter _
theorem ok_order_of (T : Top K mg) : GOk P0 w K mg base (L2.CX P0 w) 6 T.f_order_of T.fd_order_of ["levels", "pairs"] (sp_order_of T) :=
  pxa_ok 3 T.F_order_of sc_order_of (fun _ => rfl) rfl fun cdv A outer s H E hg hr tk => ⟨_, d_order_of T (ok_ring_of T) (ok_ways_up T) cdv A outer s H E hg hr tk, fun B H a hP t => vs_order_of T hP t⟩
end
end Ly.K76
namespace Ly.K76
open PySem PySem.Spec PyProof.Rows L2
section
variable {w : World} {K : PySem.W.Frag} {mg : Str → Option Value} {base : Heap} {B H : Hp}
theorem vs_lot_within (T : Top K mg) {a : List (List Nat) × List Nat × Nat} (hP : P_lot_within a) : VS ⟨K, B, H, none⟩ (t_lot_within T) (slots (A_lot_within a) 1) { nx := fun _ => R_lot_within a .none, rt := R_lot_within a } := by
  obtain ⟨rs, lot, level⟩ := a
  obtain ⟨h1, _, h3⟩ := hP
  have h3 : lot.length ≤ 1000 := h3
  refine vs_retD (ve_allM (rs.getD level []).contains (va_tupD (ve_var rfl)) (by omega) fun x hx => ⟨_, _, vg_name, fun j hj => hj, ve_inRow (ve_var rfl) (ve_row (ve_var rfl) (ve_var rfl) h1)⟩) rfl
theorem ok_lot_within (T : Top K mg) : GOk P0 w K mg base CX0 1 T.f_lot_within T.fd_lot_within ["order", "lot", "level"] (sp_lot_within K) :=
  pa_ok 1 T.F_lot_within sc_lot_within (fun _ => rfl) rfl fun cdv A outer s H E hg hr => ⟨_, d_lot_within T cdv A outer s H E hg hr, fun B H a hP => vs_lot_within T hP⟩
theorem not_row {ns : List Nat} {x : D} (h : isTup x = false) : isRow ns x = false := by
  cases x <;> first | rfl | cases h
theorem vs_is_input (T : Top K mg) {a : List (List Nat) × D} (hP : P_is_input a) : VS ⟨K, B, H, none⟩ (t_is_input T) (slots (A_is_input a) 2) { nx := fun _ => R_is_input a .none, rt := R_is_input a } := by
  obtain ⟨rs, x⟩ := a
  obtain ⟨h1, h2⟩ := hP
  have hr : VT ⟨K, B, H, none⟩ (tNot (tB (tCallK (sp_is_row_of K) (fun vs _ => vs) E0 (tCons (tVar 1) (tCons (tTup (tCons (tCB (rLen K) (tCons (tVar 0) tNil)) tNil)) tNil)) tNil))) [.dat (ordD rs), .dat x, .no, .no] (Is (!isRow [rs.length] x)) :=
    vt_notD (vt_BD (call_isRow [rs.length] (ve_var rfl) ((ve_tupD (va_consD ((ve_lenT (ve_var rfl)).to (y := .int (rs.length : Nat)) (by rw [List.length_map])) va_nil)).to rfl)))
  have out : (!isRow [rs.length] x) = true → inputOk rs.length x = false := by
    intro h
    cases x with
    | tuple xs =>
      have : (xs.length == rs.length) = false := by
        have h : (!([rs.length].contains xs.length)) = true := h
        simpa using h
      show ((xs.length == rs.length) && _ && _) = false
      rw [this]
      rfl
    | _ => rfl
  by_cases hx : isTup x = true
  · obtain ⟨xs, rfl⟩ := isTup_is hx
    have hl : xs.length ≤ 1000 := h2.1
    refine vq_ifD (vt_orD hr fun _ => vt_notD (vt_BD (ve_allM (m := id) isTup (va_tupI (ve_var rfl)) (by omega) fun y _ => ⟨_, _, vg_name, fun j hj => hj, ve_isTup (ve_var rfl).v⟩))) (fun h => ?_) fun h => ?_
    · refine vq_leave (vs_retD ve_bl ?_)
      show PyData.bool false = .bool (inputOk rs.length (.tuple xs))
      cases hh : isRow [rs.length] (.tuple xs) with
      | false => rw [out (by rw [hh]; rfl)]
      | true =>
        rw [hh] at h
        have h : (xs.all isTup) = false := by simpa using h
        show _ = PyData.bool ((xs.length == rs.length) && xs.all isTup && _)
        rw [h, Bool.and_false, Bool.false_and]
    · refine vq_next ?_
      have hh : isRow [rs.length] (.tuple xs) = true ∧ xs.all isTup = true := by simpa using h
      refine vs_retD (ve_allM (m := id) allNum (va_tupI (ve_var rfl)) (by omega) fun y hy => ?_) ?_
      · obtain ⟨ys, rfl⟩ := isTup_is (List.all_eq_true.mp hh.2 y hy)
        have hyl : ys.length ≤ 1000 := h2.2 _ hy
        exact ⟨_, _, vg_name, fun j hj => hj, ve_allM (m := id) isNum (va_tupI (ve_var rfl)) (by omega) fun z _ => ⟨_, _, vg_name, fun j hj => hj, call_isNum (ve_var rfl)⟩⟩
      · have e : (xs.length == rs.length) = true := by
          have h : [rs.length].contains xs.length = true := hh.1
          simpa using h
        show _ = PyData.bool ((xs.length == rs.length) && xs.all isTup && _)
        rw [e, hh.2]
        rfl
  · have hx := Bool.eq_false_iff.mpr hx
    have e := not_row (ns := [rs.length]) hx
    refine vq_ifD ((vt_orD (c := true) hr fun h => by rw [e] at h; cases h).to (by rw [e])) (fun _ => vq_leave (vs_retD ve_bl ?_)) (fun h => by cases h)
    show _ = PyData.bool _
    rw [out (by rw [e]; rfl)]
theorem ok_is_input (T : Top K mg) : GOk P0 w K mg base CX0 3 T.f_is_input T.fd_is_input ["order", "value"] (sp_is_input K) :=
  pa_ok 2 T.F_is_input sc_is_input (fun _ => rfl) rfl fun cdv A outer s H E hg hr => ⟨_, d_is_input T (ok_is_row_of T) (ok_is_number T) cdv A outer s H E hg hr, fun B H a hP => vs_is_input T hP⟩
theorem shaped_tn (xs : List Nat) : SeqAt.shaped (tnD xs) = true := by
  have h := shaped_ns xs
  unfold SeqAt.shaped at h ⊢
  rw [PyData.canLay0, PyData.depth] at h
  rw [PyData.canLay0, PyData.depth]
  exact h
theorem eqv_nums : ∀ a b : List Nat, PyData.eqvAll (nsD a) (nsD b) = (a == b)
  | [], [] => rfl
  | [], _ :: _ => rfl
  | _ :: _, [] => rfl
  | x :: a, y :: b => by
    show PyData.eqvAll (.int (x : Nat) :: nsD a) (.int (y : Nat) :: nsD b) = _
    rw [PyData.eqvAll, eqv_nums a b, PyData.eqv]
    show _ = (x == y && a == b)
    congr 1
    by_cases h : x = y
    · rw [h]; simp
    · rw [beq_eq_false_iff_ne.mpr h, beq_eq_false_iff_ne.mpr (by omega)]
theorem vs_alike_inputs (T : Top K mg) {a : List (List Nat) × Nat × List (List Nat) × List (List Nat)} (hP : P_alike_inputs a) : VS ⟨K, B, H, none⟩ (t_alike_inputs T) (slots (A_alike_inputs a) 1) { nx := fun _ => R_alike_inputs a .none, rt := R_alike_inputs a } := by
  obtain ⟨rs, level, one, other⟩ := a
  obtain ⟨h1, h2, h3, h4⟩ := hP
  have h1 : level < rs.length := h1
  have h3 : one.length = rs.length := h3
  have h4 : other.length = rs.length := h4
  obtain ⟨hz, hm⟩ := h2.2 _ (row_mem h1)
  refine vs_retD (ve_allM (fun l => one.getD l [] == other.getD l []) (va_tupD (ve_row (ve_var rfl) (ve_var rfl) h1)) (Nat.le_trans hz (by decide)) fun x hx => ⟨_, _, vg_name, fun j hj => hj, ?_⟩) rfl
  have hxm : x < rs.length := hm x hx
  refine (ve_opD (ve_row (ve_var rfl) (ve_var rfl) (Nat.lt_of_lt_of_le hxm (Nat.le_of_eq h3.symm))).v (ve_row (ve_var rfl) (ve_var rfl) (Nat.lt_of_lt_of_le hxm (Nat.le_of_eq h4.symm))).v (od_eq (shaped_tn _) (shaped_tn _))).to ?_
  exact congrArg PyData.bool (eqv_nums _ _)
theorem ok_alike_inputs (T : Top K mg) : GOk P0 w K mg base CX0 1 T.f_alike_inputs T.fd_alike_inputs ["order", "level", "one", "other"] (sp_alike_inputs K) :=
  pa_ok 1 T.F_alike_inputs sc_alike_inputs (fun _ => rfl) rfl fun cdv A outer s H E hg hr => ⟨_, d_alike_inputs T cdv A outer s H E hg hr, fun B H a hP => vs_alike_inputs T hP⟩
theorem row3 {x : D} (h : isRow [3] x = true) : ∃ a b c, x = .tuple [a, b, c] := by
  cases x with
  | tuple xs =>
    have h : [3].contains xs.length = true := h
    have h : xs.length = 3 := by simpa using h
    match xs, h with
    | [a, b, c], _ => exact ⟨a, b, c, rfl⟩
  | _ => cases h
theorem row2 {x : D} (h : isRow [2] x = true) : ∃ a b, x = .tuple [a, b] := by
  cases x with
  | tuple xs =>
    have h : [2].contains xs.length = true := h
    have h : xs.length = 2 := by simpa using h
    match xs, h with
    | [a, b], _ => exact ⟨a, b, rfl⟩
  | _ => cases h
theorem deed_no {n : Nat} {x : D} (h3 : isRow [3] x = false) (h2 : isRow [2] x = false) : deedOk n x = false := by
  unfold deedOk
  split
  · cases h3
  · cases h2
  · rfl
theorem vs_is_deed (T : Top K mg) {a : List (List Nat) × D} (hP : P_is_deed a) : VS ⟨K, B, H, none⟩ (t_is_deed T) (slots (A_is_deed a) 0) { nx := fun _ => R_is_deed a .none, rt := R_is_deed a } := by
  obtain ⟨rs, x⟩ := a
  have hP : Sm x 64 100000 := hP
  have r3 : VT ⟨K, B, H, none⟩ (tB (tCallK (sp_is_row_of K) (fun vs _ => vs) E0 (tCons (tVar 1) (tCons (tTup (tCons (tC (.int 3)) tNil)) tNil)) tNil)) [.dat (ordD rs), .dat x] (Is (isRow [3] x)) := vt_BD (call_isRow [3] (ve_var rfl) (ve_tupD (va_consD ve_int va_nil)))
  have r2 : VE ⟨K, B, H, none⟩ (tCallK (sp_is_row_of K) (fun vs _ => vs) E0 (tCons (tVar 1) (tCons (tTup (tCons (tC (.int 2)) tNil)) tNil)) tNil) [.dat (ordD rs), .dat x] (Is (.bool (isRow [2] x))) := call_isRow [2] (ve_var rfl) (ve_tupD (va_consD ve_int va_nil))
  have len : VE ⟨K, B, H, none⟩ (tCB (rLen K) (tCons (tVar 0) tNil)) [.dat (ordD rs), .dat x] (Is (.int (rs.length : Nat))) := (ve_lenT (ve_var rfl)).to (by rw [List.length_map])
  by_cases h3 : isRow [3] x = true
  · obtain ⟨a, b, c, rfl⟩ := row3 h3
    have sa := (hP.tupM (x := a) (by simp)).shaped
    have ix : ∀ {i : Int} {d : D}, atI [a, b, c] i = some d → VE ⟨K, B, H, none⟩ (tOp (rIx K) (tVar 1) (tC (.int i))) [.dat (ordD rs), .dat (.tuple [a, b, c])] (Is d) := fun h => ve_opD (ve_var rfl).v ve_int.v (od_ixT h)
    refine vq_ifD (vt_andD r3 fun _ => vt_testD (ve_opD (ix (i := 0) (d := a) rfl).v ve_str.v (od_eq sa (by decide +kernel)))) (fun h => ?_) fun h => ?_
    · have he : PyData.eqv a (.str "out") = true := by simpa [h3] using h
      refine vq_leave (vs_retD (ve_andD (call_isIdx (ix (d := b) rfl) len) fun _ => call_isNum (ix (d := c) rfl)) ?_)
      show _ = PyData.bool (PyData.eqv a (.str "out") && _)
      rw [he]
      rfl
    · have he : PyData.eqv a (.str "out") = false := by simpa [h3] using h
      refine vq_next (vs_retD (ve_andD (c := false) r2 fun h => by cases h) ?_)
      show _ = PyData.bool (PyData.eqv a (.str "out") && _)
      rw [he]
      rfl
  · have h3 := Bool.eq_false_iff.mpr h3
    refine vq_ifD ((vt_andD (c := false) r3 fun h => by rw [h3] at h; cases h).to (Bool.and_false _)) (fun h => by cases h) fun _ => vq_next ?_
    by_cases h2 : isRow [2] x = true
    · obtain ⟨a, b, rfl⟩ := row2 h2
      have sa := (hP.tupM (x := a) (by simp)).shaped
      have ix : ∀ {i : Int} {d : D}, atI [a, b] i = some d → VE ⟨K, B, H, none⟩ (tOp (rIx K) (tVar 1) (tC (.int i))) [.dat (ordD rs), .dat (.tuple [a, b])] (Is d) := fun h => ve_opD (ve_var rfl).v ve_int.v (od_ixT h)
      refine vs_retD (ve_andD r2 fun _ => ve_andD (ve_opD (ix (i := 0) (d := a) rfl).v ve_str.v (od_eq sa (by decide +kernel))) fun _ => call_isNum (ix (d := b) rfl)) ?_
      rfl
    · have h2 := Bool.eq_false_iff.mpr h2
      refine vs_retD (ve_andD (c := false) r2 fun h => by rw [h2] at h; cases h) ?_
      show _ = PyData.bool _
      rw [h2, deed_no h3 h2]
      rfl
theorem ok_is_deed (T : Top K mg) : GOk P0 w K mg base CX0 4 T.f_is_deed T.fd_is_deed ["order", "value"] (sp_is_deed K) :=
  pa_ok 0 T.F_is_deed sc_is_deed (fun _ => rfl) rfl fun cdv A outer s H E hg hr => ⟨_, d_is_deed T (ok_is_row_of T) (ok_is_number T) (ok_is_index T) cdv A outer s H E hg hr, fun B H a hP => vs_is_deed T hP⟩
theorem evOk_is {n : Nat} {x : D} (h : evOk n x = true) : ∃ (t : Int) (e : D), x = .tuple [.int t, e] ∧ 0 ≤ t := by
  unfold evOk at h
  split at h
  · rename_i t e
    rw [Bool.and_eq_true] at h
    cases t with
    | int i => exact ⟨i, e, rfl, of_decide_eq_true h.1⟩
    | _ => cases h.1
  · cases h
theorem vs_is_record (T : Top K mg) {a : List (List Nat) × D} (hP : P_is_record a) : VS ⟨K, B, H, none⟩ (t_is_record T) (slots (A_is_record a) 4) { nx := fun _ => R_is_record a .none, rt := R_is_record a } := by
  obtain ⟨rs, x⟩ := a
  have hP : Sm x 64 100000 := hP
  have tp : VT ⟨K, B, H, none⟩ (tNot (tB (tCB (rIsAny K) (tCons (tVar 1) (tCons (tC (.ty "tuple")) tNil))))) [.dat (ordD rs), .dat x, .no, .no, .no, .no] (Is (!isTup x)) := vt_notD (vt_BD (ve_isTup (ve_var rfl).v))
  by_cases hx : isTup x = true
  · obtain ⟨xs, rfl⟩ := isTup_is hx
    have hl := hP.tupL
    refine vq_ifD (vt_orD tp fun _ => vt_notD (vt_BD (ve_allM (m := id) (isRow [2]) (va_tupI (ve_var rfl)) (by omega) fun y _ => ⟨_, _, vg_name, fun j hj => hj, call_isRow [2] (ve_var rfl) (ve_tupD (va_consD ve_int va_nil))⟩))) (fun h => ?_) fun h => ?_
    · have h : (xs.all (isRow [2])) = false := by simpa [isTup] using h
      refine vq_leave (vs_retD ve_bl ?_)
      show _ = PyData.bool (xs.all (isRow [2]) && _ && _)
      rw [h]
      rfl
    · have h1 : (xs.all (isRow [2])) = true := by simpa [isTup] using h
      refine vq_next ?_
      refine vq_ifD (vt_notD (vt_BD (ve_allM (m := id) (evOk rs.length) (va_tupI (ve_var rfl)) (by omega) fun y hy => ?_))) (fun h => ?_) fun h => ?_
      · obtain ⟨t, e, rfl⟩ := row2 (List.all_eq_true.mp h1 y hy)
        refine ⟨_, _, vg_tup2 vg_name vg_name, fun j hj => hj, (ve_andD (call_isNum (ve_var rfl)) fun _ => ve_callA (rs, e) (va_consD (ve_var rfl) (va_consD (ve_var rfl) va_nil)) ((hP.tupM hy).tupM (by simp))).to rfl⟩
      · have h : (xs.all (evOk rs.length)) = false := by simpa using h
        refine vq_leave (vs_retD ve_bl ?_)
        show _ = PyData.bool (xs.all (isRow [2]) && xs.all (evOk rs.length) && _)
        rw [h, Bool.and_false]
        rfl
      · have h2 : (xs.all (evOk rs.length)) = true := by simpa using h
        refine vq_next (vs_retD (ve_allM (m := fun i : Nat => PyData.int (i : Nat)) (xs := List.range (xs.length - 1)) (fun i => decide (tickOf (xs.getD i .none) ≤ tickOf (xs.getD (i + 1) .none))) ?_ ?_ fun i hi => ⟨_, _, vg_name, fun j hj => hj, ?_⟩) ?_)
        · have e : (List.range (xs.length - 1)).map (fun i : Nat => PyData.int (i : Nat)) = Ly.upTo 0 ((xs.length : Int) - 1).toNat := by
            unfold Ly.upTo
            rw [show ((xs.length : Int) - 1).toNat = xs.length - 1 by omega]
            refine List.map_congr_left fun i _ => ?_
            show _ = PyData.int (0 + (i : Nat))
            rw [Int.zero_add]
          rw [e]
          exact vi_rng1D (ve_opD (ve_lenT (ve_var rfl)).v ve_int.v od_sub)
        · rw [List.length_range]
          omega
        · have hi : i + 1 < xs.length := by have := List.mem_range.mp hi; omega
          have at1 : ∀ {j : Nat} {te : TE} {Γ : List Sl}, j < xs.length → Γ[1]? = some (.dat (.tuple xs)) → VE ⟨K, B, H, none⟩ te Γ (Is (.int (j : Nat))) → VE ⟨K, B, H, none⟩ (tOp (rIx K) (tOp (rIx K) (tVar 1) te) (tC (.int 0))) Γ (Is (.int (tickOf (xs.getD j .none)))) := fun {j te Γ} hj hg ht => by
            obtain ⟨t, e, he, _⟩ := evOk_is (List.all_eq_true.mp h2 _ (List.getElem_mem hj))
            have e1 : xs[j]? = some (.tuple [.int t, e]) := by rw [List.getElem?_eq_getElem hj, he]
            have e2 : xs.getD j .none = .tuple [.int t, e] := by rw [List.getD_eq_getElem?_getD, e1]; rfl
            rw [e2]
            exact ve_opD (ve_opD (ve_var hg).v ht.v (od_ixT (atI_pos e1))).v ve_int.v (od_ixT rfl)
          exact ve_opD (at1 (by omega) rfl (ve_var rfl)).v (at1 hi rfl (ve_opD (ve_var rfl).v ve_int.v od_add)).v od_le
        · show _ = PyData.bool (xs.all (isRow [2]) && xs.all (evOk rs.length) && rising xs)
          rw [h1, h2]
          rfl
  · have hx := Bool.eq_false_iff.mpr hx
    refine vq_ifD ((vt_orD (c := true) tp fun h => by rw [hx] at h; cases h).to (by rw [hx])) (fun _ => vq_leave (vs_retD ve_bl ?_)) (fun h => by cases h)
    show _ = PyData.bool (recOk rs.length x)
    cases x <;> first | rfl | cases hx
theorem ok_is_record (T : Top K mg) : GOk P0 w K mg base CX0 5 T.f_is_record T.fd_is_record ["order", "value"] (sp_is_record K) :=
  pa_ok 4 T.F_is_record sc_is_record (fun _ => rfl) rfl fun cdv A outer s H E hg hr => ⟨_, d_is_record T (ok_is_row_of T) (ok_is_number T) (ok_is_deed T) cdv A outer s H E hg hr, fun B H a hP => vs_is_record T hP⟩
def isOut : Deed → Bool
  | .out _ _ => true
  | .fin _ => false
theorem eq_out {C : Cn} {te : TE} {Γ : List Sl} (e : Deed) (h : VE C te Γ (Is (deedD e))) : VE C (tOp (rEqA C.K) (tOp (rIx C.K) te (tC (.int 0))) (tC (.str "out"))) Γ (Is (.bool (isOut e))) := by
  cases e with
  | out l v => exact (ve_opD (ve_opD h.v ve_int.v (od_ixT (z := .str "out") rfl)).v ve_str.v od_eqS).to (congrArg PyData.bool (show decide (("out" : Str) = "out") = true by decide +kernel))
  | fin t => exact (ve_opD (ve_opD h.v ve_int.v (od_ixT (z := .str "end") rfl)).v ve_str.v od_eqS).to (congrArg PyData.bool (show decide (("end" : Str) = "out") = false by decide +kernel))
theorem vs_is_seen (T : Top K mg) {a : Sight × Deed} (hP : P_is_seen a) : VS ⟨K, B, H, none⟩ (t_is_seen T) (slots (A_is_seen a) 0) { nx := fun _ => R_is_seen a .none, rt := R_is_seen a } := by
  obtain ⟨⟨rs, ends, level⟩, e⟩ := a
  obtain ⟨⟨h1, h2, h3⟩, h4⟩ := hP
  refine vq_ifD (vt_testD (eq_out e (ve_var rfl))) (fun h => ?_) fun h => ?_
  · cases e with
    | fin t => cases h
    | out l v => exact vq_leave (vs_retD (ve_inRow (ve_opD (ve_var rfl).v ve_int.v (od_ixT (z := .int (l : Nat)) rfl)) (ve_row (ve_var rfl) (ve_var rfl) h1)) rfl)
  · cases e with
    | out l v => cases h
    | fin t =>
      have h4 : t < ends.length := h4
      refine vq_next (vs_ret ((ve_callA (rs, ends.getD t [], level) (va_consD (ve_var rfl) (va_consD (ve_row (ve_var rfl) (ve_opD (ve_var rfl).v ve_int.v (od_ixT (z := .int (t : Nat)) rfl)) h4) (va_consD (ve_var rfl) va_nil))) ⟨h1, ⟨_, h2⟩, (h3.2 _ (row_mem h4)).1⟩).imp fun d r => r))
theorem ok_is_seen (T : Top K mg) : GOk P0 w K mg base CX0 2 T.f_is_seen T.fd_is_seen ["order", "level", "ends", "deed"] (sp_is_seen K) :=
  pa_ok 0 T.F_is_seen sc_is_seen (fun _ => rfl) rfl fun cdv A outer s H E hg hr => ⟨_, d_is_seen T (ok_lot_within T) cdv A outer s H E hg hr, fun B H a hP => vs_is_seen T hP⟩
theorem vs_seen (T : Top K mg) {a : Sight × List (Nat × Deed)} (hP : P_seen a) : VS ⟨K, B, H, none⟩ (t_seen T) (slots (A_seen a) 1) { nx := fun _ => R_seen a .none, rt := R_seen a } := by
  obtain ⟨S, r⟩ := a
  obtain ⟨h1, h2, h3⟩ := hP
  have h2 : r.length ≤ 1000 := h2
  refine vs_retD (ve_tupM (m := evD) (fun p => sees S.rs S.ends S.level p.2) evD (va_tupD (ve_var rfl)) (by omega) fun p hp => ⟨_, _, vg_name, fun j hj => hj, vt_BD ?_, fun _ => ve_var rfl⟩) rfl
  exact ve_callA (S, p.2) (va_consD (ve_var rfl) (va_consD (ve_var rfl) (va_consD (ve_var rfl) (va_consD (ve_opD (ve_var rfl).v ve_int.v (od_ixT (z := deedD p.2) rfl)) va_nil)))) ⟨h1, h3 p hp⟩
theorem ok_seen (T : Top K mg) : GOk P0 w K mg base CX0 3 T.f_seen T.fd_seen ["order", "level", "ends", "record"] (sp_seen K) :=
  pa_ok 1 T.F_seen sc_seen (fun _ => rfl) rfl fun cdv A outer s H E hg hr => ⟨_, d_seen T (ok_is_seen T) cdv A outer s H E hg hr, fun B H a hP => vs_seen T hP⟩
theorem ve_cut {C : Cn} {Γ : List Sl} {te t2 : TE} {j : Nat} {r : List (Nat × Deed)} {tick : Nat} (h : VE C te Γ (Is (recD r))) (hl : r.length ≤ 1000) (hj : j < Γ.length) (h2 : ∀ p ∈ r, VE C t2 ((wipeS Γ [j]).set j (.dat (evD p))) (Is (.int (tick : Nat)))) :
    VE C (tCB (rTup C.K) (tCons (tLc (iAny C.K te) (gName j) (tTest (tOp rLtA (tOp (rIx C.K) (tVar j) (tC (.int 0))) t2)) (tVar j) [j]) tNil)) Γ (Is (recD (r.filter fun p => decide (p.1 < tick)))) := by
  have hw : j < (wipeS Γ [j]).length := by
    show j < (Γ.set j .no).length
    rw [List.length_set]
    exact hj
  have hv : ∀ p : Nat × Deed, VE C (tVar j) ((wipeS Γ [j]).set j (.dat (evD p))) (Is (evD p)) := fun p => ve_var (List.getElem?_set_self hw)
  exact ve_tupM (m := evD) (fun p => decide (p.1 < tick)) evD (va_tupD h) (by omega) fun p hp => ⟨_, _, vg_name, fun j hj => hj, (vt_testD (ve_opD (ve_opD (hv p).v ve_int.v (od_ixT (z := .int (p.1 : Nat)) rfl)).v (h2 p hp).v od_lt)).to (lt_nat _ _), fun _ => hv p⟩
theorem vs_cut_record (T : Top K mg) {a : List (Nat × Deed) × Nat} (hP : P_cut_record a) : VS ⟨K, B, H, none⟩ (t_cut_record T) (slots (A_cut_record a) 1) { nx := fun _ => R_cut_record a .none, rt := R_cut_record a } := by
  obtain ⟨r, tick⟩ := a
  exact vs_retD (ve_cut (j := 2) (ve_var rfl) hP (by show 2 < 3; decide) fun p _ => ve_var rfl) rfl
theorem ok_cut_record (T : Top K mg) : GOk P0 w K mg base CX0 1 T.f_cut_record T.fd_cut_record ["record", "tick"] (sp_cut_record K) :=
  pa_ok 1 T.F_cut_record sc_cut_record (fun _ => rfl) rfl fun cdv A outer s H E hg hr => ⟨_, d_cut_record T cdv A outer s H E hg hr, fun B H a hP => vs_cut_record T hP⟩
/-! the law's own -/
theorem filter_nil_all {α : Type} (xs : List α) (f : α → Bool) : (xs.filter fun x => !f x).isEmpty = xs.all f := by
  induction xs with
  | nil => rfl
  | cons x xs ih =>
    rw [List.filter_cons, List.all_cons]
    cases h : f x with
    | false => rfl
    | true => exact ih
/-! ### lots -/
theorem vs_is_lot (T : Top K mg) {a : List (List Nat) × D} (hP : P_is_lot a) : VS ⟨K, B, H, none⟩ (t_is_lot T) (slots (A_is_lot a) 0) { nx := fun _ => R_is_lot a .none, rt := R_is_lot a } := by
  obtain ⟨rs, x⟩ := a
  obtain ⟨h1, h2⟩ := hP
  have len : VE ⟨K, B, H, none⟩ (tCB (rLen K) (tCons (tVar 0) tNil)) [.dat (ordD rs), .dat x] (Is (.int (rs.length : Nat))) := (ve_lenT (ve_var rfl)).to (by rw [List.length_map])
  exact vs_ret ((ve_callA (x, rs.length) (va_consD (ve_var rfl) (va_consD len va_nil)) ⟨h2, h1⟩).imp fun d r => r)
theorem ok_is_lot (T : Top K mg) : GOk P0 w K mg base CX0 5 T.f_is_lot T.fd_is_lot ["order", "value"] (sp_is_lot K) :=
  pa_ok 0 T.F_is_lot sc_is_lot (fun _ => rfl) rfl fun cdv A outer s H E hg hr => ⟨_, d_is_lot T (ok_is_rising T) cdv A outer s H E hg hr, fun B H a hP => vs_is_lot T hP⟩
theorem nats_of {zs : List Int} {ns : List Nat} (hs : zs.Pairwise (· < ·)) (hm : ∀ k, k ∈ zs ↔ k ∈ ns.map fun (n : Nat) => (n : Int)) : ∃ ms : List Nat, zs.map PyData.int = nsD ms ∧ ms.Pairwise (· < ·) ∧ ∀ k, k ∈ ms ↔ k ∈ ns := by
  obtain ⟨ms, rfl, _⟩ := all_map (f := fun (n : Nat) => (n : Int)) (Q := fun _ => True) (es := zs) fun y hy => by
    obtain ⟨n, _, e⟩ := List.mem_map.mp ((hm y).mp hy)
    exact ⟨n, e.symm, trivial⟩
  refine ⟨ms, (ns_cast ms).symm, ?_, fun k => ?_⟩
  · rw [List.pairwise_map] at hs
    exact hs.imp fun h => by omega
  · have := hm (k : Int)
    rw [List.mem_map, List.mem_map] at this
    constructor
    · intro h
      obtain ⟨u, h2, e⟩ := this.mp ⟨k, h, rfl⟩
      rw [← Int.ofNat.inj e]
      exact h2
    · intro h
      obtain ⟨u, h2, e⟩ := this.mpr ⟨k, h, rfl⟩
      rw [← Int.ofNat.inj e]
      exact h2
theorem vl_sortSetT {C : Cn} {Γ : List Sl} {te : TE} {ns : List Nat} (h : VE C te Γ (Is (tnD ns))) (hn : ns.length < 64) : VL C (tCB (rSortedSet w) (tCons (tCB (rSetTI C.K w) (tCons te tNil)) tNil)) Γ (fun ds => ∃ ms : List Nat, ds = nsD ms ∧ ms.Pairwise (· < ·) ∧ ∀ k, k ∈ ms ↔ k ∈ ns) :=
  (vl_sortedSet (ns := ns.map fun (n : Nat) => (n : Int)) (h.to (congrArg PyData.tuple (ns_cast ns))) (by rw [List.length_map]; exact hn)).imp fun ds ⟨zs, e, h1, h2⟩ => by
    obtain ⟨ms, e2, r⟩ := nats_of h1 h2
    exact ⟨ms, e.trans e2, r⟩
theorem vl_sortSetL {C : Cn} {Γ : List Sl} {te : TE} {ns : List Nat} (h : VE C te Γ (Is (lnD ns))) (hn : ns.length < 64) : VL C (tCB (rSortedSet w) (tCons (tCB (rSetLI C.K w) (tCons te tNil)) tNil)) Γ (fun ds => ∃ ms : List Nat, ds = nsD ms ∧ ms.Pairwise (· < ·) ∧ ∀ k, k ∈ ms ↔ k ∈ ns) :=
  (vl_sortedSetL (ns := ns.map fun (n : Nat) => (n : Int)) (h.to (congrArg PyData.list (ns_cast ns))).v (by rw [List.length_map]; exact hn)).imp fun ds ⟨zs, e, h1, h2⟩ => by
    obtain ⟨ms, e2, r⟩ := nats_of h1 h2
    exact ⟨ms, e.trans e2, r⟩
/-- tuple(sorted(set(a + b))) -/
theorem ve_join {C : Cn} {Γ : List Sl} {ta tb : TE} {a b : List Nat} (h1 : VE C ta Γ (Is (tnD a))) (h2 : VE C tb Γ (Is (tnD b))) (ha : a.length ≤ 12) (hb : b.length ≤ 12) :
    VE C (tCB (rTup C.K) (tCons (tCB (rSortedSet w) (tCons (tCB (rSetTI C.K w) (tCons (tOp (rAddA C.K) ta tb) tNil)) tNil)) tNil)) Γ (fun d => ∃ ms : List Nat, d = tnD ms ∧ ms.Pairwise (· < ·) ∧ ∀ k, k ∈ ms ↔ k ∈ a ∨ k ∈ b) :=
  (ve_tupX (vl_sortSetT (ns := a ++ b) ((ve_opD h1.v h2.v (od_catT (by rw [List.length_map, List.length_map]; omega))).to (congrArg PyData.tuple List.map_append.symm)) (by rw [List.length_append]; omega))).imp fun d ⟨ds, e, ms, e2, h, k⟩ =>
    ⟨ms, by rw [e, e2], h, fun x => (k x).trans List.mem_append⟩
theorem ok_joined_lots (T : Top K mg) : GOk P0 w K mg base CX0 1 T.f_joined_lots T.fd_joined_lots ["one", "other"] (sp_joined_lots K) :=
  pa_ok 0 T.F_joined_lots sc_joined_lots (fun _ => rfl) rfl fun cdv A outer s H E hg hr => ⟨_, d_joined_lots T cdv A outer s H E hg hr, fun B H a hP => vs_ret (ve_join (ve_var rfl) (ve_var rfl) hP.1 hP.2)⟩
theorem vs_watchers (T : Top K mg) {a : List (List Nat) × List Nat} (hP : P_watchers a) : VS ⟨K, B, H, none⟩ (t_watchers T) (slots (A_watchers a) 1) { nx := fun _ => R_watchers a .none, rt := R_watchers a } := by
  obtain ⟨rs, lot⟩ := a
  obtain ⟨h1, h2, h3⟩ := hP
  have h1 : rs.length ≤ 1000 := h1
  refine vs_retD (ve_tupM (m := fun (i : Nat) => PyData.int (i : Nat)) (xs := List.range rs.length) (fun l => lot.all (rs.getD l []).contains) (fun l => .int (l : Nat)) (vi_rngM (n := rs.length) ((ve_lenT (ve_var rfl)).to (by rw [List.length_map])) (by omega)) (by rw [List.length_range]; omega) fun l hl => ⟨_, _, vg_name, fun j hj => hj, vt_BD ?_, fun _ => ve_var rfl⟩) rfl
  exact ve_callA (rs, lot, l) (va_consD (ve_var rfl) (va_consD (ve_var rfl) (va_consD (ve_var rfl) va_nil))) ⟨List.mem_range.mp hl, h2, h3⟩
theorem ok_watchers (T : Top K mg) : GOk P0 w K mg base CX0 2 T.f_watchers T.fd_watchers ["order", "lot"] (sp_watchers K) :=
  pa_ok 1 T.F_watchers sc_watchers (fun _ => rfl) rfl fun cdv A outer s H E hg hr => ⟨_, d_watchers T (ok_lot_within T) cdv A outer s H E hg hr, fun B H a hP => vs_watchers T hP⟩
theorem vs_covered (T : Top K mg) {a : List (List Nat) × List Nat × List Nat} (hP : P_covered a) : VS ⟨K, B, H, none⟩ (t_covered T) (slots (A_covered a) 1) { nx := fun _ => R_covered a .none, rt := R_covered a } := by
  obtain ⟨rs, one, other⟩ := a
  obtain ⟨h1, h2, h3, h4⟩ := hP
  have h1 : rs.length ≤ 1000 := h1
  have hw : (seers rs other).length ≤ 1000 := by
    have := List.length_filter_le (fun l => other.all (rs.getD l []).contains) (List.range rs.length)
    rw [List.length_range] at this
    exact Nat.le_trans this h1
  refine vs_retD (ve_allM (m := fun (n : Nat) => PyData.int (n : Nat)) (xs := seers rs other) (fun l => one.all (rs.getD l []).contains) (va_tupD ((ve_callA (rs, other) (va_consD (ve_var rfl) (va_consD (ve_var rfl) va_nil)) ⟨h1, h2, h4⟩).imp fun d r => r)) (by omega) fun l hl => ⟨_, _, vg_name, fun j hj => hj, ?_⟩) rfl
  exact ve_callA (rs, one, l) (va_consD (ve_var rfl) (va_consD (ve_var rfl) (va_consD (ve_var rfl) va_nil))) ⟨List.mem_range.mp (List.mem_filter.mp hl).1, h2, h3⟩
theorem ok_covered (T : Top K mg) : GOk P0 w K mg base CX0 3 T.f_covered T.fd_covered ["order", "one", "other"] (sp_covered K) :=
  pa_ok 1 T.F_covered sc_covered (fun _ => rfl) rfl fun cdv A outer s H E hg hr => ⟨_, d_covered T (ok_lot_within T) (ok_watchers T) cdv A outer s H E hg hr, fun B H a hP => vs_covered T hP⟩
end
end Ly.K76
namespace Ly.K76
open PySem PySem.Spec PyProof.Rows L2
theorem inc_eq {α : Type} {lt : α → α → Prop} (as : ∀ a b, lt a b → lt b a → False) : ∀ {xs ys : List α}, xs.Pairwise lt → ys.Pairwise lt → (∀ k, k ∈ xs ↔ k ∈ ys) → xs = ys
  | [], [], _, _, _ => rfl
  | [], y :: ys, _, _, h => absurd ((h y).mpr (List.mem_cons_self ..)) (by simp)
  | x :: xs, [], _, _, h => absurd ((h x).mp (List.mem_cons_self ..)) (by simp)
  | x :: xs, y :: ys, h1, h2, h => by
    rw [List.pairwise_cons] at h1 h2
    have e : x = y := by
      rcases List.mem_cons.mp ((h x).mp (List.mem_cons_self ..)) with e | e
      · exact e
      · rcases List.mem_cons.mp ((h y).mpr (List.mem_cons_self ..)) with e2 | e2
        · exact e2.symm
        · exact (as _ _ (h2.1 x e) (h1.1 y e2)).elim
    subst e
    rw [inc_eq as h1.2 h2.2 fun k => ⟨fun hk => ?_, fun hk => ?_⟩]
    · rcases List.mem_cons.mp ((h k).mp (List.mem_cons_of_mem _ hk)) with e | e
      · subst e
        exact (as _ _ (h1.1 k hk) (h1.1 k hk)).elim
      · exact e
    · rcases List.mem_cons.mp ((h k).mpr (List.mem_cons_of_mem _ hk)) with e | e
      · subst e
        exact (as _ _ (h2.1 k hk) (h2.1 k hk)).elim
      · exact e
theorem eqv_pr (a b : Nat × Nat) : PyData.eqv (prD a) (prD b) = (a == b) := by
  show PyData.eqvAll (nsD [a.1, a.2]) (nsD [b.1, b.2]) = _
  rw [eqv_nums, Bool.eq_iff_iff, beq_iff_eq, beq_iff_eq]
  refine ⟨fun h => ?_, fun h => by rw [h]⟩
  injection h with h1 h2
  injection h2 with h2 _
  exact Prod.ext h1 h2
theorem any_prs (ps : List (Nat × Nat)) (x : Nat × Nat) : ((ps.map prD).any fun z => PyData.eqv z (prD x)) = ps.contains x := by
  induction ps with
  | nil => rfl
  | cons p ps ih =>
    rw [List.map_cons, List.any_cons, ih, List.contains_cons, eqv_pr]
    congr 1
    exact Bool.beq_comm
theorem shaped_pr (p : Nat × Nat) : SeqAt.shaped (prD p) = true := by
  show SeqAt.shaped (.tuple (nsD [p.1, p.2])) = true
  have := shaped_ns [p.1, p.2]
  unfold SeqAt.shaped at this ⊢
  exact this
theorem shaped_prs (ps : List (Nat × Nat)) : SeqAt.shaped (.list (ps.map prD)) = true := by
  have h : ∀ x ∈ ps.map prD, x.canLay0 = true ∧ x.depth ≤ 1 := fun x hx => by
    obtain ⟨p, _, rfl⟩ := List.mem_map.mp hx
    exact ⟨rfl, Nat.le_refl _⟩
  unfold SeqAt.shaped
  rw [Bool.and_eq_true, decide_eq_true_eq, PyData.canLay0, PyData.depth, canLayAll_mem]
  refine ⟨fun x hx => (h x hx).1, ?_⟩
  have : PyData.depthAll (ps.map prD) ≤ 1 := depthAll_mem.mpr fun x hx => (h x hx).2
  omega
/-! ### orders and knots, plain -/
def Knot (n : Nat) (ps : List (Nat × Nat)) : Prop := ∃ l, l < n ∧ Up1 ps l l
section
variable {n : Nat} {ps : List (Nat × Nat)} {rs zs : List (List Nat)}
theorem up1_of {x h : Nat} (u : Up ps x h) (ne : x ≠ h) : Up1 ps x h := (up_iff.mp u).resolve_left ne
theorem knot_of {a b : Nat} (ha : a < n) (u : Up ps a b) (v : Up ps b a) (ne : b ≠ a) : Knot n ps := by
  obtain ⟨y, h1, h2, h3⟩ := up1_of v ne
  exact ⟨a, ha, y, u.trans h1, h2, h3⟩
theorem knot_iff (hps : ∀ p ∈ ps, p.1 < n ∧ p.2 < n) (c : Closed n ps rs) : (∃ a b, a < n ∧ b ∈ rs.getD a [] ∧ b ≠ a ∧ a ∈ rs.getD b []) ↔ Knot n ps := by
  refine ⟨fun ⟨a, b, ha, h1, ne, h2⟩ => ?_, fun ⟨l, hl, y, h1, h2, h3⟩ => ?_⟩
  · obtain ⟨hb, u⟩ := (c.is a ha b).mp h1
    obtain ⟨_, v⟩ := (c.is b hb a).mp h2
    exact knot_of ha v u ne
  · have hy := (hps _ h2).1
    exact ⟨l, y, hl, (c.is l hl y).mpr ⟨hy, .step (.here y) h2⟩, h3, (c.is y hy l).mpr ⟨hl, h1⟩⟩
theorem getD_elem {α : Type} {xs : List α} {d : α} {i : Nat} (h : i < xs.length) : xs.getD i d = xs[i] := by
  rw [List.getD_eq_getElem?_getD, List.getElem?_eq_getElem h]
  rfl
theorem closed_eq (c : Closed n ps rs) (d : Closed n ps zs) : rs = zs := by
  refine List.ext_getElem (c.len.trans d.len.symm) fun i h1 h2 => ?_
  have hi : i < n := by rw [← c.len]; exact h1
  rw [← getD_elem (d := []) h1, ← getD_elem (d := []) h2]
  exact inc_eq (lt := fun a b : Nat => a < b) (fun a b h k => by omega) (c.nd i hi) (d.nd i hi) fun k => (c.is i hi k).trans (d.is i hi k).symm
theorem closed_rows (c : Closed n ps rs) : ∀ r ∈ rs, (∀ x ∈ r, x < n) ∧ r.Pairwise (· < ·) := fun r hr => by
  obtain ⟨i, hi, rfl⟩ := List.getElem_of_mem hr
  have hn : i < n := by rw [← c.len]; exact hi
  rw [← getD_elem (d := []) hi]
  exact ⟨fun x hx => ((c.is i hn x).mp hx).1, c.nd i hn⟩
theorem row_len (c : Closed n ps rs) {i : Nat} (hi : i < n) : (rs.getD i []).length ≤ n := by
  have := up_len (c.nd i hi) (lo := 0) (hi := n) fun x hx => ⟨Nat.zero_le _, ((c.is i hi x).mp hx).1⟩
  omega
theorem ord_yes (h1 : 1 ≤ n) (h2 : n ≤ 12) (c : Closed n ps rs) (no : ¬ Knot n ps) : isOrd (ordD rs) = true := by
  have hl := c.len
  rw [isOrd_rows (by omega) (by omega) (by rw [hl]; exact closed_rows c), ordOk_eq, List.all_eq_true, hl]
  intro l hm
  have hm := List.mem_range.mp hm
  unfold lvOk
  rw [List.contains_iff_mem.mpr ((c.is l hm l).mpr ⟨hm, .here l⟩), Bool.true_and, List.all_eq_true]
  intro x hx
  obtain ⟨hxn, u⟩ := (c.is l hm x).mp hx
  rw [Bool.and_eq_true, List.all_eq_true]
  refine ⟨?_, fun y hy => ?_⟩
  · rw [Bool.not_eq_true', Bool.and_eq_false_iff]
    by_cases e : x = l
    · exact Or.inl (by rw [e]; simp)
    · refine Or.inr (Bool.eq_false_iff.mpr fun z => no ?_)
      obtain ⟨_, v⟩ := (c.is x hxn l).mp (List.contains_iff_mem.mp z)
      exact knot_of hm v u e
  · obtain ⟨hyn, v⟩ := (c.is x hxn y).mp hy
    exact List.contains_iff_mem.mpr ((c.is l hm y).mpr ⟨hyn, v.trans u⟩)
theorem ord_no (h1 : 1 ≤ n) (h2 : n ≤ 12) (hps : ∀ p ∈ ps, p.1 < n ∧ p.2 < n) (c : Closed n ps rs) (k : Knot n ps) : isOrd (ordD rs) = false := by
  have hl := c.len
  obtain ⟨a, b, ha, g1, g2, g3⟩ := (knot_iff hps c).mpr k
  rw [isOrd_rows (by omega) (by omega) (by rw [hl]; exact closed_rows c), ordOk_eq, hl]
  refine all_false (List.mem_range.mpr ha) ?_
  unfold lvOk
  rw [Bool.and_eq_false_iff]
  refine Or.inr (all_false g1 ?_)
  rw [bne_iff_ne.mpr g2, List.contains_iff_mem.mpr g3]
  rfl
/-! ### what is no order -/
theorem isOrd_bad {xs : List D} {x : D} (hx : x ∈ xs) (h : isRis xs.length x = false) : isOrd (.tuple xs) = false := by
  show (decide (1 ≤ xs.length) && decide (xs.length ≤ 12) && xs.all (isRis xs.length) && ordOk (xs.map rowOf)) = false
  rw [all_false hx h, Bool.and_false, Bool.false_and]
theorem isOrd_many {xs : List D} (h : 12 < xs.length) : isOrd (.tuple xs) = false := by
  show (decide (1 ≤ xs.length) && decide (xs.length ≤ 12) && xs.all (isRis xs.length) && ordOk (xs.map rowOf)) = false
  rw [decide_eq_false (show ¬ xs.length ≤ 12 by omega), Bool.and_false, Bool.false_and, Bool.false_and]
theorem ris_bad {xs : List D} {x : D} (hx : x ∈ xs) (h : isIdx (n : Nat) x = false) : isRis n (.tuple xs) = false := by
  show (xs.all (isIdx (n : Nat)) && _) = false
  rw [all_false hx h, Bool.false_and]
def valD (rs : List (List Nat)) (i : Nat) (xs : List D) : D := .tuple (((rs.map nsD).set i xs).map .tuple)
theorem val_bad {i : Nat} {xs : List D} (hl : rs.length = n) (hi : i < n) (h : isRis n (.tuple xs) = false) : isOrd (valD rs i xs) = false := by
  have hlen : (((rs.map nsD).set i xs).map PyData.tuple).length = n := by rw [List.length_map, List.length_set, List.length_map, hl]
  refine isOrd_bad (x := .tuple xs) ?_ (by rw [hlen]; exact h)
  refine List.mem_map.mpr ⟨xs, ?_, rfl⟩
  exact List.mem_of_getElem? (List.getElem?_set_self (by rw [List.length_map, hl]; exact hi))
theorem val_less {i : Nat} (h1 : 1 ≤ n) (h2 : n ≤ 12) (c : Closed n ps rs) (hi : i < n) : isOrd (valD rs i (nsD ((rs.getD i []).filter fun x => x != i))) = false := by
  have hl := c.len
  have e : valD rs i (nsD ((rs.getD i []).filter fun x => x != i)) = ordD (rs.set i ((rs.getD i []).filter fun x => x != i)) := by
    unfold valD
    refine congrArg PyData.tuple ?_
    rw [← List.map_set, List.map_map]
    rfl
  have hle : (rs.set i ((rs.getD i []).filter fun x => x != i)).length = n := by rw [List.length_set, hl]
  rw [e, isOrd_rows (by omega) (by omega), ordOk_eq, hle]
  · refine all_false (List.mem_range.mpr hi) ?_
    unfold lvOk
    rw [getD_set (by omega), if_pos rfl, Bool.and_eq_false_iff]
    refine Or.inl (Bool.eq_false_iff.mpr fun z => ?_)
    have := (List.mem_filter.mp (List.contains_iff_mem.mp z)).2
    simp at this
  · rw [hle]
    intro r hr
    rcases List.mem_or_eq_of_mem_set hr with hr | hr
    · exact closed_rows c r hr
    · subst hr
      have hm : rs.getD i [] ∈ rs := row_mem (by omega)
      obtain ⟨k1, k2⟩ := closed_rows c _ hm
      exact ⟨fun x hx => k1 x (List.mem_filter.mp hx).1, k2.filter _⟩
theorem ris_twice {row : List Nat} (h : row ≠ []) : isRis n (.tuple ((nsD row).reverse ++ (nsD row).take 1)) = false := by
  cases row with
  | nil => exact absurd rfl h
  | cons a t =>
    show (_ && decide (List.Pairwise (fun (x y : Nat) => x < y) ((((nsD (a :: t)).reverse ++ (nsD (a :: t)).take 1)).map natOf))) = false
    have e : (((nsD (a :: t)).reverse ++ (nsD (a :: t)).take 1)).map natOf = t.reverse ++ [a] ++ [a] := by
      rw [List.map_append, List.map_reverse, List.map_take, natOf_ns, List.reverse_cons]
      rfl
    rw [e, decide_eq_false, Bool.and_false]
    intro z
    have := (List.pairwise_append.mp z).2.2 a (List.mem_append_right _ (List.mem_singleton.mpr rfl)) a (List.mem_singleton.mpr rfl)
    omega
end
theorem prs_inj : ∀ {xs ys : List (Nat × Nat)}, xs.map prD = ys.map prD → xs = ys
  | [], [], _ => rfl
  | [], _ :: _, h => nomatch h
  | _ :: _, [], h => nomatch h
  | (a, b) :: xs, (c, d) :: ys, h => by
    injection h with h1 h2
    have h1 : PyData.tuple [.int (a : Nat), .int (b : Nat)] = .tuple [.int (c : Nat), .int (d : Nat)] := h1
    injection h1 with h1
    injection h1 with h3 h4
    injection h4 with h4 _
    injection h3 with h3
    injection h4 with h4
    rw [prs_inj h2, Int.ofNat.inj h3, Int.ofNat.inj h4]
theorem seq_inj {b c : Bool} {xs ys : List (Nat × Nat)} (h : seqD b (xs.map prD) = seqD c (ys.map prD)) : xs = ys := by
  have := congrArg itemsOf h
  rw [itemsOf_seqD, itemsOf_seqD] at this
  exact prs_inj this
theorem eqv_nil (xs : List D) : PyData.eqv (.list xs) (.list []) = xs.isEmpty := by
  show PyData.eqvAll xs [] = _
  cases xs <;> rfl
theorem small_tn {r : List Nat} (h : r.length ≤ 1000) : small (tnD r) := by
  show (nsD r).length ≤ 1000
  rw [List.length_map]
  exact h
section
variable {C : Cn} {te : TE} {A : TA} {Γ : List Sl} {α : Type} {g : α → List D} {P : α → Prop} {R : α → D → Prop} {S R' : D → Prop} {S2 : List D → Prop} {E : XK}
/-- a call with arguments of which something is known -/
theorem ve_callX (h : VA C A Γ S2) (k : ∀ ys, S2 ys → ∃ a, g a = ys ∧ P a ∧ ∀ d, R a d → R' d) : VE C (tCallK (Pa C.K g P R) (fun vs _ => vs) E A tNil) Γ R' := fun B H σ F Q q => h B H σ F _ fun ds vs B1 H1 r1 s1 k1 => by
  obtain ⟨a, ea, hP, hR⟩ := k ds r1
  exact ⟨a, hP, B1, ds, (F.step s1).sub, k1, ea.symm, fun d' v' B3 H3 r3 s3 k3 => q d' v' B3 H3 (hR d' r3) (s1.trans F.dlNow s3.any) k3⟩
theorem ve_call1x (h : VE C te Γ S) (k : ∀ y, S y → ∃ a, g a = [y] ∧ P a ∧ ∀ d, R a d → R' d) : VE C (tCallK (Pa C.K g P R) (fun vs _ => vs) E (tCons te tNil) tNil) Γ R' :=
  ve_callX (va_cons h va_nil) fun ys ⟨d, ds, e, r, e2⟩ => by
    cases e2
    rw [e]
    exact k d r
end
end Ly.K76
namespace Ly.K76
open PySem PySem.Spec PyProof.Rows L2
theorem erase_map {α β : Type} (f : α → β) : ∀ (xs : List α) (m : Nat), (xs.map f).eraseIdx m = (xs.eraseIdx m).map f
  | [], _ => rfl
  | _ :: _, 0 => rfl
  | x :: xs, m + 1 => by
    show f x :: (xs.map f).eraseIdx m = f x :: (xs.eraseIdx m).map f
    rw [erase_map f xs m]
section
variable {C : Cn} {Γ : List Sl} {ta tb te : TE} {R : D → Prop} {S S2 : List D → Prop} {P : Po} {i j : Nat}
/-- a, b = e, a new list, by a tuple in between -/
theorem vs_parTL (h1 : VE C ta Γ R) (h2 : VL C tb Γ S) (k : ∀ x y, R x → S y → P.nx ((Γ.set i (.dat x)).set j (.own y))) : VS C (tAsg (tTup (tCons ta (tCons tb tNil))) (gTup C.K 2 (gCons (gName i) (gCons (gName j) gNil)))) Γ P := fun B H σ E F n r b c =>
  h1 B H σ F _ fun x v B1 H1 r1 s1 k1 => h2 B1 H1 σ (F.step s1) _ fun ds p vs B2 H2 r2 s2 e1 e2 e3 e4 => ⟨show 2 ≤ sizeLine by decide, fun T hT => by
    have F2 := (F.step s1).step s2
    have s3 : Stp C.dl B2 H2 B2 (upd H2 T (.tup [v, .ref p])) := Stp.newM F2.sub hT
    refine ⟨T, [v, .ref p], rfl, Or.inl (Or.inl upd_same), rfl, v, _, rfl, .ref p, _, rfl, rfl, ?_⟩
    exact n _ B2 _ _ (k x ds r1 r2) (s1.ext.trans s2.ext) (((F2.step s3).set (dp_mono s2.ext k1)).setOwn ((F.step s1).newC e1) e2 (s3.keep p _ e3 (F2.notMd ((F.step s1).newC e1))) e4 fun j' es nj hj => by
      by_cases hij : i = j'
      · subst hij
        by_cases hl : i < Γ.length
        · rw [List.getElem?_set_self hl] at hj
          cases hj
        · rw [List.getElem?_eq_none_iff.mpr (by rw [List.length_set]; omega)] at hj
          cases hj
      · rw [List.getElem?_set_ne hij] at hj
        rw [List.getElem?_set_ne hij]
        exact (F.step s1).noOwn e1 hj)⟩
theorem vs_parTLL (h1 : VL C ta Γ S) (h2 : VL C tb Γ S2) (k : ∀ x y, S x → S2 y → P.nx ((Γ.set i (.own x)).set j (.own y))) : VS C (tAsg (tTup (tCons ta (tCons tb tNil))) (gTup C.K 2 (gCons (gName i) (gCons (gName j) gNil)))) Γ P := fun B H σ E F n r b c =>
  h1 B H σ F _ fun ds p vs B1 H1 r1 s1 e1 e2 e3 e4 => h2 B1 H1 σ (F.step s1) _ fun es q us B2 H2 r2 s2 g1 g2 g3 g4 => ⟨show 2 ≤ sizeLine by decide, fun T hT => by
    have F2 := (F.step s1).step s2
    have s3 : Stp C.dl B2 H2 B2 (upd H2 T (.tup [.ref p, .ref q])) := Stp.newM F2.sub hT
    refine ⟨T, [.ref p, .ref q], rfl, Or.inl (Or.inl upd_same), rfl, .ref p, _, rfl, .ref q, _, rfl, rfl, ?_⟩
    have hp3 := s3.keep p _ (s2.keep p _ e3 (F.notMd (F.newC e1))) (F.notMd (F.newC e1))
    have hB2 : B2 p = none := s2.out p (by rw [e3]; simp) e2
    exact n _ B2 _ _ (k ds es r1 r2) (s1.ext.trans s2.ext) (((F2.step s3).setOwn (F.newC e1) hB2 hp3 (dpall_mono s2.ext e4) fun j es _ hj => F.noOwn e1 hj).setOwn ((F.step s1).newC g1) g2 (s3.keep q _ g3 (F2.notMd ((F.step s1).newC g1))) g4 fun j' xs nj hj => by
      by_cases hij : i = j'
      · subst hij
        by_cases hl : i < σ.length
        · rw [List.getElem?_set_self hl]
          intro z
          injection z with z
          injection z with z
          injection z with z
          subst z
          rw [e3] at g1
          cases g1
        · rw [List.getElem?_eq_none_iff.mpr (by rw [List.length_set]; omega)]
          exact fun z => nomatch z
      · rw [List.getElem?_set_ne hij] at hj
        rw [List.getElem?_set_ne hij]
        exact (F.step s1).noOwn g1 hj)⟩
/-- a draw below a bound of which something is known -/
theorem ve_anyX {m : Int} {E : XK} (h0 : Γ[i]? = some .deal) (h : VE C te Γ (fun d => ∃ n : Int, d = .int n ∧ 0 < n ∧ n ≤ m)) : VE C (tCallK (De C.K P_any R_any) (fun vs _ => vs) E (tCons (tVar i) (tCons te tNil)) tNil) Γ (fun d => ∃ r : Nat, d = .int (r : Nat) ∧ (r : Int) < m) :=
  ve_de h0 (va_cons h va_nil) fun ds ⟨d, ds', e, ⟨n, ed, n0, n1⟩, e2⟩ => by
    cases e2
    subst e ed
    refine ⟨⟨n, rfl, n0⟩, fun d r => ?_⟩
    obtain ⟨k, ek, k0, k1⟩ := r n rfl
    obtain ⟨k, rfl⟩ := Int.eq_ofNat_of_zero_le k0
    exact ⟨k, ek, by omega⟩
end
section
variable {w : World} {K : PySem.W.Frag} {mg : Str → Option Value} {base : Heap} {B H : Hp} {p q : Addr} {E : XK}
theorem vs__law_size (T : Top K mg) {a : Nat × Nat} (hP : P__law_size a) : VS ⟨K, B, H, some (p, q)⟩ (t__law_size T) (.deal :: slots (A__law_size a) 1) { nx := fun _ => R__law_size a .none, rt := R__law_size a } := by
  obtain ⟨lo, hi⟩ := a
  obtain ⟨h1, h2⟩ := hP
  have h1 : lo ≤ hi := h1
  have h2 : hi ≤ 100000 := h2
  refine vq_asg (ve_anyI (i := 0) rfl ve_int (by decide) (by decide)) fun d ⟨r, ed, r0, r1⟩ => ?_
  subst ed
  refine vq_ifD (vt_testD (ve_opD (ve_var rfl).v ve_int.v od_eqI)) (fun _ => vq_leave (vs_retD (ve_var (d := .int (hi : Nat)) rfl) ⟨hi, rfl, h1, Nat.le_refl _⟩)) fun _ => vq_next ?_
  have wide : ∀ {Γ : List Sl}, Γ[1]? = some (.dat (.int (lo : Nat))) → Γ[2]? = some (.dat (.int (hi : Nat))) → VE ⟨K, B, H, some (p, q)⟩ (tOp (rAddA K) (tOp (rI0 fun i j => .int (i - j)) (tVar 2) (tVar 1)) (tC (.int 1))) Γ (Is (.int ((hi : Int) - lo + 1))) := fun g1 g2 => ve_opD (ve_opD (ve_var g2).v (ve_var g1).v od_sub).v ve_int.v od_add
  refine vs_ret (ve_op (Ra := Is (.int (lo : Nat))) (ve_var rfl).v (VE.v (ve_anyX (i := 0) (m := (hi : Int) - lo + 1) rfl (ve_if (vt_testD (ve_opD (ve_var rfl).v ve_int.v od_eqI)) (fun _ => (ve_min ve_int (wide rfl rfl)).imp fun d ed => ⟨_, ed, ?_, ?_⟩) fun _ => (wide rfl rfl).imp fun d ed => ⟨_, ed, by omega, by omega⟩))) fun x y ex ⟨k, ey, hk⟩ => ?_)
  · split <;> omega
  · split <;> omega
  · subst ex ey
    exact od_add.imp fun d ed => ⟨lo + k, by rw [ed]; rfl, by show lo ≤ lo + k; omega, by show lo + k ≤ hi; omega⟩
theorem ok__law_size (T : Top K mg) (NS : base.NoSeer) : GOk P0 w K mg base CX0 34 T.f__law_size T.fd__law_size ["deal", "least", "most"] (sp__law_size K) :=
  da_ok 1 T.F__law_size sc__law_size (fun _ => rfl) rfl fun cdv A outer s H E hg hr => ⟨_, d__law_size T (ok__law_any T NS) cdv A outer s H E hg hr, fun B H p q a hP => vs__law_size T hP⟩
theorem vs__law_row (T : Top K mg) {a : Nat} (hP : P__law_row a) : VS ⟨K, B, H, some (p, q)⟩ (t__law_row T) (.deal :: slots (A__law_row a) 3) { nx := fun _ => R__law_row a .none, rt := R__law_row a } := by
  have hP : a ≤ 100 := hP
  refine vs_seq (Is [.deal, .dat (.int (a : Nat)), .own (nsD (List.range a)), .own (nsD []), .no]) (vs_parLL (S := Is (nsD (List.range a))) (S2 := Is []) ((vl_listRg (ve_var rfl) (by omega) (by omega)).to (range_ns a)) (vl_lstD va_nil) fun x y ex ey => by cases ex; cases ey; rfl) ?_
  rintro Γ rfl
  refine vs_seq (fun Γ => ∃ (bs : List Nat) (s2 s4 : Sl), Γ = [.deal, .dat (.int (a : Nat)), s2, .own (nsD bs), s4] ∧ bs.Perm (List.range a)) ?_ fun Γ ⟨bs, s2, s4, e, hp⟩ => ?_
  · refine vs_for (vi_rngM (n := a) (ve_var rfl) (by omega)) fun ds e => ?_
    cases e
    refine ⟨fun i Γ => ∃ (as bs : List Nat) (s4 : Sl), Γ = [.deal, .dat (.int (a : Nat)), .own (nsD as), .own (nsD bs), s4] ∧ (as ++ bs).Perm (List.range a) ∧ bs.length = i, ⟨List.range a, [], _, rfl, by rw [List.append_nil], rfl⟩, ?_, ?_⟩
    · rintro i d Γ' hd ⟨as, bs, s4, rfl, hp, hb⟩
      have hi : i < a := by
        have := (List.getElem?_eq_some_iff.mp hd).1
        rwa [List.length_map, List.length_range] at this
      have hl := hp.length_eq
      rw [List.length_append, List.length_range] at hl
      refine ⟨_, _, vg_name, ?_⟩
      show VS _ _ [.deal, .dat (.int (a : Nat)), .own (nsD as), .own (nsD bs), .dat d] _
      refine vs_appPop (i := 3) (j := 2) (ds := nsD bs) (es := nsD as) rfl rfl (by decide) (ve_anyI (i := 0) (n := ((nsD as).length : Nat)) rfl (ve_lenL (vv_own rfl)) ?_ ?_) ?_ ?_ fun m x hm => ?_
      · rw [List.length_map]; omega
      · rw [List.length_map]; omega
      · rw [List.length_map]; omega
      · rw [List.length_map]; omega
      · rw [List.getElem?_map] at hm
        obtain ⟨y, hy, rfl⟩ := Option.map_eq_some_iff.mp hm
        refine ⟨as.eraseIdx m, bs ++ [y], .dat d, ?_, ?_, by rw [List.length_append, hb]; rfl⟩
        · have e1 : (nsD as).eraseIdx m = nsD (as.eraseIdx m) := erase_map _ _ _
          have e2 : nsD (bs ++ [y]) = nsD bs ++ [PyData.int (y : Nat)] := List.map_append
          rw [e1, e2]
          rfl
        · refine List.Perm.trans ?_ hp
          rw [← List.append_assoc]
          exact (List.perm_append_singleton y _).trans ((erase_perm as m y hy).append_right bs)
    · rintro Γ' ⟨as, bs, s4, rfl, hp, hb⟩
      rw [List.length_map, List.length_range] at hb
      have hl := hp.length_eq
      rw [List.length_append, List.length_range] at hl
      obtain rfl : as = [] := List.length_eq_zero_iff.mp (by omega)
      exact ⟨bs, _, _, rfl, hp⟩
  · subst e
    exact vs_retOwn 3 rfl ⟨bs, rfl, hp⟩
theorem ok__law_row (T : Top K mg) (NS : base.NoSeer) : GOk P0 w K mg base CX0 34 T.f__law_row T.fd__law_row ["deal", "many"] (sp__law_row K) :=
  da_ok 3 T.F__law_row sc__law_row (fun _ => rfl) rfl fun cdv A outer s H E hg hr => ⟨_, d__law_row T (ok__law_any T NS) cdv A outer s H E hg hr, fun B H p q a hP => vs__law_row T hP⟩
theorem filter_eqv_nil {lot : List Nat} {f : Nat → Bool} : PyData.eqv (.list (nsD (lot.filter fun x => !f x))) (.list []) = lot.all f := by
  rw [← filter_nil_all]
  show PyData.eqvAll (nsD _) [] = _
  cases (lot.filter fun x => !f x) <;> rfl
theorem vs__law_within (T : Top K mg) {a : List (List Nat) × List Nat × Nat} (hP : P__law_within a) : VS ⟨K, B, H, none⟩ (t__law_within T) (slots (A__law_within a) 1) { nx := fun _ => R__law_within a .none, rt := R__law_within a } := by
  obtain ⟨rs, lot, level⟩ := a
  obtain ⟨h1, _, h3⟩ := hP
  have h3 : lot.length ≤ 1000 := h3
  refine vs_retD ((ve_opD (vl_lcM (m := fun n : Nat => PyData.int (n : Nat)) (xs := lot) (fun x => !(rs.getD level []).contains x) (fun n => .int (n : Nat)) (va_tupD (ve_var rfl)) (by omega) fun x hx => ⟨_, _, vg_name, fun j hj => hj, vt_testD (ve_notRow (ve_var rfl) (ve_row (ve_var rfl) (ve_var rfl) h1)), fun _ => ve_var rfl⟩).vd (vl_lstD va_nil).vd (od_eq (shaped_ns _) rfl)).to (congrArg PyData.bool filter_eqv_nil)) rfl
theorem ok__law_within (T : Top K mg) : GOk P0 w K mg base CX0 1 T.f__law_within T.fd__law_within ["order", "lot", "level"] (sp__law_within K) :=
  pa_ok 1 T.F__law_within sc__law_within (fun _ => rfl) rfl fun cdv A outer s H E hg hr => ⟨_, d__law_within T cdv A outer s H E hg hr, fun B H a hP => vs__law_within T hP⟩
theorem chk_lt {x y : D} {k : Nat} (h : chk x y = some k) : k ≤ 1 := by
  unfold chk at h
  split at h
  · split at h
    · split at h
      · cases h
      · cases h
        exact Nat.le_refl _
    · cases h
      exact Nat.zero_le _
  · cases h
    exact Nat.zero_le _
theorem vs__law_refused (T : Top K mg) {a : AskO} (hP : P__law_refused a) : VS ⟨K, B, H, none⟩ (t__law_refused T) (slots (A__law_refused a) 1) { nx := fun _ => R__law_refused a .none, rt := R__law_refused a } := by
  refine vs_seq (fun Γ => Γ = slots (A__law_refused a) 1 ∧ ∃ e, R_order_of a e) (vs_tryR (C0 := ⟨K, B, H, none⟩) T.X_InvalidOrder.ex (vx_a (Ar := A_order_of) (P := P_order_of) (R := R_order_of) (W := W_order_of) a (va_consD (ve_var rfl) (va_consD (ve_var rfl) va_nil)) hP) (fun d r => ⟨rfl, d, r⟩) fun n hn => ?_) fun Γ ⟨e, h⟩ => ?_
  · have h2 := hn
    rcases hn with ⟨k, hk, rfl⟩ | ⟨rfl, _⟩
    · have := chk_lt hk
      exact ⟨(k : Nat), rfl, by omega, Or.inr ⟨_, h2, rfl⟩⟩
    · exact ⟨2, rfl, by decide, Or.inr ⟨_, h2, rfl⟩⟩
  · subst e
    exact vs_retD ve_non (Or.inl ⟨rfl, h⟩)
theorem ok__law_refused (T : Top K mg) : GOk P0 w K mg base CX0 7 T.f__law_refused T.fd__law_refused ["levels", "pairs"] (sp__law_refused K) :=
  pa_ok 1 T.F__law_refused sc__law_refused (fun _ => rfl) rfl fun cdv A outer s H E hg hr => ⟨_, d__law_refused T (ok_order_of T) cdv A outer s H E hg hr, fun B H a hP => vs__law_refused T hP⟩
theorem vs__law_is_ring (T : Top K mg) {a : AskR} (hP : P__law_is_ring a) : VS ⟨K, B, H, none⟩ (t__law_is_ring T w) (slots (A__law_is_ring a) 2) { nx := fun _ => R__law_is_ring a .none, rt := R__law_is_ring a } := by
  obtain ⟨ps, r⟩ := a
  obtain ⟨hr, h60, hps⟩ := hP
  have hr : IsRing ps r := hr
  have h60 : r.length ≤ 60 := h60
  have two := hr.two
  have hlen : VE ⟨K, B, H, none⟩ (tCB (rLen K) (tCons (tVar 1) tNil)) (slots (A__law_is_ring ⟨ps, r⟩) 2) (Is (.int (r.length : Nat))) := (ve_lenT (ve_var rfl)).to (by rw [List.length_map])
  refine vq_ifD (x := false) ((vt_orD (b := false) (c := false) ((vt_notD (vt_BD (ve_isTup (ve_var rfl).v))).to rfl) fun _ => (vt_orD (b := false) (c := false) ((vt_testD (ve_opD hlen.v ve_int.v od_lt)).to (decide_eq_false (by omega))) fun _ => ?_).to rfl).to rfl) (fun h => by cases h) fun _ => vq_next ?_
  · have nd : (r.map fun (n : Nat) => (n : Int)).Nodup := (List.Pairwise.map _ (fun a b h z => h (Int.ofNat.inj z)) hr.nd)
    refine (vt_testD (ve_opD (ve_lenSetT (ns := r.map fun (n : Nat) => (n : Int)) ((ve_var (d := tnD r) rfl).to (congrArg PyData.tuple (ns_cast r))) (by rw [List.length_map]; omega) nd).v hlen.v od_lt)).to (decide_eq_false ?_)
    rw [List.length_map]
    omega
  refine vq_ifD (x := false) ((vt_testD (ve_opD (x := .list []) (y := .list []) (VL.vd ((vl_lcM (m := fun n : Nat => PyData.int (n : Nat)) (xs := r) (fun _ => false) (fun n => .int (n : Nat)) (va_tupD (ve_var rfl)) (by omega) fun x hx => ⟨_, _, vg_name, fun j hj => hj, (vt_orD (b := false) (c := false) (vt_BD ((ve_isBool (d := .int (x : Nat)) (ve_var rfl).v).to rfl)) fun _ => (vt_notD (vt_BD (ve_isInt (d := .int (x : Nat)) (ve_var rfl).v))).to rfl).to rfl, fun h => by cases h⟩).to (by rw [List.filter_eq_nil_iff.mpr fun _ _ h => by cases h]; rfl))) (vl_lstD va_nil).vd (od_ne rfl rfl))).to rfl) (fun h => by cases h) fun _ => vq_next ?_
  · refine vs_retD (ve_opD (x := .list []) (y := .list []) ?_ (vl_lstD va_nil).vd (od_eq rfl rfl)) rfl
    refine VL.vd ((vl_lcM (m := fun (i : Nat) => PyData.int (i : Nat)) (fun i => !ps.contains (r.getD ((i + r.length - 1) % r.length) 0, r.getD i 0)) (fun i => .int (i : Nat)) (vi_rngM (n := r.length) hlen (by omega)) (by rw [List.length_range]; omega) fun i hi => ⟨_, _, vg_name, fun j hj => hj, ?_, fun _ => ve_var rfl⟩).to ?_)
    · have hi := List.mem_range.mp hi
      have prev : atI (nsD r) ((i : Int) - 1) = some (.int (r.getD ((i + r.length - 1) % r.length) 0 : Nat)) := by
        cases i with
        | zero =>
          rw [show (0 + r.length - 1) % r.length = r.length - 1 by rw [Nat.mod_eq_of_lt (by omega)]; omega]
          refine atI_neg1 ?_
          rw [List.getLast?_eq_getElem?, List.length_map, List.getElem?_map, getD_at (d := 0) (by omega)]
          rfl
        | succ i =>
          rw [show (i + 1 + r.length - 1) % r.length = i by
            rw [show i + 1 + r.length - 1 = i + r.length by omega, Nat.add_mod_right, Nat.mod_eq_of_lt (by omega)]]
          rw [show ((i + 1 : Nat) : Int) - 1 = (i : Nat) by omega]
          exact atI_pos (by rw [List.getElem?_map, getD_at (d := 0) (by omega)]; rfl)
      have hx : ∀ {Γ : List Sl}, Γ[1]? = some (.dat (tnD r)) → Γ[3]? = some (.dat (.int (i : Nat))) → VE ⟨K, B, H, none⟩ (tTup (tCons (tOp (rIx K) (tVar 1) (tOp (rI0 fun i j => .int (i - j)) (tVar 3) (tC (.int 1)))) (tCons (tOp (rIx K) (tVar 1) (tVar 3)) tNil))) Γ (Is (prD (r.getD ((i + r.length - 1) % r.length) 0, r.getD i 0))) := fun h1 h2 =>
        ve_tupD (va_consD (ve_opD (ve_var h1).v (ve_opD (ve_var h2).v ve_int.v od_sub).v (od_ixT prev)) (va_consD (ve_num (ve_var h1) (ve_var h2) hi) va_nil))
      exact (vt_testD (ve_opD (hx rfl rfl).v (ve_var rfl).v (od_notinL (shaped_pr _) (shaped_prs ps)))).to (by rw [any_prs])
    · have : (List.range r.length).filter (fun i => !ps.contains (r.getD ((i + r.length - 1) % r.length) 0, r.getD i 0)) = [] := by
        rw [List.filter_eq_nil_iff]
        intro i hi h
        have := hr.go i (List.mem_range.mp hi)
        rw [List.contains_iff_mem.mpr this] at h
        cases h
      rw [this]
      rfl
theorem ok__law_is_ring (T : Top K mg) : GOk P0 w K mg base CX0 1 T.f__law_is_ring T.fd__law_is_ring ["pairs", "ring"] (sp__law_is_ring K) :=
  pa_ok 2 T.F__law_is_ring sc__law_is_ring (fun _ => rfl) rfl fun cdv A outer s H E hg hr => ⟨_, d__law_is_ring T cdv A outer s H E hg hr, fun B H a hP => vs__law_is_ring T hP⟩
end
end Ly.K76
namespace Ly.K76
open PySem PySem.Spec PyProof.Rows L2
/-! ### the closing along a row, plain -/
section
variable {row : List Nat} {ps : List (Nat × Nat)} {f : Nat → List Nat} {t k high : Nat}
theorem row_nd (h : RowOk row) : row.Nodup := h.1.nodup_iff.mpr List.nodup_range
theorem row_lt (h : RowOk row) {x : Nat} : x ∈ row ↔ x < row.length := h.1.mem_iff.trans List.mem_range
theorem at_row {j : Nat} (hj : j < row.length) : row.getD j 0 ∈ row := by
  rw [getD_elem hj]
  exact List.getElem_mem hj
theorem at_inj (nd : row.Nodup) {i j : Nat} (hi : i < row.length) (hj : j < row.length) (e : row.getD i 0 = row.getD j 0) : i = j := by
  rw [getD_elem hi, getD_elem hj] at e
  have k := List.pairwise_iff_getElem.mp nd
  rcases Nat.lt_trichotomy i j with h | h | h
  · exact absurd e (k i j hi hj h)
  · exact h
  · exact absurd e.symm (k j i hj hi h)
theorem row_has (h : RowOk row) {x : Nat} (hx : x < row.length) : ∃ j, j < row.length ∧ row.getD j 0 = x := by
  obtain ⟨j, hj, e⟩ := List.getElem_of_mem ((row_lt h).mpr hx)
  exact ⟨j, hj, by rw [getD_elem hj, e]⟩
structure Stage (row : List Nat) (ps : List (Nat × Nat)) (t : Nat) (f : Nat → List Nat) : Prop where
  nd : ∀ l ∈ row, (f l).Nodup
  snd : ∀ l ∈ row, ∀ x ∈ f l, x ∈ row ∧ Up ps x l
  own : ∀ l ∈ row, l ∈ f l
  cmp : ∀ j, j < t → j < row.length → ∀ x, Up ps x (row.getD j 0) → x ∈ f (row.getD j 0)
/-- what is handed on by the first k pairs -/
def Handed (ps : List (Nat × Nat)) (high k : Nat) (f : Nat → List Nat) : Prop := ∀ i, i < k → ∀ low, ps[i]? = some (low, high) → low ≠ high → ∀ x ∈ f low, x ∈ f high
def grow (f : Nat → List Nat) (low high : Nat) : Nat → List Nat := fun l => if l = high then f high ++ (f low).filter (fun x => !(f high).contains x) else f l
theorem grow_same : grow f k high high = f high ++ (f k).filter (fun x => !(f high).contains x) := if_pos rfl
theorem grow_ne {l : Nat} (h : l ≠ high) : grow f k high l = f l := if_neg h
theorem grow_sub {l x : Nat} (h : x ∈ f l) : x ∈ grow f k high l := by
  by_cases e : l = high
  · rw [e, grow_same]
    exact List.mem_append_left _ (e ▸ h)
  · rw [grow_ne e]
    exact h
theorem grow_low {low x : Nat} (h : x ∈ f low) : x ∈ grow f low high high := by
  rw [grow_same]
  by_cases e : (f high).contains x = true
  · exact List.mem_append_left _ (List.contains_iff_mem.mp e)
  · exact List.mem_append_right _ (List.mem_filter.mpr ⟨h, by rw [Bool.eq_false_iff.mpr e]; rfl⟩)
theorem Stage.grow {low : Nat} (nr : row.Nodup) (s : Stage row ps t f) (ht : t < row.length) (e : high = row.getD t 0) (hl : low ∈ row) (hp : (low, high) ∈ ps) : Stage row ps t (grow f low high) := by
  have hh : high ∈ row := e ▸ at_row ht
  refine ⟨fun l hm => ?_, fun l hm x hx => ?_, fun l hm => grow_sub (s.own l hm), fun j hj hjl x u => grow_sub (s.cmp j hj hjl x u)⟩
  · by_cases e : l = high
    · rw [e, grow_same]
      refine List.nodup_append.mpr ⟨s.nd _ hh, (s.nd _ hl).filter _, fun a ha b hb z => ?_⟩
      subst z
      have := (List.mem_filter.mp hb).2
      simp at this
      exact this ha
    · rw [grow_ne e]
      exact s.nd l hm
  · by_cases e : l = high
    · rw [e, grow_same] at hx
      rw [e]
      rcases List.mem_append.mp hx with hx | hx
      · exact s.snd _ hh x hx
      · obtain ⟨h1, h2⟩ := s.snd _ hl x (List.mem_filter.mp hx).1
        exact ⟨h1, .step h2 hp⟩
    · rw [grow_ne e] at hx
      exact s.snd l hm x hx
theorem Handed.grow {low : Nat} (h : Handed ps high k f) (hp : ps[k]? = some (low, high)) : Handed ps high (k + 1) (grow f low high) := fun i hi low2 hp2 ne x hx => by
  rw [grow_ne ne] at hx
  by_cases e : i = k
  · subst e
    rw [hp] at hp2
    cases hp2
    exact grow_low hx
  · exact grow_sub (h i (by omega) low2 hp2 ne x hx)
theorem Handed.skip {p : Nat × Nat} (h : Handed ps high k f) (hp : ps[k]? = some p) (no : ¬ (p.2 = high ∧ p.1 ≠ high)) : Handed ps high (k + 1) f := fun i hi low2 hp2 ne x hx => by
  by_cases e : i = k
  · subst e
    rw [hp] at hp2
    cases hp2
    exact absurd ⟨rfl, ne⟩ no
  · exact h i (by omega) low2 hp2 ne x hx
theorem Stage.next (nr : row.Nodup) (al : Along row ps) (s : Stage row ps t f) (ht : t < row.length) (e : high = row.getD t 0) (h : Handed ps high ps.length f) : Stage row ps (t + 1) f := by
  refine ⟨s.nd, s.snd, s.own, fun j hj hjl x u => ?_⟩
  by_cases ej : j = t
  · subst ej
    have key : ∀ x z, Up ps x z → z = high → x ∈ f high := fun x z u => by
      induction u with
      | here => exact fun ez => by rw [ez]; exact s.own _ (e ▸ at_row ht)
      | @step y z v hm ih =>
        intro ez
        by_cases ey : y = high
        · exact ih ey
        · obtain ⟨i, j2, hij, hj2, ep⟩ := al _ hm
          injection ep with e1 e2
          have e3 : j2 = j := at_inj nr hj2 ht (by rw [← e2, ez, e])
          have hi : i < j := by
            rcases Nat.lt_or_eq_of_le hij with g | g
            · omega
            · subst g
              exact absurd (e1.trans (e2.symm.trans ez)) ey
          have hx := s.cmp i hi (by omega) x (e1 ▸ v)
          rw [← e1] at hx
          obtain ⟨q, hq, eq⟩ := List.getElem_of_mem hm
          exact h q hq y (by rw [List.getElem?_eq_getElem hq, eq, ez]) ey x hx
    rw [← e] at u ⊢
    exact key x high u rfl
  · exact s.cmp j (by omega) hjl x u
end
/-! ### the dict of rows -/
abbrev clD (row : List Nat) (f : Nat → List Nat) : List (Key × D) := row.map fun (l : Nat) => ((Sum.inl (l : Int) : Key), lnD (f l))
theorem getK_cl {f : Nat → List Nat} {l : Nat} : ∀ {row : List Nat}, l ∈ row → getK (clD row f) (.inl (l : Int)) = some (lnD (f l))
  | a :: row, h => by
    by_cases e : a = l
    · subst e
      exact getK_pos rfl
    · have h2 : l ∈ row := (List.mem_cons.mp h).resolve_left fun z => e z.symm
      exact (getK_neg (fun z => e (Int.ofNat.inj (Sum.inl.inj z)))).trans (getK_cl h2)
theorem cl_nd {row : List Nat} (nd : row.Nodup) (f : Nat → List Nat) : ((clD row f).map Prod.fst).Nodup := by
  rw [List.map_map]
  exact List.Pairwise.map _ (fun a b h z => h (Int.ofNat.inj (Sum.inl.inj z))) nd
theorem cl_put {row : List Nat} {f : Nat → List Nat} {low high : Nat} : ((clD row f).map fun p => if p.1 = Sum.inl (high : Int) then (p.1, lnD (f high ++ (f low).filter fun x => !(f high).contains x)) else p) = clD row (grow f low high) := by
  rw [List.map_map]
  refine List.map_congr_left fun l _ => ?_
  show (if (Sum.inl (l : Int) : Key) = Sum.inl (high : Int) then ((Sum.inl (l : Int) : Key), lnD (f high ++ (f low).filter fun x => !(f high).contains x)) else (Sum.inl (l : Int), lnD (f l))) = (Sum.inl (l : Int), lnD (grow f low high l))
  by_cases e : l = high
  · subst e
    rw [if_pos rfl, grow_same]
  · rw [if_neg (show ¬ ((Sum.inl (l : Int) : Key) = Sum.inl (high : Int)) from fun z => e (Int.ofNat.inj (Sum.inl.inj z))), grow_ne e]
section
variable {w : World} {K : PySem.W.Frag} {mg : Str → Option Value} {base : Heap} {B H : Hp} {p q : Addr} {E : XK}
theorem vs__law_closed (T : Top K mg) {a : AskC} (hP : P__law_closed a) : VS ⟨K, B, H, none⟩ (t__law_closed T w) (slots (A__law_closed a) 5) { nx := fun _ => R__law_closed a .none, rt := R__law_closed a } := by
  obtain ⟨row, ps⟩ := a
  obtain ⟨hrow, hpl, al⟩ := hP
  have hrow : RowOk row := hrow
  have hpl : ps.length ≤ 1000 := hpl
  have al : Along row ps := al
  have nr := row_nd hrow
  have n12 := hrow.2.2
  have inr : ∀ z ∈ ps, z.1 ∈ row ∧ z.2 ∈ row := fun z hz => by
    obtain ⟨i, j, h1, h2, rfl⟩ := al z hz
    exact ⟨at_row (by omega), at_row h2⟩
  have small : ∀ {t f}, Stage row ps t f → ∀ l ∈ row, (f l).length ≤ 12 := fun {t f} s l hl =>
    Nat.le_trans (nd_len (n := row.length) (s.nd l hl) fun x hx => (row_lt hrow).mp (s.snd l hl x hx).1) n12
  refine vs_seq (Is [.dat (lnD row), .dat (.list (ps.map prD)), .odk (clD row fun l => [l]), .no, .no, .no, .no]) (vs_setN (i := 2) (kvs := clD row fun l => [l]) (vn_dictP ?_ (cl_nd nr _)) rfl) ?_
  · refine ((vl_mapM (m := fun n : Nat => PyData.int (n : Nat)) (xs := row) (fun l => .tuple [.int (l : Nat), lnD [l]]) (va_listD (ve_var rfl)) (by omega) fun l _ => ⟨_, _, vg_name, fun j hj => hj, ve_tupD (va_consD (ve_var rfl) (va_consD (vl_lstD (va_consD (ve_var rfl) va_nil)).ed va_nil))⟩).to ?_).vd
    rw [List.map_map]
    rfl
  rintro Γ rfl
  refine vs_seq (fun Γ => ∃ f s4 s5 s6, Γ = [.dat (lnD row), .dat (.list (ps.map prD)), .odk (clD row f), .no, s4, s5, s6] ∧ Stage row ps row.length f) ?_ fun Γ ⟨f, s4, s5, s6, e, st⟩ => ?_
  · refine vs_for (va_listD (ds := nsD row) (ve_var rfl)) fun ds e => ?_
    cases e
    refine ⟨fun t Γ => ∃ f s4 s5 s6, Γ = [.dat (lnD row), .dat (.list (ps.map prD)), .odk (clD row f), .no, s4, s5, s6] ∧ Stage row ps t f, ⟨fun l => [l], _, _, _, rfl, ⟨fun l _ => by simp, fun l hl x hx => ?_, fun l _ => List.mem_singleton.mpr rfl, fun j hj => by omega⟩⟩, ?_, fun Γ' h => ?_⟩
    · rw [List.mem_singleton.mp hx]
      exact ⟨hl, .here _⟩
    · rintro t d Γ' hd ⟨f, s4, s5, s6, rfl, st⟩
      rw [List.getElem?_map] at hd
      obtain ⟨high, hh, rfl⟩ := Option.map_eq_some_iff.mp hd
      have ht : t < row.length := (List.getElem?_eq_some_iff.mp hh).1
      have eh : high = row.getD t 0 := by rw [List.getD_eq_getElem?_getD, hh]; rfl
      have hhr : high ∈ row := List.mem_of_getElem? hh
      refine ⟨_, _, vg_name, ?_⟩
      show VS _ _ [.dat (lnD row), .dat (.list (ps.map prD)), .odk (clD row f), .no, .dat (.int (high : Nat)), s5, s6] _
      refine vs_for (va_listD (ds := ps.map prD) (ve_var rfl)) fun ds e => ?_
      cases e
      refine ⟨fun k Γ => ∃ f s5 s6, Γ = [.dat (lnD row), .dat (.list (ps.map prD)), .odk (clD row f), .no, .dat (.int (high : Nat)), s5, s6] ∧ Stage row ps t f ∧ Handed ps high k f, ⟨f, _, _, rfl, st, fun i hi => by omega⟩, ?_, fun Γ' ⟨f, s5, s6, e, st, hn⟩ => ?_⟩
      · rintro k d Γ' hd ⟨f, s5, s6, rfl, st, hn⟩
        rw [List.getElem?_map] at hd
        obtain ⟨⟨low, other⟩, hp, rfl⟩ := Option.map_eq_some_iff.mp hd
        have hmem := List.mem_of_getElem? hp
        obtain ⟨hlr, _⟩ := inr _ hmem
        have hlr : low ∈ row := hlr
        refine ⟨_, _, vg_tup2 vg_name vg_name, ?_⟩
        show VS _ _ [.dat (lnD row), .dat (.list (ps.map prD)), .odk (clD row f), .no, .dat (.int (high : Nat)), .dat (.int (low : Nat)), .dat (.int (other : Nat))] _
        have eqI : ∀ a b : Nat, decide ((a : Int) = (b : Int)) = decide (a = b) := fun a b => decide_eq_decide.mpr (by omega)
        refine vs_ifD (x := decide (other = high) && !decide (low = high)) (vt_andD ((vt_testD (ve_opD (ve_var rfl).v (ve_var rfl).v od_eqI)).to (eqI _ _)) fun _ => (vt_testD (ve_opD (ve_var rfl).v (ve_var rfl).v od_neI)).to (congrArg (!·) (eqI _ _))) (fun h => ?_) fun h => ?_
        · rw [Bool.and_eq_true, decide_eq_true_eq, Bool.not_eq_true', decide_eq_false_iff_not] at h
          obtain ⟨rfl, ne⟩ := h
          have gt : ∀ {Γ : List Sl} {te : TE} {l : Nat}, l ∈ row → Γ[2]? = some (.odk (clD row f)) → VE ⟨K, B, H, none⟩ te Γ (Is (.int (l : Nat))) → VE ⟨K, B, H, none⟩ (tDGet (tVar 2) te) Γ (Is (lnD (f l))) := fun {Γ te l} hl g h => ve_dgetK (k := .inl (l : Int)) (vd_own g) h (getK_cl hl)
          have z1 := small st _ hhr
          have z2 := small st _ hlr
          have z3 := List.length_filter_le (fun x => !(f other).contains x) (f low)
          refine vs_putOld (i := 2) (kvs := clD row f) (k := .inl (other : Int)) (R := Is (lnD (f other ++ (f low).filter fun x => !(f other).contains x))) rfl (fun j zs hj e => ?_) ?_ (ve_var rfl) (by rw [getK_cl hhr]; rfl) (by rw [List.length_map]; omega) fun d ed => ?_
          · match j, hj, e with
            | 0, _, e => cases e
            | 1, _, e => cases e
            | 2, hj, _ => exact hj rfl
            | 3, _, e => cases e
            | 4, _, e => cases e
            | 5, _, e => cases e
            | 6, _, e => cases e
            | n + 7, _, e => cases e
          · refine ((vl_opD (gt hhr rfl (ve_var rfl)).v (vl_lcM (m := fun n : Nat => PyData.int (n : Nat)) (xs := f low) (fun x => !(f other).contains x) (fun n => .int (n : Nat)) (va_listD (gt hlr rfl (ve_var rfl))) (by omega) fun x hx => ⟨_, _, vg_name, fun j hj => hj, ?_, fun _ => ve_var rfl⟩).vd (ol_cat ?_)).to ?_).ed
            · exact vt_testD ((ve_opD (ve_var rfl).v (gt hhr rfl (ve_var rfl)).v (od_notinL rfl (shaped_ns _))).to (congrArg (fun b => PyData.bool (!b)) (any_ints _ x)))
            · rw [List.length_map, List.length_map]
              omega
            · exact List.map_append.symm
          · cases ed
            refine ⟨grow f low other, .dat (.int (low : Nat)), .dat (.int (other : Nat)), ?_, st.grow nr ht eh hlr hmem, hn.grow hp⟩
            rw [← cl_put]
            rfl
        · refine vs_next ⟨f, _, _, rfl, st, hn.skip hp fun ⟨h1, h2⟩ => ?_⟩
          have h1 : other = high := h1
          have h2 : low ≠ high := h2
          rw [decide_eq_true h1, decide_eq_false h2] at h
          cases h
      · rw [List.length_map] at hn
        exact ⟨f, _, s5, s6, e, st.next nr al ht eh hn⟩
    · rw [List.length_map] at h
      exact h
  · subst e
    have hlen : VE ⟨K, B, H, none⟩ (tCB (rLen K) (tCons (tVar 0) tNil)) [.dat (lnD row), .dat (.list (ps.map prD)), .odk (clD row f), .no, s4, s5, s6] (Is (.int (row.length : Nat))) := (ve_lenL (ve_var rfl).v).to (by rw [List.length_map])
    refine vs_ret ((ve_tupX (vl_mapR (ds := (List.range row.length).map fun (i : Nat) => PyData.int (i : Nat)) (fun d y => ∃ ms : List Nat, y = tnD ms ∧ ms.Pairwise (· < ·) ∧ ∀ k, k ∈ ms ↔ k ∈ f (natOf d)) (vi_rngM (n := row.length) hlen (by omega)) (by rw [List.length_map, List.length_range]; omega) fun d hd => ?_)).imp fun d hd => ?_)
    · obtain ⟨l, hl, rfl⟩ := List.mem_map.mp hd
      have hl := (row_lt hrow).mpr (List.mem_range.mp hl)
      have z := small st _ hl
      refine ⟨_, _, vg_name, fun j hj => hj, (ve_tupX (vl_sortSetL (ns := f l) (ve_dgetK (k := .inl (l : Int)) (vd_own rfl) (ve_var rfl) (getK_cl hl)) (by omega))).imp fun y ⟨ds, ey, ms, ed, h1, h2⟩ => ⟨ms, by rw [ey, ed], h1, fun k => h2 k⟩⟩
    · obtain ⟨ds, ed, ha⟩ := hd
      obtain ⟨rs, er, hl, hq⟩ := A2.at (f := fun (i : Nat) => PyData.int (i : Nat)) (g := tnD) (Q := fun (i : Nat) (ms : List Nat) => ms.Pairwise (· < ·) ∧ ∀ k, k ∈ ms ↔ k ∈ f i) (fun x y ⟨ms, e, h⟩ => ⟨ms, e, h⟩) ha
      rw [List.length_range] at hl
      have at_ : ∀ h, h < row.length → (rs.getD h []).Pairwise (· < ·) ∧ ∀ k, k ∈ rs.getD h [] ↔ k ∈ f h := fun h hh => by
        obtain ⟨r, e1, e2⟩ := hq h h (List.getElem?_range hh)
        rw [List.getD_eq_getElem?_getD, e1]
        exact e2
      refine ⟨rs, by rw [ed, er], hl, fun h hh x => ?_, fun h hh => (at_ h hh).1⟩
      rw [(at_ h hh).2 x]
      have hhr := (row_lt hrow).mpr hh
      constructor
      · intro hx
        obtain ⟨h1, h2⟩ := st.snd h hhr x hx
        exact ⟨(row_lt hrow).mp h1, h2⟩
      · rintro ⟨_, u⟩
        obtain ⟨j, hj, rfl⟩ := row_has hrow hh
        exact st.cmp j hj hj x u
theorem ok__law_closed (T : Top K mg) : GOk P0 w K mg base CX0 1 T.f__law_closed T.fd__law_closed ["row", "pairs"] (sp__law_closed K) :=
  pa_ok 5 T.F__law_closed sc__law_closed (fun _ => rfl) rfl fun cdv A outer s H E hg hr => ⟨_, d__law_closed T cdv A outer s H E hg hr, fun B H a hP => vs__law_closed T hP⟩
end
end Ly.K76
namespace Ly.K76
open PySem PySem.Spec PyProof.Rows L2
section
variable {w : World} {K : PySem.W.Frag} {mg : Str → Option Value} {base : Heap} {B H : Hp} {p q : Addr} {E : XK}
theorem map_snoc (ps : List (Nat × Nat)) (x : Nat × Nat) : (ps ++ [x]).map prD = ps.map prD ++ [prD x] := List.map_append
theorem along_snoc {row : List Nat} {ps : List (Nat × Nat)} {i j : Nat} (h : Along row ps) (hij : i ≤ j) (hj : j < row.length) : Along row (ps ++ [(row.getD i 0, row.getD j 0)]) := fun z hz => by
  rcases List.mem_append.mp hz with hz | hz
  · exact h z hz
  · exact ⟨i, j, hij, hj, List.mem_singleton.mp hz⟩
theorem ve_numL {C : Cn} {te t2 : TE} {Γ : List Sl} {r : List Nat} {i : Nat} (h : VE C te Γ (Is (lnD r))) (h2 : VE C t2 Γ (Is (.int (i : Nat)))) (hi : i < r.length) : VE C (tOp (rIx C.K) te t2) Γ (Is (.int (r.getD i 0 : Nat))) :=
  ve_opD h.v h2.v (od_ixL (atI_pos (by rw [List.getElem?_map, getD_at (d := 0) hi]; rfl)))
abbrev GP (row : List Nat) (s2 s3 s4 s5 s6 s7 : Sl) : List Sl := [.deal, .dat (lnD row), s2, s3, s4, s5, s6, s7]
theorem vs__law_pairs (T : Top K mg) {row : List Nat} (hP : P__law_pairs row) : VS ⟨K, B, H, some (p, q)⟩ (t__law_pairs T) (.deal :: slots (A__law_pairs row) 6) { nx := fun _ => R__law_pairs row .none, rt := R__law_pairs row } := by
  have hP : RowOk row := hP
  have n1 := hP.2.1
  have n12 := hP.2.2
  refine vs_seq (fun Γ => ∃ r : Int, Γ = GP row (.dat (.int r)) (.own (([] : List (Nat × Nat)).map prD)) .no .no .no .no) (vs_parTL (i := 2) (j := 3) (S := Is []) (ve_anyI (i := 0) rfl ve_int (by decide) (by decide)) (vl_lstD va_nil) fun x y ⟨r, ex, _, _⟩ ey => by
    subst ex
    cases ey
    exact ⟨r, rfl⟩) ?_
  rintro Γ ⟨r, rfl⟩
  have hlen : VE ⟨K, B, H, some (p, q)⟩ (tCB (rLen K) (tCons (tVar 1) tNil)) (GP row (.dat (.int r)) (.own (([] : List (Nat × Nat)).map prD)) .no .no .no .no) (Is (.int (row.length : Nat))) := (ve_lenL (ve_var rfl).v).to (by rw [List.length_map])
  refine vs_seq (fun Γ => ∃ ps : List (Nat × Nat), Γ = GP row (.dat (.int r)) (.own (ps.map prD)) .no .no .no .no ∧ ps.length ≤ 11 ∧ Along row ps) (vs_ifD (vt_testD (ve_opD (ve_var rfl).v ve_int.v od_lt)) (fun _ => ?_) fun _ => vs_next ⟨[], rfl, by show 0 ≤ 11; omega, fun _ h => nomatch h⟩) ?_
  · refine vs_own (i := 3) (S := fun ds => ∃ ps : List (Nat × Nat), ds = ps.map prD ∧ ps.length ≤ 11 ∧ Along row ps) (vl_lc (vi_rngZ (z := (row.length : Int) - 1) (ve_opD hlen.v ve_int.v od_sub) (by omega) (by omega)) fun ds e => ?_) fun ds ⟨ps, e, h1, h2⟩ => ⟨ps, by rw [e]; rfl, h1, h2⟩
    cases e
    have ez : ((row.length : Int) - 1).toNat = row.length - 1 := by omega
    rw [ez]
    refine ⟨by rw [List.length_map, List.length_range]; omega, fun i acc => ∃ ps : List (Nat × Nat), acc = ps.map prD ∧ ps.length ≤ i ∧ Along row ps, ⟨[], rfl, Nat.le_refl _, fun _ h => nomatch h⟩, ?_, fun acc ⟨ps, e, h1, h2⟩ => ⟨ps, e, ?_, h2⟩⟩
    · rintro i d acc hd ⟨ps, rfl, h1, h2⟩
      rw [List.getElem?_map] at hd
      obtain ⟨i', hi', rfl⟩ := Option.map_eq_some_iff.mp hd
      have hi : i < row.length - 1 := by
        have := (List.getElem?_eq_some_iff.mp hi').1
        rwa [List.length_range] at this
      rw [List.getElem?_range hi] at hi'
      cases hi'
      refine ⟨_, _, vg_name, fun j hj => hj, fun _ => True, vt_or (S := fun _ => True) ((vt_testD (ve_opD (ve_var rfl).v ve_int.v od_eqI)).imp fun _ _ => trivial) (fun _ => vt_anyGt (i := 0) rfl (by decide) (by decide)) (fun _ => trivial), fun _ => ?_, fun _ => ⟨ps, rfl, by omega, h2⟩⟩
      refine (ve_tupD (va_consD (ve_numL (i := i) (ve_var rfl) (ve_var rfl) (by omega)) (va_consD (ve_numL (i := i + 1) (ve_var rfl) (ve_opD (ve_var rfl).v ve_int.v od_add) (by omega)) va_nil))).imp fun y ey => ⟨ps ++ [(row.getD i 0, row.getD (i + 1) 0)], ?_, by rw [List.length_append]; show _ + 1 ≤ _; omega, along_snoc h2 (by omega) (by omega)⟩
      rw [map_snoc, ey]
      rfl
    · rw [List.length_map, List.length_range] at h1
      omega
  rintro Γ ⟨ps0, rfl, hl0, al0⟩
  refine vs_seq (fun Γ => ∃ (ps : List (Nat × Nat)) (s5 s6 s7 : Sl), Γ = GP row (.dat (.int r)) (.own (ps.map prD)) .no s5 s6 s7 ∧ ps.length ≤ 100 ∧ Along row ps) ?_ ?_
  · refine vs_for (vi_rng1 (S := fun ds => ds.length ≤ 80) (R := fun z => 0 ≤ z ∧ z ≤ 80) ((ve_callDa (i := 0) (R := R__law_size) (0, 80) rfl (va_consD ve_int (va_consD ve_int va_nil)) ⟨by decide, by decide⟩).imp fun d ⟨k, e, h0, h1⟩ => ⟨_, e, by omega, by have h1 : k ≤ 80 := h1; omega⟩) fun n ⟨h0, h1⟩ => ⟨by omega, by omega, by rw [upTo_len]; omega⟩) fun ds hds => ?_
    refine ⟨fun i Γ => ∃ (ps : List (Nat × Nat)) (s5 s6 s7 : Sl), Γ = GP row (.dat (.int r)) (.own (ps.map prD)) .no s5 s6 s7 ∧ ps.length ≤ 11 + i ∧ Along row ps, ⟨ps0, _, _, _, rfl, by omega, al0⟩, ?_, fun Γ' ⟨ps, s5, s6, s7, e, h1, h2⟩ => ⟨ps, s5, s6, s7, e, by omega, h2⟩⟩
    rintro i d Γ' hd ⟨ps, s5, s6, s7, rfl, hl, al⟩
    have hi : i < ds.length := (List.getElem?_eq_some_iff.mp hd).1
    refine ⟨_, _, vg_name, ?_⟩
    show VS _ _ (GP row (.dat (.int r)) (.own (ps.map prD)) .no (.dat d) s6 s7) _
    have hlen : ∀ {Γ : List Sl}, Γ[1]? = some (.dat (lnD row)) → VE ⟨K, B, H, some (p, q)⟩ (tCB (rLen K) (tCons (tVar 1) tNil)) Γ (Is (.int (row.length : Nat))) := fun g => (ve_lenL (ve_var g).v).to (by rw [List.length_map])
    refine vs_seq (fun Γ => ∃ x y : Nat, Γ = GP row (.dat (.int r)) (.own (ps.map prD)) .no (.dat d) (.dat (.int (x : Nat))) (.dat (.int (y : Nat))) ∧ x < row.length ∧ y < row.length) (vs_parEE (ve_anyN (i := 0) rfl (hlen rfl) (by omega) (by omega)) (ve_anyN (i := 0) rfl (hlen rfl) (by omega) (by omega)) fun x y ⟨x', ex, hx⟩ ⟨y', ey, hy⟩ => by
      subst ex ey
      exact ⟨x', y', rfl, hx, hy⟩) ?_
    rintro Γ ⟨x, y, rfl, hx, hy⟩
    have eu : (if (y : Int) < (x : Int) then (y : Int) else (x : Int)) = ((min x y : Nat) : Int) := by split <;> omega
    have ev : (if (y : Int) > (x : Int) then (y : Int) else (x : Int)) = ((max x y : Nat) : Int) := by split <;> omega
    refine vs_app (i := 3) (ds := ps.map prD) rfl (ve_tupD (va_consD (ve_numL (i := min x y) (ve_var rfl) ((ve_min (ve_var rfl) (ve_var rfl)).to (congrArg PyData.int eu)) (by omega)) (va_consD (ve_numL (i := max x y) (ve_var rfl) ((ve_max (ve_var rfl) (ve_var rfl)).to (congrArg PyData.int ev)) (by omega)) va_nil))) (by rw [List.length_map]; omega) fun d' ed => ?_
    cases ed
    refine ⟨ps ++ [(row.getD (min x y) 0, row.getD (max x y) 0)], .dat d, .dat (.int (x : Nat)), .dat (.int (y : Nat)), ?_, by rw [List.length_append]; show _ + 1 ≤ _; omega, along_snoc al (by omega) (by omega)⟩
    rw [map_snoc]
    rfl
  rintro Γ ⟨ps, s5, s6, s7, rfl, hl, al⟩
  refine vs_freeze 3 rfl ?_
  refine vs_ret (ve_if (S := fun _ => True) (vt_anyEq (i := 0) rfl (by decide) (by decide)) (fun _ => (vl_revD (ve_var rfl).v).ed.imp fun d ed => ⟨ps.reverse, by rw [ed, List.map_reverse], by rw [List.length_reverse]; exact hl, fun z hz => al z (List.mem_reverse.mp hz)⟩) fun _ => (ve_var (d := .list (ps.map prD)) rfl).imp fun d ed => ⟨ps, ed, hl, al⟩)
theorem ok__law_pairs (T : Top K mg) (NS : base.NoSeer) : GOk P0 w K mg base CX0 35 T.f__law_pairs T.fd__law_pairs ["deal", "row"] (sp__law_pairs K) :=
  da_ok 6 T.F__law_pairs sc__law_pairs (fun _ => rfl) rfl fun cdv A outer s H E hg hr => ⟨_, d__law_pairs T (G__law_any := ok__law_any T NS) (G__law_size := ok__law_size T NS) cdv A outer s H E hg hr, fun B H p q a hP => vs__law_pairs T hP⟩
end
end Ly.K76
namespace Ly.K76
open PySem PySem.Spec PyProof.Rows L2
/-! ### small helps -/
theorem cut_last {α : Type} (xs : List α) : cut xs (some (-1)) none = xs.drop (xs.length - 1) := by
  unfold cut
  have e : HT.sIx xs.length 0 (some (-1)) = xs.length - 1 := by
    show (if (-1 : Int) < 0 then ((-1 : Int) + (xs.length : Int)).toNat else min (-1 : Int).toNat xs.length) = _
    rw [if_pos (by decide)]
    omega
  rw [e, HT.sIx_none, List.take_of_length_le (by rw [List.length_drop]; omega)]
theorem cut_init {α : Type} (xs : List α) : cut xs none (some (-1)) = xs.take (xs.length - 1) := by
  unfold cut
  have e : HT.sIx xs.length xs.length (some (-1)) = xs.length - 1 := by
    show (if (-1 : Int) < 0 then ((-1 : Int) + (xs.length : Int)).toNat else min (-1 : Int).toNat xs.length) = _
    rw [if_pos (by decide)]
    omega
  rw [e, HT.sIx_none, List.drop_zero, Nat.sub_zero]
theorem drop_last {α : Type} {xs : List α} (h : xs ≠ []) : xs.drop (xs.length - 1) = [xs.getLast h] := by
  have hl : 0 < xs.length := List.length_pos_iff.mpr h
  rw [List.drop_eq_getElem_cons (by omega), List.getLast_eq_getElem]
  rw [show xs.length - 1 + 1 = xs.length by omega, List.drop_length]
section
variable {C : Cn} {Γ : List Sl} {ta tb te tx tk : TE} {R S : D → Prop} {P : Po} {i j : Nat} {E : XK} {d : D} {ds : List D}
theorem ve_ofX (h0 : Γ[i]? = some .deal) (h : VE C te Γ (fun d => ∃ ds, d = .list ds ∧ ds ≠ [] ∧ ds.length ≤ 100000 ∧ ∀ y ∈ ds, S y)) : VE C (tCallK (De C.K P_of R_of) (fun vs _ => vs) E (tCons (tVar i) (tCons te tNil)) tNil) Γ S :=
  ve_de h0 (va_cons h va_nil) fun es ⟨d, ds', e, ⟨ds, ed, h1, h2, h3⟩, e2⟩ => by
    cases e2
    subst e ed
    exact ⟨⟨ds, Or.inl rfl, h1, h2⟩, fun d r => h3 d (r ds (Or.inl rfl))⟩
/-- xs[:k] + (e,) + xs[k + 1:] -/
theorem ve_splice {k : Nat} (h : VE C tx Γ (Is (.tuple ds))) (hk : VE C tk Γ (Is (.int (k : Nat)))) (he : VE C te Γ R) (hl : ds.length ≤ 10000) :
    VE C (tOp (rAddA C.K) (tOp (rAddA C.K) (tSl (rSlany C.K) tx tNoPart (tPart tk)) (tTup (tCons te tNil))) (tSl (rSlany C.K) tx (tPart (tOp (rAddA C.K) tk (tC (.int 1)))) tNoPart)) Γ (fun d => ∃ x, R x ∧ d = .tuple (ds.take k ++ [x] ++ ds.drop (k + 1))) := by
  have g0 : VE C (tTup (tCons te tNil)) Γ (fun d => ∃ x, R x ∧ d = .tuple [x]) := ve_tup (va_cons he va_nil) fun es ⟨x, xs, e, hx, e2⟩ => by
    cases e2
    subst e
    exact ⟨by show 1 ≤ 100000; decide, x, hx, rfl⟩
  have g1 := ve_op (r := rAddA C.K) (R := fun d => ∃ x, R x ∧ d = .tuple (ds.take k ++ [x])) (Ra := Is (.tuple (ds.take k))) ((ve_slT (lo := none) (hi := some (k : Int)) h vo_none (vo_someD hk)).to (congrArg PyData.tuple (cut_to _ _))).v g0.v fun x y ex ⟨z, hz, ey⟩ => by
    subst ex ey
    exact (od_catT (by rw [List.length_take]; show _ + 1 ≤ _; omega)).imp fun d e => ⟨z, hz, e⟩
  have hk1 : VE C (tOp (rAddA C.K) tk (tC (.int 1))) Γ (Is (.int ((k + 1 : Nat) : Int))) := (ve_opD hk.v ve_int.v od_add).to rfl
  refine ve_op g1.v ((ve_slT h (vo_someD hk1) vo_none).to (congrArg PyData.tuple (cut_from _ _))).v fun x y ⟨z, hz, ex⟩ ey => ?_
  subst ex ey
  exact (od_catT (by rw [List.length_append, List.length_take, List.length_drop]; show _ + 1 + _ ≤ _; omega)).imp fun d e => ⟨z, hz, e⟩
/-- repr(a) != repr(b), both the same -/
theorem vt_reprNe {k n : Nat} (h1 : VE C ta Γ (Is d)) (h2 : VE C tb Γ (Is d)) (s : Sm d k n) (hk : k ≤ 64 := by decide) (hn : n ≤ 1048576 := by omega) : VT C (tTest (tOp (rNeA C.K) (tCB (rRepr C.K) (tCons ta tNil)) (tCB (rRepr C.K) (tCons tb tNil)))) Γ (Is false) :=
  vt_testD (ve_opD (ve_reprS h1.v s hk hn).v (ve_reprS h2.v s hk hn).v (od_neSSame rfl))
/-- tuple([x for x in range(n) if t]) -/
theorem ve_subset {n : Nat} {tt : TT} (h : VE C te Γ (Is (.int (n : Nat)))) (hn : n ≤ 1000) (hj : j < Γ.length) (ht : ∀ x : Nat, x < n → VT C tt ((wipeS Γ [j]).set j (.dat (.int (x : Nat)))) (fun _ => True)) :
    VE C (tCB (rTup C.K) (tCons (tLc (iRng1 (tCons te tNil)) (gName j) tt (tVar j) [j]) tNil)) Γ (fun d => ∃ l : List Nat, d = tnD l ∧ l.Pairwise (· < ·) ∧ ∀ x ∈ l, x < n) := by
  have hw : j < (wipeS Γ [j]).length := by
    show j < (Γ.set j .no).length
    rw [List.length_set]
    exact hj
  refine (ve_tupX (vl_lc (S' := fun ds => ∃ l : List Nat, ds = nsD l ∧ l.Pairwise (· < ·) ∧ ∀ x ∈ l, x < n) (vi_rngM (n := n) h (by omega)) fun ds e => ?_)).imp fun d ⟨ds, e, l, e2, r⟩ => ⟨l, by rw [e, e2], r⟩
  cases e
  refine ⟨by rw [List.length_map, List.length_range]; omega, fun i acc => ∃ l : List Nat, acc = nsD l ∧ l.Pairwise (· < ·) ∧ ∀ x ∈ l, x < i, ⟨[], rfl, .nil, fun _ h => nomatch h⟩, ?_, fun acc ⟨l, e, h1, h2⟩ => ⟨l, e, h1, fun x hx => by have := h2 x hx; rwa [List.length_map, List.length_range] at this⟩⟩
  rintro i d acc hd ⟨l, rfl, h1, h2⟩
  rw [List.getElem?_map] at hd
  obtain ⟨i', hi', rfl⟩ := Option.map_eq_some_iff.mp hd
  have hi : i < n := by
    have := (List.getElem?_eq_some_iff.mp hi').1
    rwa [List.length_range] at this
  rw [List.getElem?_range hi] at hi'
  cases hi'
  refine ⟨_, _, vg_name, fun j hj => hj, fun _ => True, ht i hi, fun _ => (ve_var (List.getElem?_set_self hw)).imp fun y ey => ⟨l ++ [i], ?_, ?_, fun x hx => ?_⟩, fun _ => ⟨l, rfl, h1, fun x hx => by have := h2 x hx; omega⟩⟩
  · rw [ey]
    show nsD l ++ [PyData.int (i : Nat)] = List.map (fun n : Nat => PyData.int (n : Nat)) (l ++ [i])
    rw [List.map_append]
    rfl
  · refine List.pairwise_append.mpr ⟨h1, List.pairwise_singleton _ _, fun a ha b hb => ?_⟩
    rw [List.mem_singleton.mp hb]
    exact h2 a ha
  · rcases List.mem_append.mp hx with hx | hx
    · have := h2 x hx
      omega
    · rw [List.mem_singleton.mp hx]
      omega
end
theorem up_small {l : List Nat} {n : Nat} (h : l.Pairwise (· < ·)) (k : ∀ x ∈ l, x < n) : l.length ≤ n := by
  have := up_len h (lo := 0) (hi := n) fun x hx => ⟨Nat.zero_le _, k x hx⟩
  omega
theorem sm_tn {l : List Nat} {n m : Nat} (h : l.Pairwise (· < ·)) (k : ∀ x ∈ l, x < n) (hn : n ≤ 1000) (hm : n * 42 ≤ m) : Sm (tnD l) 1 m :=
  Sm.tup (sm_ns (m := n) (fun x hx => by have := k x hx; omega) (up_small h k) hm)
theorem rows_of {rs : List (List Nat)} (h : RowsOk rs) : Rows rs.length rs := by
  obtain ⟨h1, h2, h3⟩ := h
  refine ⟨by omega, fun r hr => ⟨?_, (h3 r hr).1⟩⟩
  have := up_small (h3 r hr).2 (h3 r hr).1
  omega
end Ly.K76
namespace Ly.K76
open PySem PySem.Spec PyProof.Rows L2
section
variable {C : Cn} {Γ : List Sl} {ta tb te : TE} {A : TA} {R : D → Prop} {m : Nat} {ds : List D}
theorem va_allN : VA C tNil Γ (fun ds => ds.length = 0 ∧ ∀ y ∈ ds, R y) := va_nil.imp fun ds e => by
  cases e
  exact ⟨rfl, fun _ h => nomatch h⟩
theorem va_allC (h : VE C te Γ R) (k : VA C A Γ (fun ds => ds.length = m ∧ ∀ y ∈ ds, R y)) : VA C (tCons te A) Γ (fun ds => ds.length = m + 1 ∧ ∀ y ∈ ds, R y) := (va_cons h k).imp fun l ⟨d, es, e, r, h1, h2⟩ => by
  subst e
  refine ⟨congrArg (· + 1) h1, fun y hy => ?_⟩
  rcases List.mem_cons.mp hy with rfl | hy
  · exact r
  · exact h2 y hy
theorem vl_all (h : VA C A Γ (fun ds => ds.length = m ∧ ∀ y ∈ ds, R y)) (hm : m ≤ 1000 := by decide) : VL C (tLst A) Γ (fun ds => ds.length = m ∧ ∀ y ∈ ds, R y) := vl_lst h fun ds ⟨h1, _⟩ => by omega
theorem vl_catAll (h : VE C ta Γ (Is (.list ds))) (hds : ∀ y ∈ ds, R y) (hl : ds.length ≤ 1000) (k : VL C tb Γ (fun es => es.length = m ∧ ∀ y ∈ es, R y)) (hm : m ≤ 1000 := by decide) : VL C (tOp (rAddA C.K) ta tb) Γ (fun zs => zs.length = ds.length + m ∧ ∀ y ∈ zs, R y) :=
  vl_op h.v k.v fun x y ex ⟨es, ey, h1, h2⟩ => by
    subst ex ey
    intro B H v u e k1 k2 Q q
    refine ol_cat (by omega) B H v u e k1 k2 Q fun zs p vs B' H' ez s e1 e2 e3 e4 => q zs p vs B' H' ?_ s e1 e2 e3 e4
    cases ez
    refine ⟨by rw [List.length_append, h1], fun y hy => ?_⟩
    rcases List.mem_append.mp hy with hy | hy
    · exact hds y hy
    · exact h2 y hy
end
/-! ### what is no lot -/
def badLot (n : Nat) (y : D) : Prop := isRis n y = false ∧ small y
theorem bad_end {n : Nat} {a : List Nat} (h : a.length ≤ 12) : badLot n (.tuple (nsD a ++ [.int (n : Nat)])) := by
  refine ⟨ris_bad (x := .int (n : Nat)) (List.mem_append_right _ (List.mem_singleton.mpr rfl)) ?_, ?_⟩
  · show (decide ((0 : Int) ≤ (n : Int)) && decide ((n : Int) < (n : Int))) = false
    rw [decide_eq_false (show ¬ (n : Int) < (n : Int) by omega), Bool.and_false]
  · show (nsD a ++ [PyData.int (n : Nat)]).length ≤ 1000
    rw [List.length_append, List.length_map]
    show _ + 1 ≤ _
    omega
theorem not_up {n : Nat} {xs : List D} {ns : List Nat} (e : xs.map natOf = ns) (h : ¬ ns.Pairwise (· < ·)) : isRis n (.tuple xs) = false := by
  show (_ && decide (List.Pairwise (fun (x y : Nat) => x < y) (xs.map natOf))) = false
  rw [e, decide_eq_false h, Bool.and_false]
theorem bad_twice {n : Nat} {a : List Nat} (h : a.length ≤ 12) (ne : a ≠ []) : badLot n (.tuple (nsD a ++ [.int (a.getLast ne : Nat)])) := by
  refine ⟨not_up (ns := a ++ [a.getLast ne]) ?_ fun z => ?_, ?_⟩
  · rw [List.map_append, natOf_ns]
    rfl
  · have := (List.pairwise_append.mp z).2.2 _ (List.getLast_mem ne) _ (List.mem_singleton.mpr rfl)
    omega
  · show (nsD a ++ [PyData.int (a.getLast ne : Nat)]).length ≤ 1000
    rw [List.length_append, List.length_map]
    show _ + 1 ≤ _
    omega
theorem bad_rev {n : Nat} {a : List Nat} (h : a.length ≤ 12) (up : a.Pairwise (· < ·)) (two : 1 < a.length) : badLot n (.tuple (nsD a).reverse) := by
  refine ⟨not_up (ns := a.reverse) (by rw [List.map_reverse, natOf_ns]) fun z => ?_, ?_⟩
  · rw [List.pairwise_reverse] at z
    match a, two with
    | x :: y :: t, _ =>
      have h1 := (List.pairwise_cons.mp up).1 y (List.mem_cons_self ..)
      have h2 := (List.pairwise_cons.mp z).1 y (List.mem_cons_self ..)
      omega
  · show (nsD a).reverse.length ≤ 1000
    rw [List.length_reverse, List.length_map]
    omega
theorem bad_one {n : Nat} {x : D} (h : isIdx (n : Nat) x = false) : badLot n (.tuple [x]) := ⟨ris_bad (List.mem_singleton.mpr rfl) h, (by decide : 1 ≤ 1000)⟩
theorem bad_list {n : Nat} (xs : List D) : badLot n (.list xs) := ⟨rfl, trivial⟩
theorem seers_mem {rs : List (List Nat)} {lot : List Nat} {l : Nat} (hl : l < rs.length) : (seers rs lot).contains l = lot.all (rs.getD l []).contains := by
  rw [Bool.eq_iff_iff, List.contains_iff_mem]
  unfold seers
  rw [List.mem_filter, List.mem_range]
  exact ⟨fun h => h.2, fun h => ⟨hl, h⟩⟩
theorem seers_up (rs : List (List Nat)) (lot : List Nat) : (seers rs lot).Pairwise (· < ·) ∧ ∀ x ∈ seers rs lot, x < rs.length := ⟨List.pairwise_lt_range.filter _, fun x hx => List.mem_range.mp (List.mem_filter.mp hx).1⟩
/-- both together -/
def both (n : Nat) (a b : List Nat) : List Nat := (List.range n).filter fun k => a.contains k || b.contains k
theorem both_is {n : Nat} {a b ms : List Nat} (ha : ∀ x ∈ a, x < n) (hb : ∀ x ∈ b, x < n) (h : ms.Pairwise (· < ·)) (k : ∀ x, x ∈ ms ↔ x ∈ a ∨ x ∈ b) : ms = both n a b := by
  refine inc_eq (lt := fun a b : Nat => a < b) (fun a b h k => by omega) h (List.pairwise_lt_range.filter _) fun x => ?_
  rw [k x]
  unfold both
  rw [List.mem_filter, List.mem_range, Bool.or_eq_true, List.contains_iff_mem, List.contains_iff_mem]
  exact ⟨fun h => ⟨h.elim (ha x) (hb x), h⟩, fun h => h.2⟩
abbrev GH (rs : List (List Nat)) (s2 s3 s4 s5 s6 s7 s8 s9 s10 s11 s12 : Sl) : List Sl := [.deal, .dat (ordD rs), s2, s3, s4, s5, s6, s7, s8, s9, s10, s11, s12]
section
variable {w : World} {K : PySem.W.Frag} {mg : Str → Option Value} {base : Heap} {B H : Hp} {p q : Addr} {E : XK}
theorem vs__law_lots_hold (T : Top K mg) {rs : List (List Nat)} (hP : P__law_lots_hold rs) : VS ⟨K, B, H, some (p, q)⟩ (t__law_lots_hold T w) (.deal :: slots (A__law_lots_hold rs) 11) { nx := fun _ => R__law_lots_hold rs .none, rt := R__law_lots_hold rs } := by
  have hP : RowsOk rs := hP
  have hR := rows_of hP
  obtain ⟨n1, n12, hrows⟩ := hP
  refine vs_seq (Is (GH rs (.dat (.int (rs.length : Nat))) (.own (([] : List (List Nat)).map tnD)) .no .no .no .no .no .no .no .no .no)) (vs_parTL (i := 2) (j := 3) (R := Is (.int (rs.length : Nat))) (S := Is []) ((ve_lenT (ve_var rfl)).to (by rw [List.length_map])) (vl_lstD va_nil) fun x y ex ey => by cases ex; cases ey; rfl) ?_
  rintro Γ rfl
  refine vs_seq (fun Γ => ∃ (a b : List Nat) (s4 : Sl), Γ = GH rs (.dat (.int (rs.length : Nat))) (.own ([a, b].map tnD)) s4 .no .no .no .no .no .no .no .no ∧ (∀ l ∈ [a, b], l.Pairwise (· < ·) ∧ ∀ x ∈ l, x < rs.length)) ?_ ?_
  · refine vs_for (vi_rngM (n := 2) ve_int (by decide)) fun ds e => ?_
    cases e
    refine ⟨fun t Γ => ∃ (ls : List (List Nat)) (s4 : Sl), Γ = GH rs (.dat (.int (rs.length : Nat))) (.own (ls.map tnD)) s4 .no .no .no .no .no .no .no .no ∧ ls.length = t ∧ (∀ l ∈ ls, l.Pairwise (· < ·) ∧ ∀ x ∈ l, x < rs.length), ⟨[], _, rfl, rfl, fun _ h => nomatch h⟩, ?_, ?_⟩
    · rintro t d Γ' hd ⟨ls, s4, rfl, hl, hls⟩
      have ht : t < 2 := (List.getElem?_eq_some_iff.mp hd).1
      refine ⟨_, _, vg_name, ?_⟩
      show VS _ _ (GH rs (.dat (.int (rs.length : Nat))) (.own (ls.map tnD)) (.dat d) .no .no .no .no .no .no .no .no) _
      refine vs_app (i := 3) (ds := ls.map tnD) rfl (ve_subset (n := rs.length) (j := 5) (ve_var rfl) (by omega) (by show 5 < 13; decide) fun x hx => vt_test (ve_op (VE.v (ve_anyX (i := 0) (m := 6) rfl (VE.imp (ve_ofL (i := 0) rfl (vl_lstD (va_consD ve_int (va_consD ve_int va_nil))).ed (by simp) (by show 2 ≤ 100000; decide)) fun d hd => ?_))) (Rb := Is (.int 0)) ve_int.v fun x y ⟨r, ex, _⟩ ey => by
        subst ex ey
        exact od_eqI.imp fun d e => ⟨_, e, trivial⟩)) (by rw [List.length_map]; omega) fun d ⟨l, ed, h1, h2⟩ => ?_
      · simp only [List.mem_cons, List.not_mem_nil, or_false] at hd
        rcases hd with rfl | rfl
        · exact ⟨2, rfl, by decide, by decide⟩
        · exact ⟨6, rfl, by decide, by decide⟩
      · subst ed
        refine ⟨ls ++ [l], .dat d, ?_, by rw [List.length_append, hl]; rfl, fun z hz => ?_⟩
        · rw [List.map_append]
          rfl
        · rcases List.mem_append.mp hz with hz | hz
          · exact hls z hz
          · rw [List.mem_singleton.mp hz]
            exact ⟨h1, h2⟩
    · rintro Γ' ⟨ls, s4, rfl, hl, hls⟩
      match ls, hl, hls with
      | [a, b], _, hls => exact ⟨a, b, s4, rfl, hls⟩
  rintro Γ ⟨a, b, s4, rfl, hab⟩
  obtain ⟨a1, a2⟩ := hab a (List.mem_cons_self ..)
  obtain ⟨b1, b2⟩ := hab b (List.mem_cons_of_mem _ (List.mem_singleton.mpr rfl))
  have la : a.length ≤ 12 := Nat.le_trans (up_small a1 a2) n12
  have lb : b.length ≤ 12 := Nat.le_trans (up_small b1 b2) n12
  refine vs_freeze 3 rfl ?_
  refine vs_seq (Is (GH rs (.dat (.int (rs.length : Nat))) (.dat (.list [tnD a, tnD b])) s4 .no (.dat (tnD a)) (.dat (tnD b)) .no .no .no .no .no)) (vs_asgG (R := Is (.list [tnD a, tnD b])) (ve_var rfl) fun d ed => by
    subst ed
    exact ⟨_, _, vg_lst (vgs_cons vg_name (vgs_cons vg_name vgs_nil)) rfl, rfl⟩) ?_
  rintro Γ rfl
  have within : ∀ {Γ : List Sl} {lv : Nat} {l : List Nat} {tl tv : TE}, Γ[1]? = some (.dat (ordD rs)) → lv < rs.length → l.length ≤ 12 → VE ⟨K, B, H, some (p, q)⟩ tl Γ (Is (tnD l)) → VE ⟨K, B, H, some (p, q)⟩ tv Γ (Is (.int (lv : Nat))) →
      VE ⟨K, B, H, some (p, q)⟩ (tCallK (sp__law_within K) (fun vs _ => vs) E0 (tCons (tVar 1) (tCons tl (tCons tv tNil))) tNil) Γ (Is (.bool (l.all (rs.getD lv []).contains))) := fun {Γ lv l tl tv} g1 g2 g3 g4 g5 =>
    (ve_callA (rs, l, lv) (va_consD (ve_var g1) (va_consD g4 (va_consD g5 va_nil))) ⟨g2, ⟨_, hR⟩, Nat.le_trans g3 (by decide)⟩).imp fun d r => r
  refine vq_asgD (d := .list [lnD (seers rs a), lnD (seers rs b)]) ((vl_mapM (m := tnD) (xs := [a, b]) (fun l => lnD (seers rs l)) (va_listD (ve_var rfl)) (by show 2 ≤ 100000; decide) fun l hl => ⟨_, _, vg_name, fun j hj => hj, ?_⟩).to rfl).ed ?_
  · have ll : l.length ≤ 12 := Nat.le_trans (up_small (hab l hl).1 (hab l hl).2) n12
    exact (vl_lcM (m := fun (i : Nat) => PyData.int (i : Nat)) (xs := List.range rs.length) (fun lv => l.all (rs.getD lv []).contains) (fun lv => .int (lv : Nat)) (vi_rngM (n := rs.length) (ve_var rfl) (by omega)) (by rw [List.length_range]; omega) fun lv hlv => ⟨_, _, vg_name, fun j hj => hj, vt_BD (within rfl (List.mem_range.mp hlv) ll (ve_var rfl) (ve_var rfl)), fun _ => ve_var rfl⟩).ed
  show VS _ _ (GH rs (.dat (.int (rs.length : Nat))) (.dat (.list [tnD a, tnD b])) s4 .no (.dat (tnD a)) (.dat (tnD b)) (.dat (.list [lnD (seers rs a), lnD (seers rs b)])) .no .no .no .no) _
  refine vs_seq (fun Γ => ∃ s5, Γ = GH rs (.dat (.int (rs.length : Nat))) (.dat (.list [tnD a, tnD b])) s4 s5 (.dat (tnD a)) (.dat (tnD b)) (.dat (.list [lnD (seers rs a), lnD (seers rs b)])) .no .no .no .no) ?_ ?_
  · refine vs_for (vi_rngM (n := rs.length) (ve_var rfl) (by omega)) fun ds e => ?_
    cases e
    refine ⟨fun _ Γ => ∃ s5, Γ = GH rs (.dat (.int (rs.length : Nat))) (.dat (.list [tnD a, tnD b])) s4 s5 (.dat (tnD a)) (.dat (tnD b)) (.dat (.list [lnD (seers rs a), lnD (seers rs b)])) .no .no .no .no, ⟨_, rfl⟩, ?_, fun Γ' h => h⟩
    rintro i d Γ' hd ⟨s5, rfl⟩
    rw [List.getElem?_map] at hd
    obtain ⟨lv, hlv, rfl⟩ := Option.map_eq_some_iff.mp hd
    have hlv : lv < rs.length := List.mem_range.mp (List.mem_of_getElem? hlv)
    refine ⟨_, _, vg_name, ?_⟩
    show VS _ _ (GH rs (.dat (.int (rs.length : Nat))) (.dat (.list [tnD a, tnD b])) s4 (.dat (.int (lv : Nat))) (.dat (tnD a)) (.dat (tnD b)) (.dat (.list [lnD (seers rs a), lnD (seers rs b)])) .no .no .no .no) _
    refine vs_ifD (x := false) (vt_reprNe (k := 0) (n := 0) (d := .bool (a.all (rs.getD lv []).contains)) ((ve_kwA (rs, a, lv) (gD := kf_lot_within_0_order_lot_level) kd_lot_within_0_order_lot_level va_nil (va_consD (ve_var rfl) (va_consD (ve_var rfl) (va_consD (ve_var rfl) va_nil))) rfl ⟨hlv, ⟨_, hR⟩, Nat.le_trans la (by decide)⟩).imp fun d r => r)
      ((ve_opD (ve_var rfl).v (ve_opD (ve_var rfl).v ve_int.v (od_ixL (z := lnD (seers rs a)) rfl)).v (od_inL rfl (shaped_ns _))).to (congrArg PyData.bool ((any_ints _ _).trans (seers_mem hlv)))) sm_bool) (fun h => by cases h) fun _ => vs_next ⟨_, rfl⟩
  rintro Γ ⟨s5, rfl⟩
  obtain ⟨sa1, sa2⟩ := seers_up rs a
  refine vq_ifD (x := false) (vt_reprNe (k := 1) (n := 1000) (d := tnD (seers rs a)) ((ve_kwA (rs, a) (gD := kf_watchers_0_order_lot) kd_watchers_0_order_lot va_nil (va_consD (ve_var rfl) (va_consD (ve_var rfl) va_nil)) rfl ⟨by show rs.length ≤ 1000; omega, ⟨_, hR⟩, Nat.le_trans la (by decide)⟩).imp fun d r => r)
    (ve_tupL (ve_opD (ve_var rfl).v ve_int.v (od_ixL (z := lnD (seers rs a)) rfl)).v) (sm_tn sa1 sa2 (by omega) (by omega))) (fun h => by cases h) fun _ => vq_next ?_
  have jn : (both rs.length a b).Pairwise (· < ·) ∧ ∀ x ∈ both rs.length a b, x < rs.length := ⟨List.pairwise_lt_range.filter _, fun x hx => List.mem_range.mp (List.mem_filter.mp hx).1⟩
  refine vq_ifD (x := false) (vt_reprNe (k := 1) (n := 1000) (d := tnD (both rs.length a b)) ((ve_kwA (a, b) (gD := kf_joined_lots_0_one_other) kd_joined_lots_0_one_other va_nil (va_consD (ve_var rfl) (va_consD (ve_var rfl) va_nil)) rfl ⟨la, lb⟩).imp fun d ⟨ms, ed, h1, h2⟩ => by rw [ed, both_is a2 b2 h1 h2])
    ((ve_join (ve_var rfl) (ve_var rfl) la lb).imp fun d ⟨ms, ed, h1, h2⟩ => by rw [ed, both_is a2 b2 h1 h2]) (sm_tn jn.1 jn.2 (by omega) (by omega))) (fun h => by cases h) fun _ => vq_next ?_
  have lsb := up_small (seers_up rs b).1 (seers_up rs b).2
  refine vq_asgD (d := .bool ((seers rs b).all (seers rs a).contains)) ((ve_opD (vl_lcM (m := fun n : Nat => PyData.int (n : Nat)) (xs := seers rs b) (fun x => !(seers rs a).contains x) (fun n => .int (n : Nat)) (va_listD (ve_opD (ve_var rfl).v ve_int.v (od_ixL (z := lnD (seers rs b)) rfl))) (by omega) fun x hx => ⟨_, _, vg_name, fun j hj => hj,
    vt_testD ((ve_opD (ve_var rfl).v (ve_opD (ve_var rfl).v ve_int.v (od_ixL (z := lnD (seers rs a)) rfl)).v (od_notinL rfl (shaped_ns _))).to (congrArg (fun b => PyData.bool (!b)) (any_ints _ x))), fun _ => ve_var rfl⟩).vd (vl_lstD va_nil).vd (od_eq (shaped_ns _) rfl)).to (congrArg PyData.bool filter_eqv_nil)) ?_
  refine vq_ifD (x := false) (vt_reprNe (k := 0) (n := 0) (d := .bool ((seers rs b).all (seers rs a).contains)) ((ve_kwA (rs, a, b) (gD := kf_covered_0_order_one_other) kd_covered_0_order_one_other va_nil (va_consD (ve_var rfl) (va_consD (ve_var rfl) (va_consD (ve_var rfl) va_nil))) rfl ⟨by show rs.length ≤ 1000; omega, ⟨_, hR⟩, Nat.le_trans la (by decide), Nat.le_trans lb (by decide)⟩).imp fun d r => r.trans (congrArg PyData.bool ?_))
    (ve_var rfl) sm_bool) (fun h => by cases h) fun _ => vq_next ?_
  · show (seers rs b).all (fun l => a.all (rs.getD l []).contains) = _
    rw [Bool.eq_iff_iff, List.all_eq_true, List.all_eq_true]
    exact ⟨fun h x hx => (seers_mem ((seers_up rs b).2 x hx)).trans (h x hx), fun h x hx => (seers_mem ((seers_up rs b).2 x hx)).symm.trans (h x hx)⟩
  have ne1 : ∀ {Γ : List Sl}, VE ⟨K, B, H, some (p, q)⟩ (tUn (rU fun i => .int (-i)) (tC (.int 1))) Γ (Is (.int (-1))) := ve_neg ve_int
  refine vq_asg (vl_all (R := badLot rs.length) (m := 3) (va_allC ((ve_opD (ve_var rfl).v (ve_tupD (va_consD (ve_var rfl) va_nil)).v (od_catT (by rw [List.length_map]; show _ + 1 ≤ _; omega))).imp fun d ed => ed ▸ bad_end la) (va_allC (ve_if (vt_testD (ve_opD (ve_var rfl).v (ve_tupD va_nil).v (od_ne (shaped_tn a) rfl))) (fun h => ?_) fun _ => (ve_tupD (va_consD ne1 va_nil)).imp fun d ed => ed ▸ bad_one rfl)
    (va_allC (ve_if (vt_testD (ve_opD (ve_lenT (ve_var rfl)).v ve_int.v od_gt)) (fun h => (ve_revT (ve_var rfl)).imp fun d ed => ed ▸ bad_rev la a1 ?_) fun _ => (vl_lstD (va_consD ve_int va_nil)).ed.imp fun d ed => ed ▸ bad_list _) va_allN)))).e fun d ⟨ks, ed, hk1, hk2⟩ => ?_
  · have ne : a ≠ [] := fun z => by
      subst z
      cases h
    refine (ve_opD (ve_var rfl).v ((ve_slT (ve_var (d := tnD a) rfl) (vo_someD ne1) vo_none).to (congrArg PyData.tuple (a₂ := [.int (a.getLast ne : Nat)]) ?_)).v (od_catT (by rw [List.length_map]; show _ + 1 ≤ _; omega))).imp fun d ed => ed ▸ bad_twice la ne
    rw [cut_last, List.length_map, ← List.map_drop, drop_last ne]
    rfl
  · have h := of_decide_eq_true h.symm
    rw [List.length_map] at h
    omega
  subst ed
  refine vq_asg (ve_ofX (i := 0) (S := badLot rs.length) rfl ((vl_catAll (R := badLot rs.length) (m := 3) (ve_var (d := .list ks) rfl) hk2 (by omega) (vl_all (va_allC ((vl_listT (ve_var rfl)).ed.imp fun d ed => ed ▸ bad_list _) (va_allC (ve_if (vt_testD (ve_opD (ve_var rfl).v ve_int.v od_gt)) (fun _ => (ve_tupD (va_consD ve_bl va_nil)).imp fun d ed => ed ▸ bad_one rfl) fun h => (ve_tupD (va_consD ve_int va_nil)).imp fun d ed => ed ▸ bad_one ?_)
    (va_allC ((ve_tupD (va_consD ve_non va_nil)).imp fun d ed => ed ▸ bad_one rfl) va_allN))))).e.imp fun d ⟨ds, e, h1, h2⟩ => ⟨ds, e, fun z => by rw [z] at h1; simp at h1, by omega, h2⟩)) fun wrong hw => ?_
  · have h := of_decide_eq_false h.symm
    show (decide ((0 : Int) ≤ 1) && decide ((1 : Int) < (rs.length : Int))) = false
    rw [decide_eq_false h, Bool.and_false]
  have yes : isRis rs.length (tnD a) = true := by
    show ((nsD a).all (isIdx (rs.length : Nat)) && decide (List.Pairwise (fun (x y : Nat) => x < y) ((nsD a).map natOf))) = true
    rw [ns_idx a2, natOf_ns, decide_eq_true a1]
    rfl
  refine vs_retD (ve_andD (b := true) (c := true) ((ve_opD ((ve_kwA (rs, tnD a) (gD := kf_is_lot_0_order_value) kd_is_lot_0_order_value va_nil (va_consD (ve_var rfl) (va_consD (ve_var rfl) va_nil)) rfl ⟨by show rs.length ≤ 1000; omega, small_tn (by omega)⟩).imp fun d r => r.trans (congrArg PyData.bool yes)).v ve_bl.v od_isBl).to rfl) fun _ =>
    (ve_opD ((ve_callA (rs, wrong) (va_consD (ve_var rfl) (va_consD (ve_var rfl) va_nil)) ⟨by show rs.length ≤ 1000; omega, hw.2⟩).imp fun d r => r.trans (congrArg PyData.bool hw.1)).v ve_bl.v od_isBl).to rfl) rfl
theorem ok__law_lots_hold (T : Top K mg) (NS : base.NoSeer) : GOk P0 w K mg base CX0 35 T.f__law_lots_hold T.fd__law_lots_hold ["deal", "order"] (sp__law_lots_hold K) :=
  da_ok 11 T.F__law_lots_hold sc__law_lots_hold (fun _ => rfl) rfl fun cdv A outer s H E hg hr => ⟨_, d__law_lots_hold T (G__law_any := ok__law_any T NS) (G__law_of := ok__law_of T NS) (G__law_within := ok__law_within T) (G_lot_within := ok_lot_within T) (G_watchers := ok_watchers T) (G_joined_lots := ok_joined_lots T) (G_covered := ok_covered T) (G_is_lot := ok_is_lot T) cdv A outer s H E hg hr, fun B H p q a hP => vs__law_lots_hold T hP⟩
end
end Ly.K76
namespace Ly.K76
open PySem PySem.Spec PyProof.Rows L2
section
variable {C : Cn} {Γ : List Sl} {A : TA} {S : D → Prop} {m i : Nat} {E : XK}
theorem ve_ofAll (h0 : Γ[i]? = some .deal) (h : VA C A Γ (fun ds => ds.length = m ∧ ∀ y ∈ ds, S y)) (h1 : 0 < m := by decide) (hm : m ≤ 1000 := by decide) : VE C (tCallK (De C.K P_of R_of) (fun vs _ => vs) E (tCons (tVar i) (tCons (tLst A) tNil)) tNil) Γ S :=
  ve_ofX h0 ((vl_all h hm).e.imp fun d ⟨ds, e, h2, h3⟩ => ⟨ds, e, fun z => by rw [z] at h2; simp at h2; omega, by omega, h3⟩)
end
theorem splice_set {α : Type} {xs : List α} {k : Nat} {x : α} (h : k < xs.length) : xs.take k ++ [x] ++ xs.drop (k + 1) = xs.set k x := by
  rw [List.set_eq_take_append_cons_drop, if_pos h, List.append_assoc]
  rfl
/-! ### what is no order -/
section
variable {rs : List (List Nat)} {ps : List (Nat × Nat)} {k : Nat} {x : D}
def Spoil (rs : List (List Nat)) (k : Nat) (x : D) : Prop := isOrd (.tuple ((rs.map tnD).set k x)) = false ∧ small x
theorem spoil_bad (hk : k < rs.length) (h : badLot rs.length x) : Spoil rs k x := by
  refine ⟨isOrd_bad (x := x) ?_ ?_, h.2⟩
  · exact List.mem_of_getElem? (List.getElem?_set_self (by rw [List.length_map]; exact hk))
  · rw [List.length_set, List.length_map]
    exact h.1
theorem spoil_fin (hk : k < rs.length) (n12 : rs.length ≤ 12) (c : Closed rs.length ps rs) (h : Spoil rs k x) : isOrd (.tuple ((rs.map tnD).take k ++ [x] ++ (rs.map tnD).drop (k + 1))) = false ∧ P_is_order (.tuple ((rs.map tnD).take k ++ [x] ++ (rs.map tnD).drop (k + 1))) := by
  have hk2 : k < (rs.map tnD).length := by rw [List.length_map]; exact hk
  rw [splice_set hk2]
  refine ⟨h.1, by show ((rs.map tnD).set k x).length ≤ 1000; rw [List.length_set, List.length_map]; omega, fun y hy => ?_⟩
  rcases List.mem_or_eq_of_mem_set hy with hy | hy
  · obtain ⟨r, hr, rfl⟩ := List.mem_map.mp hy
    obtain ⟨i, hi, rfl⟩ := List.getElem_of_mem hr
    have := row_len c hi
    rw [getD_elem hi] at this
    exact small_tn (by omega)
  · rw [hy]
    exact h.2
theorem set_ord (row : List Nat) : (.tuple ((rs.map tnD).set k (tnD row)) : D) = ordD (rs.set k row) := by
  unfold ordD
  rw [List.map_set]
theorem spoil_less (n1 : 1 ≤ rs.length) (n12 : rs.length ≤ 12) (c : Closed rs.length ps rs) (hk : k < rs.length) : Spoil rs k (tnD ((rs.getD k []).filter fun x => x != k)) := by
  refine ⟨?_, small_tn ?_⟩
  · have := val_less n1 n12 c hk
    unfold valD at this
    rw [← List.map_set, List.map_map] at this
    rw [set_ord]
    exact this
  · have h1 := List.length_filter_le (fun x => x != k) (rs.getD k [])
    have h2 := row_len c hk
    omega
theorem spoil_top {mid low : Nat} (n1 : 1 ≤ rs.length) (n12 : rs.length ≤ 12) (c : Closed rs.length ps rs) (hk : k < rs.length) (h1 : mid ∈ rs.getD k []) (h2 : mid ≠ k) (h3 : low ∈ rs.getD mid []) (h4 : low ≠ mid) : Spoil rs k (tnD ((rs.getD k []).filter fun x => x != low)) := by
  have hl := List.length_filter_le (fun x => x != low) (rs.getD k [])
  have hl2 := row_len c hk
  refine ⟨?_, small_tn (by omega)⟩
  have hle : (rs.set k ((rs.getD k []).filter fun x => x != low)).length = rs.length := List.length_set ..
  rw [set_ord, isOrd_rows (by omega) (by omega), ordOk_eq, hle]
  · refine all_false (List.mem_range.mpr hk) ?_
    unfold lvOk
    rw [getD_set hk, if_pos rfl, Bool.and_eq_false_iff]
    refine Or.inr (all_false (x := mid) (List.mem_filter.mpr ⟨h1, by simpa using fun e => h4 e.symm⟩) ?_)
    rw [Bool.and_eq_false_iff]
    refine Or.inr ?_
    rw [getD_set hk, if_neg (fun e => h2 e.symm)]
    refine all_false (x := low) h3 (Bool.eq_false_iff.mpr fun z => ?_)
    have := (List.mem_filter.mp (List.contains_iff_mem.mp z)).2
    simp at this
  · rw [hle]
    intro r hr
    rcases List.mem_or_eq_of_mem_set hr with hr | hr
    · exact closed_rows c r hr
    · subst hr
      have hm : rs.getD k [] ∈ rs := row_mem hk
      obtain ⟨k1, k2⟩ := closed_rows c _ hm
      exact ⟨fun x hx => k1 x (List.mem_filter.mp hx).1, k2.filter _⟩
theorem filter_two {xs : List Nat} {m : Nat} (nd : xs.Nodup) (h : 1 < xs.length) : xs.filter (fun x => x != m) ≠ [] := by
  intro z
  rw [List.filter_eq_nil_iff] at z
  have all : ∀ x ∈ xs, x = m := fun x hx => by simpa using z x hx
  match xs, nd, h, all with
  | a :: b :: t, nd, _, all =>
    have e1 := all a (List.mem_cons_self ..)
    have e2 := all b (List.mem_cons_of_mem _ (List.mem_cons_self ..))
    have := (List.nodup_cons.mp nd).1
    rw [e1, e2] at this
    exact this (List.mem_cons_self ..)
end
abbrev GS (rs : List (List Nat)) (s2 s3 s5 s6 s7 s8 : Sl) : List Sl := [.deal, .dat (ordD rs), s2, s3, .no, s5, s6, s7, s8]
section
variable {w : World} {K : PySem.W.Frag} {mg : Str → Option Value} {base : Heap} {B H : Hp} {p q : Addr} {E : XK}
theorem vs__law_order_spoilt (T : Top K mg) {rs : List (List Nat)} (hP : P__law_order_spoilt rs) : VS ⟨K, B, H, some (p, q)⟩ (t__law_order_spoilt T) (.deal :: slots (A__law_order_spoilt rs) 7) { nx := fun _ => R__law_order_spoilt rs .none, rt := R__law_order_spoilt rs } := by
  obtain ⟨n1, n12, ps, c⟩ := hP
  have n1 : 1 ≤ rs.length := n1
  have n12 : rs.length ≤ 12 := n12
  have c : Closed rs.length ps rs := c
  have rl : ∀ l, l < rs.length → (rs.getD l []).length ≤ 12 := fun l hl => Nat.le_trans (row_len c hl) n12
  have rlt : ∀ l, l < rs.length → ∀ x ∈ rs.getD l [], x < rs.length := fun l hl x hx => ((c.is l hl x).mp hx).1
  have own : ∀ l, l < rs.length → l ∈ rs.getD l [] := fun l hl => (c.is l hl l).mpr ⟨hl, .here _⟩
  have len : ∀ {Γ : List Sl}, Γ[1]? = some (.dat (ordD rs)) → VE ⟨K, B, H, some (p, q)⟩ (tCB (rLen K) (tCons (tVar 1) tNil)) Γ (Is (.int (rs.length : Nat))) := fun g => (ve_lenT (ve_var g)).to (by rw [List.length_map])
  have row : ∀ {Γ : List Sl} {te : TE} {l : Nat}, Γ[1]? = some (.dat (ordD rs)) → l < rs.length → VE ⟨K, B, H, some (p, q)⟩ te Γ (Is (.int (l : Nat))) → VE ⟨K, B, H, some (p, q)⟩ (tOp (rIx K) (tVar 1) te) Γ (Is (tnD (rs.getD l []))) := fun g hl h => ve_row (ve_var g) h hl
  have rowlen : ∀ {Γ : List Sl} {te : TE} {l : Nat}, Γ[1]? = some (.dat (ordD rs)) → l < rs.length → VE ⟨K, B, H, some (p, q)⟩ te Γ (Is (.int (l : Nat))) → VE ⟨K, B, H, some (p, q)⟩ (tCB (rLen K) (tCons (tOp (rIx K) (tVar 1) te) tNil)) Γ (Is (.int ((rs.getD l []).length : Nat))) := fun g hl h => (ve_lenT (row g hl h)).to (by rw [List.length_map])
  have ne1 : ∀ {Γ : List Sl}, VE ⟨K, B, H, some (p, q)⟩ (tUn (rU fun i => .int (-i)) (tC (.int 1))) Γ (Is (.int (-1))) := ve_neg ve_int
  have neI : ∀ (a b : Nat), (!decide ((a : Int) = (b : Int))) = (a != b) := ne_nat
  refine vq_asg (ve_ofAll (i := 0) (m := 2) (S := fun d => ∃ k : Nat, d = .int (k : Nat) ∧ k < rs.length) rfl (va_allC ((ve_opD (len rfl).v ve_int.v od_sub).imp fun d ed => ⟨rs.length - 1, by rw [ed, show ((rs.length : Nat) : Int) - 1 = ((rs.length - 1 : Nat) : Int) by omega], by omega⟩) (va_allC (ve_anyN (i := 0) rfl (len rfl) (by omega) (by omega)) va_allN))) fun d ⟨k, ed, hk⟩ => ?_
  subst ed
  have lst : ∀ {Γ : List Sl}, Γ[1]? = some (.dat (ordD rs)) → Γ[2]? = some (.dat (.int (k : Nat))) → VE ⟨K, B, H, some (p, q)⟩ (tOp (rIx K) (tVar 1) (tVar 2)) Γ (Is (tnD (rs.getD k []))) := fun g1 g2 => row g1 hk (ve_var g2)
  have lk := rl k hk
  have ne : rs.getD k [] ≠ [] := fun z => by
    have := own k hk
    rw [z] at this
    cases this
  refine vq_asg (vl_all (R := Spoil rs k) (m := 3) (va_allC ((ve_tupM (m := fun n : Nat => PyData.int (n : Nat)) (xs := rs.getD k []) (fun x => x != k) (fun n => .int (n : Nat)) (va_tupD (lst rfl rfl)) (by omega) fun x hx => ⟨_, _, vg_name, fun j hj => hj, (vt_testD (ve_opD (ve_var rfl).v (ve_var rfl).v od_neI)).to (neI _ _), fun _ => ve_var rfl⟩).imp fun d ed => ed ▸ spoil_less n1 n12 c hk)
    (va_allC ((ve_opD (lst rfl rfl).v (ve_tupD (va_consD (len rfl) va_nil)).v (od_catT (by rw [List.length_map]; show _ + 1 ≤ _; omega))).imp fun d ed => ed ▸ spoil_bad hk (bad_end lk)) (va_allC ((vl_listT (lst rfl rfl)).ed.imp fun d ed => ed ▸ spoil_bad hk (bad_list _)) va_allN)))).e fun d ⟨sm, ed, hs1, hs2⟩ => ?_
  subst ed
  refine vq_asg (vl_catAll (R := Spoil rs k) (m := 3) (ve_var (d := .list sm) rfl) hs2 (by omega) (vl_all (va_allC ?_ (va_allC ((ve_tupD (va_consD ve_bl va_nil)).imp fun d ed => ed ▸ spoil_bad hk (bad_one rfl)) (va_allC (ve_non.imp fun d ed => ed ▸ spoil_bad hk ⟨rfl, trivial⟩) va_allN))))).e fun d ⟨some_, ed, ho1, ho2⟩ => ?_
  · refine (ve_opD (lst rfl rfl).v ((ve_slT (lst rfl rfl) (vo_someD ne1) vo_none).to (congrArg PyData.tuple (a₂ := [.int ((rs.getD k []).getLast ne : Nat)]) ?_)).v (od_catT (by rw [List.length_map]; show _ + 1 ≤ _; omega))).imp fun d ed => ed ▸ spoil_bad hk (bad_twice lk ne)
    rw [cut_last, List.length_map, ← List.map_drop, drop_last ne]
    rfl
  subst ed
  show VS _ _ (GS rs (.dat (.int (k : Nat))) (.dat (.list some_)) .no .no .no .no) _
  refine vq_asgD ((vl_lcM (m := fun (i : Nat) => PyData.int (i : Nat)) (xs := List.range rs.length) (fun l => decide (2 < (rs.getD l []).length)) (fun l => .int (l : Nat)) (vi_rngM (n := rs.length) (len rfl) (by omega)) (by rw [List.length_range]; omega) fun l hl => ⟨_, _, vg_name, fun j hj => hj, (vt_testD (ve_opD (rowlen rfl (List.mem_range.mp hl) (ve_var rfl)).v ve_int.v od_gt)).to (decide_eq_decide.mpr (by omega)), fun _ => ve_var rfl⟩).ed) ?_
  refine vs_seq (fun Γ => ∃ s5 s6 s7, Γ = GS rs (.dat (.int (k : Nat))) (.dat (.list some_)) s5 s6 s7 .no) ?_ ?_
  · generalize ehs : (List.range rs.length).filter (fun l => decide (2 < (rs.getD l []).length)) = hs
    have hlt : ∀ l ∈ hs, l < rs.length := fun l hl => by
      rw [← ehs] at hl
      exact List.mem_range.mp (List.mem_filter.mp hl).1
    show VS _ _ (GS rs (.dat (.int (k : Nat))) (.dat (.list some_)) (.dat (lnD hs)) .no .no .no) _
    refine vs_if (vt_testD (ve_opD (ve_var rfl).v (vl_lstD va_nil).vd (od_ne (shaped_ns hs) rfl))) (fun h => ?_) fun _ => vs_next ⟨_, _, _, rfl⟩
    have nh : hs ≠ [] := fun z => by
      subst z
      cases h
    have htop := hlt _ (List.getLast_mem nh)
    generalize hs.getLast nh = top at htop
    refine vq_asgD (d := .int (hs.getLast nh : Nat)) (ve_opD (ve_var rfl).v ne1.v (od_ixL (atI_neg1 (by rw [List.getLast?_map, List.getLast?_eq_getLast nh]; rfl)))) ?_
    have htop := hlt _ (List.getLast_mem nh)
    generalize hs.getLast nh = top at htop
    refine vq_asgD ((vl_lcM (m := fun (i : Nat) => PyData.int (i : Nat)) (xs := rs.getD top []) (fun l => l != top && decide (1 < (rs.getD l []).length)) (fun l => .int (l : Nat)) (va_tupD (row rfl htop (ve_var rfl))) (by have := rl top htop; omega) fun l hl => ⟨_, _, vg_name, fun j hj => hj, vt_andD ((vt_testD (ve_opD (ve_var rfl).v (ve_var rfl).v od_neI)).to (neI _ _)) fun _ => (vt_testD (ve_opD (rowlen rfl (rlt top htop l hl) (ve_var rfl)).v ve_int.v od_gt)).to (decide_eq_decide.mpr (by omega)), fun _ => ve_var rfl⟩).ed) ?_
    generalize ems : (rs.getD top []).filter (fun l => l != top && decide (1 < (rs.getD l []).length)) = ms
    have hms : ∀ l ∈ ms, l ∈ rs.getD top [] ∧ l ≠ top ∧ 1 < (rs.getD l []).length := fun l hl => by
      rw [← ems, List.mem_filter, Bool.and_eq_true, decide_eq_true_eq, bne_iff_ne] at hl
      exact ⟨hl.1, hl.2.1, hl.2.2⟩
    show VS _ _ (GS rs (.dat (.int (k : Nat))) (.dat (.list some_)) (.dat (lnD hs)) (.dat (.int (top : Nat))) (.dat (lnD ms)) .no) _
    refine vs_if (vt_testD (ve_opD (ve_var rfl).v (vl_lstD va_nil).vd (od_ne (shaped_ns ms) rfl))) (fun h => ?_) fun _ => vs_next ⟨_, _, _, rfl⟩
    have nm : ms ≠ [] := fun z => by
      subst z
      cases h
    obtain ⟨m1, m2, m3⟩ := hms _ (List.getLast_mem nm)
    have mlt := rlt top htop _ m1
    have lastM : ∀ {Γ : List Sl}, Γ[7]? = some (.dat (lnD ms)) → VE ⟨K, B, H, some (p, q)⟩ (tOp (rIx K) (tVar 7) (tUn (rU fun i => .int (-i)) (tC (.int 1)))) Γ (Is (.int (ms.getLast nm : Nat))) := fun g => ve_opD (ve_var g).v ne1.v (od_ixL (atI_neg1 (by rw [List.getLast?_map, List.getLast?_eq_getLast nm]; rfl)))
    have two := filter_two (m := ms.getLast nm) (nd_le (closed_rows c _ (row_mem mlt)).2) m3
    have hlow : ∃ low, ((rs.getD (ms.getLast nm) []).filter (fun x => x != ms.getLast nm))[0]? = some low ∧ low ∈ rs.getD (ms.getLast nm) [] ∧ low ≠ ms.getLast nm := by
      cases e : (rs.getD (ms.getLast nm) []).filter (fun x => x != ms.getLast nm) with
      | nil => exact absurd e two
      | cons low t =>
        have hm : low ∈ (rs.getD (ms.getLast nm) []).filter (fun x => x != ms.getLast nm) := e ▸ List.mem_cons_self ..
        rw [List.mem_filter, bne_iff_ne] at hm
        exact ⟨low, rfl, hm.1, hm.2⟩
    obtain ⟨low, l0, l1, l2⟩ := hlow
    refine vq_asgD (d := .int (low : Nat)) (ve_opD (vl_lcM (m := fun (i : Nat) => PyData.int (i : Nat)) (xs := rs.getD (ms.getLast nm) []) (fun x => x != ms.getLast nm) (fun l => .int (l : Nat)) (va_tupD (row rfl mlt (lastM rfl))) (by have := rl _ mlt; omega) fun l hl => ⟨_, _, vg_name, fun j hj => hj, (vt_testD (ve_opD (ve_var rfl).v (lastM rfl).v od_neI)).to (neI _ _), fun _ => ve_var rfl⟩).vd ve_int.v (od_ixL (atI_pos (m := 0) (by rw [List.getElem?_map, l0]; rfl)))) ?_
    refine vs_ret ((ve_splice (k := top) (R := Is (tnD ((rs.getD top []).filter fun x => x != low))) (ve_var (d := ordD rs) rfl) (ve_var rfl) (ve_tupM (m := fun n : Nat => PyData.int (n : Nat)) (xs := rs.getD top []) (fun x => x != low) (fun n => .int (n : Nat)) (va_tupD (row rfl htop (ve_var rfl))) (by have := rl top htop; omega) fun x hx => ⟨_, _, vg_name, fun j hj => hj, (vt_testD (ve_opD (ve_var rfl).v (ve_var rfl).v od_neI)).to (neI _ _), fun _ => ve_var rfl⟩) (by rw [List.length_map]; omega)).imp fun d ⟨x, ex, ed⟩ => ?_)
    subst ex ed
    exact spoil_fin htop n12 c (spoil_top n1 n12 c htop m1 m2 l1 l2)
  · rintro Γ ⟨s5, s6, s7, rfl⟩
    refine vs_ret ((ve_splice (k := k) (R := Spoil rs k) (ve_var (d := ordD rs) rfl) (ve_var rfl) (ve_ofX (i := 0) rfl ((ve_var (d := .list some_) rfl).imp fun d ed => ⟨some_, ed, fun z => by rw [z] at ho1; simp at ho1, by omega, ho2⟩)) (by rw [List.length_map]; omega)).imp fun d ⟨x, hx, ed⟩ => ?_)
    subst ed
    exact spoil_fin hk n12 c hx
theorem ok__law_order_spoilt (T : Top K mg) (NS : base.NoSeer) : GOk P0 w K mg base CX0 35 T.f__law_order_spoilt T.fd__law_order_spoilt ["deal", "order"] (sp__law_order_spoilt K) :=
  da_ok 7 T.F__law_order_spoilt sc__law_order_spoilt (fun _ => rfl) rfl fun cdv A outer s H E hg hr => ⟨_, d__law_order_spoilt T (G__law_any := ok__law_any T NS) (G__law_of := ok__law_of T NS) cdv A outer s H E hg hr, fun B H p q a hP => vs__law_order_spoilt T hP⟩
end
end Ly.K76
namespace Ly.K76
open PySem PySem.Spec PyProof.Rows L2
abbrev endD (t : D) : D := .tuple [.str "end", t]
abbrev evT (t e : D) : D := .tuple [t, e]
theorem rec_odd {many : Nat} {a b : List D} {x : D} (h : evOk many x = false) : recOk many (.tuple (a ++ [x] ++ b)) = false := by
  have e : (a ++ [x] ++ b).all (evOk many) = false := by
    rw [List.all_append, List.all_append, List.all_cons, h]
    simp
  show (_ && (a ++ [x] ++ b).all (evOk many) && _) = false
  rw [e]
  simp
theorem sm_list {ds : List D} (h : ∀ d ∈ ds, Sm d 3 200) (hl : ds.length ≤ 400) : SmA ds 3 100000 := (SmA.of h).monoW (by omega)
theorem rec_yes {many threads : Nat} {r : List (Nat × Deed)} (h : Rec many threads r) : recOk many (recD r) = true := by
  obtain ⟨_, h2, h3⟩ := h
  show ((r.map evD).all (isRow [2]) && (r.map evD).all (evOk many) && rising (r.map evD)) = true
  have e1 : (r.map evD).all (isRow [2]) = true := by
    rw [List.all_map, List.all_eq_true]
    exact fun _ _ => rfl
  have e2 : (r.map evD).all (evOk many) = true := by
    rw [List.all_map, List.all_eq_true]
    intro z hz
    obtain ⟨t, e⟩ := z
    have hin := (h2 _ hz).2
    show (decide (0 ≤ (t : Int)) && deedOk many (deedD e)) = true
    rw [decide_eq_true (Int.natCast_nonneg t), Bool.true_and]
    cases e with
    | out l v =>
      have hin : l < many ∧ v < 4294967296 := hin
      show (PyData.eqv (.str "out") (.str "out") && ((decide (0 ≤ (l : Int)) && decide ((l : Int) < (many : Int))) && decide (0 ≤ (v : Int)))) = true
      rw [decide_eq_true (Int.natCast_nonneg l), decide_eq_true (Int.natCast_nonneg v), decide_eq_true (by omega : (l : Int) < (many : Int))]
      decide +kernel
    | fin t =>
      show (PyData.eqv (.str "end") (.str "end") && decide (0 ≤ (t : Int))) = true
      rw [decide_eq_true (Int.natCast_nonneg t)]
      decide +kernel
  have e3 : rising (r.map evD) = true := by
    unfold rising
    rw [List.all_eq_true]
    intro i hi
    rw [List.mem_range, List.length_map] at hi
    have tk : ∀ j (hj : j < r.length), tickOf ((r.map evD).getD j .none) = ((r[j]).1 : Nat) := fun j hj => by
      rw [List.getD_eq_getElem?_getD, List.getElem?_map, List.getElem?_eq_getElem hj]
      rfl
    rw [tk i (by omega), tk (i + 1) (by omega)]
    have := List.pairwise_iff_getElem.mp h3 i (i + 1) (by omega) (by omega) (by omega)
    exact decide_eq_true (by omega)
  rw [e1, e2, e3]
  rfl
theorem sm_nat {x : Nat} (h : x < 1000000000000) {k : Nat} : Sm (.int (x : Nat)) k 41 := sm_int (by rw [Int.natAbs_natCast]; omega)
theorem sm_deed {many threads : Nat} {e : Deed} (hm : many ≤ 100) (ht : threads ≤ 100) (h : DeedIn many threads e) : Sm (deedD e) 2 150 := by
  cases e with
  | out l v =>
    have h : l < many ∧ v < 4294967296 := h
    exact (Sm.tup (SmA.cons (k := 1) (n := 3) (smB_is (by decide +kernel)) (SmA.cons (n := 41) (sm_nat (by omega)) (SmA.cons (n := 41) (sm_nat (by omega)) (SmA.nil (n := 0)))))).mono
  | fin t =>
    have h : t < threads := h
    exact (Sm.tup (SmA.cons (k := 1) (n := 3) (smB_is (by decide +kernel)) (SmA.cons (n := 41) (sm_nat (by omega)) (SmA.nil (n := 0))))).mono
theorem sm_evT {t e : D} (h1 : Sm t 2 41) (h2 : Sm e 2 150) : Sm (evT t e) 3 200 := (Sm.tup (SmA.cons (k := 2) (n := 41) h1 (SmA.cons (n := 150) h2 (SmA.nil (n := 0))))).mono
theorem sm_ev {many threads : Nat} {z : Nat × Deed} (h1 : z.1 ≤ 3000000) (hm : many ≤ 100) (ht : threads ≤ 100) (h : DeedIn many threads z.2) : Sm (evD z) 3 200 := sm_evT (sm_nat (by omega)) (sm_deed hm ht h)
/-! ### what is no event -/
def badEv (many : Nat) (y : D) : Prop := evOk many y = false ∧ Sm y 3 200
theorem bad_deed {many : Nat} {t e : D} (h1 : Sm t 2 41) (h2 : Sm e 2 150) (h : deedOk many e = false) : badEv many (evT t e) := ⟨by show (isNum t && deedOk many e) = false; rw [h, Bool.and_false], sm_evT h1 h2⟩
theorem bad_tick {many : Nat} {t e : D} (h1 : Sm t 2 41) (h2 : Sm e 2 150) (h : isNum t = false) : badEv many (evT t e) := ⟨by show (isNum t && deedOk many e) = false; rw [h, Bool.false_and], sm_evT h1 h2⟩
theorem sm_out {x y : D} (h1 : Sm x 1 41) (h2 : Sm y 1 41) : Sm (.tuple [.str "out", x, y]) 2 150 := (Sm.tup (SmA.cons (k := 1) (n := 3) (smB_is (by decide +kernel)) (SmA.cons (n := 41) h1 (SmA.cons (n := 41) h2 (SmA.nil (n := 0)))))).mono
theorem deed_many {many : Nat} : deedOk many (.tuple [.str "out", .int (many : Nat), .int 1]) = false := by
  have e : isIdx (many : Nat) (.int (many : Nat)) = false := by
    show (decide (0 ≤ (many : Int)) && decide ((many : Int) < (many : Int))) = false
    rw [decide_eq_false (Int.lt_irrefl _), Bool.and_false]
  show (PyData.eqv (.str "out") (.str "out") && (isIdx (many : Nat) (.int (many : Nat)) && isNum (.int 1))) = false
  rw [e, Bool.false_and, Bool.and_false]
theorem rec_back {many : Nat} {r : List (Nat × Deed)} {x : D} (ne : r ≠ []) (h : tickOf x < ((r.getLast ne).1 : Nat)) : recOk many (.tuple (r.map evD ++ [x])) = false := by
  have hl : 0 < r.length := List.length_pos_iff.mpr ne
  show (_ && rising (r.map evD ++ [x])) = false
  have : rising (r.map evD ++ [x]) = false := by
    unfold rising
    rw [List.all_eq_false]
    refine ⟨r.length - 1, List.mem_range.mpr ?_, ?_⟩
    · rw [List.length_append, List.length_map]
      show r.length - 1 < r.length + 1 - 1
      omega
    · have e1 : (r.map evD ++ [x]).getD (r.length - 1) .none = evD (r.getLast ne) := by
        rw [List.getD_eq_getElem?_getD, List.getElem?_append_left (by rw [List.length_map]; omega), List.getElem?_map, List.getElem?_eq_getElem (by omega), ← List.getLast_eq_getElem]
        rfl
      have e2 : (r.map evD ++ [x]).getD (r.length - 1 + 1) .none = x := by
        rw [List.getD_eq_getElem?_getD, List.getElem?_append_right (by rw [List.length_map]; omega), List.length_map, show r.length - 1 + 1 - r.length = 0 by omega]
        rfl
      rw [e1, e2]
      show ¬ decide (((r.getLast ne).1 : Int) ≤ tickOf x) = true
      rw [decide_eq_false (by omega)]
      decide
  rw [this, Bool.and_false]
section
variable {w : World} {K : PySem.W.Frag} {mg : Str → Option Value} {base : Heap} {B H : Hp} {p q : Addr} {E : XK}
def RecAt (many threads i : Nat) (Γ : List Sl) : Prop := ∃ (r : List (Nat × Deed)) (tick : Nat) (s5 : Sl), Γ = [.deal, .dat (.int (many : Nat)), .dat (.int (threads : Nat)), .own (r.map evD), .dat (.int (tick : Nat)), s5] ∧
  r.length ≤ i ∧ tick ≤ 9000 * i ∧ (∀ p ∈ r, p.1 ≤ tick ∧ DeedIn many threads p.2) ∧ r.Pairwise fun p q => p.1 ≤ q.1
theorem vs__law_record (T : Top K mg) {a : Nat × Nat} (hP : P__law_record a) : VS ⟨K, B, H, some (p, q)⟩ (t__law_record T) (.deal :: slots (A__law_record a) 3) { nx := fun _ => R__law_record a .none, rt := R__law_record a } := by
  obtain ⟨many, threads⟩ := a
  obtain ⟨h1, h2, h3, h4⟩ := hP
  have h1 : 0 < many := h1
  have h2 : 0 < threads := h2
  have h3 : many ≤ 100 := h3
  have h4 : threads ≤ 100 := h4
  refine vs_seq (fun Γ => Γ = [.deal, .dat (.int (many : Nat)), .dat (.int (threads : Nat)), .own [], .dat (.int (0 : Nat)), .no]) (vs_parLE (vl_lstD va_nil) ve_int fun x y ex ey => by cases ex; cases ey; rfl) ?_
  rintro Γ rfl
  refine vs_seq (fun Γ => ∃ i, i ≤ 300 ∧ RecAt many threads i Γ) ?_ ?_
  · refine vs_for (vi_rng1 (S := fun ds => ds.length ≤ 300) (R := fun z => 0 ≤ z ∧ z ≤ 300) ((ve_callDa (i := 0) (R := R__law_size) (0, 300) rfl (va_consD ve_int (va_consD ve_int va_nil)) ⟨by decide, by decide⟩).imp fun d ⟨k, e, h0, h1⟩ => ⟨_, e, by omega, by have h1 : k ≤ 300 := h1; omega⟩) fun n ⟨h0, h1⟩ => ⟨by omega, by omega, by rw [upTo_len]; omega⟩) fun ds hds => ?_
    refine ⟨RecAt many threads, ⟨[], 0, _, rfl, Nat.le_refl _, Nat.le_refl _, (fun _ h => nomatch h), .nil⟩, ?_, fun Γ' h => ⟨_, hds, h⟩⟩
    rintro i d Γ' hd ⟨r, tick, s5, rfl, hr, ht, hp, hw⟩
    have hi : i < 300 := Nat.lt_of_lt_of_le (List.getElem?_eq_some_iff.mp hd).1 hds
    refine ⟨_, _, vg_name, ?_⟩
    refine vq_asg (R := fun d => ∃ t : Nat, d = .int (t : Nat) ∧ tick ≤ t ∧ t ≤ tick + 9000) (ve_op (Ra := Is (.int (tick : Nat))) (ve_var rfl).v (VE.v (ve_ofAll (i := 0) (m := 4) (S := fun d => ∃ m : Nat, d = .int (m : Nat) ∧ m ≤ 9000) rfl (va_allC (ve_int.imp fun d ed => ⟨0, ed, by omega⟩) (va_allC (ve_int.imp fun d ed => ⟨1, ed, by omega⟩) (va_allC (ve_int.imp fun d ed => ⟨1, ed, by omega⟩) (va_allC ((ve_anyN (i := 0) (n := 9000) rfl ve_int (by decide) (by decide)).imp fun d ⟨m, ed, hm⟩ => ⟨m, ed, by omega⟩) va_allN)))))) fun x y ex ⟨m, ey, hm⟩ => ?_) fun d ⟨t, ed, t1, t2⟩ => ?_
    · subst ex ey
      exact od_add.imp fun d e => ⟨tick + m, e, by omega, by omega⟩
    subst ed
    refine vs_app (i := 3) (R := fun d => ∃ e, d = evD (t, e) ∧ DeedIn many threads e) rfl (ve_tup (va_cons (R := Is (.int (t : Nat))) (ve_var rfl) (va_cons (R := fun d => ∃ e, d = deedD e ∧ DeedIn many threads e) (ve_if (vt_anyEq (i := 0) rfl (by decide) (by decide)) (fun _ => ?_) fun _ => ?_) va_nil)) fun es ⟨a, as, e1, ea, b, bs, e2, ⟨e, eb, he⟩, e3⟩ => ?_) (by rw [List.length_map]; omega) fun d ⟨e, ed, he⟩ => ?_
    · refine ve_tup (va_cons (R := Is (.str "end")) ve_str (va_cons (ve_anyN (i := 0) rfl (ve_var rfl) h2 (by omega)) va_nil)) fun es ⟨a, as, e1, ea, b, bs, e2, ⟨n, eb, hn⟩, e3⟩ => ?_
      subst e1 e2 eb ea
      cases e3
      exact ⟨by show 2 ≤ 100000; decide, .fin n, rfl, hn⟩
    · refine ve_tup (va_cons (R := Is (.str "out")) ve_str (va_cons (ve_anyN (i := 0) rfl (ve_var rfl) h1 (by omega)) (va_cons (ve_anyN (i := 0) (n := 4294967296) rfl ((ve_opD ve_int.v ve_int.v (od_shl ⟨by decide, by decide, by decide⟩)).to (congrArg PyData.int (by decide +kernel))) (by decide) (by decide)) va_nil))) fun es ⟨a, as, e1, ea, b, bs, e2, ⟨n, eb, hn⟩, c, cs, e4, ⟨v, ec, hv⟩, e3⟩ => ?_
      subst e1 e2 eb ea e4 ec
      cases e3
      exact ⟨by show 3 ≤ 100000; decide, .out n v, rfl, hn, hv⟩
    · subst e1 e2 ea eb
      cases e3
      exact ⟨by show 2 ≤ 100000; decide, e, rfl, he⟩
    subst ed
    refine ⟨r ++ [(t, e)], t, .dat d, ?_, by rw [List.length_append]; exact Nat.succ_le_succ hr, by omega, fun z hz => ?_, ?_⟩
    · rw [List.map_append]
      rfl
    · rcases List.mem_append.mp hz with hz | hz
      · exact ⟨Nat.le_trans (hp z hz).1 t1, (hp z hz).2⟩
      · rw [List.mem_singleton.mp hz]
        exact ⟨Nat.le_refl _, he⟩
    · refine List.pairwise_append.mpr ⟨hw, List.pairwise_singleton _ _, fun z hz y hy => ?_⟩
      rw [List.mem_singleton.mp hy]
      exact Nat.le_trans (hp z hz).1 t1
  · rintro Γ ⟨i, hi, r, tick, s5, rfl, hr, ht, hp, hw⟩
    exact vs_retD (ve_tupL (vv_own rfl)) ⟨r, rfl, by omega, fun z hz => ⟨by have := (hp z hz).1; omega, (hp z hz).2⟩, hw⟩
theorem ok__law_record (T : Top K mg) (NS : base.NoSeer) : GOk P0 w K mg base CX0 35 T.f__law_record T.fd__law_record ["deal", "levels", "threads"] (sp__law_record K) :=
  da_ok 3 T.F__law_record sc__law_record (fun _ => rfl) rfl fun cdv A outer s H E hg hr => ⟨_, d__law_record T (G__law_any := ok__law_any T NS) (G__law_of := ok__law_of T NS) (G__law_size := ok__law_size T NS) cdv A outer s H E hg hr, fun B H p q a hP => vs__law_record T hP⟩
end
end Ly.K76
namespace Ly.K76
open PySem PySem.Spec PyProof.Rows L2
def lotOf (es : List (List Nat)) : Deed → List Nat
  | .out l _ => [l]
  | .fin t => es.getD t []
theorem sees_lot (rs es : List (List Nat)) (lv : Nat) (e : Deed) : sees rs es lv e = (lotOf es e).all (rs.getD lv []).contains := by
  cases e with
  | out l v =>
    show (rs.getD lv []).contains l = [l].all _
    rw [List.all_cons, List.all_nil, Bool.and_true]
  | fin t => rfl
theorem rec_nil (r : List (Nat × Deed)) : PyData.eqv (recD r) (.tuple []) = r.isEmpty := by cases r <;> rfl
theorem deed_b1 {many : Nat} : deedOk many (.tuple [.str "out", .int 0, .int (-1)]) = false := by
  show (PyData.eqv (.str "out") (.str "out") && (isIdx (many : Nat) (.int 0) && isNum (.int (-1)))) = false
  rw [show isNum (.int (-1)) = false by decide, Bool.and_false, Bool.and_false]
theorem deed_b2 {many : Nat} : deedOk many (.tuple [.str "end", .int 0, .int 1]) = false := by
  show (PyData.eqv (.str "end") (.str "out") && (isIdx (many : Nat) (.int 0) && isNum (.int 1))) = false
  rw [show PyData.eqv (.str "end") (.str "out") = false by decide +kernel, Bool.false_and]
theorem deed_b3 {many : Nat} : deedOk many (.tuple [.str "end", .none]) = false := by
  show (PyData.eqv (.str "end") (.str "end") && isNum .none) = false
  rw [show isNum .none = false from rfl, Bool.and_false]
theorem deed_b4 {many : Nat} : deedOk many (.tuple [.str "take", .int 0]) = false := by
  show (PyData.eqv (.str "take") (.str "end") && isNum (.int 0)) = false
  rw [show PyData.eqv (.str "take") (.str "end") = false by decide +kernel, Bool.false_and]
abbrev GR (rs : List (List Nat)) (s2 s3 s4 s6 s7 s9 s10 s11 s12 s13 : Sl) : List Sl := [.deal, .dat (ordD rs), s2, s3, s4, .no, s6, s7, .no, s9, s10, s11, s12, s13]
section
variable {w : World} {K : PySem.W.Frag} {mg : Str → Option Value} {base : Heap} {B H : Hp} {p q : Addr} {E : XK}
theorem vs__law_records_hold (T : Top K mg) {rs : List (List Nat)} (hP : P__law_records_hold rs) : VS ⟨K, B, H, some (p, q)⟩ (t__law_records_hold T) (.deal :: slots (A__law_records_hold rs) 12) { nx := fun _ => R__law_records_hold rs .none, rt := R__law_records_hold rs } := by
  have hP : RowsOk rs := hP
  have hR := rows_of hP
  obtain ⟨n1, n12, hrows⟩ := hP
  have len : ∀ {Γ : List Sl}, Γ[1]? = some (.dat (ordD rs)) → VE ⟨K, B, H, some (p, q)⟩ (tCB (rLen K) (tCons (tVar 1) tNil)) Γ (Is (.int (rs.length : Nat))) := fun g => (ve_lenT (ve_var g)).to (by rw [List.length_map])
  have ne1 : ∀ {Γ : List Sl}, VE ⟨K, B, H, some (p, q)⟩ (tUn (rU fun i => .int (-i)) (tC (.int 1))) Γ (Is (.int (-1))) := ve_neg ve_int
  refine vq_asg (ve_callDa (i := 0) (R := R__law_size) (1, 8) rfl (va_consD ve_int (va_consD ve_int va_nil)) ⟨by decide, by decide⟩) fun d ⟨th, ed, t1, t8⟩ => ?_
  subst ed
  have t1 : 1 ≤ th := t1
  have t8 : th ≤ 8 := t8
  refine vq_asg (R := fun d => ∃ es : List (List Nat), d = ordD es ∧ es.length = th ∧ ∀ e ∈ es, e.Pairwise (· < ·) ∧ ∀ x ∈ e, x < rs.length) ((ve_tupX (vl_mapR (ds := (List.range th).map fun (i : Nat) => PyData.int (i : Nat)) (fun _ y => ∃ l : List Nat, y = tnD l ∧ l.Pairwise (· < ·) ∧ ∀ x ∈ l, x < rs.length) (vi_rngM (n := th) (ve_var rfl) (by omega)) (by rw [List.length_map, List.length_range]; omega) fun d hd => ⟨_, _, vg_name, fun j hj => hj,
    ve_subset (n := rs.length) (j := 4) (len rfl) (by omega) (by show 4 < 14; decide) fun x hx => vt_anyEq (i := 0) rfl (by decide) (by decide)⟩)).imp fun d ⟨ds, ed, ha⟩ => ?_) fun d ⟨es, ed, le, hes⟩ => ?_
  · obtain ⟨es, ee, hl, hq⟩ := A2.at (f := fun (i : Nat) => PyData.int (i : Nat)) (g := tnD) (Q := fun _ (l : List Nat) => l.Pairwise (· < ·) ∧ ∀ x ∈ l, x < rs.length) (fun x y h => h) ha
    rw [List.length_range] at hl
    refine ⟨es, by rw [ed, ee], hl, fun e he => ?_⟩
    obtain ⟨i, hi, rfl⟩ := List.getElem_of_mem he
    obtain ⟨r, e1, e2⟩ := hq i i (List.getElem?_range (by omega))
    rw [List.getElem?_eq_getElem hi] at e1
    cases e1
    exact e2
  subst ed
  show VS _ _ (GR rs (.dat (.int (th : Nat))) (.dat (ordD es)) .no .no .no .no .no .no .no .no) _
  have rowsE : Rows rs.length es := ⟨by omega, fun e he => ⟨Nat.le_trans (up_small (hes e he).1 (hes e he).2) (by omega), (hes e he).2⟩⟩
  refine vs_seq (fun Γ => ∃ (r : List (Nat × Deed)) (lv : Nat), Γ = GR rs (.dat (.int (th : Nat))) (.dat (ordD es)) (.dat (.int (lv : Nat))) (.dat (recD r)) .no .no .no .no .no .no ∧ Rec rs.length th r ∧ lv < rs.length) (vs_asgG (R := fun d => ∃ (r : List (Nat × Deed)) (lv : Nat), d = .tuple [recD r, .int (lv : Nat)] ∧ Rec rs.length th r ∧ lv < rs.length) (ve_tup (va_cons (ve_callDa (i := 0) (R := R__law_record) (rs.length, th) rfl (va_consD (len rfl) (va_consD (ve_var rfl) va_nil)) ⟨by show 0 < rs.length; omega, by show 0 < th; omega, by show rs.length ≤ 100; omega, by show th ≤ 100; omega⟩) (va_cons (ve_anyN (i := 0) rfl (len rfl) (by omega) (by omega)) va_nil)) fun ds ⟨a, as, e1, ⟨r, ea, hr⟩, b, bs, e2, ⟨lv, eb, hlv⟩, e3⟩ => ?_) fun d ⟨r, lv, ed, hr, hlv⟩ => ?_) ?_
  · subst e1 e2 ea eb
    cases e3
    exact ⟨by show 2 ≤ 100000; decide, r, lv, rfl, hr, hlv⟩
  · subst ed
    exact ⟨_, _, vg_tup2 vg_name vg_name, r, lv, rfl, hr, hlv⟩
  rintro Γ ⟨r, lv, rfl, hr, hlv⟩
  have hrl : r.length ≤ 300 := hr.1
  have hin : ∀ z ∈ r, DeedIn rs.length es.length z.2 := fun z hz => by rw [le]; exact (hr.2.1 z hz).2
  have smE : ∀ z ∈ r, Sm (evD z) 3 200 := fun z hz => sm_ev (hr.2.1 z hz).1 (many := rs.length) (threads := th) (by omega) (by omega) (hr.2.1 z hz).2
  have smR : ∀ xs : List (Nat × Deed), (∀ z ∈ xs, z ∈ r) → xs.length ≤ 300 → Sm (recD xs) 4 100000 := fun xs h hl => Sm.tup (sm_list (fun d hd => by
    obtain ⟨z, hz, rfl⟩ := List.mem_map.mp hd
    exact smE z (h z hz)) (by rw [List.length_map]; omega))
  have smF : ∀ f : Nat × Deed → Bool, Sm (recD (r.filter f)) 4 100000 := fun f => smR _ (fun z hz => (List.mem_filter.mp hz).1) (Nat.le_trans (List.length_filter_le _ _) hrl)
  have okS : (Sight.mk rs es lv).Ok := ⟨hlv, hR, rowsE⟩
  refine vq_asgD (d := recD (r.filter fun z => sees rs es lv z.2)) (ve_tupM (m := evD) (xs := r) (fun z => sees rs es lv z.2) evD (va_tupD (ve_var rfl)) (by omega) fun z hz => ⟨_, _, vg_name, fun j hj => hj, vt_BD ?_, fun _ => ve_var rfl⟩) ?_
  · obtain ⟨t, e⟩ := z
    have hd := hin _ hz
    have dv : VE ⟨K, B, H, some (p, q)⟩ (tOp (rIx K) (tVar 8) (tC (.int 1))) ((wipeS (GR rs (.dat (.int (th : Nat))) (.dat (ordD es)) (.dat (.int (lv : Nat))) (.dat (recD r)) .no .no .no .no .no .no) [8]).set 8 (.dat (evD (t, e)))) (Is (deedD e)) := ve_opD (ve_var (d := evD (t, e)) rfl).v ve_int.v (od_ixT (z := deedD e) rfl)
    have lot : VE ⟨K, B, H, some (p, q)⟩ (tIf (tTest (tOp (rEqA K) (tOp (rIx K) (tOp (rIx K) (tVar 8) (tC (.int 1))) (tC (.int 0))) (tC (.str "out")))) (tSl (rSlany K) (tOp (rIx K) (tVar 8) (tC (.int 1))) (tPart (tC (.int 1))) (tPart (tC (.int 2)))) (tOp (rIx K) (tVar 3) (tOp (rIx K) (tOp (rIx K) (tVar 8) (tC (.int 1))) (tC (.int 1))))) ((wipeS (GR rs (.dat (.int (th : Nat))) (.dat (ordD es)) (.dat (.int (lv : Nat))) (.dat (recD r)) .no .no .no .no .no .no) [8]).set 8 (.dat (evD (t, e)))) (Is (tnD (lotOf es e))) := by
      refine ve_if (vt_testD (eq_out e dv)) (fun h => ?_) fun h => ?_
      · cases e with
        | fin t => cases h
        | out l v => exact (ve_slT dv (vo_someD ve_int) (vo_someD ve_int)).to rfl
      · cases e with
        | out l v => cases h
        | fin t => exact ve_row (ve_var rfl) (ve_opD dv.v ve_int.v (od_ixT (z := .int (t : Nat)) rfl)) hd
    have ll : (lotOf es e).length ≤ 1000 := by
      cases e with
      | out l v => exact (by decide : 1 ≤ 1000)
      | fin t => exact (rowsE.2 _ (row_mem (show t < es.length from hd))).1
    exact (ve_callA (rs, lotOf es e, lv) (va_consD (ve_var rfl) (va_consD lot (va_consD (ve_var rfl) va_nil))) ⟨hlv, ⟨_, hR⟩, ll⟩).imp fun d ed => ed.trans (congrArg PyData.bool (sees_lot rs es lv e).symm)
  refine vq_ifD (x := false) (vt_isnt (a := true) ((ve_kwA (rs, recD r) (gD := kf_is_record_0_order_value) kd_is_record_0_order_value va_nil (va_consD (ve_var rfl) (va_consD (ve_var rfl) va_nil)) rfl (smR r (fun _ h => h) hrl).mono).imp fun d e => e.trans (by show PyData.bool (recOk rs.length (recD r)) = _; rw [rec_yes hr]))) (fun h => by cases h) fun _ => vq_next ?_
  refine vq_ifD (x := false) (vt_reprNe (k := 4) (n := 100000) (d := recD (r.filter fun z => sees rs es lv z.2)) ((ve_kwA (Sight.mk rs es lv, r) (gD := kf_seen_0_order_level_ends_record) kd_seen_0_order_level_ends_record va_nil (va_consD (ve_var rfl) (va_consD (ve_var rfl) (va_consD (ve_var rfl) (va_consD (ve_var rfl) va_nil)))) rfl ⟨okS, by show r.length ≤ 1000; omega, hin⟩).imp fun d e => e) (ve_var rfl) (smF _)) (fun h => by cases h) fun _ => vq_next ?_
  have shR : SeqAt.shaped (recD r) = true := (smR r (fun _ h => h) hrl).shaped (by decide)
  have lastT : ∀ {Γ : List Sl} (ne : r ≠ []), Γ[6]? = some (.dat (recD r)) → VE ⟨K, B, H, some (p, q)⟩ (tOp (rIx K) (tOp (rIx K) (tVar 6) (tUn (rU fun i => .int (-i)) (tC (.int 1)))) (tC (.int 0))) Γ (Is (.int ((r.getLast ne).1 : Nat))) := fun ne g =>
    ve_opD (ve_opD (ve_var g).v ne1.v (od_ixT (z := evD (r.getLast ne)) (atI_neg1 (by rw [List.getLast?_map, List.getLast?_eq_getLast ne]; rfl)))).v ve_int.v (od_ixT (z := .int ((r.getLast ne).1 : Nat)) rfl)
  have lastL : ∀ ne : r ≠ [], (r.getLast ne).1 ≤ 3000000 := fun ne => (hr.2.1 _ (List.getLast_mem ne)).1
  refine vq_asg (R := fun d => ∃ t : Nat, d = .int (t : Nat)) (ve_if (vt_testD (ve_opD (ve_var rfl).v (ve_tupD va_nil).v (od_ne shR rfl))) (fun h => ?_) fun _ => ve_int.imp fun d ed => ⟨3, ed⟩) fun d ⟨tk, ed⟩ => ?_
  · have ne : r ≠ [] := fun z => by
      subst z
      cases h
    have := lastL ne
    exact ve_ofAll (i := 0) (m := 3) rfl (va_allC ((lastT ne rfl).imp fun d ed => ⟨_, ed⟩) (va_allC (((ve_opD (lastT ne rfl).v ve_int.v od_add).to (y := .int (((r.getLast ne).1 + 1 : Nat) : Int)) rfl).imp fun d ed => ⟨_, ed⟩) (va_allC ((ve_anyN (i := 0) (n := (r.getLast ne).1 + 1) rfl ((ve_opD (lastT ne rfl).v ve_int.v od_add).to rfl) (by omega) (by omega)).imp fun d ⟨m, ed, _⟩ => ⟨m, ed⟩) va_allN)))
  subst ed
  refine vq_ifD (x := false) (vt_reprNe (k := 4) (n := 100000) (d := recD (r.filter fun z => decide (z.1 < tk))) ((ve_kwA (r, tk) (gD := kf_cut_record_0_record_tick) kd_cut_record_0_record_tick va_nil (va_consD (ve_var rfl) (va_consD (ve_var rfl) va_nil)) rfl (by show r.length ≤ 1000; omega)).imp fun d e => e)
    (ve_cut (j := 8) (r := r) (tick := tk) (ve_var rfl) (by omega) (by show 8 < 14; decide) fun z _ => ve_var rfl) (smF _)) (fun h => by cases h) fun _ => vq_next ?_
  refine vq_ifD (x := r.isEmpty) ((vt_testD (ve_opD (ve_var rfl).v (ve_tupD va_nil).v (od_eq shR rfl))).to (rec_nil r)) (fun _ => vq_leave (vs_retD ve_bl rfl)) fun h => vq_next ?_
  have ne : r ≠ [] := fun z => by
    subst z
    cases h
  have hpos : 0 < r.length := List.length_pos_iff.mpr ne
  have rlen : ∀ {Γ : List Sl}, Γ[6]? = some (.dat (recD r)) → VE ⟨K, B, H, some (p, q)⟩ (tCB (rLen K) (tCons (tVar 6) tNil)) Γ (Is (.int (r.length : Nat))) := fun g => (ve_lenT (ve_var g)).to (by rw [List.length_map])
  refine vq_asg (ve_ofAll (i := 0) (m := 2) (S := fun d => ∃ k : Nat, d = .int (k : Nat) ∧ k < r.length) rfl (va_allC ((ve_opD (rlen rfl).v ve_int.v od_sub).imp fun d ed => ⟨r.length - 1, by rw [ed, show ((r.length : Nat) : Int) - 1 = ((r.length - 1 : Nat) : Int) by omega], by omega⟩) (va_allC (ve_anyN (i := 0) rfl (rlen rfl) (by omega) (by omega)) va_allN))) fun d ⟨k, ed, hk⟩ => ?_
  subst ed
  obtain ⟨⟨t, e⟩, hz⟩ : ∃ z, r[k]? = some z := ⟨_, List.getElem?_eq_getElem hk⟩
  have hzm := List.mem_of_getElem? hz
  have hzi := hr.2.1 _ hzm
  have ht : t ≤ 3000000 := hzi.1
  have smT : Sm (.int (t : Nat)) 2 41 := sm_nat (by omega)
  have smD : Sm (deedD e) 2 150 := sm_deed (many := rs.length) (threads := th) (by omega) (by omega) hzi.2
  have ev : ∀ {Γ : List Sl}, Γ[6]? = some (.dat (recD r)) → Γ[10]? = some (.dat (.int (k : Nat))) → VE ⟨K, B, H, some (p, q)⟩ (tOp (rIx K) (tVar 6) (tVar 10)) Γ (Is (evD (t, e))) := fun g1 g2 => ve_opD (ve_var g1).v (ve_var g2).v (od_ixT (atI_pos (by rw [List.getElem?_map, hz]; rfl)))
  have tv : ∀ {Γ : List Sl}, Γ[6]? = some (.dat (recD r)) → Γ[10]? = some (.dat (.int (k : Nat))) → VE ⟨K, B, H, some (p, q)⟩ (tOp (rIx K) (tOp (rIx K) (tVar 6) (tVar 10)) (tC (.int 0))) Γ (Is (.int (t : Nat))) := fun g1 g2 => ve_opD (ev g1 g2).v ve_int.v (od_ixT (z := .int (t : Nat)) rfl)
  have en : ∀ {Γ : List Sl} {te t2 : TE} {x y : D}, VE ⟨K, B, H, some (p, q)⟩ te Γ (Is x) → VE ⟨K, B, H, some (p, q)⟩ t2 Γ (Is y) → VE ⟨K, B, H, some (p, q)⟩ (tTup (tCons te (tCons t2 tNil))) Γ (Is (.tuple [x, y])) := fun h h2 => ve_tupD (va_consD h (va_consD h2 va_nil)) (by show 2 ≤ 100000; decide)
  have o3 : ∀ {Γ : List Sl} {te t2 t3 : TE} {x y z : D}, VE ⟨K, B, H, some (p, q)⟩ te Γ (Is x) → VE ⟨K, B, H, some (p, q)⟩ t2 Γ (Is y) → VE ⟨K, B, H, some (p, q)⟩ t3 Γ (Is z) → VE ⟨K, B, H, some (p, q)⟩ (tTup (tCons te (tCons t2 (tCons t3 tNil)))) Γ (Is (.tuple [x, y, z])) := fun h h2 h3 => ve_tupD (va_consD h (va_consD h2 (va_consD h3 va_nil))) (by show 3 ≤ 100000; decide)
  have smEnd : Sm (endD (.int 0)) 2 150 := smB_is (by decide +kernel)
  refine vq_asg (vl_all (R := badEv rs.length) (m := 2) (va_allC ((en (tv rfl rfl) (o3 ve_str (len rfl) ve_int)).imp fun d ed => ed ▸ bad_deed smT (sm_out (sm_nat (by omega)) (smB_is (by decide +kernel))) deed_many) (va_allC ((en (tv rfl rfl) (o3 ve_str ve_int ne1)).imp fun d ed => ed ▸ bad_deed smT (smB_is (by decide +kernel)) deed_b1) va_allN))).e fun d ⟨w1, ed, hw1, hb1⟩ => ?_
  subst ed
  refine vq_asg (vl_catAll (R := badEv rs.length) (m := 3) (ve_var (d := .list w1) rfl) hb1 (by omega) (vl_all (va_allC ((en ne1 (en ve_str ve_int)).imp fun d ed => ed ▸ bad_tick (smB_is (by decide +kernel)) smEnd rfl) (va_allC ((en (tv rfl rfl) (o3 ve_str ve_int ve_int)).imp fun d ed => ed ▸ bad_deed smT (smB_is (by decide +kernel)) deed_b2) (va_allC ((en ve_bl (en ve_str ve_int)).imp fun d ed => ed ▸ bad_tick (smB_is (by decide +kernel)) smEnd rfl) va_allN))))).e fun d ⟨w2, ed, hw2, hb2⟩ => ?_
  subst ed
  refine vq_asg (vl_catAll (R := badEv rs.length) (m := 2) (ve_var (d := .list w2) rfl) hb2 (by omega) (vl_all (va_allC ((vl_listT (ev rfl rfl)).ed.imp fun d ed => ed ▸ ⟨rfl, (Sm.list (SmA.cons (k := 2) (n := 41) smT (SmA.cons (n := 150) smD (SmA.nil (n := 0))))).mono⟩) (va_allC ((ve_opD (ev rfl rfl).v (ve_tupD (va_consD ve_int va_nil)).v (od_catT (by show 3 ≤ 100000; decide))).imp fun d ed => ed ▸ ⟨rfl, (Sm.tup (SmA.cons (k := 2) (n := 41) smT (SmA.cons (n := 150) smD (SmA.cons (n := 1) (smB_is (by decide +kernel)) (SmA.nil (n := 0)))))).mono⟩) va_allN)))).e fun d ⟨w3, ed, hw3, hb3⟩ => ?_
  subst ed
  refine vq_asg (vl_catAll (R := badEv rs.length) (m := 3) (ve_var (d := .list w3) rfl) hb3 (by omega) (vl_all (va_allC ((en (tv rfl rfl) (vl_lstD (va_consD ve_str (va_consD ve_int va_nil))).ed).imp fun d ed => ed ▸ bad_deed smT (smB_is (by decide +kernel)) rfl) (va_allC ((en (tv rfl rfl) (en ve_str ve_non)).imp fun d ed => ed ▸ bad_deed smT (smB_is (by decide +kernel)) deed_b3) (va_allC ((en (tv rfl rfl) (en ve_str ve_int)).imp fun d ed => ed ▸ bad_deed smT (smB_is (by decide +kernel)) deed_b4) va_allN))))).e fun d ⟨w4, ed, hw4, hb4⟩ => ?_
  subst ed
  refine vq_asg (ve_splice (k := k) (R := badEv rs.length) (ve_var (d := recD r) rfl) (ve_var rfl) (ve_ofX (i := 0) rfl ((ve_var (d := .list w4) rfl).imp fun d ed => ⟨w4, ed, fun z => by rw [z] at hw4; simp at hw4, by omega, hb4⟩)) (by rw [List.length_map]; omega)) fun value ⟨x, hx, ev1⟩ => ?_
  subst ev1
  refine vq_asgD (d := .tuple (r.map evD ++ [evT (.int (((r.getLast ne).1 : Nat) - 1)) (endD (.int 0))])) (ve_opD (ve_var rfl).v (ve_tupD (va_consD (en (ve_opD (lastT ne rfl).v ve_int.v od_sub) (en ve_str ve_int)) va_nil)).v (od_catT (by rw [List.length_map]; show _ + 1 ≤ _; omega))) ?_
  have no : ∀ {Γ : List Sl} {te : TE} {y : D}, Γ[1]? = some (.dat (ordD rs)) → VE ⟨K, B, H, some (p, q)⟩ te Γ (Is y) → Sm y 64 100000 → recOk rs.length y = false → VE ⟨K, B, H, some (p, q)⟩ (tOp rIsB (tCallK (sp_is_record K) (fun vs _ => vs) E0 (tCons (tVar 1) (tCons te tNil)) tNil) (tC (.bl false))) Γ (Is (.bool true)) := fun {Γ te y} g h s e =>
    (ve_opD ((ve_callA (rs, y) (va_consD (ve_var g) (va_consD h va_nil)) s).imp fun d ed => ed.trans (congrArg PyData.bool e)).v ve_bl.v od_isBl).to rfl
  have smL : ∀ d ∈ r.map evD, Sm d 3 200 := fun d hd => by
    obtain ⟨z, hz, rfl⟩ := List.mem_map.mp hd
    exact smE z hz
  refine vs_retD (ve_andD (b := true) (c := true) (no rfl (ve_var rfl) ?_ (rec_odd hx.1)) fun _ => (ve_andD (b := true) (c := true) (no rfl (ve_var rfl) ?_ (rec_back ne ?_)) fun _ => no rfl (vl_listT (ve_var rfl)).ed ?_ rfl).to rfl) rfl
  · refine (Sm.tup (sm_list (fun y hy => ?_) ?_)).mono
    · rcases List.mem_append.mp hy with hy | hy
      · rcases List.mem_append.mp hy with hy | hy
        · exact smL y (List.mem_of_mem_take hy)
        · rw [List.mem_singleton.mp hy]
          exact hx.2
      · exact smL y (List.mem_of_mem_drop hy)
    · rw [List.length_append, List.length_append, List.length_take, List.length_drop, List.length_map]
      show _ + 1 + _ ≤ _
      omega
  · refine (Sm.tup (sm_list (fun y hy => ?_) ?_)).mono
    · rcases List.mem_append.mp hy with hy | hy
      · exact smL y hy
      · rw [List.mem_singleton.mp hy]
        have := lastL ne
        exact sm_evT (sm_int (by omega)) smEnd
    · rw [List.length_append, List.length_map]
      show _ + 1 ≤ _
      omega
  · show (((r.getLast ne).1 : Nat) : Int) - 1 < _
    omega
  · exact (Sm.list (sm_list smL (by rw [List.length_map]; omega))).mono
theorem ok__law_records_hold (T : Top K mg) (NS : base.NoSeer) : GOk P0 w K mg base CX0 36 T.f__law_records_hold T.fd__law_records_hold ["deal", "order"] (sp__law_records_hold K) :=
  da_ok 12 T.F__law_records_hold sc__law_records_hold (fun _ => rfl) rfl fun cdv A outer s H E hg hr => ⟨_, d__law_records_hold T (G__law_any := ok__law_any T NS) (G__law_of := ok__law_of T NS) (G__law_size := ok__law_size T NS) (G__law_record := ok__law_record T NS) (G__law_within := ok__law_within T) (G_is_record := ok_is_record T) (G_seen := ok_seen T) (G_cut_record := ok_cut_record T) cdv A outer s H E hg hr, fun B H p q a hP => vs__law_records_hold T hP⟩
end
end Ly.K76
namespace Ly.K76
open PySem PySem.Spec PyProof.Rows L2
theorem input_no {n : Nat} {xs : List D} (h : xs.length ≠ n ∨ (∃ x ∈ xs, isTup x = false) ∨ ∃ x ∈ xs, allNum x = false) : inputOk n (.tuple xs) = false := by
  show ((xs.length == n) && xs.all isTup && xs.all allNum) = false
  rcases h with h | ⟨x, hx, h⟩ | ⟨x, hx, h⟩
  · rw [beq_eq_false_iff_ne.mpr h]
    rfl
  · have : xs.all isTup = false := List.all_eq_false.mpr ⟨x, hx, by rw [h]; decide⟩
    rw [this]
    simp
  · have : xs.all allNum = false := List.all_eq_false.mpr ⟨x, hx, by rw [h]; decide⟩
    rw [this]
    simp
theorem input_yes (rs : List (List Nat)) : inputOk rs.length (ordD rs) = true := by
  show (((rs.map tnD).length == rs.length) && (rs.map tnD).all isTup && (rs.map tnD).all allNum) = true
  have e1 : (rs.map tnD).all isTup = true := by
    rw [List.all_map, List.all_eq_true]
    exact fun _ _ => rfl
  have e2 : (rs.map tnD).all allNum = true := by
    rw [List.all_map, List.all_eq_true]
    intro r _
    show (nsD r).all isNum = true
    rw [List.all_map, List.all_eq_true]
    exact fun x _ => decide_eq_true (Int.natCast_nonneg x)
  rw [e1, e2, List.length_map]
  simp
section
variable {C : Cn} {Γ : List Sl} {te : TE} {i : Nat} {E : XK}
theorem ve_anyU (h0 : Γ[i]? = some .deal) (h : VE C te Γ (fun d => ∃ n : Int, d = .int n ∧ 0 < n)) : VE C (tCallK (De C.K P_any R_any) (fun vs _ => vs) E (tCons (tVar i) (tCons te tNil)) tNil) Γ (fun d => ∃ r : Nat, d = .int (r : Nat)) :=
  ve_de h0 (va_cons h va_nil) fun ds ⟨d, ds', e, ⟨n, ed, n0⟩, e2⟩ => by
    cases e2
    subst e ed
    refine ⟨⟨n, rfl, n0⟩, fun d r => ?_⟩
    obtain ⟨k, ek, k0, k1⟩ := r n rfl
    obtain ⟨k, rfl⟩ := Int.eq_ofNat_of_zero_le k0
    exact ⟨k, ek⟩
end
/-- what is no row of an input -/
def badRow (y : D) : Prop := allNum y = false ∧ small y
theorem bad_row {a : List Nat} {x : D} (h : a.length ≤ 100) (hx : isNum x = false) : badRow (.tuple (nsD a ++ [x])) := by
  refine ⟨?_, ?_⟩
  · show (nsD a ++ [x]).all isNum = false
    exact all_false (x := x) (List.mem_append_right _ (List.mem_singleton.mpr rfl)) hx
  · show (nsD a ++ [x]).length ≤ 1000
    rw [List.length_append, List.length_map]
    show _ + 1 ≤ _
    omega
theorem tup_nil (a : List Nat) : PyData.eqv (tnD a) (.tuple []) = a.isEmpty := by cases a <;> rfl
abbrev GI (rs : List (List Nat)) (s2 s3 s4 s5 s7 s8 s10 s11 : Sl) : List Sl := [.deal, .dat (ordD rs), s2, s3, s4, s5, .no, s7, s8, .no, s10, s11]
section
variable {w : World} {K : PySem.W.Frag} {mg : Str → Option Value} {base : Heap} {B H : Hp} {p q : Addr} {E : XK}
theorem vs__law_inputs_hold (T : Top K mg) {rs : List (List Nat)} (hP : P__law_inputs_hold rs) : VS ⟨K, B, H, some (p, q)⟩ (t__law_inputs_hold T) (.deal :: slots (A__law_inputs_hold rs) 10) { nx := fun _ => R__law_inputs_hold rs .none, rt := R__law_inputs_hold rs } := by
  have hP : RowsOk rs := hP
  have hR := rows_of hP
  obtain ⟨n1, n12, hrows⟩ := hP
  have len : ∀ {Γ : List Sl}, Γ[1]? = some (.dat (ordD rs)) → VE ⟨K, B, H, some (p, q)⟩ (tCB (rLen K) (tCons (tVar 1) tNil)) Γ (Is (.int (rs.length : Nat))) := fun g => (ve_lenT (ve_var g)).to (by rw [List.length_map])
  have ne1 : ∀ {Γ : List Sl}, VE ⟨K, B, H, some (p, q)⟩ (tUn (rU fun i => .int (-i)) (tC (.int 1))) Γ (Is (.int (-1))) := ve_neg ve_int
  refine vs_seq (Is (GI rs (.own (([] : List (List Nat)).map tnD)) (.own (([] : List (List Nat)).map tnD)) .no .no .no .no .no .no)) (vs_parTLL (i := 2) (j := 3) (S := Is []) (S2 := Is []) (vl_lstD va_nil) (vl_lstD va_nil) fun x y ex ey => by cases ex; cases ey; rfl) ?_
  rintro Γ rfl
  refine vs_seq (fun Γ => ∃ (a b : List (List Nat)) (s4 s5 : Sl), Γ = GI rs (.own (a.map tnD)) (.own (b.map tnD)) s4 s5 .no .no .no .no ∧ a.length = rs.length ∧ b.length = rs.length ∧ (∀ r ∈ a, r.length ≤ 40) ∧ ∀ r ∈ b, r.length ≤ 40) ?_ ?_
  · refine vs_for (vi_rngM (n := rs.length) (len rfl) (by omega)) fun ds e => ?_
    cases e
    refine ⟨fun t Γ => ∃ (a b : List (List Nat)) (s4 s5 : Sl), Γ = GI rs (.own (a.map tnD)) (.own (b.map tnD)) s4 s5 .no .no .no .no ∧ a.length = t ∧ b.length = t ∧ (∀ r ∈ a, r.length ≤ 40) ∧ ∀ r ∈ b, r.length ≤ 40, ⟨[], [], _, _, rfl, rfl, rfl, (fun _ h => nomatch h), fun _ h => nomatch h⟩, ?_, fun Γ' ⟨a, b, s4, s5, e, h1, h2, h⟩ => ⟨a, b, s4, s5, e, by rw [h1, List.length_map, List.length_range], by rw [h2, List.length_map, List.length_range], h⟩⟩
    rintro t d Γ' hd ⟨a, b, s4, s5, rfl, ha, hb, ra, rb⟩
    have ht : t < rs.length := by
      have := (List.getElem?_eq_some_iff.mp hd).1
      rwa [List.length_map, List.length_range] at this
    rw [List.getElem?_map] at hd
    obtain ⟨lv, _, rfl⟩ := Option.map_eq_some_iff.mp hd
    refine ⟨_, _, vg_name, ?_⟩
    show VS _ _ (GI rs (.own (a.map tnD)) (.own (b.map tnD)) (.dat (.int (lv : Nat))) s5 .no .no .no .no) _
    refine vq_asg (R := fun d => ∃ ws : List Nat, d = tnD ws ∧ ws.length ≤ 40) ((ve_tupX (vl_lcA (n := 40) (S := fun ds => ds.length ≤ 40) (T := fun _ => True) (fun d => ∃ x : Nat, d = .int (x : Nat)) (vi_rng1 (R := fun z => 0 ≤ z ∧ z ≤ 40) ((ve_callDa (i := 0) (R := R__law_size) (0, 40) rfl (va_consD ve_int (va_consD ve_int va_nil)) ⟨by decide, by decide⟩).imp fun d ⟨k, e, h0, h1⟩ => ⟨_, e, by omega, by have h1 : k ≤ 40 := h1; omega⟩) fun n ⟨h0, h1⟩ => ⟨by omega, by omega, by rw [upTo_len]; omega⟩) (fun ds h => h) (by decide) fun ds hds d hd => ⟨_, _, vg_name, fun j hj => hj, vt_yes.imp fun _ _ => trivial,
      ve_anyU (i := 0) rfl (ve_op (Ra := Is (.int 1)) ve_int.v (VE.v (ve_ofAll (i := 0) (m := 3) (S := fun d => ∃ j : Nat, d = .int (j : Nat) ∧ j ≤ 1000000) rfl (va_allC (ve_int.imp fun d ed => ⟨1, ed, by decide⟩) (va_allC (ve_int.imp fun d ed => ⟨32, ed, by decide⟩) (va_allC (ve_if (vt_testD (ve_opD (ve_var (d := .int (lv : Nat)) rfl).v ve_int.v od_eqI)) (fun _ => ve_int.imp fun d ed => ⟨13000, ed, by decide⟩) fun _ => ve_int.imp fun d ed => ⟨64, ed, by decide⟩) va_allN))))) fun x y ex ⟨j, ey, hj⟩ => ?_)⟩)).imp fun d ⟨ds, ed, hl, hall⟩ => ?_) fun d ⟨ws, ed, hw⟩ => ?_
    · subst ex ey
      exact (od_shl ⟨by omega, by omega, by decide⟩).imp fun d ed => ⟨_, ed, Int.mul_pos (by decide) (Int.pow_pos (by decide))⟩
    · obtain ⟨ws, rfl, _⟩ := all_map (f := fun (x : Nat) => PyData.int (x : Nat)) (Q := fun _ => True) fun y hy => by
        obtain ⟨x, e⟩ := hall y hy
        exact ⟨x, e, trivial⟩
      rw [List.length_map] at hl
      exact ⟨ws, ed, hl⟩
    subst ed
    refine vs_seq (fun Γ => Γ = GI rs (.own ((a ++ [ws]).map tnD)) (.own (b.map tnD)) (.dat (.int (lv : Nat))) (.dat (tnD ws)) .no .no .no .no) (vs_app (i := 2) (ds := a.map tnD) rfl (ve_var (d := tnD ws) rfl) (by rw [List.length_map]; omega) fun d ed => by
      cases ed
      rw [List.map_append]
      rfl) ?_
    rintro Γ rfl
    refine vs_app (i := 3) (ds := b.map tnD) (R := fun d => ∃ us : List Nat, d = tnD us ∧ us.length ≤ 40) rfl (ve_if (S := fun b => b = false → ws ≠ []) (vt_or (S := fun _ => True) (vt_anyGt (i := 0) rfl (by decide) (by decide)) (fun _ => (vt_testD (ve_opD (ve_var rfl).v (ve_tupD va_nil).v (od_eq (shaped_tn ws) rfl))).imp fun b eb hb z => ?_) fun _ h => by cases h) (fun _ => (ve_var (d := tnD ws) rfl).imp fun d ed => ⟨ws, ed, hw⟩) fun h => ?_) (by rw [List.length_map]; omega) fun d ⟨us, ed, hu⟩ => ?_
    · subst z
      rw [eb] at hb
      cases hb
    · have ne := h rfl
      have hpos : 0 < ws.length := List.length_pos_iff.mpr ne
      refine (ve_opD ((ve_slT (ve_var (d := tnD ws) rfl) vo_none (vo_someD ne1)).to (congrArg PyData.tuple (a₂ := nsD (ws.take (ws.length - 1))) ?_)).v (ve_tupD (va_consD ((ve_opD (ve_opD (ve_var (d := tnD ws) rfl).v ne1.v (od_ixT (z := .int (ws.getLast ne : Nat)) (atI_neg1 (by rw [List.getLast?_map, List.getLast?_eq_getLast ne]; rfl)))).v ve_int.v od_add).to (y := .int ((ws.getLast ne + 1 : Nat) : Int)) rfl) va_nil)).v (od_catT (by rw [List.length_map, List.length_take]; show _ + 1 ≤ _; omega))).imp fun d ed => ⟨ws.take (ws.length - 1) ++ [ws.getLast ne + 1], ?_, ?_⟩
      · rw [cut_init, List.length_map, ← List.map_take]
      · rw [ed]
        refine congrArg PyData.tuple ?_
        show _ = List.map (fun n : Nat => PyData.int (n : Nat)) (ws.take (ws.length - 1) ++ [ws.getLast ne + 1])
        rw [List.map_append]
        rfl
      · rw [List.length_append, List.length_take]
        show _ + 1 ≤ _
        omega
    · subst ed
      refine ⟨a ++ [ws], b ++ [us], .dat (.int (lv : Nat)), .dat (tnD ws), ?_, by rw [List.length_append, ha]; rfl, by rw [List.length_append, hb]; rfl, fun r hr => ?_, fun r hr => ?_⟩
      · have : (b ++ [us]).map tnD = b.map tnD ++ [tnD us] := List.map_append
        rw [this]
        rfl
      · rcases List.mem_append.mp hr with hr | hr
        · exact ra r hr
        · rw [List.mem_singleton.mp hr]
          exact hw
      · rcases List.mem_append.mp hr with hr | hr
        · exact rb r hr
        · rw [List.mem_singleton.mp hr]
          exact hu
  rintro Γ ⟨a, b, s4, s5, rfl, ha, hb, ra, rb⟩
  refine vs_seq (fun Γ => ∃ s : Nat, Γ = GI rs (.dat (ordD a)) (.dat (ordD b)) s4 s5 (.dat (.int (s : Nat))) .no .no .no ∧ s < rs.length) (vs_asgG (R := fun d => ∃ s : Nat, d = .tuple [ordD a, ordD b, .int (s : Nat)] ∧ s < rs.length) (ve_tup (va_cons (R := Is (ordD a)) (ve_tupL (vv_own rfl)) (va_cons (R := Is (ordD b)) (ve_tupL (vv_own rfl)) (va_cons (ve_anyN (i := 0) rfl (len rfl) (by omega) (by omega)) va_nil))) fun ds ⟨x, xs, e1, ex, y, ys, e2, ey, z, zs, e3, ⟨s, ez, hs⟩, e4⟩ => ?_) fun d ⟨s, ed, hs⟩ => ?_) ?_
  · subst e1 e2 e3 ex ey ez
    cases e4
    exact ⟨by show 3 ≤ 100000; decide, s, rfl, hs⟩
  · subst ed
    exact ⟨_, _, vg_tup (vgs_cons vg_name (vgs_cons vg_name (vgs_cons vg_name vgs_nil))) rfl, s, rfl, hs⟩
  rintro Γ ⟨s, rfl, hs⟩
  refine vs_seq (fun Γ => ∃ s4 s8 : Sl, Γ = GI rs (.dat (ordD a)) (.dat (ordD b)) s4 s5 (.dat (.int (s : Nat))) s8 .no .no) ?_ ?_
  · refine vs_for (vi_rngM (n := rs.length) (len rfl) (by omega)) fun ds e => ?_
    cases e
    refine ⟨fun _ Γ => ∃ s4 s8 : Sl, Γ = GI rs (.dat (ordD a)) (.dat (ordD b)) s4 s5 (.dat (.int (s : Nat))) s8 .no .no, ⟨_, _, rfl⟩, ?_, fun Γ' h => h⟩
    rintro t d Γ' hd ⟨s4, s8, rfl⟩
    rw [List.getElem?_map] at hd
    obtain ⟨lv, hlv, rfl⟩ := Option.map_eq_some_iff.mp hd
    have hlv : lv < rs.length := List.mem_range.mp (List.mem_of_getElem? hlv)
    obtain ⟨z1, z2⟩ := hR.2 _ (row_mem hlv)
    refine ⟨_, _, vg_name, ?_⟩
    show VS _ _ (GI rs (.dat (ordD a)) (.dat (ordD b)) (.dat (.int (lv : Nat))) s5 (.dat (.int (s : Nat))) s8 .no .no) _
    refine vq_asgD (d := .bool ((rs.getD lv []).all fun l => a.getD l [] == b.getD l [])) ((ve_opD (vl_lcM (m := fun n : Nat => PyData.int (n : Nat)) (xs := rs.getD lv []) (fun l => !(a.getD l [] == b.getD l [])) (fun n => .int (n : Nat)) (va_tupD (ve_row (ve_var rfl) (ve_var rfl) hlv)) (Nat.le_trans z1 (by decide)) fun l hl => ⟨_, _, vg_name, fun j hj => hj,
      (vt_testD (ve_opD (ve_row (ve_var rfl) (ve_var rfl) (by rw [ha]; exact z2 l hl)).v (ve_row (ve_var rfl) (ve_var rfl) (by rw [hb]; exact z2 l hl)).v (od_neD (shaped_tn _) (shaped_tn _) (eqv_nums _ _)))), fun _ => ve_var rfl⟩).vd (vl_lstD va_nil).vd (od_eq (shaped_ns _) rfl)).to (congrArg PyData.bool (filter_eqv_nil (f := fun l => a.getD l [] == b.getD l [])))) ?_
    exact vs_ifD (x := false) (vt_reprNe (k := 0) (n := 0) (d := .bool ((rs.getD lv []).all fun l => a.getD l [] == b.getD l [])) ((ve_kwA (rs, lv, a, b) (gD := kf_alike_inputs_0_order_level_one_other) kd_alike_inputs_0_order_level_one_other va_nil (va_consD (ve_var rfl) (va_consD (ve_var rfl) (va_consD (ve_var rfl) (va_consD (ve_var rfl) va_nil)))) rfl ⟨hlv, hR, ha, hb⟩).imp fun d r => r) (ve_var rfl) sm_bool) (fun h => by cases h) fun _ => vs_next ⟨_, _, rfl⟩
  rintro Γ ⟨s4, s8, rfl⟩
  have hsa : s < a.length := by omega
  have ls : (a.getD s []).length ≤ 40 := ra _ (row_mem hsa)
  have row : ∀ {Γ : List Sl}, Γ[2]? = some (.dat (ordD a)) → Γ[7]? = some (.dat (.int (s : Nat))) → VE ⟨K, B, H, some (p, q)⟩ (tOp (rIx K) (tVar 2) (tVar 7)) Γ (Is (tnD (a.getD s []))) := fun g1 g2 => ve_row (ve_var g1) (ve_var g2) hsa
  have ext : ∀ {Γ : List Sl} {te : TE} {x : D}, Γ[2]? = some (.dat (ordD a)) → Γ[7]? = some (.dat (.int (s : Nat))) → VE ⟨K, B, H, some (p, q)⟩ te Γ (Is x) → isNum x = false → VE ⟨K, B, H, some (p, q)⟩ (tOp (rAddA K) (tOp (rIx K) (tVar 2) (tVar 7)) (tTup (tCons te tNil))) Γ badRow := fun g1 g2 h e =>
    (ve_opD (row g1 g2).v (ve_tupD (va_consD h va_nil) (by show 1 ≤ 100000; decide)).v (od_catT (by rw [List.length_map]; show _ + 1 ≤ _; omega))).imp fun d ed => ed ▸ bad_row (by omega) e
  refine vq_asg (vl_all (R := badRow) (m := 5) (va_allC (ext rfl rfl ne1 (by decide)) (va_allC (ext rfl rfl ve_bl rfl) (va_allC ((vl_listT (row rfl rfl)).ed.imp fun d ed => ed ▸ ⟨rfl, trivial⟩) (va_allC (ext rfl rfl ve_non rfl) (va_allC (ve_int.imp fun d ed => ed ▸ ⟨rfl, trivial⟩) va_allN)))))).e fun d ⟨wr, ed, hw1, hw2⟩ => ?_
  subst ed
  refine vq_asg (ve_splice (k := s) (R := badRow) (ve_var (d := ordD a) rfl) (ve_var rfl) (ve_ofX (i := 0) rfl ((ve_var (d := .list wr) rfl).imp fun d ed => ⟨wr, ed, fun z => by rw [z] at hw1; simp at hw1, by omega, hw2⟩)) (by rw [List.length_map]; omega)) fun value ⟨x, hx, ev1⟩ => ?_
  subst ev1
  have smA : ∀ y ∈ a.map tnD, small y := fun y hy => by
    obtain ⟨r, hr, rfl⟩ := List.mem_map.mp hy
    exact small_tn (Nat.le_trans (ra r hr) (by decide))
  have no : ∀ {Γ : List Sl} {te : TE} {y : D}, Γ[1]? = some (.dat (ordD rs)) → VE ⟨K, B, H, some (p, q)⟩ te Γ (Is y) → P_is_order y → inputOk rs.length y = false → VE ⟨K, B, H, some (p, q)⟩ (tCallK (sp_is_input K) (fun vs _ => vs) E0 (tCons (tVar 1) (tCons te tNil)) tNil) Γ (Is (.bool false)) := fun {Γ te y} g h s e =>
    (ve_callA (rs, y) (va_consD (ve_var g) (va_consD h va_nil)) ⟨by show rs.length ≤ 1000; omega, s⟩).imp fun d ed => ed.trans (congrArg PyData.bool e)
  have noF : ∀ {Γ : List Sl} {te : TE} {y : D}, Γ[1]? = some (.dat (ordD rs)) → VE ⟨K, B, H, some (p, q)⟩ te Γ (Is y) → P_is_order y → inputOk rs.length y = false → VE ⟨K, B, H, some (p, q)⟩ (tOp rIsB (tCallK (sp_is_input K) (fun vs _ => vs) E0 (tCons (tVar 1) (tCons te tNil)) tNil) (tC (.bl false))) Γ (Is (.bool true)) := fun g h s e =>
    (ve_opD (no g h s e).v ve_bl.v od_isBl).to rfl
  refine vq_ifD (x := false) ((vt_orD (b := false) (c := false) (vt_isnt (a := true) ((ve_kwA (rs, ordD a) (gD := kf_is_input_0_order_value) kd_is_input_0_order_value va_nil (va_consD (ve_var rfl) (va_consD (ve_var rfl) va_nil)) rfl ⟨by show rs.length ≤ 1000; omega, by show (a.map tnD).length ≤ 1000; rw [List.length_map]; omega, smA⟩).imp fun d e => e.trans (by show PyData.bool (inputOk rs.length (ordD a)) = _; rw [← ha, input_yes])))
    fun _ => vt_isnt (a := false) (no (y := .tuple ((a.map tnD).take s ++ [x] ++ (a.map tnD).drop (s + 1))) rfl (ve_var rfl) ⟨?_, fun y hy => ?_⟩ (input_no (Or.inr (Or.inr ⟨x, List.mem_append_left _ (List.mem_append_right _ (List.mem_singleton.mpr rfl)), hx.1⟩))))).to rfl) (fun h => by cases h) fun _ => vq_next ?_
  · rw [List.length_append, List.length_append, List.length_take, List.length_drop, List.length_map]
    show _ + 1 + _ ≤ _
    omega
  · rcases List.mem_append.mp hy with hy | hy
    · rcases List.mem_append.mp hy with hy | hy
      · exact smA y (List.mem_of_mem_take hy)
      · rw [List.mem_singleton.mp hy]
        exact hx.2
    · exact smA y (List.mem_of_mem_drop hy)
  refine vs_retD (ve_andD (b := true) (c := true) (noF (y := .tuple (a.map tnD ++ [.tuple []])) rfl (ve_opD (ve_var rfl).v (ve_tupD (va_consD (ve_tupD va_nil) va_nil)).v (od_catT (by rw [List.length_map]; show _ + 1 ≤ _; omega))) ⟨?_, fun y hy => ?_⟩ (input_no (Or.inl ?_))) fun _ => (ve_andD (b := true) (c := true) (noF (y := .tuple ((a.map tnD).take (a.length - 1))) rfl ((ve_slT (ve_var (d := ordD a) rfl) vo_none (vo_someD ne1)).to (congrArg PyData.tuple (by rw [cut_init, List.length_map]))) ⟨?_, fun y hy => smA y (List.mem_of_mem_take hy)⟩ (input_no (Or.inl ?_))) fun _ => noF (y := .list (a.map tnD)) rfl (vl_listT (ve_var rfl)).ed trivial rfl).to rfl) rfl
  · rw [List.length_append, List.length_map]
    show _ + 1 ≤ _
    omega
  · rcases List.mem_append.mp hy with hy | hy
    · exact smA y hy
    · rw [List.mem_singleton.mp hy]
      exact (by decide : 0 ≤ 1000)
  · rw [List.length_append, List.length_map]
    show _ + 1 ≠ _
    omega
  · rw [List.length_take, List.length_map]
    omega
  · rw [List.length_take, List.length_map]
    omega
theorem ok__law_inputs_hold (T : Top K mg) (NS : base.NoSeer) : GOk P0 w K mg base CX0 35 T.f__law_inputs_hold T.fd__law_inputs_hold ["deal", "order"] (sp__law_inputs_hold K) :=
  da_ok 10 T.F__law_inputs_hold sc__law_inputs_hold (fun _ => rfl) rfl fun cdv A outer s H E hg hr => ⟨_, d__law_inputs_hold T (G__law_any := ok__law_any T NS) (G__law_of := ok__law_of T NS) (G__law_size := ok__law_size T NS) (G_alike_inputs := ok_alike_inputs T) (G_is_input := ok_is_input T) cdv A outer s H E hg hr, fun B H p q a hP => vs__law_inputs_hold T hP⟩
end
end Ly.K76
namespace Ly.K76
open PySem PySem.Spec PyProof.Rows L2
/-! ### pairs along a row, and one that goes back -/
section
variable {row : List Nat} {ps : List (Nat × Nat)} {b0 b1 n : Nat}
theorem up_pos (al : Along row ps) (nr : row.Nodup) {x y : Nat} (u : Up ps x y) : ∀ i, i < row.length → x = row.getD i 0 → ∃ j, i ≤ j ∧ j < row.length ∧ y = row.getD j 0 := by
  induction u with
  | here => exact fun i hi e => ⟨i, Nat.le_refl _, hi, e⟩
  | step v hm ih =>
    intro i hi e
    obtain ⟨j, h1, h2, h3⟩ := ih i hi e
    obtain ⟨a, b, g1, g2, ep⟩ := al _ hm
    injection ep with e1 e2
    have : a = j := at_inj nr (by omega) h2 (by rw [← e1, h3])
    exact ⟨b, by omega, g2, e2⟩
theorem along_no (al : Along row ps) (nr : row.Nodup) (l : Nat) : ¬ Up1 ps l l := by
  rintro ⟨y, u, hm, ne⟩
  obtain ⟨a, b, g1, g2, ep⟩ := al _ hm
  injection ep with e1 e2
  obtain ⟨j, h1, h2, h3⟩ := up_pos al nr u b g2 e2
  have : a = j := at_inj nr (by omega) h2 (by rw [← e1, h3])
  have e3 : a = b := by omega
  exact ne (by rw [e1, e2, e3])
theorem up_mono {qs : List (Nat × Nat)} {x y : Nat} (u : Up ps x y) (s : ∀ p ∈ ps, p ∈ qs) : Up qs x y := by
  induction u with
  | here => exact .here _
  | step _ h ih => exact .step ih (s _ h)
theorem up_split {x y : Nat} (u : Up (ps ++ [(b0, b1)]) x y) : Up ps x y ∨ (Up ps x b0 ∧ Up ps b1 y) := by
  induction u with
  | here => exact Or.inl (.here _)
  | step v hm ih =>
    rcases List.mem_append.mp hm with hm | hm
    · rcases ih with h | ⟨h1, h2⟩
      · exact Or.inl (.step h hm)
      · exact Or.inr ⟨h1, .step h2 hm⟩
    · have e := List.mem_singleton.mp hm
      injection e with e1 e2
      subst e1 e2
      rcases ih with h | ⟨h1, _⟩
      · exact Or.inr ⟨h, .here _⟩
      · exact Or.inr ⟨h1, .here _⟩
theorem knot_back (no : ∀ l, ¬ Up1 ps l l) (hb : b1 < n) : Knot n (ps ++ [(b0, b1)]) ↔ b0 ≠ b1 ∧ Up ps b1 b0 := by
  constructor
  · rintro ⟨l, _, y, u, hm, ne⟩
    rcases List.mem_append.mp hm with hp | hp
    · rcases up_split u with h | ⟨h1, h2⟩
      · exact absurd ⟨y, h, hp, ne⟩ (no l)
      · refine ⟨fun e => ?_, (Up.step h2 hp).trans h1⟩
        subst e
        exact no l ⟨y, h1.trans h2, hp, ne⟩
    · have e := List.mem_singleton.mp hp
      injection e with e1 e2
      subst e1 e2
      rcases up_split u with h | ⟨h1, _⟩
      · exact ⟨ne, h⟩
      · exact ⟨ne, h1⟩
  · rintro ⟨ne, u⟩
    exact ⟨b1, hb, b0, up_mono u fun p hp => List.mem_append_left _ hp, List.mem_append_right _ (List.mem_singleton.mpr rfl), ne⟩
theorem chk_last {x : D} (h1 : 1 ≤ n) (h2 : n ≤ 12) (h : pairOk n x = false) : chk (.int (n : Nat)) (.list (ps.map prD ++ [x])) = some 1 := by
  have e : (ps.map prD ++ [x]).all (pairOk n) = false := all_false (x := x) (List.mem_append_right _ (List.mem_singleton.mpr rfl)) h
  unfold chk
  show (if 1 ≤ (n : Int) ∧ (n : Int) ≤ 12 then (if isSeq (.list (ps.map prD ++ [x])) = true ∧ (ps.map prD ++ [x]).all (pairOk (n : Int).toNat) = true then none else some 1) else some 0) = some 1
  rw [if_pos ⟨by omega, by omega⟩, Int.toNat_natCast, e, if_neg (fun h => by cases h.2)]
theorem chk_zero {i : Int} {pr : D} (h : ¬ (1 ≤ i ∧ i ≤ 12)) : chk (.int i) pr = some 0 := by
  unfold chk
  exact if_neg h
end
section
variable {α : Type} {C0 : Cn} {A A' : TA} {Γ : List Sl} {C : Addr} {fld : Str} {Ar g : α → List D} {P : α → Prop} {R W : α → D → Prop} {R' : D → Prop} {S S' : List D → Prop} {gV : List V → List V → List V} {E : XK} {i : Nat}
theorem ve_callDX (hi : Γ[i]? = some .deal) (h : VA C0 A Γ S) (k : ∀ ys, S ys → ∃ a, g a = ys ∧ P a ∧ ∀ d, R a d → R' d) : VE C0 (tCallK (Da C0.K g P R) (fun vs _ => vs) E (tCons (tVar i) A) tNil) Γ R' := fun B H σ F Q q => by
  obtain ⟨p, r, e, hs⟩ := F.slot i _ hi
  refine ⟨.ref p, hs, h B H σ F _ fun ds vs B1 H1 e1 s1 k1 => ?_⟩
  obtain ⟨a, ea, hP, hR⟩ := k ds e1
  have F1 := F.step s1
  obtain ⟨n1, n2⟩ := F1.dlOut e
  refine ⟨a, hP, B1, p, r, vs, g a, rfl, F1.sub, F1.dlNow p r e, n1, n2, ea.symm ▸ k1, rfl, fun d v B3 H3 r3 s3 k3 => ?_⟩
  rw [← e] at s3
  exact q d v B3 H3 (hR d r3) (s1.trans F.dlNow s3) k3
theorem ve_xaX (gD : List D → List D → List D) (h' : VA C0 A' Γ S') (hg : ∀ B vs zs ds es, DqAll C0.K B vs ds → DqAll C0.K B zs es → DqAll C0.K B (gV vs zs) (gD ds es)) (k : ∀ es, S' es → ∃ a, gD [] es = Ar a ∧ P a ∧ (∀ n, ¬ W a n) ∧ ∀ d, R a d → R' d) :
    VE C0 (tCallK (Pxa C0.K C fld Ar P R W) gV E0 tNil A') Γ R' := fun B H σ F Q q => h' B H σ F _ fun es zs B2 H2 r2 s2 k2 => by
  obtain ⟨a, ea, hP, no, hR⟩ := k es r2
  exact ⟨B2, a, (F.step s2).sub, ea ▸ hg B2 [] zs [] es .nil k2, hP, fun d v B3 H3 r3 s3 k3 => q d v B3 H3 (hR d r3) (s2.trans F.dlNow s3.any) k3, fun n dx v B3 H3 w3 _ _ _ => absurd w3 (no n)⟩
end
abbrev AskP (n : Nat) (ps : List (Nat × Nat)) : AskO := ⟨.int (n : Nat), .list (ps.map prD)⟩
theorem askP_ok {n : Nat} {ps : List (Nat × Nat)} (h : ps.length ≤ 1000) (b : Bool) : P_checked_pairs ⟨.int (n : Nat), seqD b (ps.map prD)⟩ := by
  refine ⟨by show (itemsOf (seqD b (ps.map prD))).length ≤ 1000; rw [itemsOf_seqD, List.length_map]; exact h, fun x hx => ?_⟩
  have hx : x ∈ itemsOf (seqD b (ps.map prD)) := hx
  rw [itemsOf_seqD] at hx
  obtain ⟨z, _, rfl⟩ := List.mem_map.mp hx
  exact (by decide : 2 ≤ 1000)
theorem int_nat {a b : Nat} (h : PyData.int (a : Nat) = PyData.int (b : Nat)) : a = b := by
  injection h with h
  exact Int.ofNat.inj h
/-- what order_of gives, if there is no knot -/
theorem order_is {n : Nat} {ps : List (Nat × Nat)} {b : Bool} {d : D} (h : R_order_of ⟨.int (n : Nat), seqD b (ps.map prD)⟩ d) : ∃ rs, d = ordD rs ∧ Closed n ps rs ∧ ¬ Knot n ps := by
  obtain ⟨_, n', b', ps', rs, e1, _, e2, _, no, ed, c⟩ := h
  obtain rfl := int_nat e1
  obtain rfl := seq_inj e2
  exact ⟨rs, ed, c, fun ⟨l, hl, u⟩ => no l hl u⟩
theorem order_out {n : Nat} {ps : List (Nat × Nat)} {b : Bool} {m : D} (hc : chk (.int (n : Nat)) (seqD b (ps.map prD)) = none) (h : W_order_of ⟨.int (n : Nat), seqD b (ps.map prD)⟩ m) : m = .int 2 ∧ Knot n ps := by
  rcases h with ⟨k, hk, _⟩ | ⟨em, _, n', b', ps', e1, e2, l, hl, u⟩
  · have hk : chk (.int (n : Nat)) (seqD b (ps.map prD)) = some k := hk
    rw [hc] at hk
    cases hk
  · obtain rfl := int_nat e1
    obtain rfl := seq_inj e2
    exact ⟨em, l, hl, u⟩
theorem ring_is {n : Nat} {ps : List (Nat × Nat)} {b : Bool} {d : D} (h : R_ring_of ⟨.int (n : Nat), seqD b (ps.map prD)⟩ d) : (d = .none ∧ ¬ Knot n ps) ∨ ∃ r, d = tnD r ∧ IsRing ps r ∧ (∀ x ∈ r, x < n) ∧ Knot n ps := by
  obtain ⟨_, n', b', ps', e1, _, e2, _, h⟩ := h
  obtain rfl := int_nat e1
  obtain rfl := seq_inj e2
  rcases h with ⟨ed, no⟩ | ⟨r, ed, hr, hx, k⟩
  · exact Or.inl ⟨ed, fun ⟨l, hl, u⟩ => no l hl u⟩
  · exact Or.inr ⟨r, ed, hr, hx, k⟩
theorem refused_good {n : Nat} {ps : List (Nat × Nat)} {d : D} (hc : chk (.int (n : Nat)) (.list (ps.map prD)) = none) (h : R__law_refused (AskP n ps) d) : (d = .none ∧ ¬ Knot n ps) ∨ (d = .str "2" ∧ Knot n ps) := by
  rcases h with ⟨ed, e, he⟩ | ⟨i, hw, ed⟩
  · obtain ⟨_, _, _, no⟩ := order_is (b := true) he
    exact Or.inl ⟨ed, no⟩
  · obtain ⟨ei, k⟩ := order_out (b := true) hc hw
    injection ei with ei
    subst ei
    exact Or.inr ⟨ed.trans (congrArg PyData.str (by decide +kernel)), k⟩
theorem refused_bad {x y d : D} {k : Nat} (hc : chk x y = some k) (h : R__law_refused ⟨x, y⟩ d) : d = .str (PyData.int (k : Nat)).shown := by
  rcases h with ⟨_, e, he⟩ | ⟨i, hw, ed⟩
  · have : chk x y = none := he.1
    rw [hc] at this
    cases this
  · rcases hw with ⟨k', hk, ei⟩ | ⟨_, z, _⟩
    · have hk : chk x y = some k' := hk
      rw [hc] at hk
      cases hk
      rw [ed, ei]
    · have z : chk x y = none := z
      rw [hc] at z
      cases z
def badPair (n : Nat) (x : D) : Prop := pairOk n x = false ∧ (itemsOf x).length ≤ 1000
theorem pair_bad {n : Nat} {xs : List D} {x : D} (hl : xs.length ≤ 1000) (hx : x ∈ xs) (h : isIdx (n : Nat) x = false) : badPair n (.tuple xs) := ⟨by show (_ && xs.all (isIdx (n : Nat))) = false; rw [all_false hx h, Bool.and_false], hl⟩
theorem pair_len {n : Nat} {xs : List D} (hl : xs.length ≤ 1000) (h : xs.length ≠ 2) : badPair n (.tuple xs) := ⟨by show (decide (xs.length = 2) && _) = false; rw [decide_eq_false h, Bool.false_and], hl⟩
end Ly.K76
namespace Ly.K76
open PySem PySem.Spec PyProof.Rows L2
abbrev G7 (ns : List Int) (row : List Nat) (ps : List (Nat × Nat)) (rs : List (List Nat)) (s5 s6 s7 s8 s9 s10 s11 : Sl) : List Sl := [.rd (ns.map V.int), .deal, .dat (lnD row), .dat (.list (ps.map prD)), .dat (ordD rs), s5, s6, s7, s8, s9, s10, s11]
section
variable {w : World} {K : PySem.W.Frag} {mg : Str → Option Value} {base : Heap} {B H : Hp} {p q : Addr} {E : XK}
theorem vs_law (T : Top K mg) {ns : List Int} (hn : ns.length ≤ 63) : VS ⟨K, H, H, none⟩ (t_law T) (.rd (ns.map V.int) :: List.replicate 11 .no) { nx := fun _ => False, rt := Is (.bool true) } := by
  refine vs_begin (s := 76) (n := 10) hn (k := fun B H p q => ?_)
  refine vq_asg (R := fun d => ∃ row : List Nat, d = lnD row ∧ RowOk row) (ve_callDX (g := A__law_row) (P := P__law_row) (R := R__law_row) (i := 1) rfl (va_cons (ve_callDa (i := 1) (R := R__law_size) (1, 12) rfl (va_consD ve_int (va_consD ve_int va_nil)) ⟨by decide, by decide⟩) va_nil) fun ys ⟨d, ds, e, ⟨n, ed, n1, n12⟩, e2⟩ => ?_) fun d ⟨row, ed, hrow⟩ => ?_
  · cases e2
    subst e ed
    have n1 : 1 ≤ n := n1
    have n12 : n ≤ 12 := n12
    refine ⟨n, rfl, by show n ≤ 100; omega, fun d ⟨row, ed, hp⟩ => ⟨row, ed, ?_⟩⟩
    have hl := hp.length_eq
    rw [List.length_range] at hl
    exact ⟨by rw [hl]; exact hp, by omega, by omega⟩
  subst ed
  have nr := row_nd hrow
  have n1 := hrow.2.1
  have n12 := hrow.2.2
  refine vq_asg (ve_callDa (i := 1) (R := R__law_pairs) row rfl (va_consD (ve_var rfl) va_nil) hrow) fun d ⟨ps, ed, hpl, al⟩ => ?_
  subst ed
  have hps : ∀ z ∈ ps, z.1 < row.length ∧ z.2 < row.length := fun z hz => by
    obtain ⟨i, j, h1, h2, rfl⟩ := al z hz
    exact ⟨(row_lt hrow).mp (at_row (by omega)), (row_lt hrow).mp (at_row h2)⟩
  have no := along_no al nr
  have noK : ¬ Knot row.length ps := fun ⟨l, _, u⟩ => no l u
  refine vq_asg (ve_callA (R := R__law_closed) ⟨row, ps⟩ (va_consD (ve_var rfl) (va_consD (ve_var rfl) va_nil)) ⟨hrow, by show ps.length ≤ 1000; omega, al⟩) fun d ⟨rs, ed, c⟩ => ?_
  subst ed
  have c : Closed row.length ps rs := c
  have hl := c.len
  have len : ∀ {Γ : List Sl}, Γ[2]? = some (.dat (lnD row)) → VE ⟨K, B, H, some (p, q)⟩ (tCB (rLen K) (tCons (tVar 2) tNil)) Γ (Is (.int (row.length : Nat))) := fun g => (ve_lenL (ve_var g).v).to (by rw [List.length_map])
  have good : ∀ b, chk (.int (row.length : Nat)) (seqD b (ps.map prD)) = none := fun b => chk_good n1 n12 hps
  refine vq_asgD (d := ordD rs) ((ve_xaX (R' := Is (ordD rs)) (Ar := A_order_of) (P := P_order_of) (R := R_order_of) (W := W_order_of) (S' := fun es => ∃ b, es = [.int (row.length : Nat), seqD b (ps.map prD)]) kf_order_of_0_levels_pairs ((va_cons (len rfl) (va_cons (ve_ofAll (i := 1) (m := 2) (S := fun d => ∃ b, d = seqD b (ps.map prD)) rfl (va_allC ((vl_listL (ve_var rfl).v).ed.imp fun d ed => ⟨true, ed⟩) (va_allC ((ve_tupL (ve_var rfl).v).imp fun d ed => ⟨false, ed⟩) va_allN))) va_nil)).imp fun es ⟨d, ds, e, ed, d2, ds2, e2, ⟨b, ed2⟩, e3⟩ => ?_)
    (fun _ _ _ _ _ h1 h2 => kd_order_of_0_levels_pairs h1 h2) (fun es ⟨b, e⟩ => ⟨⟨.int (row.length : Nat), seqD b (ps.map prD)⟩, by rw [e]; rfl, askP_ok (by omega) b, fun n hw => noK (order_out (good b) hw).2, fun d hr => ?_⟩))) ?_
  · cases e3
    subst e e2 ed ed2
    exact ⟨b, rfl⟩
  · obtain ⟨zs, ed, cz, _⟩ := order_is hr
    rw [ed, closed_eq cz c]
  show VS _ _ (G7 ns row ps rs (.dat (ordD rs)) .no .no .no .no .no .no) _
  have hrows := closed_rows c
  have hRows : RowsOk rs := ⟨by omega, by omega, fun r hr => by rw [hl]; exact hrows r hr⟩
  have smO : Sm (ordD rs) 2 10000 := sm_ord (m := 12) (l := 12) (fun r hr => ⟨Nat.le_trans (up_small (hrows r hr).2 (hrows r hr).1) n12, fun x hx => by have := (hrows r hr).1 x hx; omega⟩) (by omega)
  have pO : P_is_order (ordD rs) := by
    refine ⟨by show (rs.map tnD).length ≤ 1000; rw [List.length_map]; omega, fun x hx => ?_⟩
    obtain ⟨r, hr, rfl⟩ := List.mem_map.mp hx
    exact small_tn (Nat.le_trans (up_small (hrows r hr).2 (hrows r hr).1) (by omega))
  have ringNo : ∀ {qs : List (Nat × Nat)} (hq : ∀ z ∈ qs, z.1 < row.length ∧ z.2 < row.length) (n : D), ¬ W_ring_of (AskP row.length qs) n := fun {qs} hq n ⟨k, hk, _⟩ => by
    have hk : chk (.int (row.length : Nat)) (seqD true (qs.map prD)) = some k := hk
    rw [chk_good n1 n12 hq] at hk
    cases hk
  refine vq_ifD (x := false) ((vt_orD (b := false) (c := false) (vt_reprNe (k := 2) (n := 10000) (ve_var rfl) (ve_var rfl) smO) fun _ => (vt_orD (b := false) (c := false) (vt_isnt (a := true) ((ve_kwA (g := A_is_order) (P := P_is_order) (R := R_is_order) (ordD rs) (gD := kf_is_order_0_value) kd_is_order_0_value va_nil (va_consD (ve_var rfl) va_nil) rfl pO).imp fun d ed => ed.trans (congrArg PyData.bool (ord_yes n1 n12 c noK))))
    fun _ => (vt_testD (ve_opD (x := .none) (((ve_xa0 (Ar := A_ring_of) (P := P_ring_of) (R := R_ring_of) (W := W_ring_of) (AskP row.length ps) (va_consD (len rfl) (va_consD (ve_var rfl) va_nil)) (askP_ok (by omega) true) (ringNo hps)).imp fun d hd => ?_)).v ve_non.v od_notN)).to rfl).to rfl).to rfl) (fun h => by cases h) fun _ => vq_next ?_
  · rcases ring_is (b := true) hd with ⟨ed, _⟩ | ⟨_, _, _, _, k⟩
    · exact ed
    · exact absurd k noK
  refine vq_ifD (x := false) ((vt_orD (b := false) (c := false) (vt_isnt (a := false) (ve_call1x (ve_callDa (i := 1) (R := R__law_order_spoilt) rs rfl (va_consD (ve_var rfl) va_nil) ⟨by omega, by omega, ps, by rw [hl]; exact c⟩) fun y hy => ⟨y, rfl, hy.2, fun d ed => ed.trans (congrArg PyData.bool hy.1)⟩))
    fun _ => (vt_notD (vt_BD ((ve_callDa (i := 1) (R := R__law_lots_hold) rs rfl (va_consD (ve_var rfl) va_nil) hRows).imp fun d ed => ed))).to rfl).to rfl) (fun h => by cases h) fun _ => vq_next ?_
  refine vs_seq (fun Γ => ∃ x y : Nat, Γ = G7 ns row ps rs (.dat (ordD rs)) (.dat (.int (x : Nat))) (.dat (.int (y : Nat))) .no .no .no .no ∧ x < row.length ∧ y < row.length) (vs_parEE (ve_anyN (i := 1) rfl (len rfl) (by omega) (by omega)) (ve_anyN (i := 1) rfl (len rfl) (by omega) (by omega)) fun x y ⟨x', ex, hx⟩ ⟨y', ey, hy⟩ => by
    subst ex ey
    exact ⟨x', y', rfl, hx, hy⟩) ?_
  rintro Γ ⟨x, y, rfl, hx, hy⟩
  have eu : (if (y : Int) < (x : Int) then (y : Int) else (x : Int)) = ((min x y : Nat) : Int) := by split <;> omega
  have ev : (if (y : Int) > (x : Int) then (y : Int) else (x : Int)) = ((max x y : Nat) : Int) := by split <;> omega
  refine vq_asgD (d := prD (row.getD (max x y) 0, row.getD (min x y) 0)) (ve_tupD (va_consD (ve_numL (i := max x y) (ve_var rfl) ((ve_max (ve_var rfl) (ve_var rfl)).to (congrArg PyData.int ev)) (by omega)) (va_consD (ve_numL (i := min x y) (ve_var rfl) ((ve_min (ve_var rfl) (ve_var rfl)).to (congrArg PyData.int eu)) (by omega)) va_nil))) ?_
  have ne1 : ∀ {Γ : List Sl}, VE ⟨K, B, H, some (p, q)⟩ (tUn (rU fun i => .int (-i)) (tC (.int 1))) Γ (Is (.int (-1))) := ve_neg ve_int
  refine vs_seq (fun Γ => ∃ i j : Nat, Γ = G7 ns row ps rs (.dat (ordD rs)) (.dat (.int (x : Nat))) (.dat (.int (y : Nat))) (.dat (prD (row.getD i 0, row.getD j 0))) .no .no .no ∧ i < row.length ∧ j < row.length) (vs_if (Q := fun _ => True) (vt_anyEq (i := 1) rfl (by decide) (by decide)) (fun _ => vs_asgD (d := prD (row.getD (row.length - 1) 0, row.getD 0 0)) (ve_tupD (va_consD (ve_opD (ve_var rfl).v ne1.v (od_ixL (z := .int (row.getD (row.length - 1) 0 : Nat)) (atI_neg1 ?_))) (va_consD (ve_numL (i := 0) (ve_var rfl) ve_int (by omega)) va_nil))) ⟨_, _, rfl, by omega, by omega⟩) fun _ => vs_next ⟨_, _, rfl, by omega, by omega⟩) ?_
  · rw [List.getLast?_eq_getElem?, List.length_map, List.getElem?_map, getD_at (d := 0) (by omega)]
    rfl
  rintro Γ ⟨i, j, rfl, hi, hj⟩
  have b0n : row.getD i 0 < row.length := (row_lt hrow).mp (at_row hi)
  have b1n : row.getD j 0 < row.length := (row_lt hrow).mp (at_row hj)
  generalize row.getD i 0 = b0 at b0n
  generalize row.getD j 0 = b1 at b1n
  refine vq_asgD (d := .list ((ps ++ [(b0, b1)]).map prD)) ((vl_opD (ve_var rfl).v (vl_lstD (va_consD (ve_var rfl) va_nil)).vd (ol_cat (by rw [List.length_map]; show _ + 1 ≤ _; omega))).to (map_snoc ps (b0, b1)).symm).ed ?_
  generalize emr : ps ++ [(b0, b1)] = more
  have hml : more.length ≤ 101 := by
    rw [← emr, List.length_append]
    show _ + 1 ≤ _
    omega
  have hms : ∀ z ∈ more, z.1 < row.length ∧ z.2 < row.length := fun z hz => by
    rw [← emr] at hz
    rcases List.mem_append.mp hz with hz | hz
    · exact hps z hz
    · rw [List.mem_singleton.mp hz]
      exact ⟨b0n, b1n⟩
  have goodM : chk (.int (row.length : Nat)) (.list (more.map prD)) = none := chk_good (b := true) n1 n12 hms
  have kn : Knot row.length more ↔ b0 ≠ b1 ∧ Up ps b1 b0 := by
    rw [← emr]
    exact knot_back no b1n
  refine vq_asg (R := R_ring_of (AskP row.length more)) (ve_xa2 (Ar := A_ring_of) (P := P_ring_of) (R := R_ring_of) (W := W_ring_of) (AskP row.length more) kf_ring_of_0_levels_pairs va_nil (va_consD (len rfl) (va_consD (ve_var rfl) va_nil)) (fun _ _ _ _ _ h1 h2 => kd_ring_of_0_levels_pairs h1 h2) rfl (askP_ok (by omega) true) (ringNo hms)) fun ring hring => ?_
  have hring := ring_is (b := true) hring
  show VS _ _ (G7 ns row ps rs (.dat (ordD rs)) (.dat (.int (x : Nat))) (.dat (.int (y : Nat))) (.dat (prD (b0, b1))) (.dat (.list (more.map prD))) (.dat ring) .no) _
  have at0 : ∀ {Γ : List Sl}, Γ[8]? = some (.dat (prD (b0, b1))) → VE ⟨K, B, H, some (p, q)⟩ (tOp (rIx K) (tVar 8) (tC (.int 0))) Γ (Is (.int (b0 : Nat))) := fun g => ve_opD (ve_var g).v ve_int.v (od_ixT (z := .int (b0 : Nat)) rfl)
  have at1 : ∀ {Γ : List Sl}, Γ[8]? = some (.dat (prD (b0, b1))) → VE ⟨K, B, H, some (p, q)⟩ (tOp (rIx K) (tVar 8) (tC (.int 1))) Γ (Is (.int (b1 : Nat))) := fun g => ve_opD (ve_var g).v ve_int.v (od_ixT (z := .int (b1 : Nat)) rfl)
  have refused : ∀ {Γ : List Sl}, Γ[2]? = some (.dat (lnD row)) → Γ[9]? = some (.dat (.list (more.map prD))) → VE ⟨K, B, H, some (p, q)⟩ (tCallK (sp__law_refused K) (fun vs _ => vs) E0 (tCons (tCB (rLen K) (tCons (tVar 2) tNil)) (tCons (tVar 9) tNil)) tNil) Γ (fun d => (d = .none ∧ ¬ Knot row.length more) ∨ (d = .str "2" ∧ Knot row.length more)) := fun g1 g2 =>
    (ve_callA (R := R__law_refused) (AskP row.length more) (va_consD (len g1) (va_consD (ve_var g2) va_nil)) (askP_ok (by omega) true)).imp fun d hd => refused_good goodM hd
  refine vs_seq (fun Γ => Γ = G7 ns row ps rs (.dat (ordD rs)) (.dat (.int (x : Nat))) (.dat (.int (y : Nat))) (.dat (prD (b0, b1))) (.dat (.list (more.map prD))) (.dat ring) .no) (vs_ifD (x := (b0 != b1) && (rs.getD b0 []).contains b1) (vt_andD ((vt_testD (ve_opD (at0 rfl).v (at1 rfl).v od_neI)).to (ne_nat _ _)) fun _ => vt_testD (ve_inRow (at1 rfl) (ve_row (ve_var rfl) (at0 rfl) (by omega)))) (fun h => ?_) fun h => ?_) ?_
  · rw [Bool.and_eq_true, bne_iff_ne, List.contains_iff_mem] at h
    have k : Knot row.length more := kn.mpr ⟨h.1, ((c.is b0 b0n b1).mp h.2).2⟩
    obtain ⟨r, er, hr, hx, _⟩ : ∃ r, ring = tnD r ∧ IsRing more r ∧ (∀ x ∈ r, x < row.length) ∧ Knot row.length more := by
      rcases hring with ⟨_, nk⟩ | h
      · exact absurd k nk
      · exact h
    subst er
    have rl := nd_len hr.nd hx
    exact vs_ifD (x := false) ((vt_orD (b := false) (c := false) (vt_testD (ve_opD (((refused rfl rfl).imp fun d hd => by
      rcases hd with ⟨_, nk⟩ | ⟨ed, _⟩
      · exact absurd k nk
      · exact ed).v) ve_str.v (od_neSSame rfl))) fun _ => (vt_notD (vt_BD ((ve_callA (R := R__law_is_ring) ⟨more, r⟩ (va_consD (ve_var rfl) (va_consD (ve_var rfl) va_nil)) ⟨hr, by show r.length ≤ 60; omega, by show more.length ≤ 1000; omega⟩).imp fun d ed => ed))).to rfl).to rfl) (fun h => by cases h) fun _ => vs_next rfl
  · have nk : ¬ Knot row.length more := fun k => by
      obtain ⟨h1, h2⟩ := kn.mp k
      rw [bne_iff_ne.mpr h1, List.contains_iff_mem.mpr ((c.is b0 b0n b1).mpr ⟨b1n, h2⟩)] at h
      cases h
    obtain rfl : ring = .none := by
      rcases hring with ⟨e, _⟩ | ⟨_, _, _, _, k⟩
      · exact e
      · exact absurd k nk
    exact vs_ifD (x := false) ((vt_orD (b := false) (c := false) ((vt_testD (ve_opD (ve_var rfl).v ve_non.v od_notN)).to rfl) fun _ => (vt_testD (ve_opD (x := .none) ((refused rfl rfl).imp fun d hd => by
      rcases hd with ⟨ed, _⟩ | ⟨_, k⟩
      · exact ed
      · exact absurd k nk).v ve_non.v od_notN)).to rfl).to rfl) (fun h => by cases h) fun _ => vs_next rfl
  rintro Γ rfl
  have badn : isIdx (row.length : Nat) (.int (row.length : Nat)) = false := by
    show (decide (0 ≤ (row.length : Int)) && decide ((row.length : Int) < (row.length : Int))) = false
    rw [decide_eq_false (Int.lt_irrefl _), Bool.and_false]
  refine vq_asg (ve_ofAll (i := 1) (m := 7) (S := badPair row.length) rfl (va_allC ((ve_tupD (va_consD ve_int (va_consD (len rfl) va_nil))).imp fun d ed => ed ▸ pair_bad (by show 2 ≤ 1000; decide) (x := .int (row.length : Nat)) (by simp) badn) (va_allC ((ve_tupD (va_consD ne1 (va_consD ve_int va_nil))).imp fun d ed => ed ▸ pair_bad (by decide) (x := .int (-1)) (by simp) rfl) (va_allC ((vl_lstD (va_consD ve_int (va_consD ve_int va_nil))).ed.imp fun d ed => ed ▸ ⟨rfl, by decide⟩)
    (va_allC ((ve_tupD (va_consD ve_int va_nil)).imp fun d ed => ed ▸ pair_len (by decide) (by decide)) (va_allC ((ve_tupD (va_consD ve_int (va_consD ve_int (va_consD ve_int va_nil)))).imp fun d ed => ed ▸ pair_len (by decide) (by decide)) (va_allC ((ve_tupD (va_consD ve_bl (va_consD ve_int va_nil))).imp fun d ed => ed ▸ pair_bad (by decide) (x := .bool true) (by simp) rfl) (va_allC ((ve_tupD (va_consD ve_int (va_consD ve_non va_nil))).imp fun d ed => ed ▸ pair_bad (by decide) (x := .none) (by simp) rfl) va_allN))))))))
    fun wrong hwrong => ?_
  have bad : ∀ {Γ : List Sl} {t1 t2 : TE} {x y : D} {k : Nat} {s : Str}, VE ⟨K, B, H, some (p, q)⟩ t1 Γ (Is x) → VE ⟨K, B, H, some (p, q)⟩ t2 Γ (Is y) → chk x y = some k → P_checked_pairs ⟨x, y⟩ → (PyData.int (k : Nat)).shown = s →
      VT ⟨K, B, H, some (p, q)⟩ (tTest (tOp (rNeA K) (tCallK (sp__law_refused K) (fun vs _ => vs) E0 (tCons t1 (tCons t2 tNil)) tNil) (tC (.str s)))) Γ (Is false) := fun {Γ t1 t2 x y k s} h1 h2 hk hp e =>
    vt_testD (ve_opD ((ve_callA (R := R__law_refused) ⟨x, y⟩ (va_consD h1 (va_consD h2 va_nil)) hp).imp fun d hd => (refused_bad hk hd).trans (congrArg PyData.str e)).v ve_str.v (od_neSSame rfl))
  refine vq_ifD (x := false) ((vt_orD (b := false) (c := false) (bad (k := 1) (x := .int (row.length : Nat)) (y := .list (ps.map prD ++ [wrong])) (len rfl) (vl_opD (ve_var rfl).v (vl_lstD (va_consD (ve_var rfl) va_nil)).vd (ol_cat (by rw [List.length_map]; show _ + 1 ≤ _; omega))).ed (chk_last n1 n12 hwrong.1) ⟨?_, fun z hz => ?_⟩ (by decide +kernel)) fun _ =>
    (vt_orD (b := false) (c := false) (bad (k := 0) (x := .int 13) (y := .list (ps.map prD)) ve_int (ve_var rfl) (chk_zero (by decide)) (askP_ok (n := 13) (by omega) true) (by decide +kernel)) fun _ => bad (k := 0) (x := .int 0) (y := .list (ps.map prD)) ve_int (ve_var rfl) (chk_zero (by decide)) (askP_ok (n := 0) (by omega) true) (by decide +kernel)).to rfl).to rfl) (fun h => by cases h) fun _ => vq_next ?_
  · show (ps.map prD ++ [wrong]).length ≤ 1000
    rw [List.length_append, List.length_map]
    show _ + 1 ≤ _
    omega
  · have hz : z ∈ ps.map prD ++ [wrong] := hz
    rcases List.mem_append.mp hz with hz | hz
    · obtain ⟨u, _, rfl⟩ := List.mem_map.mp hz
      exact (by decide : 2 ≤ 1000)
    · rw [List.mem_singleton.mp hz]
      exact hwrong.2
  exact vs_retD (ve_andD (b := true) (c := true) ((ve_callDa (i := 1) (R := R__law_records_hold) rs rfl (va_consD (ve_var rfl) va_nil) hRows).imp fun d ed => ed) fun _ => (ve_callDa (i := 1) (R := R__law_inputs_hold) rs rfl (va_consD (ve_var rfl) va_nil) hRows).imp fun d ed => ed) rfl
theorem ok_law (T : Top K mg) (NS : base.NoSeer) : GOk P0 w K mg base CX0 37 T.f_law T.fd_law ["script"] (sp_law K) :=
  law_ok 11 T.F_law sc_law rfl fun cdv A outer s H E hg hr => ⟨_, d_law T (G__law_draw := ok__law_draw T) (G__law_size := ok__law_size T NS) (G__law_row := ok__law_row T NS) (G__law_pairs := ok__law_pairs T NS) (G__law_closed := ok__law_closed T) (G_order_of := ok_order_of T) (G__law_of := ok__law_of T NS) (G_is_order := ok_is_order T) (G_ring_of := ok_ring_of T) (G__law_order_spoilt := ok__law_order_spoilt T NS) (G__law_lots_hold := ok__law_lots_hold T NS) (G__law_any := ok__law_any T NS) (G__law_refused := ok__law_refused T) (G__law_is_ring := ok__law_is_ring T) (G__law_records_hold := ok__law_records_hold T NS) (G__law_inputs_hold := ok__law_inputs_hold T NS) cdv A outer s H E hg hr, fun H ns hn => vs_law T hn⟩
end
end Ly.K76
open PySem PySem.W PyProof.Rows
set_option maxRecDepth 100000 in
set_option maxHeartbeats 0 in
theorem PySem.Challenge.cw_lookanyhow_k76_whole_twelve_levels_and_l_holds : PySem.Challenge.rw_lookanyhow_k76_whole_twelve_levels_and_l.Holds := by
  w_on; o_law; k_head; (case hw => w_witness2)
  k_fill
  refine Ly.walk_gN (l := PySem.Challenge.rw_lookanyhow_k76_whole_twelve_levels_and_l) (n := 63) (k := 37) (x := "script") (sp := Ly.Lw) rfl (by decide) rfl ⟨rfl, by decide, by decide⟩ (by decide +kernel) (fun w h Y => PySem.W.kIn_of Y) ?F (fun K H a ns hl hS => ⟨a, ns, rfl, hS, hl, fun _ => rfl⟩)
  case F =>
    intro w mg fa h KX G hmg
    obtain ⟨X_InvalidOrder⟩ : Nonempty (Ly.XT Ly.K76.P0 _ mg "InvalidOrder" "at") := by
      refine' ⟨Ly.xt_mk KX G ?ca ?cl0 ?cbm ?csa ?cex ?cty ?ck ?cmr ?csu ?cve ?cno ?cfi ?cti ?cga ?cgg ?chd ?css ?clk ?ccd ?cS ?cp ?car ?cda0 ?cvs ?cfile ?ccell ?ccl0 ?cms ?cks ?ctop ?cno3 ?cb ?chc ?chs1 ?chs2⟩
      (case ca => k_is)
      (case cl0 => k_is)
      (case csa => k_is)
      (case cex => k_is)
      (case cty => k_is)
      (case ck => k_is)
      (case cmr => k_is)
      (case cve => k_is)
      (case cno => k_is)
      (case cfi => k_is)
      (case cti => k_is)
      (case cga => k_is)
      (case cgg => k_is)
      (case chd => k_is)
      (case css => k_is)
      (case clk => k_is)
      (case ccd => k_is)
      (case cda0 => k_is)
      (case ccell => k_is)
      (case ccl0 => k_is)
      (case cms => k_is)
      (case cno3 => k_is)
      (case cbm => first | rfl | decide)
      (case csu => kernel_rfl)
      (case cS => decide +kernel)
      (case cp => rfl)
      (case car => rfl)
      (case cvs => rfl)
      (case cfile => first | rfl | decide +kernel)
      (case cks => rfl)
      (case ctop => first | rfl | decide +kernel)
      (case cb => exact fun us hl => match us, hl with | [_, _], _ => rfl)
      (case chc => exact fun env => ⟨_, rfl⟩)
      (case chs1 => exact fun env => rfl)
      (case chs2 => exact fun env => rfl)
    obtain ⟨T, e, hb⟩ : ∃ T : Ly.K76.Top _ mg, T.f_law = fa ∧ ∀ (s : Shared) (u : Value), BindsTo s T.fd_law ⟨[u], []⟩ [("script", u)] := by
      refine' Ly.K76.top_mk KX G hmg X_InvalidOrder ?a0 ?l0 ?c0 ?k0 ?a1 ?l1 ?c1 ?k1 ?a2 ?l2 ?c2 ?k2 ?a3 ?l3 ?c3 ?k3 ?a4 ?l4 ?c4 ?k4 ?a5 ?l5 ?c5 ?k5 ?a6 ?l6 ?c6 ?k6 ?a7 ?l7 ?c7 ?k7 ?a8 ?l8 ?c8 ?k8 ?a9 ?l9 ?c9 ?k9 ?a10 ?l10 ?c10 ?k10 ?a11 ?l11 ?c11 ?k11 ?a12 ?l12 ?c12 ?k12 ?a13 ?l13 ?c13 ?k13 ?a14 ?l14 ?c14 ?k14 ?a15 ?l15 ?c15 ?k15 ?a16 ?l16 ?c16 ?k16 ?a17 ?l17 ?c17 ?k17 ?a18 ?l18 ?c18 ?k18 ?a19 ?l19 ?c19 ?k19 ?a20 ?l20 ?c20 ?k20 ?a21 ?l21 ?c21 ?k21 ?a22 ?l22 ?c22 ?k22 ?a23 ?l23 ?c23 ?k23 ?a24 ?l24 ?c24 ?k24 ?a25 ?l25 ?c25 ?k25 ?a26 ?l26 ?c26 ?k26 ?a27 ?l27 ?c27 ?k27 ?a28 ?l28 ?c28 ?k28 ?a29 ?l29 ?c29 ?k29 ?a30 ?l30 ?c30 ?k30 ?a31 ?l31 ?c31 ?k31 ?a32 ?l32 ?c32 ?k32 ?a33 ?l33 ?c33 ?k33 ?a34 ?l34 ?c34 ?k34 ?a35 ?l35 ?c35 ?k35 ?a36 ?l36 ?c36 ?k36 ?a37 ?l37 ?c37 ?k37 ?a38 ?l38 ?c38 ?k38 ?q0 ?z_isinstance ?z_bool ?z_int ?z_tuple ?z_list ?z_len ?z_all ?z_range ?z_enumerate ?z_sorted ?z_set ?z_abs ?z_min ?z_dict ?z_max ?z_repr
      (case a0 => k_is)
      (case l0 => k_is)
      (case c0 => k_is)
      (case k0 => k_is)
      (case a1 => k_is)
      (case l1 => k_is)
      (case c1 => k_is)
      (case k1 => k_is)
      (case a2 => k_is)
      (case l2 => k_is)
      (case c2 => k_is)
      (case k2 => k_is)
      (case a3 => k_is)
      (case l3 => k_is)
      (case c3 => k_is)
      (case k3 => k_is)
      (case a4 => k_is)
      (case l4 => k_is)
      (case c4 => k_is)
      (case k4 => k_is)
      (case a5 => k_is)
      (case l5 => k_is)
      (case c5 => k_is)
      (case k5 => k_is)
      (case a6 => k_is)
      (case l6 => k_is)
      (case c6 => k_is)
      (case k6 => k_is)
      (case a7 => k_is)
      (case l7 => k_is)
      (case c7 => k_is)
      (case k7 => k_is)
      (case a8 => k_is)
      (case l8 => k_is)
      (case c8 => k_is)
      (case k8 => k_is)
      (case a9 => k_is)
      (case l9 => k_is)
      (case c9 => k_is)
      (case k9 => k_is)
      (case a10 => k_is)
      (case l10 => k_is)
      (case c10 => k_is)
      (case k10 => k_is)
      (case a11 => k_is)
      (case l11 => k_is)
      (case c11 => k_is)
      (case k11 => k_is)
      (case a12 => k_is)
      (case l12 => k_is)
      (case c12 => k_is)
      (case k12 => k_is)
      (case a13 => k_is)
      (case l13 => k_is)
      (case c13 => k_is)
      (case k13 => k_is)
      (case a14 => k_is)
      (case l14 => k_is)
      (case c14 => k_is)
      (case k14 => k_is)
      (case a15 => k_is)
      (case l15 => k_is)
      (case c15 => k_is)
      (case k15 => k_is)
      (case a16 => k_is)
      (case l16 => k_is)
      (case c16 => k_is)
      (case k16 => k_is)
      (case a17 => k_is)
      (case l17 => k_is)
      (case c17 => k_is)
      (case k17 => k_is)
      (case a18 => k_is)
      (case l18 => k_is)
      (case c18 => k_is)
      (case k18 => k_is)
      (case a19 => k_is)
      (case l19 => k_is)
      (case c19 => k_is)
      (case k19 => k_is)
      (case a20 => k_is)
      (case l20 => k_is)
      (case c20 => k_is)
      (case k20 => k_is)
      (case a21 => k_is)
      (case l21 => k_is)
      (case c21 => k_is)
      (case k21 => k_is)
      (case a22 => k_is)
      (case l22 => k_is)
      (case c22 => k_is)
      (case k22 => k_is)
      (case a23 => k_is)
      (case l23 => k_is)
      (case c23 => k_is)
      (case k23 => k_is)
      (case a24 => k_is)
      (case l24 => k_is)
      (case c24 => k_is)
      (case k24 => k_is)
      (case a25 => k_is)
      (case l25 => k_is)
      (case c25 => k_is)
      (case k25 => k_is)
      (case a26 => k_is)
      (case l26 => k_is)
      (case c26 => k_is)
      (case k26 => k_is)
      (case a27 => k_is)
      (case l27 => k_is)
      (case c27 => k_is)
      (case k27 => k_is)
      (case a28 => k_is)
      (case l28 => k_is)
      (case c28 => k_is)
      (case k28 => k_is)
      (case a29 => k_is)
      (case l29 => k_is)
      (case c29 => k_is)
      (case k29 => k_is)
      (case a30 => k_is)
      (case l30 => k_is)
      (case c30 => k_is)
      (case k30 => k_is)
      (case a31 => k_is)
      (case l31 => k_is)
      (case c31 => k_is)
      (case k31 => k_is)
      (case a32 => k_is)
      (case l32 => k_is)
      (case c32 => k_is)
      (case k32 => k_is)
      (case a33 => k_is)
      (case l33 => k_is)
      (case c33 => k_is)
      (case k33 => k_is)
      (case a34 => k_is)
      (case l34 => k_is)
      (case c34 => k_is)
      (case k34 => k_is)
      (case a35 => k_is)
      (case l35 => k_is)
      (case c35 => k_is)
      (case k35 => k_is)
      (case a36 => k_is)
      (case l36 => k_is)
      (case c36 => k_is)
      (case k36 => k_is)
      (case a37 => k_is)
      (case l37 => k_is)
      (case c37 => k_is)
      (case k37 => k_is)
      (case a38 => k_is)
      (case l38 => k_is)
      (case c38 => k_is)
      (case k38 => k_is)
      (case q0 => k_is)
      (case z_isinstance => k_is)
      (case z_bool => k_is)
      (case z_int => k_is)
      (case z_tuple => k_is)
      (case z_list => k_is)
      (case z_len => k_is)
      (case z_all => k_is)
      (case z_range => k_is)
      (case z_enumerate => k_is)
      (case z_sorted => k_is)
      (case z_set => k_is)
      (case z_abs => k_is)
      (case z_min => k_is)
      (case z_dict => k_is)
      (case z_max => k_is)
      (case z_repr => k_is)
    subst e
    exact ⟨T.fd_law, hb, fun base _ _ NS => Ly.K76.ok_law T NS⟩
