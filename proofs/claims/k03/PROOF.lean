import PyProof.Rows.All
import Wide.All
import OpenK.AllK
import Wide.FinOn
import HandS.ForMost
import HandS.Wide
import HandS.Walk
import HandS.IsInst
import PyProof.ReprRoads
import HandS.Deep
import HandS.TupAny
import HandS.Style
import HandS.Conv
import HandS.TupMul
import HandS.SortInts
import HandS.Strs
import HandS.Dict
import HandS.Zip
import HandS.Iter
import KE.LtSeq
import PySem.Challenge.RW_lookanyhow_k03_words_and_ops
set_option autoImplicit false
set_option Elab.async false
set_option linter.all false
set_option maxRecDepth 100000
/-! LyA: defs that are called where nothing is being shown (no repr under way): GOk, its body's rule, calls. -/
namespace Ly
open PySem PySem.Spec PyProof.Rows L2

/-- a promise of a def, for calls around which no repr is under way -/
structure GOk (P : Program) (w : World) (K : PySem.W.Frag) (mg : Str → Option Value) (base : Heap) (CX : CXT) (k : Nat) (f : Addr) (fd : FuncData) (ps : List Str) (sp : Sp) : Prop where
  size : ∀ {vs : List V} {H : Hp} {Q : VK} {E : XK}, sp vs H Q E → vs.length = ps.length
  does : ∀ {A : Around} {outer : List Env} {s : Shared} {H : Hp} {args : Args} {us : List Value} {vs : List V} {Q : VK} {E : XK}, A.guards = some [] → Room k A →
    Env0 P w K mg base A outer s H → BindsTo s fd args (ps.zip us) → Vals vs us → sp vs H Q E → codeAny (model P w) A (.call (.ref f) args) (CR CX outer P w H s Q E) s

theorem deeper_guards {A : Around} {e : Env} (h : A.guards = some []) : (A.deeper e).guards = some [] := by
  first | exact h | simpa [Around.deeper] using h

section
variable {P : Program} {w : World} {K : PySem.W.Frag} {mg : Str → Option Value} {base : Heap} {CX : CXT} {k : Nat} {f : Addr} {fd : FuncData} {ps : List Str} {sp : Sp}
theorem GOk.up {j : Nat} (F : GOk P w K mg base CX j f fd ps sp) (h : j ≤ k) : GOk P w K mg base CX k f fd ps sp :=
  ⟨F.size, fun g r => F.does g (r.mono h)⟩
theorem GOk.of (F : FnOk P w K mg base CX k f fd ps sp) : GOk P w K mg base CX k f fd ps sp :=
  ⟨fun q => F.len _ _ _ _ q, fun _ r e0 b rv q => F.run _ _ _ _ _ _ _ _ _ r e0 b rv q⟩
theorem GOk.weaker {sp' : Sp} (F : GOk P w K mg base CX k f fd ps sp) (h : ∀ vs H Q E, sp' vs H Q E → sp vs H Q E) : GOk P w K mg base CX k f fd ps sp' :=
  ⟨fun q => F.size (h _ _ _ _ q), fun g r e0 b rv q => F.does g r e0 b rv (h _ _ _ _ q)⟩

/-- the rule for a def of the text: its body as a term of rules, its reading; around it no repr is under way -/
theorem gok_of {x qual : Str} {st : Stmt} {N : List Str} (F : Fun K x qual st f fd) (S : FnScope N ps (defScope st)) (len : ∀ {vs H Q E}, sp vs H Q E → vs.length = ps.length)
    (body : ∀ (cdv : Value) (A : Around) (outer : List Env) (s : Shared) (H : Hp) (vs : List V) (Q : VK) (E : XK),
      (A.deeper (envOfC qual (defScope st) s.heap.objs.size f cdv)).guards = some [] → Room k (A.deeper (envOfC qual (defScope st) s.heap.objs.size f cdv)) → sp vs H Q E →
      ∃ t, PSs (cxOf CX P w K mg base N qual (defScope st) f cdv A outer s H E) (defBody st) t ∧ t { nx := fun _ H' => Q .non H', rt := Q } (start N vs) H) :
    GOk P w K mg base CX (k + 1) f fd ps sp := by
  obtain ⟨oc, od, kV, doc, pm, an, cdv, ct, osl, rfl, lk, hcd⟩ := F.ex
  constructor
  · exact len
  · intro A outer s H args us vs Q E hg hr e0 hb rv hq
    have n1 := len hq
    have kin : K.In s.heap := PySem.W.Frag.In.keeps e0.mod.kin fun b o e => And.left (e0.bs b o e)
    have nol : s.heap.NoLimit := Heap.NoLimit.keeps e0.mod.nolimit fun b o e => And.left (e0.bs b o e)
    have kinds : ∀ y ∈ ps.zip us, (defScope st).names.lookup y.1 = some .local ∨
        ((defScope st).names.lookup y.1 = some .cell ∧ ((cellsFrom (s.heap.objs.size + 1) (defScope st).names []).lookup y.1).isSome = true) := by
      rintro ⟨n, v⟩ hy
      have hn : n ∈ ps := (List.of_mem_zip hy).1
      cases S.par n hn with
      | inl q => exact Or.inl q
      | inr q => exact Or.inr ⟨q, PySem.W.cellsFrom_some _ _ _ (Or.inl q)⟩
    apply codeAny_call_function hr.depth (kin _ _ lk) rfl S.co S.gen rfl (PySem.W.codeRec_of kin hcd)
    apply hb
    apply wpAny_newFunctionEnv_cells S.kind kinds
    rintro env rfl s1 x
    refine ⟨Heap.NoLimit.keeps nol x.toInCall.keep, codeAny_func ?_⟩
    obtain ⟨t, ht, tq⟩ := body cdv A outer s H vs Q E (deeper_guards hg) (hr.deeper _) hq
    have J := inv_start (CX := CX) (E := E) S hr.hd e0 n1 rv x
    apply wpAny_mono (ht.run [] s1 (start N vs) H _ J tq)
    · intro fl s' hs
      cases fl with
      | ret u =>
        obtain ⟨v, σ', H', J', r', q'⟩ := hs
        exact ⟨v, H', J'.os, J'.bare, J'.base, J'.hok, r', q'⟩
      | next =>
        obtain ⟨σ', H', J', q'⟩ := hs
        exact ⟨V.non, H', J'.os, J'.bare, J'.base, J'.hok, rfl, q'⟩
      | brk =>
        obtain ⟨_, _, _, q'⟩ := hs
        exact q'.elim
      | cont =>
        obtain ⟨_, _, _, q'⟩ := hs
        exact q'.elim
    · intro e s' hs
      exact hs
end

/-! ### calls -/
section
variable {X : Cx} {CX : CXT} {k : Nat} {f : Addr} {fd : FuncData} {ps ks : List Str} {sp : Sp} {E : XK} {x : Str} {p pos : Pos} {e : Expr} {es : List Expr} {kws : List Keyword} {t tk : TA}
  {g : List Value → List Value → List Value} {gV : List V → List V → List V}
/-- the callee runs, arguments by place and by name -/
theorem run_g {pins : List (Addr × Obj)} {σ : L2.St} {H : Hp} {s : Shared} {Q : VK} {us ws : List Value} {vs zs : List V} (F : GOk X.prog X.w X.K X.mg X.base CX k f fd ps sp) (hA : X.A.guards = some []) (hr : Room k X.A)
    (hb : KBinds X.K fd ps ks g gV) (hx : Passes CX X E) (I : Inv X pins σ H s) (r : Vals vs us) (rz : Vals zs ws) (h : sp (gV vs zs) H Q E) :
    wpAny (model X.prog X.w) X.A (call (.ref f) us (ks.zip ws)) (EP X pins σ Q) X.xe s := by
  have rr := hb.rel r rz
  have n1 : (g us ws).length = ps.length := rr.length ▸ F.size h
  apply wpAny_call
  apply codeAny_mono (F.does hA hr I.env0 (hb.to s us ws I.kIn n1) rr h)
  intro o s' q
  rcases o with e | fl
  · exact hx pins σ H s e s' I q
  · cases fl with
    | ret u => exact Inv.after I q
    | next => exact q.elim
    | brk => exact q.elim
    | cont => exact q.elim
/-- f(e, ..) -/
theorem pe_g (F : GOk X.prog X.w X.K X.mg X.base CX k f fd ps sp) (hA : X.A.guards = some []) (hr : Room k X.A) (hg : Gl X x) (hm : X.mg x = some (.ref f)) (hk : PySem.W.keepIn X.K (.ref f) = true)
    (hb : KBinds X.K fd ps [] g gV) (hx : Passes CX X E) (ha : PA X (e :: es) t)
    (hdb : (x == ("__debug__" : Str)) = false := by decide) (he : starEach (e :: es) X.env = (false, eval e X.env) :: starEach es X.env := by rfl) (hpl : (backTo pos (starEach es X.env)).any (·.1) = false := by rfl) :
    PE X (.Call (.Name x p) (e :: es) [] pos) (tCallK sp gV E t tNil) := by
  constructor
  intro pins s σ H Q I h
  apply wpAny_Call_Name_kw
  refine ld_glob I hg hm ?_ hdb
  refine PySem.W.callWith_K (h₀ := X.base) I.ok.mod.kin hk ?_ he hpl
  refine thn (ha.run pos pins s σ H _ I h) ?_
  rintro us s1 ⟨vs, H1, I1, r, q⟩
  exact ⟨I1.kIn, run_g (ws := []) F hA hr hb hx I1 r .nil q⟩
/-- f() -/
theorem pe_g0 (F : GOk X.prog X.w X.K X.mg X.base CX k f fd ps sp) (hA : X.A.guards = some []) (hr : Room k X.A) (hg : Gl X x) (hm : X.mg x = some (.ref f)) (hk : PySem.W.keepIn X.K (.ref f) = true)
    (hb : KBinds X.K fd ps [] g gV) (hx : Passes CX X E) (hdb : (x == ("__debug__" : Str)) = false := by decide) :
    PE X (.Call (.Name x p) [] [] pos) (tCallK sp gV E tNil tNil) := by
  constructor
  intro pins s σ H Q I h
  apply wpAny_Call_Name_kw
  refine ld_glob I hg hm ?_ hdb
  exact PySem.W.callWith_K0 I.kIn hk (run_g (us := []) (ws := []) F hA hr hb hx I .nil .nil h)
/-- f(e, .., k = v, ..) -/
theorem pe_gk (F : GOk X.prog X.w X.K X.mg X.base CX k f fd ps sp) (hA : X.A.guards = some []) (hr : Room k X.A) (hg : Gl X x) (hm : X.mg x = some (.ref f)) (hk : PySem.W.keepIn X.K (.ref f) = true)
    (hb : KBinds X.K fd ps ks g gV) (hx : Passes CX X E) (ha : PA X (e :: es) t) (hw : PK X kws tk)
    (hall : (backToKw pos (keywordEach kws X.env)).all (·.1.isSome) = true := by rfl) (hks : (backToKw pos (keywordEach kws X.env)).filterMap (·.1) = ks := by rfl)
    (hdb : (x == ("__debug__" : Str)) = false := by decide) (he : starEach (e :: es) X.env = (false, eval e X.env) :: starEach es X.env := by rfl)
    (hpl : ((backTo pos (starEach (e :: es) X.env)).any (·.1) || (backToKw pos (keywordEach kws X.env)).any (·.1.isNone)) = false := by rfl) :
    PE X (.Call (.Name x p) (e :: es) kws pos) (tCallK sp gV E t tk) := by
  constructor
  intro pins s σ H Q I h
  apply wpAny_Call_Name_kw
  refine ld_glob I hg hm ?_ hdb
  refine PySem.W.callWith_KW (h₀ := X.base) I.ok.mod.kin hk hall ?_ hpl he
  refine thn (ha.run pos pins s σ H _ I h) ?_
  rintro us s1 ⟨vs, H1, I1, r, q⟩
  refine thn (hw.run pos pins s1 σ H1 _ I1 q) ?_
  rintro ws s2 ⟨zs, H2, I2, rz, q2⟩
  subst hks
  exact ⟨I2.kIn, run_g F hA hr hb hx I2 r rz q2⟩
/-- f(k = v, ..) -/
theorem pe_gk0 (F : GOk X.prog X.w X.K X.mg X.base CX k f fd ps sp) (hA : X.A.guards = some []) (hr : Room k X.A) (hg : Gl X x) (hm : X.mg x = some (.ref f)) (hk : PySem.W.keepIn X.K (.ref f) = true)
    (hb : KBinds X.K fd ps ks g gV) (hx : Passes CX X E) (hw : PK X kws tk)
    (hall : (backToKw pos (keywordEach kws X.env)).all (·.1.isSome) = true := by rfl) (hks : (backToKw pos (keywordEach kws X.env)).filterMap (·.1) = ks := by rfl)
    (hdb : (x == ("__debug__" : Str)) = false := by decide)
    (hpl : ((backTo pos (starEach [] X.env)).any (·.1) || (backToKw pos (keywordEach kws X.env)).any (·.1.isNone)) = false := by rfl) :
    PE X (.Call (.Name x p) [] kws pos) (tCallK sp gV E tNil tk) := by
  constructor
  intro pins s σ H Q I h
  apply wpAny_Call_Name_kw
  refine ld_glob I hg hm ?_ hdb
  refine PySem.W.callWith_KW0 (h₀ := X.base) I.ok.mod.kin hk hall ?_ hpl
  refine thn (hw.run pos pins s σ H _ I h) ?_
  rintro ws s2 ⟨zs, H2, I2, rz, q2⟩
  subst hks
  exact ⟨I2.kIn, run_g (us := []) F hA hr hb hx I2 .nil rz q2⟩
end

/-! ### how arguments bind -/
section
variable {K : PySem.W.Frag} {x qual : Str} {st : Stmt} {f : Addr} {fd : FuncData} {ps : List Str}
/-- by place alone -/
theorem binds_pos (F : Fun K x qual st f fd) (h : ∀ (kV doc pm : Value) (an : Option Addr) (cdv ct : Value) (us : List Value), us.length = ps.length →
      bindArgs (PySem.W.fnOf x qual (defArgs st) (defBody st) (defScope st) .none kV doc pm an cdv ct) ⟨us, []⟩ = pure (ps.zip us)) : KBinds K fd ps [] (fun us _ => us) (fun vs _ => vs) := by
  obtain ⟨oc, od, kV, doc, pm, an, cdv, ct, osl, rfl, lk, hcd⟩ := F.ex
  exact ⟨fun s us ws _ n => .of_eq (by simpa using h kV doc pm an cdv ct us n), fun r _ => r⟩
/-- n by place, the rest by names; g puts them in the parameters' order -/
theorem binds_kw (F : Fun K x qual st f fd) (ks : List Str) (g : {α : Type} → List α → List α → List α) (hrel : ∀ {vs zs : List V} {us ws : List Value}, Vals vs us → Vals zs ws → Vals (g vs zs) (g us ws))
    (h : ∀ (kV doc pm : Value) (an : Option Addr) (cdv ct : Value) (us ws : List Value), (g us ws).length = ps.length →
      bindArgs (PySem.W.fnOf x qual (defArgs st) (defBody st) (defScope st) .none kV doc pm an cdv ct) ⟨us, ks.zip ws⟩ = pure (ps.zip (g us ws))) : KBinds K fd ps ks (fun us ws => g us ws) (fun vs zs => g vs zs) := by
  obtain ⟨oc, od, kV, doc, pm, an, cdv, ct, osl, rfl, lk, hcd⟩ := F.ex
  exact ⟨fun s us ws _ n => .of_eq (h kV doc pm an cdv ct us ws n), hrel⟩
end
end Ly

/-! LyB: data of any depth in the heap, frames of data (Sl, Fm), what a reading gives as data (VE, VT, VA, VL, VV, VI, VG, VS). -/
namespace Ly
open PySem PySem.Spec PyProof.Rows L2

abbrev D := PyData

mutual
/-- a value stands for data in the heap: lists are tracked (or known to the object), tuples may be of the written part too -/
inductive Dq (K : PySem.W.Frag) (H : Hp) : V → D → Prop where
  | non : Dq K H .non .none
  | bl (b : Bool) : Dq K H (.bl b) (.bool b)
  | int (i : Int) : Dq K H (.int i) (.int i)
  | str (x : Str) : Dq K H (.str x) (.str x)
  | lst {a : Addr} {xs : List V} {ds : List D} (h : Rd H a (.lst xs)) (k : DqAll K H xs ds) : Dq K H (.ref a) (.list ds)
  | tup {a : Addr} {xs : List V} {ds : List D} (h : SqT K H a xs) (k : DqAll K H xs ds) : Dq K H (.ref a) (.tuple ds)
inductive DqAll (K : PySem.W.Frag) (H : Hp) : List V → List D → Prop where
  | nil : DqAll K H [] []
  | cons {v : V} {vs : List V} {d : D} {ds : List D} (h : Dq K H v d) (k : DqAll K H vs ds) : DqAll K H (v :: vs) (d :: ds)
end
mutual
theorem Dq.dp {K : PySem.W.Frag} {H : Hp} : ∀ {v : V} {d : D}, Dq K H v d → Dp K H v d
  | _, _, .non => .non
  | _, _, .bl b => .bl b
  | _, _, .int i => .int i
  | _, _, .str x => .str x
  | _, _, .lst h k => .lst (Or.inl h) (DqAll.dp k)
  | _, _, .tup h k => .tup h (DqAll.dp k)
theorem DqAll.dp {K : PySem.W.Frag} {H : Hp} : ∀ {vs : List V} {ds : List D}, DqAll K H vs ds → DpAll K H vs ds
  | _, _, .nil => .nil
  | _, _, .cons h k => .cons (Dq.dp h) (DqAll.dp k)
end

/-! ### data stays where the heap grows -/
theorem same_rd {H H' : Hp} {a : Addr} {u : HO} (e : Same H H') (h : Rd H a u) : Rd H' a u := by
  cases h with
  | inl h => exact Or.inl (e _ _ h)
  | inr h =>
    obtain ⟨o, h⟩ := h
    exact Or.inr ⟨o, e _ _ h⟩
theorem same_t {K : PySem.W.Frag} {H H' : Hp} {a : Addr} {xs : List V} (e : Same H H') (h : SqT K H a xs) : SqT K H' a xs := by
  cases h with
  | inl h => exact Or.inl (same_rd e h)
  | inr h => exact Or.inr h
theorem same_l {K : PySem.W.Frag} {H H' : Hp} {a : Addr} {xs : List V} (e : Same H H') (h : SqL K H a xs) : SqL K H' a xs := by
  cases h with
  | inl h => exact Or.inl (same_rd e h)
  | inr h => exact Or.inr h
mutual
theorem dp_mono {K : PySem.W.Frag} {H H' : Hp} (e : Same H H') : ∀ {v : V} {d : D}, Dq K H v d → Dq K H' v d
  | _, _, .non => .non
  | _, _, .bl b => .bl b
  | _, _, .int i => .int i
  | _, _, .str x => .str x
  | _, _, .lst h1 h2 => .lst (same_rd e h1) (dpall_mono e h2)
  | _, _, .tup h1 h2 => .tup (same_t e h1) (dpall_mono e h2)
theorem dpall_mono {K : PySem.W.Frag} {H H' : Hp} (e : Same H H') : ∀ {vs : List V} {ds : List D}, DqAll K H vs ds → DqAll K H' vs ds
  | _, _, .nil => .nil
  | _, _, .cons h1 h2 => .cons (dp_mono e h1) (dpall_mono e h2)
end
section
variable {K : PySem.W.Frag} {H : Hp}
theorem dpall_len : ∀ {vs : List V} {ds : List D}, DqAll K H vs ds → vs.length = ds.length
  | _, _, .nil => rfl
  | _, _, .cons _ h => congrArg (· + 1) (dpall_len h)
theorem dpall_get : ∀ {vs : List V} {ds : List D} {i : Nat} {d : D}, DqAll K H vs ds → ds[i]? = some d → ∃ v, vs[i]? = some v ∧ Dq K H v d
  | _, _, _, _, .nil, e => by simp at e
  | _, _, 0, _, .cons h _, e => by
    simp at e
    subst e
    exact ⟨_, rfl, h⟩
  | _, _, i + 1, _, .cons _ h, e => by
    obtain ⟨v, e1, e2⟩ := dpall_get (i := i) h (by simpa using e)
    exact ⟨v, by simpa using e1, e2⟩
theorem dpall_getV : ∀ {vs : List V} {ds : List D} {i : Nat} {v : V}, DqAll K H vs ds → vs[i]? = some v → ∃ d, ds[i]? = some d ∧ Dq K H v d
  | _, _, _, _, .nil, e => by simp at e
  | _, _, 0, _, .cons h _, e => by
    simp at e
    subst e
    exact ⟨_, rfl, h⟩
  | _, _, i + 1, _, .cons _ h, e => by
    obtain ⟨d, e1, e2⟩ := dpall_getV (i := i) h (by simpa using e)
    exact ⟨d, by simpa using e1, e2⟩
theorem dpall_app : ∀ {vs us : List V} {ds es : List D}, DqAll K H vs ds → DqAll K H us es → DqAll K H (vs ++ us) (ds ++ es)
  | _, _, _, _, .nil, h => h
  | _, _, _, _, .cons h1 h2, h => .cons h1 (dpall_app h2 h)
theorem dpall_take : ∀ {vs : List V} {ds : List D} (n : Nat), DqAll K H vs ds → DqAll K H (vs.take n) (ds.take n)
  | _, _, 0, _ => .nil
  | _, _, _ + 1, .nil => .nil
  | _, _, n + 1, .cons h1 h2 => .cons h1 (dpall_take n h2)
theorem dpall_drop : ∀ {vs : List V} {ds : List D} (n : Nat), DqAll K H vs ds → DqAll K H (vs.drop n) (ds.drop n)
  | _, _, 0, h => h
  | _, _, _ + 1, .nil => .nil
  | _, _, n + 1, .cons _ h2 => dpall_drop n h2
theorem dpall_rev : ∀ {vs : List V} {ds : List D}, DqAll K H vs ds → DqAll K H vs.reverse ds.reverse
  | _, _, .nil => .nil
  | _, _, .cons h1 h2 => by
    rw [List.reverse_cons, List.reverse_cons]
    exact dpall_app (dpall_rev h2) (.cons h1 .nil)
theorem dpall_set {v : V} {d : D} (h : Dq K H v d) : ∀ {vs : List V} {ds : List D} (i : Nat), DqAll K H vs ds → DqAll K H (vs.set i v) (ds.set i d)
  | _, _, _, .nil => .nil
  | _, _, 0, .cons _ h2 => .cons h h2
  | _, _, i + 1, .cons h1 h2 => .cons h1 (dpall_set h i h2)
theorem dpall_one {v : V} {d : D} (h : Dq K H v d) : DqAll K H [v] [d] := .cons h .nil
theorem dpall_map {α : Type} (f : α → V) (g : α → D) (h : ∀ x, Dq K H (f x) (g x)) : ∀ xs : List α, DqAll K H (xs.map f) (xs.map g)
  | [] => .nil
  | x :: xs => .cons (h x) (dpall_map f g h xs)
theorem dp_int {v : V} {i : Int} (h : Dq K H v (.int i)) : v = .int i := by cases h; rfl
theorem dp_bl {v : V} {b : Bool} (h : Dq K H v (.bool b)) : v = .bl b := by cases h; rfl
theorem dp_str {v : V} {x : Str} (h : Dq K H v (.str x)) : v = .str x := by cases h; rfl
theorem dp_non {v : V} (h : Dq K H v .none) : v = .non := by cases h; rfl
theorem dp_lst {v : V} {ds : List D} (h : Dq K H v (.list ds)) : ∃ a xs, v = .ref a ∧ SqL K H a xs ∧ DqAll K H xs ds := by
  cases h with
  | lst h1 h2 => exact ⟨_, _, rfl, Or.inl h1, h2⟩
theorem dp_lstR {v : V} {ds : List D} (h : Dq K H v (.list ds)) : ∃ a xs, v = .ref a ∧ Rd H a (.lst xs) ∧ DqAll K H xs ds := by
  cases h with
  | lst h1 h2 => exact ⟨_, _, rfl, h1, h2⟩
theorem dp_tup {v : V} {ds : List D} (h : Dq K H v (.tuple ds)) : ∃ a xs, v = .ref a ∧ SqT K H a xs ∧ DqAll K H xs ds := by
  cases h with
  | tup h1 h2 => exact ⟨_, _, rfl, h1, h2⟩
theorem dpall_ints : ∀ {vs : List V} {ns : List Int}, DqAll K H vs (ns.map PyData.int) → vs = ns.map V.int
  | _, [], .nil => rfl
  | _, n :: ns, .cons h1 h2 => by
    rw [dp_int h1, dpall_ints h2]
    rfl
theorem dpall_strs : ∀ {vs : List V} {ns : List Str}, DqAll K H vs (ns.map PyData.str) → vs = ns.map V.str
  | _, [], .nil => rfl
  | _, n :: ns, .cons h1 h2 => by
    rw [dp_str h1, dpall_strs h2]
    rfl
theorem dpall_bls : ∀ {vs : List V} {ns : List Bool}, DqAll K H vs (ns.map PyData.bool) → vs = ns.map V.bl
  | _, [], .nil => rfl
  | _, n :: ns, .cons h1 h2 => by
    rw [dp_bl h1, dpall_bls h2]
    rfl
end

/-! ### the source of draws: a list of a list of ints and an int -/
def DealAt (H : Hp) (p q : Addr) : Prop := p ≠ q ∧ ∃ (ns : List Int) (b : Int), H p = some (.lst [.ref q, .int b]) ∧ H q = some (.lst (ns.map V.int)) ∧ ns.length ≤ 64 ∧ 0 ≤ b ∧ b < 2147483648
def Md (dl : Option (Addr × Addr)) (a : Addr) : Prop := ∃ p q, dl = some (p, q) ∧ (a = p ∨ a = q)

/-- from one moment to a later one: B is what stands for good, H all; what is not of the source stays -/
structure Stp (dl : Option (Addr × Addr)) (B H B' H' : Hp) : Prop where
  ext : Same B B'
  sub : Same B' H'
  keep : ∀ a o, H a = some o → ¬ Md dl a → H' a = some o
  out : ∀ a, H a ≠ none → B a = none → B' a = none
  deal : ∀ p q, dl = some (p, q) → DealAt H p q → DealAt H' p q

section
variable {dl : Option (Addr × Addr)} {B H B' H' B2 H2 : Hp} {p : Addr} {o : HO}
theorem Stp.refl (s : Same B H) : Stp dl B H B H := ⟨Same.refl B, s, fun _ _ h _ => h, fun _ _ h => h, fun _ _ _ h => h⟩
theorem DealAt.there {q : Addr} (h : DealAt H p q) {a : Addr} (ha : a = p ∨ a = q) : H a ≠ none := by
  obtain ⟨_, ns, b, h1, h2, _⟩ := h
  rcases ha with rfl | rfl
  · rw [h1]
    simp
  · rw [h2]
    simp
/-- what stood still stands, changed or not -/
theorem Stp.there (s : Stp dl B H B' H') (hd : ∀ p q, dl = some (p, q) → DealAt H p q) {a : Addr} (h : H a ≠ none) : H' a ≠ none := by
  by_cases m : Md dl a
  · obtain ⟨p, q, e, m⟩ := m
    exact (s.deal p q e (hd p q e)).there m
  · cases e : H a with
    | none => exact absurd e h
    | some o =>
      rw [s.keep a o e m]
      simp
theorem Stp.trans (hd : ∀ p q, dl = some (p, q) → DealAt H p q) (s : Stp dl B H B' H') (t : Stp dl B' H' B2 H2) : Stp dl B H B2 H2 :=
  ⟨s.ext.trans t.ext, t.sub, fun a o h m => t.keep a o (s.keep a o h m) m, fun a h n => t.out a (s.there hd h) (s.out a h n), fun p q e h => t.deal p q e (s.deal p q e h)⟩
/-- nothing of the source was touched -/
theorem Stp.any (s : Stp none B H B' H') : Stp dl B H B' H' :=
  have k : ∀ a o, H a = some o → H' a = some o := fun a o h => s.keep a o h (fun ⟨_, _, e, _⟩ => nomatch e)
  ⟨s.ext, s.sub, fun a o h _ => k a o h, s.out, fun p q _ h => by
    obtain ⟨ne, ns, b, h1, h2, r⟩ := h
    exact ⟨ne, ns, b, k _ _ h1, k _ _ h2, r⟩⟩
/-- a new object, for good -/
theorem Stp.new (s : Same B H) (h : H p = none) : Stp dl B H (upd B p o) (upd H p o) := by
  have hB : B p = none := s.free h
  have k : ∀ a u, H a = some u → upd H p o a = some u := fun a u e => by
    rw [upd_ne (ne_of_none e h)]
    exact e
  refine ⟨fun a u e => ?_, fun a u e => ?_, fun a u e _ => k a u e, fun a n e => ?_, fun p q _ d => ?_⟩
  · rw [upd_ne (ne_of_none e hB)]
    exact e
  · by_cases ha : a = p
    · subst ha
      rw [upd_same] at e ⊢
      exact e
    · rw [upd_ne ha] at e ⊢
      exact s a u e
  · have ha : a ≠ p := fun z => n (z ▸ h)
    rw [upd_ne ha]
    exact e
  · obtain ⟨ne, ns, b, h1, h2, r⟩ := d
    exact ⟨ne, ns, b, k _ _ h1, k _ _ h2, r⟩
/-- a new object that may still change -/
theorem Stp.newM (s : Same B H) (h : H p = none) : Stp dl B H B (upd H p o) := by
  have k : ∀ a u, H a = some u → upd H p o a = some u := fun a u e => by
    rw [upd_ne (ne_of_none e h)]
    exact e
  refine ⟨Same.refl B, fun a u e => k a u (s a u e), fun a u e _ => k a u e, fun a _ e => e, fun p q _ d => ?_⟩
  obtain ⟨ne, ns, b, h1, h2, r⟩ := d
  exact ⟨ne, ns, b, k _ _ h1, k _ _ h2, r⟩
/-- an object that was new behind H stands for good from now on -/
theorem Stp.fix (s : Stp dl B H B' H') (h : H p = none) (hp : H' p = some o) (hB : B' p = none) : Stp dl B H (upd B' p o) H' := by
  refine ⟨fun a u e => ?_, fun a u e => ?_, s.keep, fun a n e => ?_, s.deal⟩
  · have e' := s.ext a u e
    rw [upd_ne (ne_of_none e' hB)]
    exact e'
  · by_cases ha : a = p
    · subst ha
      rw [upd_same] at e
      rw [hp]
      exact e
    · rw [upd_ne ha] at e
      exact s.sub a u e
  · have ha : a ≠ p := fun z => n (z ▸ h)
    rw [upd_ne ha]
    exact s.out a n e
end

/-! ### slots -/
/-- what a name holds: nothing told | data | a list of one's own, which may still change | the source of draws | a list that is read alone -/
inductive Sl where
  | no | dat (d : D) | own (ds : List D) | deal | rd (vs : List V)

structure Cn where
  K : PySem.W.Frag
  B : Hp
  H : Hp
  dl : Option (Addr × Addr)

def SlOk (C : Cn) (B H : Hp) (o : Option (Option V)) : Sl → Prop
  | .no => True
  | .dat d => ∃ v, o = some (some v) ∧ Dq C.K B v d
  | .own ds => ∃ p vs, o = some (some (.ref p)) ∧ C.H p = none ∧ B p = none ∧ H p = some (.lst vs) ∧ DqAll C.K B vs ds
  | .deal => ∃ p q, C.dl = some (p, q) ∧ o = some (some (.ref p))
  | .rd vs => ∃ a, o = some (some (.ref a)) ∧ SqL C.K B a vs

structure Fm (C : Cn) (B H : Hp) (σ : L2.St) (Γ : List Sl) : Prop where
  st : Stp C.dl C.B C.H B H
  dl : ∀ p q, C.dl = some (p, q) → DealAt C.H p q ∧ C.B p = none ∧ C.B q = none
  len : σ.length = Γ.length
  slot : ∀ (i : Nat) (s : Sl), Γ[i]? = some s → SlOk C B H (σ[i]?) s
  inj : ∀ (i j : Nat) (p : Addr) (ds es : List D), Γ[i]? = some (.own ds) → Γ[j]? = some (.own es) → σ[i]? = some (some (.ref p)) → σ[j]? = some (some (.ref p)) → i = j

section
variable {C : Cn} {B H B' H' : Hp} {σ σ' : L2.St} {Γ Γ' : List Sl} {p q : Addr} {i j : Nat} {d : D} {ds es : List D} {v : V}
theorem Fm.sub (F : Fm C B H σ Γ) : Same B H := F.st.sub
theorem Fm.dlNow (F : Fm C B H σ Γ) : ∀ p q, C.dl = some (p, q) → DealAt H p q := fun p q e => F.st.deal p q e (F.dl p q e).1
theorem Fm.dlOut (F : Fm C B H σ Γ) (e : C.dl = some (p, q)) : B p = none ∧ B q = none := by
  obtain ⟨h1, h2, h3⟩ := F.dl p q e
  exact ⟨F.st.out p (h1.there (Or.inl rfl)) h2, F.st.out q (h1.there (Or.inr rfl)) h3⟩
theorem Fm.newC (F : Fm C B H σ Γ) {a : Addr} (h : H a = none) : C.H a = none := by
  cases e : C.H a with
  | none => rfl
  | some o => exact absurd h (F.st.there (fun p q e => (F.dl p q e).1) (by rw [e]; simp))
theorem Fm.notMd (F : Fm C B H σ Γ) {a : Addr} (h : C.H a = none) : ¬ Md C.dl a := by
  rintro ⟨p, q, e, m⟩
  exact (F.dl p q e).1.there m h
theorem Fm.step (F : Fm C B H σ Γ) (s : Stp C.dl B H B' H') : Fm C B' H' σ Γ := by
  refine ⟨F.st.trans (fun p q e => (F.dl p q e).1) s, F.dl, F.len, fun i sl h => ?_, F.inj⟩
  have k := F.slot i sl h
  cases sl with
  | no => trivial
  | dat d =>
    obtain ⟨v, e, h1⟩ := k
    exact ⟨v, e, dp_mono s.ext h1⟩
  | own ds =>
    obtain ⟨p, vs, e, h1, h2, h3, h4⟩ := k
    exact ⟨p, vs, e, h1, s.out p (by rw [h3]; simp) h2, s.keep p _ h3 (F.notMd h1), dpall_mono s.ext h4⟩
  | deal => exact k
  | rd vs =>
    obtain ⟨a, e, h⟩ := k
    exact ⟨a, e, same_l s.ext h⟩
theorem Fm.has (F : Fm C B H σ Γ) (h : Γ[i]? = some (.dat d)) : ∃ v, σ[i]? = some (some v) ∧ Dq C.K B v d := F.slot i _ h
theorem Fm.hasOwn (F : Fm C B H σ Γ) (h : Γ[i]? = some (.own ds)) : ∃ p vs, σ[i]? = some (some (.ref p)) ∧ C.H p = none ∧ B p = none ∧ H p = some (.lst vs) ∧ DqAll C.K B vs ds := F.slot i _ h
theorem Fm.noOwn (F : Fm C B H σ Γ) (hp : H p = none) (h : Γ[i]? = some (.own ds)) : σ[i]? ≠ some (some (.ref p)) := fun e => by
  obtain ⟨p', vs, e', _, _, h3, _⟩ := F.hasOwn h
  rw [e] at e'
  injection e' with e'
  injection e' with e'
  injection e' with e'
  subst e'
  rw [hp] at h3
  cases h3
/-- a name gets data -/
theorem Fm.set (F : Fm C B H σ Γ) (h : Dq C.K B v d) : Fm C B H (σ.set i (some v)) (Γ.set i (.dat d)) := by
  refine ⟨F.st, F.dl, by rw [List.length_set, List.length_set]; exact F.len, fun j sl e => ?_, fun a b p ds es h1 h2 h3 h4 => ?_⟩
  · by_cases hj : i = j
    · subst hj
      have hl : i < Γ.length := by
        have := (List.getElem?_eq_some_iff.mp e).1
        rw [List.length_set] at this
        exact this
      rw [List.getElem?_set_self hl] at e
      cases e
      exact ⟨v, List.getElem?_set_self (by rw [F.len]; exact hl), h⟩
    · rw [List.getElem?_set_ne hj] at e
      rw [List.getElem?_set_ne hj]
      exact F.slot j sl e
  · have na : i ≠ a := fun z => by
      subst z
      have hl : i < Γ.length := by
        have := (List.getElem?_eq_some_iff.mp h1).1
        rw [List.length_set] at this
        exact this
      rw [List.getElem?_set_self hl] at h1
      cases h1
    have nb : i ≠ b := fun z => by
      subst z
      have hl : i < Γ.length := by
        have := (List.getElem?_eq_some_iff.mp h2).1
        rw [List.length_set] at this
        exact this
      rw [List.getElem?_set_self hl] at h2
      cases h2
    rw [List.getElem?_set_ne na] at h1 h3
    rw [List.getElem?_set_ne nb] at h2 h4
    exact F.inj a b p ds es h1 h2 h3 h4
/-- nothing is told of a name any longer -/
theorem Fm.drop (F : Fm C B H σ Γ) (o : Option V) : Fm C B H (σ.set i o) (Γ.set i .no) := by
  refine ⟨F.st, F.dl, by rw [List.length_set, List.length_set]; exact F.len, fun j sl e => ?_, fun a b p ds es h1 h2 h3 h4 => ?_⟩
  · by_cases hj : i = j
    · subst hj
      have hl : i < Γ.length := by
        have := (List.getElem?_eq_some_iff.mp e).1
        rw [List.length_set] at this
        exact this
      rw [List.getElem?_set_self hl] at e
      cases e
      trivial
    · rw [List.getElem?_set_ne hj] at e
      rw [List.getElem?_set_ne hj]
      exact F.slot j sl e
  · have na : i ≠ a := fun z => by
      subst z
      have hl : i < Γ.length := by
        have := (List.getElem?_eq_some_iff.mp h1).1
        rw [List.length_set] at this
        exact this
      rw [List.getElem?_set_self hl] at h1
      cases h1
    have nb : i ≠ b := fun z => by
      subst z
      have hl : i < Γ.length := by
        have := (List.getElem?_eq_some_iff.mp h2).1
        rw [List.length_set] at this
        exact this
      rw [List.getElem?_set_self hl] at h2
      cases h2
    rw [List.getElem?_set_ne na] at h1 h3
    rw [List.getElem?_set_ne nb] at h2 h4
    exact F.inj a b p ds es h1 h2 h3 h4
/-- a name gets a new list of its own -/
theorem Fm.setOwn {vs : List V} (F : Fm C B H σ Γ) (hC : C.H p = none) (hB : B p = none) (hp : H p = some (.lst vs)) (hd : DqAll C.K B vs ds) (hn : ∀ (j : Nat) es, j ≠ i → Γ[j]? = some (.own es) → σ[j]? ≠ some (some (.ref p))) :
    Fm C B H (σ.set i (some (.ref p))) (Γ.set i (.own ds)) := by
  have key : ∀ (j : Nat) es, i ≠ j → (Γ.set i (.own ds))[j]? = some (.own es) → (σ.set i (some (.ref p)))[j]? = some (some (.ref p)) → False := fun j es nj h1 h2 => by
    rw [List.getElem?_set_ne nj] at h1 h2
    exact hn j es (Ne.symm nj) h1 h2
  refine ⟨F.st, F.dl, by rw [List.length_set, List.length_set]; exact F.len, fun j sl e => ?_, fun a b r xs ys h1 h2 h3 h4 => ?_⟩
  · by_cases hj : i = j
    · subst hj
      have hl : i < Γ.length := by
        have := (List.getElem?_eq_some_iff.mp e).1
        rw [List.length_set] at this
        exact this
      rw [List.getElem?_set_self hl] at e
      cases e
      exact ⟨p, vs, List.getElem?_set_self (by rw [F.len]; exact hl), hC, hB, hp, hd⟩
    · rw [List.getElem?_set_ne hj] at e
      rw [List.getElem?_set_ne hj]
      exact F.slot j sl e
  · by_cases ha : i = a
    · by_cases hb : i = b
      · exact ha.symm.trans hb
      · subst ha
        have hl : i < σ.length := by
          have := (List.getElem?_eq_some_iff.mp h3).1
          rw [List.length_set] at this
          exact this
        rw [List.getElem?_set_self hl] at h3
        injection h3 with h3
        injection h3 with h3
        injection h3 with h3
        subst h3
        exact (key b ys hb h2 h4).elim
    · by_cases hb : i = b
      · subst hb
        have hl : i < σ.length := by
          have := (List.getElem?_eq_some_iff.mp h4).1
          rw [List.length_set] at this
          exact this
        rw [List.getElem?_set_self hl] at h4
        injection h4 with h4
        injection h4 with h4
        injection h4 with h4
        subst h4
        exact (key a xs ha h1 h3).elim
      · rw [List.getElem?_set_ne ha] at h1 h3
        rw [List.getElem?_set_ne hb] at h2 h4
        exact F.inj a b r xs ys h1 h2 h3 h4
/-- one's own list changes -/
theorem Fm.mutOwn {us : List V} (F : Fm C B H σ Γ) (hi : Γ[i]? = some (.own ds)) (hs : σ[i]? = some (some (.ref p))) (hd : DqAll C.K B us es) :
    Fm C B (upd H p (.lst us)) σ (Γ.set i (.own es)) := by
  obtain ⟨p', ws, e', hC, hB, hp, hw⟩ := F.hasOwn hi
  rw [hs] at e'
  injection e' with e'
  injection e' with e'
  injection e' with e'
  subst e'
  have hM : ¬ Md C.dl p := F.notMd hC
  have st : Stp C.dl C.B C.H B (upd H p (.lst us)) := by
    refine ⟨F.st.ext, fun a o e => ?_, fun a o e m => ?_, F.st.out, fun r q e dd => ?_⟩
    · rw [upd_ne (ne_of_none e hB)]
      exact F.st.sub a o e
    · rw [upd_ne (ne_of_none e hC)]
      exact F.st.keep a o e m
    · obtain ⟨ne, ns, b, h1, h2, rest⟩ := F.st.deal r q e dd
      have n1 : r ≠ p := fun z => hM ⟨r, q, e, Or.inl z.symm⟩
      have n2 : q ≠ p := fun z => hM ⟨r, q, e, Or.inr z.symm⟩
      exact ⟨ne, ns, b, by rw [upd_ne n1]; exact h1, by rw [upd_ne n2]; exact h2, rest⟩
  refine ⟨st, F.dl, by rw [List.length_set]; exact F.len, fun j sl e => ?_, fun a b r xs ys h1 h2 h3 h4 => ?_⟩
  · by_cases hj : i = j
    · subst hj
      have hl : i < Γ.length := (List.getElem?_eq_some_iff.mp hi).1
      rw [List.getElem?_set_self hl] at e
      cases e
      exact ⟨p, us, hs, hC, hB, upd_same, hd⟩
    · rw [List.getElem?_set_ne hj] at e
      have k := F.slot j sl e
      cases sl with
      | no => trivial
      | dat d => exact k
      | own xs =>
        obtain ⟨r, zs, k1, k2, k3, k4, k5⟩ := k
        have nr : r ≠ p := fun z => by
          subst z
          exact hj (F.inj i j r _ _ hi e hs k1)
        exact ⟨r, zs, k1, k2, k3, by rw [upd_ne nr]; exact k4, k5⟩
      | deal => exact k
      | rd vs => exact k
  · have own : ∀ (c : Nat) zs, (Γ.set i (.own es))[c]? = some (.own zs) → ∃ zs', Γ[c]? = some (.own zs') := fun c zs h => by
      by_cases hc : i = c
      · subst hc
        exact ⟨ds, hi⟩
      · rw [List.getElem?_set_ne hc] at h
        exact ⟨zs, h⟩
    obtain ⟨x1, g1⟩ := own a xs h1
    obtain ⟨x2, g2⟩ := own b ys h2
    exact F.inj a b r x1 x2 g1 g2 h3 h4
/-- one's own list stands for good from now on -/
theorem Fm.freeze (F : Fm C B H σ Γ) (hi : Γ[i]? = some (.own ds)) : ∃ B', Stp C.dl C.B C.H B' H ∧ Same B B' ∧ Fm C B' H σ (Γ.set i (.dat (.list ds))) := by
  obtain ⟨p, vs, hs, hC, hB, hp, hd⟩ := F.hasOwn hi
  have sm : Same B (upd B p (.lst vs)) := fun a o e => by
    rw [upd_ne (ne_of_none e hB)]
    exact e
  have st := F.st.fix hC hp hB
  refine ⟨upd B p (.lst vs), st, sm, st, F.dl, by rw [List.length_set]; exact F.len, fun j sl e => ?_, fun a b r xs ys h1 h2 h3 h4 => ?_⟩
  · by_cases hj : i = j
    · subst hj
      have hl : i < Γ.length := (List.getElem?_eq_some_iff.mp hi).1
      rw [List.getElem?_set_self hl] at e
      cases e
      exact ⟨.ref p, hs, .lst (Or.inl upd_same) (dpall_mono sm hd)⟩
    · rw [List.getElem?_set_ne hj] at e
      have k := F.slot j sl e
      cases sl with
      | no => trivial
      | dat d =>
        obtain ⟨v, k1, k2⟩ := k
        exact ⟨v, k1, dp_mono sm k2⟩
      | own xs =>
        obtain ⟨r, zs, k1, k2, k3, k4, k5⟩ := k
        have nr : r ≠ p := fun z => by
          subst z
          exact hj (F.inj i j r _ _ hi e hs k1)
        exact ⟨r, zs, k1, k2, by rw [upd_ne nr]; exact k3, k4, dpall_mono sm k5⟩
      | deal => exact k
      | rd vs =>
        obtain ⟨a, k1, k2⟩ := k
        exact ⟨a, k1, same_l sm k2⟩
  · have na : i ≠ a := fun z => by
      subst z
      have hl : i < Γ.length := (List.getElem?_eq_some_iff.mp hi).1
      rw [List.getElem?_set_self hl] at h1
      cases h1
    have nb : i ≠ b := fun z => by
      subst z
      have hl : i < Γ.length := (List.getElem?_eq_some_iff.mp hi).1
      rw [List.getElem?_set_self hl] at h2
      cases h2
    rw [List.getElem?_set_ne na] at h1
    rw [List.getElem?_set_ne nb] at h2
    exact F.inj a b r xs ys h1 h2 h3 h4
end
end Ly

/-! LyC: what a reading gives as data: VE, VV, VL, VA, VW, VT, VO, VI, VG, VS, and their rules. -/
namespace Ly
open PySem PySem.Spec PyProof.Rows L2

/-- just this one -/
abbrev Is {α : Type} (x : α) : α → Prop := fun y => y = x

/-- a value that stands for data: for good, or a list that may change later -/
def Vw (C : Cn) (B H : Hp) (v : V) (d : D) : Prop :=
  Dq C.K B v d ∨ ∃ p vs ds, v = .ref p ∧ d = .list ds ∧ C.H p = none ∧ H p = some (.lst vs) ∧ DqAll C.K B vs ds
inductive VwAll (C : Cn) (B H : Hp) : List V → List D → Prop where
  | nil : VwAll C B H [] []
  | cons {v : V} {d : D} {vs : List V} {ds : List D} : Vw C B H v d → VwAll C B H vs ds → VwAll C B H (v :: vs) (d :: ds)
section
variable {C : Cn} {B H B' H' : Hp} {σ : L2.St} {Γ : List Sl} {v : V} {d : D}
theorem Vw.step (F : Fm C B H σ Γ) (s : Stp C.dl B H B' H') (h : Vw C B H v d) : Vw C B' H' v d := by
  rcases h with h | ⟨p, vs, ds, rfl, rfl, h1, h2, h3⟩
  · exact Or.inl (dp_mono s.ext h)
  · exact Or.inr ⟨p, vs, ds, rfl, rfl, h1, s.keep p _ h2 (F.notMd h1), dpall_mono s.ext h3⟩
theorem VwAll.step (F : Fm C B H σ Γ) (s : Stp C.dl B H B' H') : ∀ {vs : List V} {ds : List D}, VwAll C B H vs ds → VwAll C B' H' vs ds
  | _, _, .nil => .nil
  | _, _, .cons h t => .cons (h.step F s) (VwAll.step F s t)
theorem Vw.now (e : Same B H) (h : Vw C B H v d) : Dq C.K H v d := by
  rcases h with h | ⟨p, vs, ds, rfl, rfl, h1, h2, h3⟩
  · exact dp_mono e h
  · exact .lst (Or.inl h2) (dpall_mono e h3)
theorem Vw.int {i : Int} (h : Vw C B H v (.int i)) : v = .int i := by
  rcases h with h | ⟨_, _, _, _, e, _⟩
  · exact dp_int h
  · cases e
theorem Vw.str {x : Str} (h : Vw C B H v (.str x)) : v = .str x := by
  rcases h with h | ⟨_, _, _, _, e, _⟩
  · exact dp_str h
  · cases e
theorem Vw.bl {x : Bool} (h : Vw C B H v (.bool x)) : v = .bl x := by
  rcases h with h | ⟨_, _, _, _, e, _⟩
  · exact dp_bl h
  · cases e
theorem Vw.non (h : Vw C B H v .none) : v = .non := by
  rcases h with h | ⟨_, _, _, _, e, _⟩
  · exact dp_non h
  · cases e
theorem Vw.tup {ds : List D} (e : Same B H) (h : Vw C B H v (.tuple ds)) : ∃ a xs, v = .ref a ∧ SqT C.K H a xs ∧ DqAll C.K B xs ds := by
  rcases h with h | ⟨_, _, _, _, z, _⟩
  · obtain ⟨a, xs, h1, h2, h3⟩ := dp_tup h
    exact ⟨a, xs, h1, same_t e h2, h3⟩
  · cases z
theorem Vw.lst {ds : List D} (e : Same B H) (h : Vw C B H v (.list ds)) : ∃ a xs, v = .ref a ∧ SqL C.K H a xs ∧ DqAll C.K B xs ds := by
  rcases h with h | ⟨p, vs, es, h1, z, _, h2, h3⟩
  · obtain ⟨a, xs, h1, h2, h3⟩ := dp_lst h
    exact ⟨a, xs, h1, same_l e h2, h3⟩
  · cases z
    exact ⟨p, vs, h1, Or.inl (Or.inl h2), h3⟩
end

theorem Vw.lstR {C : Cn} {B H : Hp} {v : V} {ds : List D} (e : Same B H) (h : Vw C B H v (.list ds)) : ∃ a xs, v = .ref a ∧ Rd H a (.lst xs) ∧ DqAll C.K B xs ds := by
  rcases h with h | ⟨p, vs, es, h1, z, _, h2, h3⟩
  · obtain ⟨a, xs, h1, h2, h3⟩ := dp_lstR h
    exact ⟨a, xs, h1, same_rd e h2, h3⟩
  · cases z
    exact ⟨p, vs, h1, Or.inl h2, h3⟩

/-! ### what a reading gives -/
def VE (C : Cn) (t : TE) (Γ : List Sl) (R : D → Prop) : Prop := ∀ B H σ, Fm C B H σ Γ → ∀ Q : VK, (∀ d v B' H', R d → Stp C.dl B H B' H' → Dq C.K B' v d → Q v H') → t σ H Q
def VV (C : Cn) (t : TE) (Γ : List Sl) (R : D → Prop) : Prop := ∀ B H σ, Fm C B H σ Γ → ∀ Q : VK, (∀ d v B' H', R d → Stp C.dl B H B' H' → Vw C B' H' v d → Q v H') → t σ H Q
/-- a new list -/
def VL (C : Cn) (t : TE) (Γ : List Sl) (R : List D → Prop) : Prop := ∀ B H σ, Fm C B H σ Γ → ∀ Q : VK,
  (∀ ds p vs B' H', R ds → Stp C.dl B H B' H' → H p = none → B' p = none → H' p = some (.lst vs) → DqAll C.K B' vs ds → Q (.ref p) H') → t σ H Q
def VA (C : Cn) (t : TA) (Γ : List Sl) (R : List D → Prop) : Prop := ∀ B H σ, Fm C B H σ Γ → ∀ Q : List V → Hp → Prop, (∀ ds vs B' H', R ds → Stp C.dl B H B' H' → DqAll C.K B' vs ds → Q vs H') → t σ H Q
def VW (C : Cn) (t : TA) (Γ : List Sl) (R : List D → Prop) : Prop := ∀ B H σ, Fm C B H σ Γ → ∀ Q : List V → Hp → Prop, (∀ ds vs B' H', R ds → Stp C.dl B H B' H' → VwAll C B' H' vs ds → Q vs H') → t σ H Q
def VT (C : Cn) (t : TT) (Γ : List Sl) (R : Bool → Prop) : Prop := ∀ B H σ, Fm C B H σ Γ → ∀ Q : Bool → Hp → Prop, (∀ b B' H', R b → Stp C.dl B H B' H' → Q b H') → t σ H Q
def VO (C : Cn) (t : TO) (Γ : List Sl) (R : Option Int → Prop) : Prop := ∀ B H σ, Fm C B H σ Γ → ∀ Q : Option Int → Hp → Prop, (∀ b B' H', R b → Stp C.dl B H B' H' → Q b H') → t σ H Q

section
variable {C : Cn} {t ta tb te : TE} {tt tu : TT} {A A' : TA} {Γ : List Sl} {R R' Ra Rb : D → Prop} {d x y z : D} {b c : Bool} {ds es : List D}
theorem VE.imp (h : VE C t Γ R) (i : ∀ d, R d → R' d) : VE C t Γ R' := fun B H σ F Q q => h B H σ F Q fun d v B' H' r s k => q d v B' H' (i d r) s k
theorem VE.to (h : VE C t Γ (Is x)) (e : x = y) : VE C t Γ (Is y) := e ▸ h
theorem VL.imp {S S' : List D → Prop} (h : VL C t Γ S) (i : ∀ d, S d → S' d) : VL C t Γ S' := fun B H σ F Q q => h B H σ F Q fun ds p vs B' H' r s k1 k2 k3 k4 => q ds p vs B' H' (i ds r) s k1 k2 k3 k4
theorem VL.to (h : VL C t Γ (Is ds)) (e : ds = es) : VL C t Γ (Is es) := e ▸ h
theorem VT.imp {S S' : Bool → Prop} (h : VT C tt Γ S) (i : ∀ d, S d → S' d) : VT C tt Γ S' := fun B H σ F Q q => h B H σ F Q fun b B' H' r s => q b B' H' (i b r) s
theorem VT.to (h : VT C tt Γ (Is b)) (e : b = c) : VT C tt Γ (Is c) := e ▸ h
theorem VA.imp {S S' : List D → Prop} (h : VA C A Γ S) (i : ∀ d, S d → S' d) : VA C A Γ S' := fun B H σ F Q q => h B H σ F Q fun d v B' H' r s k => q d v B' H' (i d r) s k
theorem VE.v (h : VE C t Γ R) : VV C t Γ R := fun B H σ F Q q => h B H σ F Q fun d v B' H' r s k => q d v B' H' r s (Or.inl k)
theorem VL.v {S : List D → Prop} (h : VL C t Γ S) : VV C t Γ (fun d => ∃ ds, d = .list ds ∧ S ds) := fun B H σ F Q q => h B H σ F Q fun ds p vs B' H' r s k1 k2 k3 k4 =>
  q _ _ B' H' ⟨ds, rfl, r⟩ s (Or.inr ⟨p, vs, ds, rfl, rfl, F.newC k1, k3, k4⟩)
theorem VL.vd (h : VL C t Γ (Is ds)) : VV C t Γ (Is (.list ds)) := fun B H σ F Q q => h.v B H σ F Q fun d v B' H' r s k => by
  obtain ⟨es, rfl, e⟩ := r
  cases e
  exact q _ _ _ _ rfl s k
theorem VL.e {S : List D → Prop} (h : VL C t Γ S) : VE C t Γ (fun d => ∃ ds, d = .list ds ∧ S ds) := fun B H σ F Q q => h B H σ F Q fun ds p vs B' H' r s k1 k2 k3 k4 =>
  q _ _ (upd B' p (.lst vs)) H' ⟨ds, rfl, r⟩ (s.fix k1 k3 k2) (.lst (Or.inl upd_same) (dpall_mono (fun a o e => by rw [upd_ne (ne_of_none e k2)]; exact e) k4))
theorem VL.ed (h : VL C t Γ (Is ds)) : VE C t Γ (Is (.list ds)) := h.e.imp fun d ⟨es, e1, e2⟩ => by
  cases e2
  exact e1
theorem vv_own {i : Nat} (h : Γ[i]? = some (.own ds)) : VV C (tVar i) Γ (Is (.list ds)) := fun B H σ F Q q => by
  obtain ⟨p, vs, e, h1, h2, h3, h4⟩ := F.hasOwn h
  exact ⟨_, e, q _ _ B H rfl (Stp.refl F.sub) (Or.inr ⟨p, vs, ds, rfl, rfl, h1, h3, h4⟩)⟩
theorem ve_var {i : Nat} (h : Γ[i]? = some (.dat d)) : VE C (tVar i) Γ (Is d) := fun B H σ F Q q => by
  obtain ⟨v, e, k⟩ := F.has h
  exact ⟨v, e, q d v B H rfl (Stp.refl F.sub) k⟩
theorem ve_c {v : V} (h : ∀ B, Dq C.K B v d) : VE C (tC v) Γ (Is d) := fun B H σ F Q q => q d v B H rfl (Stp.refl F.sub) (h B)
theorem ve_int {i : Int} : VE C (tC (.int i)) Γ (Is (.int i)) := ve_c fun _ => .int i
theorem ve_bl {i : Bool} : VE C (tC (.bl i)) Γ (Is (.bool i)) := ve_c fun _ => .bl i
theorem ve_str {i : Str} : VE C (tC (.str i)) Γ (Is (.str i)) := ve_c fun _ => .str i
theorem ve_non : VE C (tC .non) Γ (Is .none) := ve_c fun _ => .non
/-! arguments -/
theorem va_nil : VA C tNil Γ (Is []) := fun B H σ F Q q => q [] [] B H rfl (Stp.refl F.sub) .nil
theorem va_cons {S : List D → Prop} (h : VE C te Γ R) (k : VA C A Γ S) : VA C (tCons te A) Γ (fun l => ∃ d ds, l = d :: ds ∧ R d ∧ S ds) := fun B H σ F Q q =>
  h B H σ F _ fun d v B1 H1 r s1 k1 => k B1 H1 σ (F.step s1) _ fun ds vs B2 H2 r2 s2 k2 => q _ _ B2 H2 ⟨d, ds, rfl, r, r2⟩ (s1.trans F.dlNow s2) (.cons (dp_mono s2.ext k1) k2)
theorem va_consD (h : VE C te Γ (Is d)) (k : VA C A Γ (Is ds)) : VA C (tCons te A) Γ (Is (d :: ds)) := (va_cons h k).imp fun l ⟨d', ds', e, e1, e2⟩ => by
  cases e1
  cases e2
  exact e
theorem vw_nil : VW C tNil Γ (Is []) := fun B H σ F Q q => q [] [] B H rfl (Stp.refl F.sub) .nil
theorem vw_cons {S : List D → Prop} (h : VV C te Γ R) (k : VW C A Γ S) : VW C (tCons te A) Γ (fun l => ∃ d ds, l = d :: ds ∧ R d ∧ S ds) := fun B H σ F Q q =>
  h B H σ F _ fun d v B1 H1 r s1 k1 => k B1 H1 σ (F.step s1) _ fun ds vs B2 H2 r2 s2 k2 => q _ _ B2 H2 ⟨d, ds, rfl, r, r2⟩ (s1.trans F.dlNow s2) (.cons (k1.step (F.step s1) s2) k2)
theorem VW.imp {S S' : List D → Prop} (h : VW C A Γ S) (i : ∀ d, S d → S' d) : VW C A Γ S' := fun B H σ F Q q => h B H σ F Q fun d v B' H' r s k => q d v B' H' (i d r) s k
theorem vw_consD (h : VV C te Γ (Is d)) (k : VW C A Γ (Is ds)) : VW C (tCons te A) Γ (Is (d :: ds)) := (vw_cons h k).imp fun l ⟨d', ds', e, e1, e2⟩ => by
  cases e1
  cases e2
  exact e
/-! displays -/
theorem sz5 {n : Nat} (h : n ≤ 100000) : n ≤ sizeLine := Nat.le_trans h (by decide)
theorem ve_tup {S : List D → Prop} (h : VA C A Γ S) (k : ∀ ds, S ds → ds.length ≤ 100000 ∧ R (.tuple ds)) : VE C (tTup A) Γ R := fun B H σ F Q q => h B H σ F _ fun ds vs B1 H1 r s1 k1 =>
  ⟨by rw [dpall_len k1]; exact sz5 (k ds r).1, fun p hp => q _ _ (upd B1 p (.tup vs)) _ (k ds r).2 (s1.trans F.dlNow (Stp.new (F.step s1).sub hp))
    (.tup (Or.inl (Or.inl upd_same)) (dpall_mono (Stp.new (dl := C.dl) (F.step s1).sub hp).ext k1))⟩
theorem ve_tupD (h : VA C A Γ (Is ds)) (k : ds.length ≤ 100000 := by first | decide | exact of_decide_eq_true rfl) : VE C (tTup A) Γ (Is (.tuple ds)) := ve_tup h fun es e => by
  cases e
  exact ⟨k, rfl⟩
theorem vl_lst {S : List D → Prop} (h : VA C A Γ S) (k : ∀ ds, S ds → ds.length ≤ 100000) : VL C (tLst A) Γ S := fun B H σ F Q q => h B H σ F _ fun ds vs B1 H1 r s1 k1 =>
  ⟨by rw [dpall_len k1]; exact sz5 (k ds r), fun p hp => q ds p vs B1 _ r (s1.trans F.dlNow (Stp.newM (F.step s1).sub hp)) (by
    cases e : H p with
    | none => rfl
    | some o => exact absurd hp (s1.there F.dlNow (by rw [e]; simp))) ((F.step s1).sub.free hp) upd_same k1⟩
theorem vl_lstD (h : VA C A Γ (Is ds)) (k : ds.length ≤ 100000 := by first | decide | exact of_decide_eq_true rfl) : VL C (tLst A) Γ (Is ds) := vl_lst h fun es e => by
  cases e
  exact k
/-! choices -/
theorem ve_if {S : Bool → Prop} (h : VT C tt Γ S) (h1 : S true → VE C ta Γ R) (h2 : S false → VE C tb Γ R) : VE C (tIf tt ta tb) Γ R := fun B H σ F Q q => h B H σ F _ fun b B1 H1 r s1 => by
  cases b with
  | true => exact iteT (h1 r B1 H1 σ (F.step s1) Q fun d v B2 H2 r2 s2 k => q d v B2 H2 r2 (s1.trans F.dlNow s2) k)
  | false => exact iteF (h2 r B1 H1 σ (F.step s1) Q fun d v B2 H2 r2 s2 k => q d v B2 H2 r2 (s1.trans F.dlNow s2) k)
theorem vv_if {S : Bool → Prop} (h : VT C tt Γ S) (h1 : S true → VV C ta Γ R) (h2 : S false → VV C tb Γ R) : VV C (tIf tt ta tb) Γ R := fun B H σ F Q q => h B H σ F _ fun b B1 H1 r s1 => by
  cases b with
  | true => exact iteT (h1 r B1 H1 σ (F.step s1) Q fun d v B2 H2 r2 s2 k => q d v B2 H2 r2 (s1.trans F.dlNow s2) k)
  | false => exact iteF (h2 r B1 H1 σ (F.step s1) Q fun d v B2 H2 r2 s2 k => q d v B2 H2 r2 (s1.trans F.dlNow s2) k)
theorem ve_ifD (h : VT C tt Γ (Is b)) (h1 : b = true → VE C ta Γ (Is x)) (h2 : b = false → VE C tb Γ (Is y)) : VE C (tIf tt ta tb) Γ (Is (if b = true then x else y)) :=
  ve_if h (fun e => by subst e; exact (h1 rfl).to (if_pos rfl).symm) (fun e => by subst e; exact (h2 rfl).to (if_neg Bool.false_ne_true).symm)
theorem ve_andV {S S' : Bool → Prop} (h : VE C ta Γ (fun d => ∃ b, d = .bool b ∧ S b)) (k : S true → VE C tb Γ (fun d => ∃ b, d = .bool b ∧ S' b)) (k2 : S false → S' false) :
    VE C (tAndV ta tb) Γ (fun d => ∃ b, d = .bool b ∧ S' b) := fun B H σ F Q q => h B H σ F _ fun d v B1 H1 ⟨b, e, r⟩ s1 k1 => by
  subst e
  obtain rfl := dp_bl k1
  refine ⟨b, rfl, ?_⟩
  cases b with
  | true => exact iteT (k r B1 H1 σ (F.step s1) Q fun d v B2 H2 r2 s2 k => q d v B2 H2 r2 (s1.trans F.dlNow s2) k)
  | false => exact iteF (q _ _ B1 H1 ⟨false, rfl, k2 r⟩ s1 (.bl false))
theorem ve_orV {S S' : Bool → Prop} (h : VE C ta Γ (fun d => ∃ b, d = .bool b ∧ S b)) (k : S false → VE C tb Γ (fun d => ∃ b, d = .bool b ∧ S' b)) (k2 : S true → S' true) :
    VE C (tOrV ta tb) Γ (fun d => ∃ b, d = .bool b ∧ S' b) := fun B H σ F Q q => h B H σ F _ fun d v B1 H1 ⟨b, e, r⟩ s1 k1 => by
  subst e
  obtain rfl := dp_bl k1
  refine ⟨b, rfl, ?_⟩
  cases b with
  | true => exact iteT (q _ _ B1 H1 ⟨true, rfl, k2 r⟩ s1 (.bl true))
  | false => exact iteF (k r B1 H1 σ (F.step s1) Q fun d v B2 H2 r2 s2 k => q d v B2 H2 r2 (s1.trans F.dlNow s2) k)
theorem ve_andD (h : VE C ta Γ (Is (.bool b))) (k : b = true → VE C tb Γ (Is (.bool c))) : VE C (tAndV ta tb) Γ (Is (.bool (b && c))) :=
  (ve_andV (S := Is b) (S' := Is (b && c)) (h.imp fun d e => ⟨b, e, rfl⟩) (fun e => (k e.symm).imp fun d e2 => ⟨c, e2, by rw [← e]; rfl⟩) (fun e => by rw [← e]; rfl)).imp fun d ⟨x, e1, e2⟩ => by
    cases e2
    exact e1
theorem ve_orD (h : VE C ta Γ (Is (.bool b))) (k : b = false → VE C tb Γ (Is (.bool c))) : VE C (tOrV ta tb) Γ (Is (.bool (b || c))) :=
  (ve_orV (S := Is b) (S' := Is (b || c)) (h.imp fun d e => ⟨b, e, rfl⟩) (fun e => (k e.symm).imp fun d e2 => ⟨c, e2, by rw [← e]; rfl⟩) (fun e => by rw [← e]; rfl)).imp fun d ⟨x, e1, e2⟩ => by
    cases e2
    exact e1
theorem ve_notD (h : VE C ta Γ (Is (.bool b))) : VE C (tNotV ta) Γ (Is (.bool (!b))) := fun B H σ F Q q => h B H σ F _ fun d v B1 H1 r s1 k1 => by
  cases r
  obtain rfl := dp_bl k1
  exact ⟨b, rfl, q _ _ B1 H1 rfl s1 (.bl _)⟩
/-! tests -/
theorem vt_test {S : Bool → Prop} (h : VE C te Γ (fun d => ∃ b, d = .bool b ∧ S b)) : VT C (tTest te) Γ S := fun B H σ F Q q => h B H σ F _ fun d v B1 H1 ⟨b, e, r⟩ s1 k1 => by
  subst e
  obtain rfl := dp_bl k1
  exact ⟨b, rfl, q b B1 H1 r s1⟩
theorem vt_testD (h : VE C te Γ (Is (.bool b))) : VT C (tTest te) Γ (Is b) := vt_test (h.imp fun d e => ⟨b, e, rfl⟩)
theorem vt_B {S : Bool → Prop} (h : VE C te Γ (fun d => ∃ b, d = .bool b ∧ S b)) : VT C (tB te) Γ S := fun B H σ F Q q => h B H σ F _ fun d v B1 H1 ⟨b, e, r⟩ s1 k1 => by
  subst e
  obtain rfl := dp_bl k1
  exact ⟨b, rfl, q b B1 H1 r s1⟩
theorem vt_BD (h : VE C te Γ (Is (.bool b))) : VT C (tB te) Γ (Is b) := vt_B (h.imp fun d e => ⟨b, e, rfl⟩)
theorem vt_and {S S' : Bool → Prop} (h : VT C tt Γ S) (k : S true → VT C tu Γ S') (k2 : S false → S' false) : VT C (tAnd tt tu) Γ S' := fun B H σ F Q q => h B H σ F _ fun b B1 H1 r s1 => by
  cases b with
  | true => exact iteT (k r B1 H1 σ (F.step s1) Q fun b B2 H2 r2 s2 => q b B2 H2 r2 (s1.trans F.dlNow s2))
  | false => exact iteF (q false B1 H1 (k2 r) s1)
theorem vt_or {S S' : Bool → Prop} (h : VT C tt Γ S) (k : S false → VT C tu Γ S') (k2 : S true → S' true) : VT C (tOr tt tu) Γ S' := fun B H σ F Q q => h B H σ F _ fun b B1 H1 r s1 => by
  cases b with
  | true => exact iteT (q true B1 H1 (k2 r) s1)
  | false => exact iteF (k r B1 H1 σ (F.step s1) Q fun b B2 H2 r2 s2 => q b B2 H2 r2 (s1.trans F.dlNow s2))
theorem vt_andD (h : VT C tt Γ (Is b)) (k : b = true → VT C tu Γ (Is c)) : VT C (tAnd tt tu) Γ (Is (b && c)) :=
  vt_and h (fun e => (k e.symm).imp fun x e2 => by rw [← e, e2]; rfl) fun e => by rw [← e]; rfl
theorem vt_orD (h : VT C tt Γ (Is b)) (k : b = false → VT C tu Γ (Is c)) : VT C (tOr tt tu) Γ (Is (b || c)) :=
  vt_or h (fun e => (k e.symm).imp fun x e2 => by rw [← e, e2]; rfl) fun e => by rw [← e]; rfl
theorem vt_not {S : Bool → Prop} (h : VT C tt Γ (fun b => S (!b))) : VT C (tNot tt) Γ S := fun B H σ F Q q => h B H σ F _ fun b B1 H1 r s1 => q (!b) B1 H1 r s1
theorem vt_notD (h : VT C tt Γ (Is b)) : VT C (tNot tt) Γ (Is (!b)) := vt_not (h.imp fun x e => congrArg (!·) e)
/-! parts of slices -/
theorem vo_none : VO C tNoPart Γ (Is none) := fun B H σ F Q q => q none B H rfl (Stp.refl F.sub)
theorem vo_some {S : Int → Prop} (h : VE C te Γ (fun d => ∃ i, d = .int i ∧ S i)) : VO C (tPart te) Γ (fun o => ∃ i, o = some i ∧ S i) := fun B H σ F Q q => h B H σ F _ fun d v B1 H1 ⟨i, e, r⟩ s1 k1 => by
  subst e
  obtain rfl := dp_int k1
  exact ⟨i, rfl, q _ B1 H1 ⟨i, rfl, r⟩ s1⟩
theorem vo_someD {i : Int} (h : VE C te Γ (Is (.int i))) : VO C (tPart te) Γ (Is (some i)) := fun B H σ F Q q => vo_some (S := Is i) (h.imp fun d e => ⟨i, e, rfl⟩) B H σ F Q fun o B1 H1 ⟨j, e, r⟩ s1 => by
  cases r
  exact q o B1 H1 e s1

/-! ### operations by data -/
/-- an operation of two values gives data | a new list -/
def OD (C : Cn) (r : R2) (x y : D) (R : D → Prop) : Prop := ∀ B H v u, Same B H → Vw C B H v x → Vw C B H u y → ∀ Q : VK, (∀ d w B' H', R d → Stp C.dl B H B' H' → Dq C.K B' w d → Q w H') → r v u H Q
def OL (C : Cn) (r : R2) (x y : D) (R : List D → Prop) : Prop := ∀ B H v u, Same B H → Vw C B H v x → Vw C B H u y → ∀ Q : VK,
  (∀ ds p vs B' H', R ds → Stp C.dl B H B' H' → H p = none → B' p = none → H' p = some (.lst vs) → DqAll C.K B' vs ds → Q (.ref p) H') → r v u H Q
def UD (C : Cn) (r : V → Hp → VK → Prop) (x : D) (R : D → Prop) : Prop := ∀ B H v, Same B H → Vw C B H v x → ∀ Q : VK, (∀ d w B' H', R d → Stp C.dl B H B' H' → Dq C.K B' w d → Q w H') → r v H Q
/-- a call of a built-in gives data | a new list -/
def CD (C : Cn) (r : List V → Hp → VK → Prop) (xs : List D) (R : D → Prop) : Prop := ∀ B H vs, Same B H → VwAll C B H vs xs → ∀ Q : VK, (∀ d w B' H', R d → Stp C.dl B H B' H' → Dq C.K B' w d → Q w H') → r vs H Q
def CL (C : Cn) (r : List V → Hp → VK → Prop) (xs : List D) (R : List D → Prop) : Prop := ∀ B H vs, Same B H → VwAll C B H vs xs → ∀ Q : VK,
  (∀ ds p us B' H', R ds → Stp C.dl B H B' H' → H p = none → B' p = none → H' p = some (.lst us) → DqAll C.K B' us ds → Q (.ref p) H') → r vs H Q
variable {r : R2} {rc : List V → Hp → VK → Prop} {ru : V → Hp → VK → Prop}
theorem ve_op (h : VV C ta Γ Ra) (k : VV C tb Γ Rb) (o : ∀ x y, Ra x → Rb y → OD C r x y R) : VE C (tOp r ta tb) Γ R := fun B H σ F Q q => h B H σ F _ fun x v B1 H1 r1 s1 k1 =>
  k B1 H1 σ (F.step s1) _ fun y u B2 H2 r2 s2 k2 => o x y r1 r2 B2 H2 v u ((F.step s1).step s2).sub (k1.step (F.step s1) s2) k2 Q fun d w B3 H3 r3 s3 k3 => q d w B3 H3 r3 ((s1.trans F.dlNow s2).trans F.dlNow s3) k3
theorem ve_opD (h : VV C ta Γ (Is x)) (k : VV C tb Γ (Is y)) (o : OD C r x y R) : VE C (tOp r ta tb) Γ R := ve_op h k fun x y e1 e2 => by
  cases e1
  cases e2
  exact o
theorem back_none {B H B' H' : Hp} {σ : L2.St} {p : Addr} (F : Fm C B H σ Γ) (s : Stp C.dl B H B' H') (h : H' p = none) : H p = none := by
  cases e : H p with
  | none => rfl
  | some o => exact absurd h (s.there F.dlNow (by rw [e]; simp))
theorem vl_op {S : List D → Prop} (h : VV C ta Γ Ra) (k : VV C tb Γ Rb) (o : ∀ x y, Ra x → Rb y → OL C r x y S) : VL C (tOp r ta tb) Γ S := fun B H σ F Q q => h B H σ F _ fun x v B1 H1 r1 s1 k1 =>
  k B1 H1 σ (F.step s1) _ fun y u B2 H2 r2 s2 k2 => o x y r1 r2 B2 H2 v u ((F.step s1).step s2).sub (k1.step (F.step s1) s2) k2 Q fun ds p vs B3 H3 r3 s3 e1 e2 e3 e4 =>
    q ds p vs B3 H3 r3 ((s1.trans F.dlNow s2).trans F.dlNow s3) (back_none F (s1.trans F.dlNow s2) e1) e2 e3 e4
theorem vl_opD {S : List D → Prop} (h : VV C ta Γ (Is x)) (k : VV C tb Γ (Is y)) (o : OL C r x y S) : VL C (tOp r ta tb) Γ S := vl_op h k fun x y e1 e2 => by
  cases e1
  cases e2
  exact o
theorem ve_un (h : VV C ta Γ Ra) (o : ∀ x, Ra x → UD C ru x R) : VE C (tUn ru ta) Γ R := fun B H σ F Q q => h B H σ F _ fun x v B1 H1 r1 s1 k1 =>
  o x r1 B1 H1 v (F.step s1).sub k1 Q fun d w B3 H3 r3 s3 k3 => q d w B3 H3 r3 (s1.trans F.dlNow s3) k3
theorem ve_cb {S : List D → Prop} (h : VW C A Γ S) (o : ∀ xs, S xs → CD C rc xs R) : VE C (tCB rc A) Γ R := fun B H σ F Q q => h B H σ F _ fun xs vs B1 H1 r1 s1 k1 =>
  o xs r1 B1 H1 vs (F.step s1).sub k1 Q fun d w B3 H3 r3 s3 k3 => q d w B3 H3 r3 (s1.trans F.dlNow s3) k3
theorem ve_cbD (h : VW C A Γ (Is ds)) (o : CD C rc ds R) : VE C (tCB rc A) Γ R := ve_cb h fun xs e => by
  cases e
  exact o
theorem vl_cb {S S' : List D → Prop} (h : VW C A Γ S) (o : ∀ xs, S xs → CL C rc xs S') : VL C (tCB rc A) Γ S' := fun B H σ F Q q => h B H σ F _ fun xs vs B1 H1 r1 s1 k1 =>
  o xs r1 B1 H1 vs (F.step s1).sub k1 Q fun ds p us B3 H3 r3 s3 e1 e2 e3 e4 => q ds p us B3 H3 r3 (s1.trans F.dlNow s3) (back_none F s1 e1) e2 e3 e4
theorem vl_cbD {S' : List D → Prop} (h : VW C A Γ (Is ds)) (o : CL C rc ds S') : VL C (tCB rc A) Γ S' := vl_cb h fun xs e => by
  cases e
  exact o
end

/-! ### what a loop walks, what takes a value -/
/-- the things that come, one after another; each for good -/
def VI (C : Cn) (wi : TI) (Γ : List Sl) (R : List D → Prop) : Prop := ∀ B H σ, Fm C B H σ Γ → ∀ T : It → Hp → Prop, (∀ ds J B1 H1 G Y, R ds → Stp C.dl B H B1 H1 → Walk J ds.length G Y →
  (∀ B2 H2, Same B1 B2 → Same B2 H2 → G H2) →
  (∀ i x H2 H2', Y i H2 x H2' → ∀ B2 d, Same B1 B2 → Same B2 H2 → ds[i]? = some d → ∃ B2', Stp C.dl B2 H2 B2' H2' ∧ Dq C.K B2' x d) → T J H1) → wi σ H T
/-- a target takes data; only the slots js change -/
structure VG (C : Cn) (g : TG) (d : D) (Γ Γ' : List Sl) (js : List Nat) : Prop where
  run : ∀ {B H σ v}, Fm C B H σ Γ → Dq C.K B v d → ∀ Q : L2.St → Hp → Prop, (∀ σ', σ'.length = σ.length → (∀ i, i ∉ js → σ'[i]? = σ[i]?) → Fm C B H σ' Γ' → Q σ' H) → g v σ H Q
  own : ∀ (j : Nat) es, Γ'[j]? = some (.own es) → Γ[j]? = some (.own es) ∧ j ∉ js
structure VGs (C : Cn) (gs : TGs) (ds : List D) (Γ Γ' : List Sl) (js : List Nat) : Prop where
  run : ∀ {B H σ vs}, Fm C B H σ Γ → DqAll C.K B vs ds → ∀ Q : L2.St → Hp → Prop, (∀ σ', σ'.length = σ.length → (∀ i, i ∉ js → σ'[i]? = σ[i]?) → Fm C B H σ' Γ' → Q σ' H) → gs vs σ H Q
  own : ∀ (j : Nat) es, Γ'[j]? = some (.own es) → Γ[j]? = some (.own es) ∧ j ∉ js
section
variable {C : Cn} {Γ Γ' Γ1 : List Sl} {d e : D} {ds : List D} {i j n : Nat} {g g' : TG} {gs : TGs} {js ks : List Nat}
theorem vg_name : VG C (gName i) d Γ (Γ.set i (.dat d)) [i] := by
  refine ⟨fun F h Q q => q _ (List.length_set ..) (fun j hj => by rw [List.getElem?_set_ne (fun z => hj (by simp [z]))]) (F.set h), fun j es h => ?_⟩
  by_cases hj : i = j
  · subst hj
    have hl : i < Γ.length := by
      have := (List.getElem?_eq_some_iff.mp h).1
      rw [List.length_set] at this
      exact this
    rw [List.getElem?_set_self hl] at h
    cases h
  · rw [List.getElem?_set_ne hj] at h
    exact ⟨h, fun z => hj (List.mem_singleton.mp z).symm⟩
theorem vgs_nil : VGs C gNil [] Γ Γ [] := ⟨fun {B H σ vs} F h Q q => by
  cases h
  exact ⟨rfl, q σ rfl (fun _ _ => rfl) F⟩, fun j es h => ⟨h, fun z => nomatch z⟩⟩
theorem vgs_cons (h : VG C g d Γ Γ1 js) (k : VGs C gs ds Γ1 Γ' ks) : VGs C (gCons g gs) (d :: ds) Γ Γ' (js ++ ks) := by
  refine ⟨fun {B H σ vs} F hd Q q => ?_, fun j es hj => ?_⟩
  · cases hd with
    | cons h1 h2 =>
      refine ⟨_, _, rfl, h.run F h1 _ fun σ1 l1 e1 F1 => k.run F1 h2 _ fun σ2 l2 e2 F2 => q σ2 (l2.trans l1) (fun i hi => ?_) F2⟩
      rw [e2 i (fun z => hi (List.mem_append_right _ z)), e1 i (fun z => hi (List.mem_append_left _ z))]
  · obtain ⟨k1, k2⟩ := k.own j es hj
    obtain ⟨h1, h2⟩ := h.own j es k1
    exact ⟨h1, fun z => (List.mem_append.mp z).elim h2 k2⟩
theorem vg_tup (h : VGs C gs ds Γ Γ' js) (n1 : ds.length = n) : VG C (gTup C.K n gs) (.tuple ds) Γ Γ' js := by
  refine ⟨fun {B H σ v} F hd Q q => ?_, h.own⟩
  obtain ⟨a, xs, rfl, h1, h2⟩ := dp_tup hd
  exact ⟨a, xs, rfl, same_t F.sub h1, (dpall_len h2).trans n1, h.run F h2 Q q⟩
theorem vg_tup2 {g1 g2 : TG} {d1 d2 : D} {Γ1 Γ2 : List Sl} {j1 j2 : List Nat} (h1 : VG C g1 d1 Γ Γ1 j1) (h2 : VG C g2 d2 Γ1 Γ2 j2) : VG C (gTup C.K 2 (gCons g1 (gCons g2 gNil))) (.tuple [d1, d2]) Γ Γ2 (j1 ++ (j2 ++ [])) :=
  vg_tup (vgs_cons h1 (vgs_cons h2 vgs_nil)) rfl
end
end Ly

/-! LyD: statements (VS), loops, comprehensions, what a def promises (Pu, De). -/
namespace Ly
open PySem PySem.Spec PyProof.Rows L2

structure Po where
  nx : List Sl → Prop
  rt : D → Prop
  bk : List Sl → Prop := fun _ => False
  ct : List Sl → Prop := fun _ => False

/-- a statement, from what the names hold -/
def VS (C : Cn) (t : TS) (Γ : List Sl) (P : Po) : Prop := ∀ B H σ (E : Ends), Fm C B H σ Γ →
  (∀ Γ' B' H' σ', P.nx Γ' → Same B B' → Fm C B' H' σ' Γ' → E.nx σ' H') →
  (∀ d v B' H', P.rt d → Stp C.dl C.B C.H B' H' → Dq C.K B' v d → E.rt v H') →
  (∀ Γ' B' H' σ', P.bk Γ' → Same B B' → Fm C B' H' σ' Γ' → E.bk σ' H') →
  (∀ Γ' B' H' σ', P.ct Γ' → Same B B' → Fm C B' H' σ' Γ' → E.ct σ' H') → t E σ H

section
variable {C : Cn} {t u : TS} {te ta tb : TE} {tt : TT} {A : TA} {Γ Γ' : List Sl} {P P' : Po} {R : D → Prop} {S : List D → Prop} {i j : Nat} {d : D} {ds : List D}
theorem VS.imp (h : VS C t Γ P) (h1 : ∀ Γ, P.nx Γ → P'.nx Γ) (h2 : ∀ d, P.rt d → P'.rt d) (h3 : ∀ Γ, P.bk Γ → P'.bk Γ) (h4 : ∀ Γ, P.ct Γ → P'.ct Γ) : VS C t Γ P' := fun B H σ E F n r b c =>
  h B H σ E F (fun Γ' B' H' σ' p => n Γ' B' H' σ' (h1 _ p)) (fun d v B' H' p => r d v B' H' (h2 _ p)) (fun Γ' B' H' σ' p => b Γ' B' H' σ' (h3 _ p)) fun Γ' B' H' σ' p => c Γ' B' H' σ' (h4 _ p)
theorem vs_next (h : P.nx Γ) : VS C tNext Γ P := fun B H σ E F n r b c => n Γ B H σ h (Same.refl B) F
theorem vs_brk (h : P.bk Γ) : VS C tBreak Γ P := fun B H σ E F n r b c => b Γ B H σ h (Same.refl B) F
theorem vs_cont (h : P.ct Γ) : VS C tCont Γ P := fun B H σ E F n r b c => c Γ B H σ h (Same.refl B) F
theorem vs_seq (M : List Sl → Prop) (h : VS C t Γ { P with nx := M }) (k : ∀ Γ', M Γ' → VS C u Γ' P) : VS C (tSeq t u) Γ P := fun B H σ E F n r b c =>
  h B H σ { E with nx := u E } F (fun Γ' B' H' σ' m s F' => k Γ' m B' H' σ' E F' (fun Γ2 B2 H2 σ2 p s2 => n Γ2 B2 H2 σ2 p (s.trans s2)) r (fun Γ2 B2 H2 σ2 p s2 => b Γ2 B2 H2 σ2 p (s.trans s2)) fun Γ2 B2 H2 σ2 p s2 => c Γ2 B2 H2 σ2 p (s.trans s2)) r b c
/-- the next statement is looked at with just these slots -/
theorem vs_then (Γ' : List Sl) (h : VS C t Γ { P with nx := Is Γ' }) (k : VS C u Γ' P) : VS C (tSeq t u) Γ P := vs_seq (Is Γ') h fun _ e => by
  cases e
  exact k
theorem vs_asg (h : VE C te Γ R) (k : ∀ d, R d → P.nx (Γ.set i (.dat d))) : VS C (tAsg te (gName i)) Γ P := fun B H σ E F n r b c => h B H σ F _ fun d v B' H' rd s kd =>
  n _ B' H' _ (k d rd) s.ext ((F.step s).set kd)
theorem vq_asg (h : VE C te Γ R) (k : ∀ d, R d → VS C u (Γ.set i (.dat d)) P) : VS C (tSeq (tAsg te (gName i)) u) Γ P :=
  vs_seq (fun Γ' => ∃ d, R d ∧ Γ' = Γ.set i (.dat d)) (vs_asg h fun d r => ⟨d, r, rfl⟩) fun Γ' ⟨d, r, e⟩ => by
    subst e
    exact k d r
theorem vq_asgD (h : VE C te Γ (Is d)) (k : VS C u (Γ.set i (.dat d)) P) : VS C (tSeq (tAsg te (gName i)) u) Γ P := vq_asg h fun _ e => by
  cases e
  exact k
theorem vs_asgD (h : VE C te Γ (Is d)) (k : P.nx (Γ.set i (.dat d))) : VS C (tAsg te (gName i)) Γ P := vs_asg h fun _ e => by
  cases e
  exact k
/-- a target of any form -/
theorem vs_asgG {g : TG} (h : VE C te Γ R) (k : ∀ d, R d → ∃ Γ' js, VG C g d Γ Γ' js ∧ P.nx Γ') : VS C (tAsg te g) Γ P := fun B H σ E F n r b c => h B H σ F _ fun d v B' H' rd s kd => by
  obtain ⟨Γ', js, hg, p⟩ := k d rd
  exact hg.run (F.step s) kd _ fun σ' _ _ F' => n Γ' B' H' σ' p s.ext F'
/-- a new list of one's own -/
theorem vs_own (h : VL C te Γ S) (k : ∀ ds, S ds → P.nx (Γ.set i (.own ds))) : VS C (tAsg te (gName i)) Γ P := fun B H σ E F n r b c => h B H σ F _ fun ds p vs B' H' rd s k1 k2 k3 k4 =>
  n _ B' H' _ (k ds rd) s.ext ((F.step s).setOwn (F.newC k1) k2 k3 k4 fun j es _ hj => F.noOwn k1 hj)
theorem vq_own (h : VL C te Γ S) (k : ∀ ds, S ds → VS C u (Γ.set i (.own ds)) P) : VS C (tSeq (tAsg te (gName i)) u) Γ P :=
  vs_seq (fun Γ' => ∃ d, S d ∧ Γ' = Γ.set i (.own d)) (vs_own h fun d r => ⟨d, r, rfl⟩) fun Γ' ⟨d, r, e⟩ => by
    subst e
    exact k d r
theorem vq_ownD (h : VL C te Γ (Is ds)) (k : VS C u (Γ.set i (.own ds)) P) : VS C (tSeq (tAsg te (gName i)) u) Γ P := vq_own h fun _ e => by
  cases e
  exact k
theorem vs_ret (h : VE C te Γ P.rt) : VS C (tRet te) Γ P := fun B H σ E F n r b c => h B H σ F _ fun d v B' H' rd s kd => r d v B' H' rd (F.st.trans (fun p q e => (F.dl p q e).1) s) kd
theorem vs_retD (h : VE C te Γ (Is d)) (k : P.rt d) : VS C (tRet te) Γ P := vs_ret (h.imp fun _ e => e ▸ k)
/-- from now on one's own list stands for good -/
theorem vs_freeze (i : Nat) (hi : Γ[i]? = some (.own ds)) (k : VS C t (Γ.set i (.dat (.list ds))) P) : VS C t Γ P := fun B H σ E F n r b c => by
  obtain ⟨B', _, s2, F'⟩ := F.freeze hi
  exact k B' H σ E F' (fun Γ2 B2 H2 σ2 p s => n Γ2 B2 H2 σ2 p (s2.trans s)) r (fun Γ2 B2 H2 σ2 p s => b Γ2 B2 H2 σ2 p (s2.trans s)) fun Γ2 B2 H2 σ2 p s => c Γ2 B2 H2 σ2 p (s2.trans s)
theorem vs_retOwn (i : Nat) (hi : Γ[i]? = some (.own ds)) (k : P.rt (.list ds)) : VS C (tRet (tVar i)) Γ P :=
  vs_freeze i hi (vs_retD (ve_var (List.getElem?_set_self (List.getElem?_eq_some_iff.mp hi).1)) k)
theorem vs_if {Q : Bool → Prop} (h : VT C tt Γ Q) (h1 : Q true → VS C t Γ P) (h2 : Q false → VS C u Γ P) : VS C (tIfS tt t u) Γ P := fun B H σ E F n r b c => h B H σ F _ fun x B' H' q s => by
  cases x with
  | true => exact iteT (h1 q B' H' σ E (F.step s) (fun Γ2 B2 H2 σ2 p s2 => n Γ2 B2 H2 σ2 p (s.ext.trans s2)) r (fun Γ2 B2 H2 σ2 p s2 => b Γ2 B2 H2 σ2 p (s.ext.trans s2)) fun Γ2 B2 H2 σ2 p s2 => c Γ2 B2 H2 σ2 p (s.ext.trans s2))
  | false => exact iteF (h2 q B' H' σ E (F.step s) (fun Γ2 B2 H2 σ2 p s2 => n Γ2 B2 H2 σ2 p (s.ext.trans s2)) r (fun Γ2 B2 H2 σ2 p s2 => b Γ2 B2 H2 σ2 p (s.ext.trans s2)) fun Γ2 B2 H2 σ2 p s2 => c Γ2 B2 H2 σ2 p (s.ext.trans s2))
theorem vs_ifD {x : Bool} (h : VT C tt Γ (Is x)) (h1 : x = true → VS C t Γ P) (h2 : x = false → VS C u Γ P) : VS C (tIfS tt t u) Γ P := vs_if h (fun e => h1 e.symm) fun e => h2 e.symm
/-- an if that leaves or goes on to the rest -/
theorem vq_if {Q : Bool → Prop} {t2 : TS} (h : VT C tt Γ Q) (h1 : Q true → VS C (tSeq t u) Γ P) (h2 : Q false → VS C (tSeq t2 u) Γ P) : VS C (tSeq (tIfS tt t t2) u) Γ P := fun B H σ E F n r b c => h B H σ F _ fun x B' H' q s => by
  cases x with
  | true => exact iteT (h1 q B' H' σ E (F.step s) (fun Γ2 B2 H2 σ2 p s2 => n Γ2 B2 H2 σ2 p (s.ext.trans s2)) r (fun Γ2 B2 H2 σ2 p s2 => b Γ2 B2 H2 σ2 p (s.ext.trans s2)) fun Γ2 B2 H2 σ2 p s2 => c Γ2 B2 H2 σ2 p (s.ext.trans s2))
  | false => exact iteF (h2 q B' H' σ E (F.step s) (fun Γ2 B2 H2 σ2 p s2 => n Γ2 B2 H2 σ2 p (s.ext.trans s2)) r (fun Γ2 B2 H2 σ2 p s2 => b Γ2 B2 H2 σ2 p (s.ext.trans s2)) fun Γ2 B2 H2 σ2 p s2 => c Γ2 B2 H2 σ2 p (s.ext.trans s2))
theorem vq_ifD {x : Bool} {t2 : TS} (h : VT C tt Γ (Is x)) (h1 : x = true → VS C (tSeq t u) Γ P) (h2 : x = false → VS C (tSeq t2 u) Γ P) : VS C (tSeq (tIfS tt t t2) u) Γ P := vq_if h (fun e => h1 e.symm) fun e => h2 e.symm
/-- a statement that leaves: what stands behind it is not come to -/
theorem vq_leave (h : VS C t Γ { P with nx := fun _ => False }) : VS C (tSeq t u) Γ P := vs_seq (fun _ => False) h fun _ e => e.elim
theorem vq_next (h : VS C u Γ P) : VS C (tSeq tNext u) Γ P := vs_then Γ (vs_next rfl) h
theorem vs_drop (h : VV C te Γ R) (k : P.nx Γ) : VS C (tDrop te) Γ P := fun B H σ E F n r b c => h B H σ F _ fun d v B' H' rd s kd => n Γ B' H' σ k s.ext (F.step s)
theorem own_ty {K : PySem.W.Frag} {H : Hp} {p : Addr} {vs : List V} (h : H p = some (.lst vs)) : tyV K "list" (.ref p) H := Or.inl ⟨rfl, vs, Or.inl (Or.inl h)⟩
theorem sz6 {n : Nat} (h : n < 100000) : n < sizeLine := Nat.lt_of_lt_of_le h (by decide)
/-- xs.append(e) -/
theorem vs_app (hi : Γ[i]? = some (.own ds)) (h : VE C te Γ R) (hz : ds.length < 100000) (k : ∀ d, R d → P.nx (Γ.set i (.own (ds ++ [d])))) : VS C (tDrop (tBM C.K "list" rAppend (tVar i) (tCons te tNil))) Γ P := fun B H σ E F n r b c => by
  obtain ⟨p, vs, e, hC, hB, hp, hd⟩ := F.hasOwn hi
  refine ⟨.ref p, e, own_ty hp, h B H σ F _ fun d v B' H' rd s kd => ?_⟩
  have hp' := s.keep p _ hp (F.notMd hC)
  refine ⟨p, vs, v, rfl, rfl, hp', sz6 (by rw [dpall_len hd]; exact hz), ?_⟩
  exact n _ B' _ σ (k d rd) s.ext ((F.step s).mutOwn hi e (dpall_app (dpall_mono s.ext hd) (dpall_one kd)))
theorem vq_app (hi : Γ[i]? = some (.own ds)) (h : VE C te Γ R) (hz : ds.length < 100000) (k : ∀ d, R d → VS C u (Γ.set i (.own (ds ++ [d]))) P) : VS C (tSeq (tDrop (tBM C.K "list" rAppend (tVar i) (tCons te tNil))) u) Γ P :=
  vs_seq (fun Γ' => ∃ d, R d ∧ Γ' = Γ.set i (.own (ds ++ [d]))) (vs_app hi h hz fun d r => ⟨d, r, rfl⟩) fun Γ' ⟨d, r, e⟩ => by
    subst e
    exact k d r
/-- xs[e1] = e2 -/
theorem vs_setAt {k : Nat} {z : Int} (hi : Γ[i]? = some (.own ds)) (h : VE C te Γ R) (hx : VE C ta Γ (Is (.int z))) (hk : ixN ds.length z = some k) (q : ∀ d, R d → P.nx (Γ.set i (.own (ds.set k d)))) :
    VS C (tAsg te (gSub (tVar i) ta rSetL)) Γ P := fun B H σ E F n r b c => h B H σ F _ fun d v B1 H1 rd s kd => by
  obtain ⟨p, vs, e, hC, hB, hp, hd⟩ := F.hasOwn hi
  have F1 := F.step s
  refine ⟨.ref p, e, hx B1 H1 σ F1 _ fun x w B2 H2 ex s2 k2 => ?_⟩
  cases ex
  obtain rfl := dp_int k2
  have hp' := s2.keep p _ (s.keep p _ hp (F.notMd hC)) (F.notMd hC)
  refine ⟨p, vs, z, k, rfl, rfl, hp', by rw [dpall_len hd]; exact hk, ?_⟩
  exact n _ B2 _ σ (q d rd) (s.ext.trans s2.ext) ((F1.step s2).mutOwn hi e (dpall_set (dp_mono s2.ext kd) k (dpall_mono (s.ext.trans s2.ext) hd)))
/-- x += e, of ints -/
theorem vs_aug {ti : TIp} {a : D} (ha : Γ[i]? = some (.dat a)) (h : VE C te Γ R) (hr : ∀ d, R d → ∃ z, OD C ti a d (Is z) ∧ P.nx (Γ.set i (.dat z))) : VS C (tAug i te ti) Γ P := fun B H σ E F n r b c => by
  obtain ⟨v, e, hv⟩ := F.has ha
  refine ⟨v, e, h B H σ F _ fun d w B1 H1 rd s kd => ?_⟩
  obtain ⟨z, ho, hp⟩ := hr d rd
  exact ho B1 H1 v w (F.step s).sub (Or.inl (dp_mono s.ext hv)) (Or.inl kd) _ fun z' w' B2 H2 ez s2 k2 => by
    cases ez
    exact n _ B2 H2 _ hp (s.ext.trans s2.ext) (((F.step s).step s2).set k2)
/-! a, b = e1, e2: data or new lists -/
theorem vs_parEE {R2 : D → Prop} (h1 : VE C ta Γ R) (h2 : VE C tb Γ R2) (k : ∀ x y, R x → R2 y → P.nx ((Γ.set i (.dat x)).set j (.dat y))) : VS C (tPar i j (tCons ta (tCons tb tNil))) Γ P := fun B H σ E F n r b c =>
  h1 B H σ F _ fun x v B1 H1 r1 s1 k1 => h2 B1 H1 σ (F.step s1) _ fun y w B2 H2 r2 s2 k2 => ⟨v, w, rfl, n _ B2 H2 _ (k x y r1 r2) (s1.ext.trans s2.ext) ((((F.step s1).step s2).set (dp_mono s2.ext k1)).set k2)⟩
theorem vs_parLE {R2 : D → Prop} (h1 : VL C ta Γ S) (h2 : VE C tb Γ R2) (k : ∀ x y, S x → R2 y → P.nx ((Γ.set i (.own x)).set j (.dat y))) : VS C (tPar i j (tCons ta (tCons tb tNil))) Γ P := fun B H σ E F n r b c =>
  h1 B H σ F _ fun ds p vs B1 H1 r1 s1 e1 e2 e3 e4 => h2 B1 H1 σ (F.step s1) _ fun y w B2 H2 r2 s2 k2 => ⟨_, w, rfl, n _ B2 H2 _ (k ds y r1 r2) (s1.ext.trans s2.ext) ((((F.step s1).step s2).setOwn (F.newC e1) (s2.out p (by rw [e3]; simp) e2)
    (s2.keep p _ e3 (F.notMd (F.newC e1))) (dpall_mono s2.ext e4) fun j es _ hj => F.noOwn e1 hj).set k2)⟩
theorem vs_parEL {R2 : D → Prop} (h1 : VE C ta Γ R2) (h2 : VL C tb Γ S) (k : ∀ x y, R2 x → S y → P.nx ((Γ.set i (.dat x)).set j (.own y))) : VS C (tPar i j (tCons ta (tCons tb tNil))) Γ P := fun B H σ E F n r b c =>
  h1 B H σ F _ fun x v B1 H1 r1 s1 k1 => h2 B1 H1 σ (F.step s1) _ fun ds p vs B2 H2 r2 s2 e1 e2 e3 e4 => ⟨v, _, rfl, n _ B2 H2 _ (k x ds r1 r2) (s1.ext.trans s2.ext) ((((F.step s1).step s2).set (dp_mono s2.ext k1)).setOwn ((F.step s1).newC e1) e2 e3 e4
    fun j' es nj hj => by
      by_cases hij : i = j'
      · subst hij
        by_cases hl : i < Γ.length
        · rw [List.getElem?_set_self hl] at hj
          cases hj
        · rw [List.getElem?_eq_none_iff.mpr (by rw [List.length_set]; omega)] at hj
          cases hj
      · rw [List.getElem?_set_ne hij] at hj
        rw [List.getElem?_set_ne hij]
        exact (F.step s1).noOwn e1 hj)⟩
theorem vs_parLL {S2 : List D → Prop} (h1 : VL C ta Γ S) (h2 : VL C tb Γ S2) (k : ∀ x y, S x → S2 y → P.nx ((Γ.set i (.own x)).set j (.own y))) : VS C (tPar i j (tCons ta (tCons tb tNil))) Γ P := fun B H σ E F n r b c =>
  h1 B H σ F _ fun ds p vs B1 H1 r1 s1 e1 e2 e3 e4 => h2 B1 H1 σ (F.step s1) _ fun es q us B2 H2 r2 s2 g1 g2 g3 g4 => ⟨_, _, rfl, n _ B2 H2 _ (k ds es r1 r2) (s1.ext.trans s2.ext) ((((F.step s1).step s2).setOwn (F.newC e1) (s2.out p (by rw [e3]; simp) e2)
    (s2.keep p _ e3 (F.notMd (F.newC e1))) (dpall_mono s2.ext e4) fun j es _ hj => F.noOwn e1 hj).setOwn ((F.step s1).newC g1) g2 g3 g4 fun j' xs nj hj => by
      by_cases hij : i = j'
      · subst hij
        by_cases hl : i < σ.length
        · rw [List.getElem?_set_self hl]
          intro z
          injection z with z
          injection z with z
          injection z with z
          subst z
          rw [e3] at g1
          cases g1
        · rw [List.getElem?_eq_none_iff.mpr (by rw [List.length_set]; omega)]
          exact fun z => nomatch z
      · rw [List.getElem?_set_ne hij] at hj
        rw [List.getElem?_set_ne hij]
        exact (F.step s1).noOwn g1 hj)⟩
/-! ### loops -/
/-- while: W by a measure -/
theorem vs_while (W : Nat → List Sl → Prop) (m0 : Nat) (h0 : W m0 Γ) (hs : ∀ m Γ', W m Γ' → ∃ Q : Bool → Prop, VT C tt Γ' Q ∧
    (Q true → VS C t Γ' { nx := fun Γ2 => ∃ m', m' < m ∧ W m' Γ2, rt := P.rt, bk := P.nx, ct := fun Γ2 => ∃ m', m' < m ∧ W m' Γ2 }) ∧ (Q false → P.nx Γ')) : VS C (tWhile tt t) Γ P := fun B H σ E F n r b c => by
  refine ⟨fun m σ' H' => ∃ Γ' B', W m Γ' ∧ Same B B' ∧ Fm C B' H' σ' Γ', ⟨m0, Γ, B, h0, Same.refl B, F⟩, ?_⟩
  rintro m σ1 H1 ⟨Γ1, B1, w, s, F1⟩
  obtain ⟨Q, hq, h1, h2⟩ := hs m Γ1 w
  refine hq B1 H1 σ1 F1 _ fun x B2 H2 q s2 => ?_
  cases x with
  | true =>
    refine iteT ⟨fun σ' H' => ∃ m', m' < m ∧ ∃ Γ' B', W m' Γ' ∧ Same B B' ∧ Fm C B' H' σ' Γ', fun σ' H' h => h, ?_⟩
    have nxt : ∀ Γ' B' H' σ', (∃ m', m' < m ∧ W m' Γ') → Same B2 B' → Fm C B' H' σ' Γ' → ∃ m', m' < m ∧ ∃ Γ' B', W m' Γ' ∧ Same B B' ∧ Fm C B' H' σ' Γ' :=
      fun Γ' B' H' σ' ⟨m', l, w'⟩ s' F' => ⟨m', l, Γ', B', w', (s.trans s2.ext).trans s', F'⟩
    exact h1 q B2 H2 σ1 _ (F1.step s2) nxt r (fun Γ' B' H' σ' p s' F' => n Γ' B' H' σ' p ((s.trans s2.ext).trans s') F') nxt
  | false => exact iteF (n Γ1 B2 H2 σ1 (h2 q) (s.trans s2.ext) (F1.step s2))
/-- for: Inv by the turn -/
theorem vs_for {wi : TI} {g : TG} (h : VI C wi Γ S) (k : ∀ ds, S ds → ∃ Inv : Nat → List Sl → Prop, Inv 0 Γ ∧ (∀ (i : Nat) d Γ', ds[i]? = some d → Inv i Γ' → ∃ Γ1 js, VG C g d Γ' Γ1 js ∧
    VS C t Γ1 { nx := Inv (i + 1), rt := P.rt, bk := P.nx, ct := Inv (i + 1) }) ∧ ∀ Γ', Inv ds.length Γ' → P.nx Γ') : VS C (tFor wi g t) Γ P := fun B H σ E F n r b c =>
  h B H σ F _ fun ds J B1 H1 G Y rd s w hG hY => by
    obtain ⟨Inv, i0, turn, fin⟩ := k ds rd
    refine for_it w (fun i σ' H' => ∃ Γ' B', Inv i Γ' ∧ Same B1 B' ∧ Fm C B' H' σ' Γ') ⟨Γ, B1, i0, Same.refl B1, F.step s⟩ (fun i σ' H' _ ⟨Γ', B', _, s', F'⟩ => hG B' H' s' F'.sub) ?_ ?_
    · rintro i x σ1 H1 H1' hi ⟨Γ', B', iv, s', F'⟩ y
      have hd : ds[i]? = some ds[i] := List.getElem?_eq_getElem hi
      obtain ⟨B2, st, kd⟩ := hY i x H1 H1' y B' ds[i] s' F'.sub hd
      obtain ⟨Γ1, js, hg, hb⟩ := turn i ds[i] Γ' hd iv
      have F2 := F'.step st
      refine hg.run F2 kd _ fun σ2 _ _ F3 => ?_
      have nxt : ∀ Γ'' B'' H'' σ'', Inv (i + 1) Γ'' → Same B2 B'' → Fm C B'' H'' σ'' Γ'' → ∃ Γ' B', Inv (i + 1) Γ' ∧ Same B1 B' ∧ Fm C B' H'' σ'' Γ' := fun Γ'' B'' H'' σ'' iv' s'' F'' => ⟨Γ'', B'', iv', (s'.trans st.ext).trans s'', F''⟩
      exact hb B2 H1' σ2 _ F3 nxt r (fun Γ'' B'' H'' σ'' p s'' F'' => n Γ'' B'' H'' σ'' p (((s.ext.trans s').trans st.ext).trans s'') F'') nxt
    · rintro σ1 H1 ⟨Γ', B', iv, s', F'⟩
      exact n Γ' B' H1 σ1 (fin Γ' iv) (s.ext.trans s') F'
end
end Ly

/-! LyE: comprehensions; what loops walk (list, tuple, text, range, enumerate of a text); what a def promises (Pu, De) and its call. -/
namespace Ly
open PySem PySem.Spec PyProof.Rows L2

/-! ### an object of one's own that no name tells -/
section
variable {dl : Option (Addr × Addr)} {B H B' H' : Hp} {p : Addr} {o : HO} {C : Cn} {σ : L2.St} {Γ : List Sl} {vs : List Nat}
theorem Stp.poke (hd : ∀ p q, dl = some (p, q) → DealAt H p q) (s : Stp dl B H B' H') (h : H p = none) (hB : B' p = none) : Stp dl B H B' (upd H' p o) := by
  refine ⟨s.ext, fun a u e => ?_, fun a u e m => ?_, s.out, fun r q e d => ?_⟩
  · rw [upd_ne (ne_of_none e hB)]
    exact s.sub a u e
  · rw [upd_ne (ne_of_none e h)]
    exact s.keep a u e m
  · obtain ⟨ne, ns, b, h1, h2, rest⟩ := s.deal r q e d
    have d0 := hd r q e
    have n1 : r ≠ p := fun z => d0.there (Or.inl rfl) (z ▸ h)
    have n2 : q ≠ p := fun z => d0.there (Or.inr rfl) (z ▸ h)
    exact ⟨ne, ns, b, by rw [upd_ne n1]; exact h1, by rw [upd_ne n2]; exact h2, rest⟩
theorem Fm.poke (F : Fm C B H σ Γ) (hC : C.H p = none) (hB : B p = none) (hn : ∀ (j : Nat) es, Γ[j]? = some (.own es) → σ[j]? ≠ some (some (.ref p))) : Fm C B (upd H p o) σ Γ := by
  refine ⟨F.st.poke (fun p q e => (F.dl p q e).1) hC hB, F.dl, F.len, fun i sl e => ?_, F.inj⟩
  have k := F.slot i sl e
  cases sl with
  | no => trivial
  | dat d => exact k
  | own ds =>
    obtain ⟨r, zs, k1, k2, k3, k4, k5⟩ := k
    have nr : r ≠ p := fun z => hn i ds e (z ▸ k1)
    exact ⟨r, zs, k1, k2, k3, by rw [upd_ne nr]; exact k4, k5⟩
  | deal => exact k
  | rd vs => exact k
/-- the names of a comprehension are taken away -/
def wipeS (Γ : List Sl) : List Nat → List Sl
  | [] => Γ
  | v :: vs => (wipeS Γ vs).set v .no
theorem Fm.wipe (F : Fm C B H σ Γ) : ∀ vs : List Nat, Fm C B H (wipe σ vs) (wipeS Γ vs)
  | [] => F
  | v :: vs => (Fm.wipe F vs).drop none
theorem wipe_get {a b : L2.St} (hl : a.length = b.length) : ∀ vs : List Nat, (∀ i, i ∉ vs → a[i]? = b[i]?) → wipe a vs = wipe b vs := by
  intro vs h
  apply List.ext_getElem?
  intro i
  have key : ∀ (ws : List Nat) (x y : L2.St), x.length = y.length → (i ∈ ws ∨ x[i]? = y[i]?) → (wipe x ws)[i]? = (wipe y ws)[i]? := by
    intro ws
    induction ws with
    | nil =>
      intro x y _ k
      rcases k with k | k
      · cases k
      · exact k
    | cons w ws ih =>
      intro x y e k
      show ((wipe x ws).set w none)[i]? = ((wipe y ws).set w none)[i]?
      by_cases hw : w = i
      · subst hw
        by_cases hlt : w < x.length
        · rw [List.getElem?_set_self (by rw [wipe_length]; exact hlt), List.getElem?_set_self (by rw [wipe_length]; omega)]
        · rw [List.getElem?_eq_none_iff.mpr (by rw [List.length_set, wipe_length]; omega), List.getElem?_eq_none_iff.mpr (by rw [List.length_set, wipe_length]; omega)]
      · rw [List.getElem?_set_ne hw, List.getElem?_set_ne hw]
        refine ih x y e ?_
        rcases k with k | k
        · rcases List.mem_cons.mp k with z | z
          · exact absurd z.symm hw
          · exact Or.inl z
        · exact Or.inr k
  by_cases hi : i ∈ vs
  · exact key vs a b hl (Or.inl hi)
  · exact key vs a b hl (Or.inr (h i hi))
end

theorem wipe_ne {σ : L2.St} {i : Nat} : ∀ {vs : List Nat}, i ∉ vs → (wipe σ vs)[i]? = σ[i]?
  | [], _ => rfl
  | v :: vs, h => by
    show ((wipe σ vs).set v none)[i]? = σ[i]?
    rw [List.getElem?_set_ne (fun z => h (by simp [z])), wipe_ne fun z => h (List.mem_cons_of_mem _ z)]

/-! ### comprehensions -/
section
variable {C : Cn} {Γ : List Sl} {wi : TI} {g : TG} {tt : TT} {te : TE} {vs : List Nat} {S S' : List D → Prop}
/-- [e for x in xs if t]: Inv by the turn and what is made so far -/
theorem vl_lc (h : VI C wi Γ S) (k : ∀ ds, S ds → ds.length ≤ 100000 ∧ ∃ Inv : Nat → List D → Prop, Inv 0 [] ∧
    (∀ (i : Nat) d acc, ds[i]? = some d → Inv i acc → ∃ Γ1 js, VG C g d (wipeS Γ vs) Γ1 js ∧ (∀ j ∈ js, j ∈ vs) ∧
      ∃ T : Bool → Prop, VT C tt Γ1 T ∧ (T true → VE C te Γ1 (fun y => Inv (i + 1) (acc ++ [y]))) ∧ (T false → Inv (i + 1) acc)) ∧ ∀ acc, Inv ds.length acc → S' acc) : VL C (tLc wi g tt te vs) Γ S' := fun B H σ F Q q =>
  h B H σ F _ fun ds J B1 H1 G Y rd s w hG hY A hA => by
    obtain ⟨hz, Inv, i0, turn, fin⟩ := k ds rd
    have F1 := F.step s
    have hAC : C.H A = none := F1.newC hA
    have hAB : B1 A = none := F1.sub.free hA
    have hA0 : H A = none := back_none F s hA
    have nM : ¬ Md C.dl A := F.notMd hAC
    have own1 : ∀ (j : Nat) es, (wipeS Γ vs)[j]? = some (.own es) → (wipe σ vs)[j]? ≠ some (some (.ref A)) := fun j es hj => (F1.wipe vs).noOwn hA hj
    have own0 : ∀ (j : Nat) es, Γ[j]? = some (.own es) → σ[j]? ≠ some (some (.ref A)) := fun j es hj => F1.noOwn hA hj
    refine lc_it w (fun i H' => ∃ B' acc us, Inv i acc ∧ acc.length ≤ i ∧ Same B1 B' ∧ Stp C.dl B H B' H' ∧ Fm C B' H' σ Γ ∧ B' A = none ∧ H' A = some (.lst us) ∧ DqAll C.K B' us acc) ?_ ?_ ?_ ?_
    · exact ⟨B1, [], [], i0, Nat.le_refl _, Same.refl _, s.poke F.dlNow hA0 hAB, F1.poke hAC hAB own0, hAB, upd_same, .nil⟩
    · rintro i H' _ ⟨B', acc, us, _, _, s', _, F', _⟩
      exact hG B' H' s' F'.sub
    · rintro i x H2 H2' hi ⟨B', acc, us, iv, la, s', st', F', oB, oA, da⟩ y
      have hd : ds[i]? = some ds[i] := List.getElem?_eq_getElem hi
      obtain ⟨B2, st, kd⟩ := hY i x H2 H2' y B' ds[i] s' F'.sub hd
      obtain ⟨Γ1, js, hg, hjs, T, ht, hy, hn⟩ := turn i ds[i] acc hd iv
      have F2 : Fm C B2 H2' σ Γ := F'.step st
      have st2 : Stp C.dl B H B2 H2' := st'.trans F.dlNow st
      have oA2 : H2' A = some (.lst us) := st.keep A _ oA nM
      have oB2 : B2 A = none := st.out A (by rw [oA]; simp) oB
      refine hg.run (F2.wipe vs) kd _ fun σ2 l2 e2 F3 => ⟨?_, ?_⟩
      · refine wipe_get (l2.trans (wipe_length σ vs)) vs fun j hj => ?_
        rw [e2 j (fun z => hj (hjs j z)), wipe_ne hj]
      · refine ht B2 H2' σ2 F3 _ fun b B3 H3 rb s3 => ?_
        have oA3 : H3 A = some (.lst us) := s3.keep A _ oA2 nM
        have oB3 : B3 A = none := s3.out A (by rw [oA2]; simp) oB2
        have st3 : Stp C.dl B H B3 H3 := st2.trans F.dlNow s3
        cases b with
        | false => exact iteF ⟨B3, acc, us, hn rb, Nat.le_succ_of_le la, (s'.trans st.ext).trans s3.ext, st3, F2.step s3, oB3, oA3, dpall_mono (st.ext.trans s3.ext) da⟩
        | true =>
          refine iteT (hy rb B3 H3 σ2 (F3.step s3) _ fun d' v' B4 H4 ry s4 kd4 => ?_)
          have oA4 : H4 A = some (.lst us) := s4.keep A _ oA3 nM
          have oB4 : B4 A = none := s4.out A (by rw [oA3]; simp) oB3
          have st4 : Stp C.dl B H B4 H4 := st3.trans F.dlNow s4
          have hda : DqAll C.K B4 us acc := dpall_mono ((st.ext.trans s3.ext).trans s4.ext) da
          refine ⟨us, oA4, sz6 (by rw [dpall_len hda]; omega), B4, acc ++ [d'], us ++ [v'], ry, by rw [List.length_append]; exact Nat.succ_le_succ la, ((s'.trans st.ext).trans s3.ext).trans s4.ext, ?_, ?_, oB4, upd_same, dpall_app hda (dpall_one kd4)⟩
          · exact st4.poke F.dlNow hA0 oB4
          · exact ((F2.step s3).step s4).poke hAC oB4 own0
    · rintro H' ⟨B', acc, us, iv, _, s', st', F', oB, oA, da⟩
      exact q acc A us B' H' (fin acc iv) st' hA0 oB oA da
/-- one after another, told by functions -/
theorem vl_lcD {ds : List D} (f : D → Bool) (v : D → D) (h : VI C wi Γ (Is ds)) (hz : ds.length ≤ 100000) (k : ∀ d ∈ ds, ∃ Γ1 js, VG C g d (wipeS Γ vs) Γ1 js ∧ (∀ j ∈ js, j ∈ vs) ∧ VT C tt Γ1 (Is (f d)) ∧ (f d = true → VE C te Γ1 (Is (v d)))) :
    VL C (tLc wi g tt te vs) Γ (Is ((ds.filter f).map v)) := vl_lc h fun xs e => by
  cases e
  refine ⟨hz, fun i acc => acc = ((ds.take i).filter f).map v, rfl, fun i d acc hd iv => ?_, fun acc iv => by rw [iv, List.take_length]⟩
  obtain ⟨Γ1, js, hg, hjs, ht, he⟩ := k d (List.mem_of_getElem? hd)
  refine ⟨Γ1, js, hg, hjs, Is (f d), ht, fun e => (he e.symm).imp fun y ey => ?_, fun e => ?_⟩
  · subst ey iv
    rw [List.take_add_one, hd, List.filter_append, List.map_append]
    show _ = _ ++ List.map v (List.filter f [d])
    rw [List.filter_cons, if_pos e.symm] <;> rfl
  · subst iv
    rw [List.take_add_one, hd, List.filter_append, List.map_append]
    show _ = _ ++ List.map v (List.filter f [d])
    rw [List.filter_cons, if_neg (by rw [← e]; decide)]
    exact (List.append_nil _).symm
/-- without a test -/
theorem vl_map {ds : List D} (v : D → D) (h : VI C wi Γ (Is ds)) (hz : ds.length ≤ 100000) (k : ∀ d ∈ ds, ∃ Γ1 js, VG C g d (wipeS Γ vs) Γ1 js ∧ (∀ j ∈ js, j ∈ vs) ∧ VE C te Γ1 (Is (v d))) :
    VL C (tLc wi g tYes te vs) Γ (Is (ds.map v)) := (vl_lcD (fun _ => true) v h hz fun d hd => by
  obtain ⟨Γ1, js, hg, hjs, he⟩ := k d hd
  exact ⟨Γ1, js, hg, hjs, fun B H σ F Q q => q true B H rfl (Stp.refl F.sub), fun _ => he⟩).to (by rw [List.filter_eq_self.mpr fun _ _ => rfl])
theorem vt_yes : VT C tYes Γ (Is true) := fun B H σ F Q q => q true B H rfl (Stp.refl F.sub)
end

/-! ### what is walked -/
section
variable {C : Cn} {Γ : List Sl} {t te : TE} {ta : TA} {ds : List D} {R : D → Prop} {S : List D → Prop} {X : Cx}
theorem vi_list (h : VE C t Γ (fun d => ∃ ds, d = .list ds ∧ S ds)) : VI C (iList C.K t) Γ S := fun B H σ F T q => h B H σ F _ fun d v B1 H1 ⟨ds, e, r⟩ s k => by
  subst e
  obtain ⟨a, xs, rfl, h1, h2⟩ := dp_lst k
  refine ⟨a, rfl, ⟨xs, same_l (F.step s).sub h1⟩, q ds _ B1 H1 _ _ r s (dpall_len h2 ▸ walk_list) (fun B2 H2 e1 e2 => same_l e2 (same_l e1 h1)) ?_⟩
  rintro i x H2 H2' ⟨rfl, hx⟩ B2 d e1 e2 hd
  obtain ⟨v, hv, k2⟩ := dpall_get h2 hd
  rw [hx] at hv
  cases hv
  exact ⟨B2, Stp.refl e2, dp_mono e1 k2⟩
theorem vi_listD (h : VE C t Γ (Is (.list ds))) : VI C (iList C.K t) Γ (Is ds) := vi_list (h.imp fun d e => ⟨ds, e, rfl⟩)
theorem vi_tup (h : VE C t Γ (fun d => ∃ ds, d = .tuple ds ∧ S ds)) : VI C (iTup C.K t) Γ S := fun B H σ F T q => h B H σ F _ fun d v B1 H1 ⟨ds, e, r⟩ s k => by
  subst e
  obtain ⟨a, xs, rfl, h1, h2⟩ := dp_tup k
  refine ⟨a, rfl, ⟨xs, same_t (F.step s).sub h1⟩, q ds _ B1 H1 _ _ r s (dpall_len h2 ▸ walk_tup) (fun B2 H2 e1 e2 => same_t e2 (same_t e1 h1)) ?_⟩
  rintro i x H2 H2' ⟨rfl, hx⟩ B2 d e1 e2 hd
  obtain ⟨v, hv, k2⟩ := dpall_get h2 hd
  rw [hx] at hv
  cases hv
  exact ⟨B2, Stp.refl e2, dp_mono e1 k2⟩
theorem vi_tupD (h : VE C t Γ (Is (.tuple ds))) : VI C (iTup C.K t) Γ (Is ds) := vi_tup (h.imp fun d e => ⟨ds, e, rfl⟩)
/-- the signs of a text, each a text -/
def signs (z : Str) : List D := z.cps.toList.map fun c => .str ⟨#[c]⟩
theorem signs_len (z : Str) : (signs z).length = z.cps.size := by simp [signs]
theorem vi_str {z : Str} (h : VE C t Γ (Is (.str z))) : VI C (iStr t) Γ (Is (signs z)) := fun B H σ F T q => h B H σ F _ fun d v B1 H1 r s k => by
  cases r
  obtain rfl := dp_str k
  refine ⟨z, rfl, q _ _ B1 H1 _ _ rfl s (signs_len z ▸ walk_str) (fun _ _ _ _ => trivial) ?_⟩
  rintro i x H2 H2' ⟨rfl, c, hc, rfl⟩ B2 d e1 e2 hd
  have hd' : (signs z)[i]? = some (.str ⟨#[c]⟩) := by
    unfold signs
    rw [List.getElem?_map, Array.getElem?_toList, hc]
    rfl
  rw [hd'] at hd
  cases hd
  exact ⟨B2, Stp.refl e2, .str _⟩
/-- the ints of a range -/
def upTo (lo : Int) (n : Nat) : List D := (List.range n).map fun i => .int (lo + (i : Nat))
theorem upTo_len (lo : Int) (n : Nat) : (upTo lo n).length = n := by simp [upTo]
theorem upTo_get {lo : Int} {n i : Nat} {d : D} (h : (upTo lo n)[i]? = some d) : i < n ∧ d = .int (lo + (i : Nat)) := by
  unfold upTo at h
  rw [List.getElem?_map] at h
  by_cases hi : i < n
  · rw [List.getElem?_range hi] at h
    cases h
    exact ⟨hi, rfl⟩
  · rw [List.getElem?_eq_none_iff.mpr (by simpa using hi)] at h
    cases h
theorem upTo_mem {lo : Int} {n : Nat} {d : D} (h : d ∈ upTo lo n) : ∃ i, i < n ∧ d = .int (lo + (i : Nat)) := by
  obtain ⟨i, hi⟩ := List.getElem?_of_mem h
  exact ⟨i, upTo_get hi⟩
theorem vi_rng1 {S : List D → Prop} {R : Int → Prop} (h : VE C te Γ (fun d => ∃ n, d = .int n ∧ R n)) (k : ∀ n, R n → -(2 ^ 62) ≤ n ∧ n < 2 ^ 62 ∧ S (upTo 0 n.toNat)) : VI C (iRng1 (tCons te tNil)) Γ S := fun B H σ F T q => h B H σ F _ fun d v B1 H1 ⟨n, e, r⟩ s kd => by
  subst e
  obtain rfl := dp_int kd
  obtain ⟨h1, h2, h3⟩ := k n r
  refine ⟨n, rfl, h1, h2, q _ _ B1 H1 (fun _ => True) (YFn fun i => .int (0 + (i : Nat))) h3 s (by rw [upTo_len]; exact walk_range) (fun _ _ _ _ => trivial) ?_⟩
  rintro i x H2 H2' ⟨rfl, rfl⟩ B2 d e1 e2 hd
  obtain ⟨_, rfl⟩ := upTo_get hd
  exact ⟨B2, Stp.refl e2, .int _⟩
theorem vi_rng1D {n : Int} (h : VE C te Γ (Is (.int n))) (hn : n ≤ 1000000000000 := by omega) (hm : -1000000000000 ≤ n := by omega) : VI C (iRng1 (tCons te tNil)) Γ (Is (upTo 0 n.toNat)) := vi_rng1 (R := Is n) (h.imp fun d e => ⟨n, e, rfl⟩) fun m e => by
  cases e
  exact ⟨by omega, by omega, rfl⟩
theorem vi_rng2D {t2 : TE} {m n : Int} (h : VE C te Γ (Is (.int m))) (h2 : VE C t2 Γ (Is (.int n))) (b : -1000000000000 ≤ m ∧ m ≤ 1000000000000 ∧ -1000000000000 ≤ n ∧ n ≤ 1000000000000) : VI C (iRng2 (tCons te (tCons t2 tNil))) Γ (Is (upTo m (n - m).toNat)) := fun B H σ F T q =>
  h B H σ F _ fun d v B1 H1 e s kd => h2 B1 H1 σ (F.step s) _ fun d2 v2 B2 H2 e2 s2 kd2 => by
    cases e
    cases e2
    obtain rfl := dp_int kd
    obtain rfl := dp_int kd2
    refine ⟨m, n, rfl, ⟨by omega, by omega, by omega, by omega⟩, q _ _ B2 H2 (fun _ => True) (YFn fun i => .int (m + (i : Nat))) rfl (s.trans F.dlNow s2) (by rw [upTo_len]; exact walk_range) (fun _ _ _ _ => trivial) ?_⟩
    rintro i x H3 H3' ⟨rfl, rfl⟩ B3 d e1 e2 hd
    obtain ⟨_, rfl⟩ := upTo_get hd
    exact ⟨B3, Stp.refl e2, .int _⟩
end
end Ly

/-! LyF: what a def promises by data: Pu (data in, data out), De (a source of draws first), their bodies, their calls. -/
namespace Ly
open PySem PySem.Spec PyProof.Rows L2

/-- data in, data out; nothing that stands is changed -/
def Pu (K : PySem.W.Frag) (P : List D → Prop) (R : List D → D → Prop) : Sp := fun vs H Q _ => ∃ B ds, Same B H ∧ DqAll K B vs ds ∧ P ds ∧
  ∀ d v B' H', R ds d → Stp none B H B' H' → Dq K B' v d → Q v H'
/-- the source of draws first, then data -/
def De (K : PySem.W.Frag) (P : List D → Prop) (R : List D → D → Prop) : Sp := fun vs H Q _ => ∃ B p q us ds, vs = .ref p :: us ∧ Same B H ∧ DealAt H p q ∧ B p = none ∧ B q = none ∧ DqAll K B us ds ∧ P ds ∧
  ∀ d v B' H', R ds d → Stp (some (p, q)) B H B' H' → Dq K B' v d → Q v H'

/-- n names more, of which nothing is told -/
def slots (ds : List D) (n : Nat) : List Sl := ds.map Sl.dat ++ List.replicate n Sl.no

theorem start_len {N : List Str} {vs : List V} (h : vs.length ≤ N.length) : (start N vs).length = N.length := by
  unfold L2.start
  rw [List.length_append, List.length_map, List.length_replicate]
  omega
theorem fm_start {K : PySem.W.Frag} {B H : Hp} {vs : List V} {ds : List D} {N : List Str} {n : Nat} (s : Same B H) (hd : DqAll K B vs ds) (hn : ds.length + n = N.length) : Fm ⟨K, B, H, none⟩ B H (start N vs) (slots ds n) := by
  have hl := dpall_len hd
  refine ⟨Stp.refl s, (fun p q e => nomatch e), ?_, fun i sl h => ?_, fun i j p xs ys h => ?_⟩
  · rw [start_len (by omega)]
    simp [slots]
    omega
  · unfold slots at h
    by_cases hi : i < ds.length
    · rw [List.getElem?_append_left (by simpa using hi), List.getElem?_map, List.getElem?_eq_getElem hi] at h
      cases h
      obtain ⟨v, hv, k⟩ := dpall_get hd (List.getElem?_eq_getElem hi)
      refine ⟨v, ?_, k⟩
      unfold L2.start
      rw [List.getElem?_append_left (by simpa using (by omega : i < vs.length)), List.getElem?_map, hv]
      rfl
    · rw [List.getElem?_append_right (by simpa using Nat.le_of_not_lt hi), List.getElem?_replicate] at h
      split at h
      · cases h
        trivial
      · cases h
  · exfalso
    unfold slots at h
    by_cases hi : i < ds.length
    · rw [List.getElem?_append_left (by simpa using hi), List.getElem?_map, List.getElem?_eq_getElem hi] at h
      cases h
    · rw [List.getElem?_append_right (by simpa using Nat.le_of_not_lt hi), List.getElem?_replicate] at h
      split at h <;> cases h
theorem fm_startD {K : PySem.W.Frag} {B H : Hp} {vs : List V} {ds : List D} {N : List Str} {n : Nat} {p q : Addr} (s : Same B H) (hq : DealAt H p q) (h1 : B p = none) (h2 : B q = none) (hd : DqAll K B vs ds) (hn : ds.length + 1 + n = N.length) :
    Fm ⟨K, B, H, some (p, q)⟩ B H (start N (.ref p :: vs)) (.deal :: slots ds n) := by
  have hl := dpall_len hd
  have hst : ∀ i, (start N (.ref p :: vs))[i + 1]? = (vs.map some ++ List.replicate (N.length - (vs.length + 1)) none)[i]? := fun i => rfl
  refine ⟨Stp.refl s, fun p' q' e => ?_, ?_, fun i sl h => ?_, fun i j r xs ys h => ?_⟩
  · cases e
    exact ⟨hq, h1, h2⟩
  · rw [start_len (by rw [List.length_cons]; omega)]
    simp [slots]
    omega
  · cases i with
    | zero =>
      cases h
      exact ⟨p, q, rfl, rfl⟩
    | succ i =>
      rw [hst i]
      have h : (slots ds n)[i]? = some sl := h
      unfold slots at h
      by_cases hi : i < ds.length
      · rw [List.getElem?_append_left (by simpa using hi), List.getElem?_map, List.getElem?_eq_getElem hi] at h
        cases h
        obtain ⟨v, hv, k⟩ := dpall_get hd (List.getElem?_eq_getElem hi)
        refine ⟨v, ?_, k⟩
        rw [List.getElem?_append_left (by simpa using (by omega : i < vs.length)), List.getElem?_map, hv]
        rfl
      · rw [List.getElem?_append_right (by simpa using Nat.le_of_not_lt hi), List.getElem?_replicate] at h
        split at h
        · cases h
          trivial
        · cases h
  · exfalso
    cases i with
    | zero => cases h
    | succ i =>
      have h : (slots ds n)[i]? = some (.own xs) := h
      unfold slots at h
      by_cases hi : i < ds.length
      · rw [List.getElem?_append_left (by simpa using hi), List.getElem?_map, List.getElem?_eq_getElem hi] at h
        cases h
      · rw [List.getElem?_append_right (by simpa using Nat.le_of_not_lt hi), List.getElem?_replicate] at h
        split at h <;> cases h

section
variable {P0 : Program} {w : World} {K : PySem.W.Frag} {mg : Str → Option Value} {base : Heap} {k : Nat} {f : Addr} {fd : FuncData} {ps N : List Str} {x qual : Str} {st : Stmt} {P : List D → Prop} {R : List D → D → Prop} {n : Nat}
/-- a def of data, by its body -/
theorem pu_ok (n : Nat) (F : Fun K x qual st f fd) (S : FnScope N ps (defScope st)) (hl : ∀ ds, P ds → ds.length = ps.length) (hn : ps.length + n = N.length)
    (body : ∀ (cdv : Value) (A : Around) (outer : List Env) (s : Shared) (H : Hp) (E : XK), (cxOf CX0 P0 w K mg base N qual (defScope st) f cdv A outer s H E).A.guards = some [] → Room k (cxOf CX0 P0 w K mg base N qual (defScope st) f cdv A outer s H E).A →
      ∃ t, PSs (cxOf CX0 P0 w K mg base N qual (defScope st) f cdv A outer s H E).nox (defBody st) t ∧ ∀ B H ds, P ds → VS ⟨K, B, H, none⟩ t (slots ds n) { nx := fun _ => R ds .none, rt := R ds }) :
    GOk P0 w K mg base CX0 (k + 1) f fd ps (Pu K P R) := by
  refine gok_of F S (fun {vs H Q E} ⟨B, ds, _, h1, h2, _⟩ => (dpall_len h1).trans (hl ds h2)) fun cdv A outer s H vs Q E hg hr ⟨B, ds, hs, h1, h2, hq⟩ => ?_
  obtain ⟨t, ht, hv⟩ := body cdv A outer s H E hg hr
  refine ⟨t, ht.nox, hv B H ds h2 B H (L2.start N vs) _ (fm_start hs h1 (by rw [hl ds h2]; exact hn)) ?_ ?_ (fun _ _ _ _ e => e.elim) fun _ _ _ _ e => e.elim⟩
  · exact fun Γ' B' H' σ' r _ F' => hq _ _ B' H' r F'.st .non
  · exact fun d v B' H' r s' kd => hq d v B' H' r s' kd
/-- a def that draws, by its body -/
theorem de_ok (n : Nat) (F : Fun K x qual st f fd) (S : FnScope N ps (defScope st)) (hl : ∀ ds, P ds → ds.length + 1 = ps.length) (hn : ps.length + n = N.length)
    (body : ∀ (cdv : Value) (A : Around) (outer : List Env) (s : Shared) (H : Hp) (E : XK), (cxOf CX0 P0 w K mg base N qual (defScope st) f cdv A outer s H E).A.guards = some [] → Room k (cxOf CX0 P0 w K mg base N qual (defScope st) f cdv A outer s H E).A →
      ∃ t, PSs (cxOf CX0 P0 w K mg base N qual (defScope st) f cdv A outer s H E).nox (defBody st) t ∧ ∀ B H p q ds, P ds → VS ⟨K, B, H, some (p, q)⟩ t (.deal :: slots ds n) { nx := fun _ => R ds .none, rt := R ds }) :
    GOk P0 w K mg base CX0 (k + 1) f fd ps (De K P R) := by
  refine gok_of F S (fun {vs H Q E} ⟨B, p, q, us, ds, e, _, _, _, _, h1, h2, _⟩ => by rw [e, List.length_cons, dpall_len h1]; exact hl ds h2) fun cdv A outer s H vs Q E hg hr ⟨B, p, q, us, ds, e, hs, hd, hB1, hB2, h1, h2, hq⟩ => ?_
  subst e
  obtain ⟨t, ht, hv⟩ := body cdv A outer s H E hg hr
  refine ⟨t, ht.nox, hv B H p q ds h2 B H (L2.start N (.ref p :: us)) _ (fm_startD hs hd hB1 hB2 h1 (by rw [hl ds h2]; exact hn)) ?_ ?_ (fun _ _ _ _ e => e.elim) fun _ _ _ _ e => e.elim⟩
  · exact fun Γ' B' H' σ' r _ F' => hq _ _ B' H' r F'.st .non
  · exact fun d v B' H' r s' kd => hq d v B' H' r s' kd
end

/-! ### calls by data -/
section
variable {C : Cn} {A A' : TA} {Γ : List Sl} {S S' : List D → Prop} {R : D → Prop} {P : List D → Prop} {R' : List D → D → Prop} {E : XK} {gV : List V → List V → List V} {i : Nat} {ds es : List D} {d : D}
theorem ve_pu (gD : List D → List D → List D) (h : VA C A Γ S) (h' : VA C A' Γ S') (hg : ∀ B vs zs ds es, DqAll C.K B vs ds → DqAll C.K B zs es → DqAll C.K B (gV vs zs) (gD ds es))
    (k : ∀ ds es, S ds → S' es → P (gD ds es) ∧ ∀ d, R' (gD ds es) d → R d) : VE C (tCallK (Pu C.K P R') gV E A A') Γ R := fun B H σ F Q q =>
  h B H σ F _ fun ds vs B1 H1 r1 s1 k1 => h' B1 H1 σ (F.step s1) _ fun es zs B2 H2 r2 s2 k2 => by
    obtain ⟨hP, hR⟩ := k ds es r1 r2
    refine ⟨B2, gD ds es, ((F.step s1).step s2).sub, hg B2 vs zs ds es (dpall_mono s2.ext k1) k2, hP, fun d v B3 H3 r3 s3 k3 => ?_⟩
    exact q d v B3 H3 (hR d r3) ((s1.trans F.dlNow s2).trans F.dlNow s3.any) k3
/-- by place -/
theorem ve_call (h : VA C A Γ S) (k : ∀ ds, S ds → P ds ∧ ∀ d, R' ds d → R d) : VE C (tCallK (Pu C.K P R') (fun vs _ => vs) E A tNil) Γ R :=
  ve_pu (fun ds _ => ds) h va_nil (fun _ _ _ _ _ k1 _ => k1) fun ds es r _ => k ds r
theorem ve_callD (h : VA C A Γ (Is ds)) (hP : P ds) : VE C (tCallK (Pu C.K P R') (fun vs _ => vs) E A tNil) Γ (R' ds) := ve_call h fun xs e => by
  cases e
  exact ⟨hP, fun _ r => r⟩
theorem ve_de (hi : Γ[i]? = some .deal) (h : VA C A Γ S) (k : ∀ ds, S ds → P ds ∧ ∀ d, R' ds d → R d) : VE C (tCallK (De C.K P R') (fun vs _ => vs) E (tCons (tVar i) A) tNil) Γ R := fun B H σ F Q q => by
  obtain ⟨p, r, e, hs⟩ := F.slot i _ hi
  refine ⟨.ref p, hs, h B H σ F _ fun ds vs B1 H1 r1 s1 k1 => ?_⟩
  obtain ⟨hP, hR⟩ := k ds r1
  have F1 := F.step s1
  obtain ⟨n1, n2⟩ := F1.dlOut e
  refine ⟨B1, p, r, vs, ds, rfl, F1.sub, F1.dlNow p r e, n1, n2, k1, hP, fun d v B3 H3 r3 s3 k3 => ?_⟩
  rw [← e] at s3
  exact q d v B3 H3 (hR d r3) (s1.trans F.dlNow s3) k3
theorem ve_deD (hi : Γ[i]? = some .deal) (h : VA C A Γ (Is ds)) (hP : P ds) : VE C (tCallK (De C.K P R') (fun vs _ => vs) E (tCons (tVar i) A) tNil) Γ (R' ds) := ve_de hi h fun xs e => by
  cases e
  exact ⟨hP, fun _ r => r⟩
end
end Ly

/-! LyG: operations, subscripts, slices, built-ins by data. -/
namespace Ly
open PySem PySem.Spec PyProof.Rows L2

/-! ### rules for every kind of operand -/
section
variable {X : Cx}
/-- list + list, tracked or known to the object -/
def rCatR : R2 := fun x y H Q => ∃ l b xs zs, x = .ref l ∧ y = .ref b ∧ Rd H l (.lst xs) ∧ Rd H b (.lst zs) ∧ xs.length + zs.length ≤ sizeLine ∧ ∀ p, H p = none → Q (.ref p) (upd H p (.lst (xs ++ zs)))
theorem rd_lst {pins : List (Addr × Obj)} {s : Shared} {σ : L2.St} {H : Hp} {a : Addr} {xs : List V} (I : Inv X pins σ H s) (h : Rd H a (.lst xs)) : ∃ (its : List Value) (n : Nat), Vals xs its ∧ s.heap.get? a = some { cls := .type "list", data := .seq its.toArray n } := by
  obtain ⟨_, its, n, r, e⟩ := h.ok I.hok
  exact ⟨its, n, r, e⟩
theorem op_catR : OpR X (binaryOp .Add) rCatR := by
  intro pins s σ H x y v u Q I rx ry h
  obtain ⟨l, b, xs, zs, rfl, rfl, hl, hb, hz, q⟩ := h
  cases rx
  cases ry
  obtain ⟨its, n, r, e⟩ := rd_lst I hl
  obtain ⟨its2, n2, r2, e2⟩ := rd_lst I hb
  have l1 := r.length
  have l2 := r2.length
  apply PySem.P.add_list e e2 _ (by rw [List.size_toArray, List.size_toArray]; omega)
  have J := I.lnew (t' := s.toks) (r.append r2) (by rw [List.length_append]; omega)
  rw [show its.toArray ++ its2.toArray = (its ++ its2).toArray by simp]
  exact ⟨V.ref s.heap.objs.size, _, J, rfl, q _ I.fresh⟩
def rAddS : R2 := fun x y H Q => ∃ i j, x = .str i ∧ y = .str j ∧ i.length + j.length ≤ sizeLine ∧ Q (.str (i ++ j)) H
def rAddA (K : PySem.W.Frag) : R2 := fun x y H Q => rI0 (fun i j => .int (i + j)) x y H Q ∨ (rAddS x y H Q ∨ (rCatR x y H Q ∨ rCatA K x y H Q))
theorem oq_add : OpR X (binaryOp .Add) (rAddA X.K) := OpR.or op_add (OpR.or op_add_str (OpR.or op_catR op_catA))
def rEqA (K : PySem.W.Frag) : R2 := fun x y H Q => rEq x y H Q ∨ rEqD K x y H Q
def rNeA (K : PySem.W.Frag) : R2 := fun x y H Q => rNe x y H Q ∨ rNeD K x y H Q
theorem oq_eq {k : Nat} (hr : Room k X.A) : OpR X (compareOp .Eq) (rEqA X.K) := OpR.or op_eq (op_eqD hr.units)
theorem oq_ne {k : Nat} (hr : Room k X.A) : OpR X (compareOp .NotEq) (rNeA X.K) := OpR.or op_ne (op_neD hr.units)
def rLtS : R2 := fun x y H Q => ∃ i j, x = .str i ∧ y = .str j ∧ Q (.bl (decide (i.cps.toList < j.cps.toList))) H
def rLeS : R2 := fun x y H Q => ∃ i j, x = .str i ∧ y = .str j ∧ Q (.bl (!decide (j.cps.toList < i.cps.toList))) H
def rLtA : R2 := fun x y H Q => rI0 (fun i j => .bl (decide (i < j))) x y H Q ∨ rLtS x y H Q
def rLeA : R2 := fun x y H Q => rI0 (fun i j => .bl (decide (i ≤ j))) x y H Q ∨ rLeS x y H Q
theorem oq_lt : OpR X (compareOp .Lt) rLtA := OpR.or op_lt op_lt_str
theorem oq_le : OpR X (compareOp .LtE) rLeA := OpR.or op_le op_le_str
def rInSg : R2 := fun x y H Q => ∃ (c : Nat) (z : Str), x = .str ⟨#[c]⟩ ∧ y = .str z ∧ Q (.bl (decide (c ∈ z.cps.toList))) H
def rInA (K : PySem.W.Frag) : R2 := fun x y H Q => rInSg x y H Q ∨ (rIn K false x y H Q ∨ rInD K x y H Q)
theorem oq_in {k : Nat} (hr : Room k X.A) : OpR X (compareOp .In) (rInA X.K) := OpR.or op_in_sign (OpR.or op_in_seq (op_inD (by have := hr.un; omega)))
def rNotInSg : R2 := fun x y H Q => ∃ (c : Nat) (z : Str), x = .str ⟨#[c]⟩ ∧ y = .str z ∧ Q (.bl (!decide (c ∈ z.cps.toList))) H
def rNotInA (K : PySem.W.Frag) : R2 := fun x y H Q => rNotInSg x y H Q ∨ (rIn K true x y H Q ∨ rNotInD K x y H Q)
theorem oq_notin {k : Nat} (hr : Room k X.A) : OpR X (compareOp .NotIn) (rNotInA X.K) := OpR.or op_notIn_sign (OpR.or op_notIn_seq (op_notInD (by have := hr.un; omega)))
def rSlany (K : PySem.W.Frag) : V → Option Int → Option Int → Hp → VK → Prop := fun x lo hi H Q => rSlL K x lo hi H Q ∨ (rSlA K x lo hi H Q ∨ rSlS x lo hi H Q)
theorem sq_any : SlR X (rSlany X.K) := SlR.or sl_list (SlR.or sl_tupA sl_str)
/-- repr of data -/
def rRepr (K : PySem.W.Frag) : List V → Hp → VK → Prop := fun xs H Q => ∃ x d, xs = [x] ∧ Dp K H x d ∧ d.showable = true ∧ d.hasDict = false ∧ d.depth ≤ 100 ∧ d.shown.length ≤ sizeLine ∧ Q (.str d.shown) H
theorem cq_repr {k : Nat} (hg : X.A.guards = some []) (hr : Room k X.A) : CallR X (.builtin "repr") (rRepr X.K) := by
  intro pins s σ H xs us Q I r h
  obtain ⟨x, d, rfl, hd, h1, h2, h3, h4, q⟩ := h
  obtain ⟨u, rfl, ru⟩ := vals1 r
  obtain ⟨as, rd⟩ := Dp.reads I d x u hd ru
  have fin : ∀ (h' : Heap) (tk tk2 : Tok), (∀ b o, s.heap.get? b = some o → h'.get? b = some o) → EP X pins σ Q (.str d.shown tk) { s with heap := h', toks := tk2 } := fun h' tk tk2 hk => ⟨V.str d.shown, H, I.kept hk, ⟨tk, rfl⟩, q⟩
  cases rd with
  | none =>
    simp only [PyData.shown] at fin
    exact PySem.P.repr_of_none (fin s.heap s.toks (s.toks + 1) fun _ _ e => e)
  | bool b =>
    simp only [PyData.shown] at fin
    exact PySem.P.repr_of_bool (fin s.heap s.toks (s.toks + 1) fun _ _ e => e)
  | int i t =>
    simp only [PyData.shown] at fin
    exact PySem.P.repr_of_int (by simpa [PyData.showable] using h1) (fin s.heap s.toks (s.toks + 1) fun _ _ e => e)
  | str z t =>
    simp only [PyData.shown] at fin
    exact PySem.P.repr_of_str (fin s.heap s.toks (s.toks + 1) fun _ _ e => e) (by simpa [PyData.shown] using h4)
  | list e1 e2 e3 e4 => exact repr_of_reads' (.list e1 e2 e3 e4) h1 (fun z => by rw [h2] at z; cases z) hg (by have := hr.un; omega) (fun _ _ e => e) (fun h' tk tk2 hk => fin h' tk tk2 hk) h4
  | tuple e1 e2 e3 e4 => exact repr_of_reads' (.tuple e1 e2 e3 e4) h1 (fun z => by rw [h2] at z; cases z) hg (by have := hr.un; omega) (fun _ _ e => e) (fun h' tk tk2 hk => fin h' tk tk2 hk) h4
  | dict e1 e2 e3 e4 e5 => simp [PyData.hasDict] at h2
end

/-! ### by data -/
section
variable {C : Cn} {Γ : List Sl} {x y z : D} {ds es : List D} {i j : Int} {s t : Str} {R : D → Prop}
theorem od_I0 {g : Int → Int → V} {f : D} (h : ∀ B, Dq C.K B (g i j) f) : OD C (rI0 g) (.int i) (.int j) (Is f) := fun B H v u e k1 k2 Q q => by
  obtain rfl := k1.int
  obtain rfl := k2.int
  exact ⟨i, j, rfl, rfl, q _ _ B H rfl (Stp.refl e) (h B)⟩
theorem od_I {c : Int → Int → Prop} {g : Int → Int → V} {f : D} (hc : c i j) (h : ∀ B, Dq C.K B (g i j) f) : OD C (rI c g) (.int i) (.int j) (Is f) := fun B H v u e k1 k2 Q q => by
  obtain rfl := k1.int
  obtain rfl := k2.int
  exact ⟨i, j, rfl, rfl, hc, q _ _ B H rfl (Stp.refl e) (h B)⟩
theorem od_add : OD C (rAddA C.K) (.int i) (.int j) (Is (.int (i + j))) := fun B H v u e k1 k2 Q q => Or.inl (od_I0 (C := C) (g := fun i j => .int (i + j)) (fun _ => .int _) B H v u e k1 k2 Q q)
theorem od_sub : OD C (rI0 fun i j => .int (i - j)) (.int i) (.int j) (Is (.int (i - j))) := od_I0 fun _ => .int _
theorem od_mul (h : CMulW i j) : OD C (rI CMulW fun i j => .int (i * j)) (.int i) (.int j) (Is (.int (i * j))) := od_I h fun _ => .int _
theorem od_fdiv (h : 0 < j) (h2 : j < 2 ^ 64) : OD C (rI CDivW fun i j => .int (i / j)) (.int i) (.int j) (Is (.int (i / j))) := od_I (wide_div (b := 64) h (by omega) (by decide) (by decide)) fun _ => .int _
theorem od_mod (h : 0 < j) : OD C (rI (fun _ j => 0 < j) fun i j => .int (i % j)) (.int i) (.int j) (Is (.int (i % j))) := od_I h fun _ => .int _
theorem od_pow (h : 0 ≤ j ∧ j ≤ 1000000 ∧ i.natAbs < 2 ^ 64) : OD C (rI CPow fun i j => .int (i ^ j.toNat)) (.int i) (.int j) (Is (.int (i ^ j.toNat))) := od_I h fun _ => .int _
theorem od_shl (h : 0 ≤ j ∧ j ≤ 1000000 ∧ i.natAbs < 2 ^ 64) : OD C (rI CPow fun i j => .int (i * 2 ^ j.toNat)) (.int i) (.int j) (Is (.int (i * 2 ^ j.toNat))) := od_I h fun _ => .int _
theorem od_shr (h : 0 ≤ j) : OD C (rI (fun _ j => 0 ≤ j) fun i j => .int (i / 2 ^ j.toNat)) (.int i) (.int j) (Is (.int (i / 2 ^ j.toNat))) := od_I h fun _ => .int _
theorem od_lt : OD C rLtA (.int i) (.int j) (Is (.bool (decide (i < j)))) := fun B H v u e k1 k2 Q q => Or.inl (od_I0 (C := C) (g := fun i j => .bl (decide (i < j))) (fun _ => .bl _) B H v u e k1 k2 Q q)
theorem od_le : OD C rLeA (.int i) (.int j) (Is (.bool (decide (i ≤ j)))) := fun B H v u e k1 k2 Q q => Or.inl (od_I0 (C := C) (g := fun i j => .bl (decide (i ≤ j))) (fun _ => .bl _) B H v u e k1 k2 Q q)
theorem od_gt : OD C (rI0 fun i j => .bl (decide (j < i))) (.int i) (.int j) (Is (.bool (decide (j < i)))) := od_I0 fun _ => .bl _
theorem od_ge : OD C (rI0 fun i j => .bl (decide (j ≤ i))) (.int i) (.int j) (Is (.bool (decide (j ≤ i)))) := od_I0 fun _ => .bl _
theorem od_ltS : OD C rLtA (.str s) (.str t) (Is (.bool (decide (s.cps.toList < t.cps.toList)))) := fun B H v u e k1 k2 Q q => by
  obtain rfl := k1.str
  obtain rfl := k2.str
  exact Or.inr ⟨s, t, rfl, rfl, q _ _ B H rfl (Stp.refl e) (.bl _)⟩
theorem od_leS : OD C rLeA (.str s) (.str t) (Is (.bool (!decide (t.cps.toList < s.cps.toList)))) := fun B H v u e k1 k2 Q q => by
  obtain rfl := k1.str
  obtain rfl := k2.str
  exact Or.inr ⟨s, t, rfl, rfl, q _ _ B H rfl (Stp.refl e) (.bl _)⟩
theorem od_addS (h : s.length + t.length ≤ sizeLine) : OD C (rAddA C.K) (.str s) (.str t) (Is (.str (s ++ t))) := fun B H v u e k1 k2 Q q => by
  obtain rfl := k1.str
  obtain rfl := k2.str
  exact Or.inr (Or.inl ⟨s, t, rfl, rfl, h, q _ _ B H rfl (Stp.refl e) (.str _)⟩)
theorem od_catT (h : ds.length + es.length ≤ 100000) : OD C (rAddA C.K) (.tuple ds) (.tuple es) (Is (.tuple (ds ++ es))) := fun B H v u e k1 k2 Q q => by
  obtain ⟨a, xs, rfl, h1, h2⟩ := k1.tup e
  obtain ⟨b, ys, rfl, g1, g2⟩ := k2.tup e
  have l1 := dpall_len h2
  have l2 := dpall_len g2
  refine Or.inr (Or.inr (Or.inr ⟨a, b, xs, ys, rfl, rfl, h1, g1, by rw [l1, l2]; exact sz5 h, fun z => ?_, fun _ z => ?_, fun _ _ p hp => ?_⟩))
  · subst z
    cases h2
    rcases k2 with k2 | ⟨_, _, _, _, z, _⟩
    · exact q _ _ B H rfl (Stp.refl e) k2
    · cases z
  · subst z
    cases g2
    rcases k1 with k1 | ⟨_, _, _, _, z, _⟩
    · rw [List.append_nil] at q
      exact q _ _ B H rfl (Stp.refl e) k1
    · cases z
  · exact q _ _ _ _ rfl (Stp.new e hp) (.tup (Or.inl (Or.inl upd_same)) (dpall_mono (Stp.new (dl := C.dl) e hp).ext (dpall_app h2 g2)))
theorem ol_cat (h : ds.length + es.length ≤ 100000) : OL C (rAddA C.K) (.list ds) (.list es) (Is (ds ++ es)) := fun B H v u e k1 k2 Q q => by
  obtain ⟨a, xs, rfl, h1, h2⟩ := k1.lstR e
  obtain ⟨b, ys, rfl, g1, g2⟩ := k2.lstR e
  have l1 := dpall_len h2
  have l2 := dpall_len g2
  exact Or.inr (Or.inr (Or.inl ⟨a, b, xs, ys, rfl, rfl, h1, g1, by rw [l1, l2]; exact sz5 h, fun p hp => q _ p (xs ++ ys) B _ rfl (Stp.newM e hp) hp (e.free hp) upd_same (dpall_app h2 g2)⟩))
/-- == of any data -/
theorem od_eq (h1 : SeqAt.shaped x = true) (h2 : SeqAt.shaped y = true) : OD C (rEqA C.K) x y (Is (.bool (PyData.eqv x y))) := fun B H v u e k1 k2 Q q =>
  Or.inr ⟨x, y, (k1.now e).dp, (k2.now e).dp, h1, h2, q _ _ B H rfl (Stp.refl e) (.bl _)⟩
theorem od_ne (h1 : SeqAt.shaped x = true) (h2 : SeqAt.shaped y = true) : OD C (rNeA C.K) x y (Is (.bool (!PyData.eqv x y))) := fun B H v u e k1 k2 Q q =>
  Or.inr ⟨x, y, (k1.now e).dp, (k2.now e).dp, h1, h2, q _ _ B H rfl (Stp.refl e) (.bl _)⟩
/-- of ints, of texts -/
theorem od_eqI : OD C (rEqA C.K) (.int i) (.int j) (Is (.bool (decide (i = j)))) := fun B H v u e k1 k2 Q q => by
  obtain rfl := k1.int
  obtain rfl := k2.int
  refine Or.inl ⟨rfl, ?_⟩
  rw [show decide (V.int i = V.int j) = decide (i = j) from decide_eq_decide.mpr ⟨fun h => V.int.inj h, fun h => by rw [h]⟩]
  exact q _ _ B H rfl (Stp.refl e) (.bl _)
theorem od_neI : OD C (rNeA C.K) (.int i) (.int j) (Is (.bool (!decide (i = j)))) := fun B H v u e k1 k2 Q q => by
  obtain rfl := k1.int
  obtain rfl := k2.int
  refine Or.inl ⟨rfl, ?_⟩
  rw [show decide (V.int i = V.int j) = decide (i = j) from decide_eq_decide.mpr ⟨fun h => V.int.inj h, fun h => by rw [h]⟩]
  exact q _ _ B H rfl (Stp.refl e) (.bl _)
theorem od_eqS : OD C (rEqA C.K) (.str s) (.str t) (Is (.bool (decide (s = t)))) := fun B H v u e k1 k2 Q q => by
  obtain rfl := k1.str
  obtain rfl := k2.str
  refine Or.inl ⟨rfl, ?_⟩
  rw [show decide (V.str s = V.str t) = decide (s = t) from decide_eq_decide.mpr ⟨fun h => V.str.inj h, fun h => by rw [h]⟩]
  exact q _ _ B H rfl (Stp.refl e) (.bl _)
theorem od_neS : OD C (rNeA C.K) (.str s) (.str t) (Is (.bool (!decide (s = t)))) := fun B H v u e k1 k2 Q q => by
  obtain rfl := k1.str
  obtain rfl := k2.str
  refine Or.inl ⟨rfl, ?_⟩
  rw [show decide (V.str s = V.str t) = decide (s = t) from decide_eq_decide.mpr ⟨fun h => V.str.inj h, fun h => by rw [h]⟩]
  exact q _ _ B H rfl (Stp.refl e) (.bl _)
/-- x is None -/
def isNone : D → Bool
  | .none => true
  | _ => false
def rIsNo : R2 := fun x y H Q => y = .non ∧ Q (.bl (decide (x = .non))) H
def rNotNo : R2 := fun x y H Q => y = .non ∧ Q (.bl (!decide (x = .non))) H
theorem oq_isN {X : Cx} : OpR X (compareOp .Is) rIsNo := op_isN
theorem oq_notN {X : Cx} : OpR X (compareOp .IsNot) rNotNo := op_notN
theorem vw_none {B H : Hp} {v : V} (k : Vw C B H v x) : decide (v = .non) = isNone x := by
  rcases k with k | ⟨_, _, _, rfl, rfl, _⟩
  · cases k <;> rfl
  · rfl
theorem od_isN : OD C rIsNo x .none (Is (.bool (isNone x))) := fun B H v u e k1 k2 Q q => ⟨k2.non, by rw [vw_none k1]; exact q _ _ B H rfl (Stp.refl e) (.bl _)⟩
theorem od_notN : OD C rNotNo x .none (Is (.bool (!isNone x))) := fun B H v u e k1 k2 Q q => ⟨k2.non, by rw [vw_none k1]; exact q _ _ B H rfl (Stp.refl e) (.bl _)⟩
/-- a sign in a text -/
theorem od_inSg {c : Nat} : OD C (rInA C.K) (.str ⟨#[c]⟩) (.str s) (Is (.bool (decide (c ∈ s.cps.toList)))) := fun B H v u e k1 k2 Q q => by
  obtain rfl := k1.str
  obtain rfl := k2.str
  exact Or.inl ⟨c, s, rfl, rfl, q _ _ B H rfl (Stp.refl e) (.bl _)⟩
/-- in a list of any data -/
theorem od_inL (h1 : SeqAt.shaped x = true) (h2 : SeqAt.shaped (.list ds) = true) : OD C (rInA C.K) x (.list ds) (Is (.bool (ds.any fun z => PyData.eqv z x))) := fun B H v u e k1 k2 Q q =>
  Or.inr (Or.inr ⟨x, ds, (k1.now e).dp, (k2.now e).dp, h1, h2, q _ _ B H rfl (Stp.refl e) (.bl _)⟩)
theorem od_notinL (h1 : SeqAt.shaped x = true) (h2 : SeqAt.shaped (.list ds) = true) : OD C (rNotInA C.K) x (.list ds) (Is (.bool (!ds.any fun z => PyData.eqv z x))) := fun B H v u e k1 k2 Q q =>
  Or.inr (Or.inr ⟨x, ds, (k1.now e).dp, (k2.now e).dp, h1, h2, q _ _ B H rfl (Stp.refl e) (.bl _)⟩)
/-! flat things in a list or tuple -/
def flatD : D → Bool
  | .none | .bool _ | .int _ | .str _ => true
  | _ => false
theorem flat_v {K : PySem.W.Frag} {H : Hp} {v : V} (h : flatD x = true) (k : Dq K H v x) : flatV v = true := by
  cases k <;> first | rfl | cases h
theorem flat_all {K : PySem.W.Frag} {H : Hp} : ∀ {vs : List V} {ds : List D}, ds.all flatD = true → DqAll K H vs ds → vs.all flatV = true
  | _, _, _, .nil => rfl
  | _, _, h, .cons h1 h2 => by
    rw [List.all_cons, Bool.and_eq_true] at h
    rw [List.all_cons, flat_v h.1 h1, flat_all h.2 h2]
    rfl
theorem flat_eqv {K : PySem.W.Frag} {H : Hp} {v u : V} (hx : flatD x = true) (hy : flatD y = true) (k1 : Dq K H v x) (k2 : Dq K H u y) : eqV v u = PyData.eqv x y := by
  cases k1 <;> cases k2 <;> simp_all [flatD, eqV, PyData.eqv]
theorem flat_any {K : PySem.W.Frag} {H : Hp} {v : V} (hx : flatD x = true) (k : Dq K H v x) : ∀ {vs : List V} {ds : List D}, ds.all flatD = true → DqAll K H vs ds → inV v vs = ds.any fun z => PyData.eqv z x
  | _, _, _, .nil => rfl
  | _, _, h, .cons h1 h2 => by
    rw [List.all_cons, Bool.and_eq_true] at h
    show (eqV _ v || inV v _) = _
    rw [flat_eqv h.1 hx h1 k, flat_any hx k h.2 h2]
    rfl
theorem vw_flat {B H : Hp} {v : V} (hx : flatD x = true) (k : Vw C B H v x) : Dq C.K B v x := by
  rcases k with k | ⟨_, _, _, _, rfl, _⟩
  · exact k
  · cases hx
theorem od_inT (h1 : flatD x = true) (h2 : ds.all flatD = true) : OD C (rInA C.K) x (.tuple ds) (Is (.bool (ds.any fun z => PyData.eqv z x))) := fun B H v u e k1 k2 Q q => by
  obtain ⟨a, xs, rfl, g1, g2⟩ := k2.tup e
  have kx := vw_flat h1 k1
  refine Or.inr (Or.inl ⟨a, xs, rfl, Or.inr g1, flat_v h1 kx, flat_all h2 g2, ?_⟩)
  rw [if_neg Bool.false_ne_true, flat_any h1 kx h2 g2]
  exact q _ _ B H rfl (Stp.refl e) (.bl _)
theorem od_notinT (h1 : flatD x = true) (h2 : ds.all flatD = true) : OD C (rNotInA C.K) x (.tuple ds) (Is (.bool (!ds.any fun z => PyData.eqv z x))) := fun B H v u e k1 k2 Q q => by
  obtain ⟨a, xs, rfl, g1, g2⟩ := k2.tup e
  have kx := vw_flat h1 k1
  refine Or.inr (Or.inl ⟨a, xs, rfl, Or.inr g1, flat_v h1 kx, flat_all h2 g2, ?_⟩)
  rw [if_pos rfl, flat_any h1 kx h2 g2]
  exact q _ _ B H rfl (Stp.refl e) (.bl _)
/-! subscripts -/
theorem at_len {α β : Type} {xs : List α} {ys : List β} (h : xs.length = ys.length) {m : Nat} (e : ixN ys.length i = some m) : atI xs i = xs[m]? := by
  unfold atI
  rw [h, e]
  rfl
theorem at_get {α : Type} {xs : List α} {v : α} (h : atI xs i = some v) : ∃ m, ixN xs.length i = some m ∧ xs[m]? = some v := by
  unfold atI at h
  cases e : ixN xs.length i with
  | none =>
    rw [e] at h
    cases h
  | some m =>
    rw [e] at h
    exact ⟨m, rfl, h⟩
theorem od_ixL (h : atI ds i = some z) : OD C (rIx C.K) (.list ds) (.int i) (Is z) := fun B H v u e k1 k2 Q q => by
  obtain ⟨a, xs, rfl, h1, h2⟩ := k1.lst e
  obtain rfl := k2.int
  obtain ⟨m, hm, hz⟩ := at_get h
  obtain ⟨w, hw, kw⟩ := dpall_get h2 hz
  exact Or.inl ⟨a, xs, i, w, rfl, rfl, h1, (at_len (dpall_len h2) hm).trans hw, q _ _ B H rfl (Stp.refl e) kw⟩
theorem od_ixT (h : atI ds i = some z) : OD C (rIx C.K) (.tuple ds) (.int i) (Is z) := fun B H v u e k1 k2 Q q => by
  obtain ⟨a, xs, rfl, h1, h2⟩ := k1.tup e
  obtain rfl := k2.int
  obtain ⟨m, hm, hz⟩ := at_get h
  obtain ⟨w, hw, kw⟩ := dpall_get h2 hz
  exact Or.inr (Or.inl ⟨a, xs, i, w, rfl, rfl, h1, (at_len (dpall_len h2) hm).trans hw, q _ _ B H rfl (Stp.refl e) kw⟩)
theorem od_ixS {c : Nat} (hz : s.length ≤ 1000000) (h : atI s.cps.toList i = some c) : OD C (rIx C.K) (.str s) (.int i) (Is (.str ⟨#[c]⟩)) := fun B H v u e k1 k2 Q q => by
  obtain rfl := k1.str
  obtain rfl := k2.int
  exact Or.inr (Or.inr ⟨s, i, c, rfl, rfl, Nat.le_trans hz (by decide), h, q _ _ B H rfl (Stp.refl e) (.str _)⟩)
theorem atI_pos {α : Type} {xs : List α} {m : Nat} {v : α} (h : xs[m]? = some v) : atI xs (m : Int) = some v := by
  have hl := (List.getElem?_eq_some_iff.mp h).1
  unfold atI ixN
  rw [if_pos (by omega), if_pos (by omega)]
  exact h
theorem atI_neg1 {α : Type} {xs : List α} {v : α} (h : xs.getLast? = some v) : atI xs (-1) = some v := by
  have hl : xs ≠ [] := fun z => by
    subst z
    cases h
  have hp : 0 < xs.length := List.length_pos_iff.mpr hl
  unfold atI ixN
  rw [if_neg (by omega), if_pos (by omega)]
  show xs[((-1 : Int) + xs.length).toNat]? = some v
  rw [show ((-1 : Int) + xs.length).toNat = xs.length - 1 by omega, ← List.getLast?_eq_getElem?]
  exact h
/-! slices -/
def cut {α : Type} (xs : List α) (lo hi : Option Int) : List α := (xs.drop (HT.sIx xs.length 0 lo)).take (HT.sIx xs.length xs.length hi - HT.sIx xs.length 0 lo)
theorem cut_dq {K : PySem.W.Frag} {H : Hp} {vs : List V} (lo hi : Option Int) (h : DqAll K H vs ds) : DqAll K H (cutV vs lo hi) (cut ds lo hi) := by
  unfold cutV cut
  rw [dpall_len h]
  exact dpall_take _ (dpall_drop _ h)
variable {t1 : TE} {tl th : TO} {lo hi : Option Int}
theorem vl_sl {S : List D → Prop} (h : VV C t1 Γ (fun d => ∃ ds, d = .list ds ∧ S ds)) (h1 : VO C tl Γ (Is lo)) (h2 : VO C th Γ (Is hi)) : VL C (tSl (rSlany C.K) t1 tl th) Γ (fun es => ∃ ds, S ds ∧ es = cut ds lo hi) := fun B H σ F Q q =>
  h B H σ F _ fun d v B1 H1 ⟨ds, ed, r⟩ s1 k1 => h1 B1 H1 σ (F.step s1) _ fun o B2 H2 e2 s2 => h2 B2 H2 σ ((F.step s1).step s2) _ fun o' B3 H3 e3 s3 => by
    subst ed
    cases e2
    cases e3
    have F3 := ((F.step s1).step s2).step s3
    have k3 := (k1.step (F.step s1) s2).step ((F.step s1).step s2) s3
    obtain ⟨a, xs, rfl, g1, g2⟩ := k3.lst F3.sub
    have st := (s1.trans F.dlNow s2).trans F.dlNow s3
    exact Or.inl ⟨a, xs, rfl, g1, fun p hp => q _ p _ B3 _ ⟨ds, r, rfl⟩ (st.trans F.dlNow (Stp.newM F3.sub hp)) (back_none F st hp) (F3.sub.free hp) upd_same (cut_dq lo hi g2)⟩
theorem vl_slD (h : VV C t1 Γ (Is (.list ds))) (h1 : VO C tl Γ (Is lo)) (h2 : VO C th Γ (Is hi)) : VL C (tSl (rSlany C.K) t1 tl th) Γ (Is (cut ds lo hi)) :=
  (vl_sl (S := Is ds) (fun B H σ F Q q => h B H σ F Q fun d v B' H' e s k => q d v B' H' ⟨ds, e, rfl⟩ s k) h1 h2).imp fun es ⟨xs, e, r⟩ => by
    cases e
    exact r
theorem ve_slT (h : VE C t1 Γ (Is (.tuple ds))) (h1 : VO C tl Γ (Is lo)) (h2 : VO C th Γ (Is hi)) : VE C (tSl (rSlany C.K) t1 tl th) Γ (Is (.tuple (cut ds lo hi))) := fun B H σ F Q q =>
  h B H σ F _ fun d v B1 H1 ed s1 k1 => h1 B1 H1 σ (F.step s1) _ fun o B2 H2 e2 s2 => h2 B2 H2 σ ((F.step s1).step s2) _ fun o' B3 H3 e3 s3 => by
    cases ed
    cases e2
    cases e3
    have F3 := ((F.step s1).step s2).step s3
    have k3 := dp_mono (s2.ext.trans s3.ext) k1
    obtain ⟨a, xs, rfl, g1, g2⟩ := dp_tup k3
    have st := (s1.trans F.dlNow s2).trans F.dlNow s3
    refine Or.inr (Or.inl ⟨a, xs, rfl, same_t F3.sub g1, fun w => ?_, fun _ p hp => ?_⟩)
    · have e : cut ds lo hi = ds := by
        unfold cut
        rw [dpall_len g2] at w
        rw [w.1, w.2]
        simp
      rw [e] at q
      exact q _ _ B3 H3 rfl st k3
    · exact q _ _ _ _ rfl (st.trans F.dlNow (Stp.new F3.sub hp)) (.tup (Or.inl (Or.inl upd_same)) (dpall_mono (Stp.new (dl := C.dl) F3.sub hp).ext (cut_dq lo hi g2)))
theorem ve_slS (hz : s.length ≤ 1000000) (h : VE C t1 Γ (Is (.str s))) (h1 : VO C tl Γ (Is lo)) (h2 : VO C th Γ (Is hi)) : VE C (tSl (rSlany C.K) t1 tl th) Γ (Is (.str ⟨(cut s.cps.toList lo hi).toArray⟩)) := fun B H σ F Q q =>
  h B H σ F _ fun d v B1 H1 ed s1 k1 => h1 B1 H1 σ (F.step s1) _ fun o B2 H2 e2 s2 => h2 B2 H2 σ ((F.step s1).step s2) _ fun o' B3 H3 e3 s3 => by
    cases ed
    cases e2
    cases e3
    obtain rfl := dp_str k1
    refine Or.inr (Or.inr ⟨s, rfl, Nat.le_trans hz (by decide), ?_⟩)
    have e : cutS s lo hi = ⟨(cut s.cps.toList lo hi).toArray⟩ := by
      unfold cutS cut
      rfl
    rw [e]
    exact q _ _ B3 H3 rfl ((s1.trans F.dlNow s2).trans F.dlNow s3) (.str _)
theorem vl_rev {S : List D → Prop} (h : VV C t1 Γ (fun d => ∃ ds, d = .list ds ∧ S ds)) : VL C (tRevL C.K t1) Γ (fun es => ∃ ds, S ds ∧ es = ds.reverse) := fun B H σ F Q q =>
  h B H σ F _ fun d v B1 H1 ⟨ds, ed, r⟩ s1 k1 => by
    subst ed
    have F1 := F.step s1
    obtain ⟨a, xs, rfl, g1, g2⟩ := k1.lst F1.sub
    exact ⟨a, xs, rfl, g1, fun p hp => q _ p _ B1 _ ⟨ds, r, rfl⟩ (s1.trans F.dlNow (Stp.newM F1.sub hp)) (back_none F s1 hp) (F1.sub.free hp) upd_same (dpall_rev g2)⟩
theorem vl_revD (h : VV C t1 Γ (Is (.list ds))) : VL C (tRevL C.K t1) Γ (Is ds.reverse) :=
  (vl_rev (S := Is ds) (fun B H σ F Q q => h B H σ F Q fun d v B' H' e s k => q d v B' H' ⟨ds, e, rfl⟩ s k)).imp fun es ⟨xs, e, r⟩ => by
    cases e
    exact r
end
end Ly

/-! LyH: built-ins by data: len, tuple, list, int, abs, max, min, sum, all, any, repr, join, isinstance; enumerate of a text. -/
namespace Ly
open PySem PySem.Spec PyProof.Rows L2

section
variable {C : Cn} {Γ : List Sl} {x y z d : D} {ds es : List D} {i j : Int} {s t : Str} {R : D → Prop} {te ta tb : TE} {S : List D → Prop}
/-! ### len -/
def rLen (K : PySem.W.Frag) : List V → Hp → VK → Prop := fun xs H Q => ∃ x n, xs = [x] ∧ LenV K x H n ∧ Q (.int n) H
theorem cq_len {X : Cx} : CallR X (.builtin "len") (rLen X.K) := call_len
theorem cd_lenL : CD C (rLen C.K) [.list ds] (Is (.int ds.length)) := fun B H vs e k Q q => by
  cases k with
  | cons k k' =>
    cases k'
    obtain ⟨a, xs, rfl, h1, h2⟩ := k.lst e
    rw [← dpall_len h2] at q
    exact ⟨_, xs.length, rfl, Or.inl ⟨xs, h1, rfl⟩, q _ _ B H rfl (Stp.refl e) (.int _)⟩
theorem cd_lenT : CD C (rLen C.K) [.tuple ds] (Is (.int ds.length)) := fun B H vs e k Q q => by
  cases k with
  | cons k k' =>
    cases k'
    obtain ⟨a, xs, rfl, h1, h2⟩ := k.tup e
    rw [← dpall_len h2] at q
    exact ⟨_, xs.length, rfl, Or.inr ⟨xs, h1, rfl⟩, q _ _ B H rfl (Stp.refl e) (.int _)⟩
theorem cd_lenS (h : s.length ≤ 1000000) : CD C (rLen C.K) [.str s] (Is (.int s.length)) := fun B H vs e k Q q => by
  cases k with
  | cons k k' =>
    cases k'
    obtain rfl := k.str
    exact ⟨_, s.length, rfl, ⟨Nat.le_trans h (by decide), rfl⟩, q _ _ B H rfl (Stp.refl e) (.int _)⟩
theorem ve_lenL (h : VV C te Γ (Is (.list ds))) : VE C (tCB (rLen C.K) (tCons te tNil)) Γ (Is (.int ds.length)) := ve_cbD (vw_consD h vw_nil) cd_lenL
theorem ve_lenT (h : VE C te Γ (Is (.tuple ds))) : VE C (tCB (rLen C.K) (tCons te tNil)) Γ (Is (.int ds.length)) := ve_cbD (vw_consD h.v vw_nil) cd_lenT
theorem ve_lenS (hz : s.length ≤ 1000000) (h : VE C te Γ (Is (.str s))) : VE C (tCB (rLen C.K) (tCons te tNil)) Γ (Is (.int s.length)) := ve_cbD (vw_consD h.v vw_nil) (cd_lenS hz)
/-! ### tuple, list -/
def rTup (K : PySem.W.Frag) : List V → Hp → VK → Prop := fun xs H Q => ∃ p ys, xs = [.ref p] ∧ ((SqL K H p ys ∧ ∀ l, H l = none → Q (.ref l) (upd H l (.tup ys))) ∨ (SqT K H p ys ∧ Q (.ref p) H))
theorem cq_tup {X : Cx} : CallR X (.type "tuple") (rTup X.K) := call_tuple_of
theorem cd_tupL : CD C (rTup C.K) [.list ds] (Is (.tuple ds)) := fun B H vs e k Q q => by
  cases k with
  | cons k k' =>
    cases k'
    obtain ⟨a, xs, rfl, h1, h2⟩ := k.lst e
    exact ⟨a, xs, rfl, Or.inl ⟨h1, fun l hl => q _ _ _ _ rfl (Stp.new e hl) (.tup (Or.inl (Or.inl upd_same)) (dpall_mono (Stp.new (dl := C.dl) e hl).ext h2))⟩⟩
theorem cd_tupT : CD C (rTup C.K) [.tuple ds] (Is (.tuple ds)) := fun B H vs e k Q q => by
  cases k with
  | cons k k' =>
    cases k'
    have k0 := k
    obtain ⟨a, xs, rfl, h1, h2⟩ := k.tup e
    rcases k0 with k0 | ⟨_, _, _, _, z, _⟩
    · exact ⟨a, xs, rfl, Or.inr ⟨h1, q _ _ B H rfl (Stp.refl e) k0⟩⟩
    · cases z
theorem ve_tupL (h : VV C te Γ (Is (.list ds))) : VE C (tCB (rTup C.K) (tCons te tNil)) Γ (Is (.tuple ds)) := ve_cbD (vw_consD h vw_nil) cd_tupL
theorem ve_tupN (h : VV C te Γ (fun d => ∃ ds, d = .list ds ∧ S ds)) : VE C (tCB (rTup C.K) (tCons te tNil)) Γ (fun d => ∃ ds, d = .tuple ds ∧ S ds) := ve_cb (vw_cons h vw_nil) fun xs ⟨d, r, e, ⟨ds, e1, e2⟩, e3⟩ => by
  subst e1
  cases e3
  subst e
  intro B H vs e k Q q
  exact cd_tupL B H vs e k Q fun d w B' H' r s k => q d w B' H' ⟨ds, r, e2⟩ s k
def rList (K : PySem.W.Frag) : List V → Hp → VK → Prop := fun xs H Q => ∃ p ys, xs = [.ref p] ∧ (SqL K H p ys ∨ SqT K H p ys) ∧ ∀ l, H l = none → Q (.ref l) (upd H l (.lst ys))
theorem cq_list {X : Cx} : CallR X (.type "list") (rList X.K) := call_list_of
theorem cl_listL : CL C (rList C.K) [.list ds] (Is ds) := fun B H vs e k Q q => by
  cases k with
  | cons k k' =>
    cases k'
    obtain ⟨a, xs, rfl, h1, h2⟩ := k.lst e
    exact ⟨a, xs, rfl, Or.inl h1, fun l hl => q _ l xs B _ rfl (Stp.newM e hl) hl (e.free hl) upd_same h2⟩
theorem cl_listT : CL C (rList C.K) [.tuple ds] (Is ds) := fun B H vs e k Q q => by
  cases k with
  | cons k k' =>
    cases k'
    obtain ⟨a, xs, rfl, h1, h2⟩ := k.tup e
    exact ⟨a, xs, rfl, Or.inr h1, fun l hl => q _ l xs B _ rfl (Stp.newM e hl) hl (e.free hl) upd_same h2⟩
theorem vl_listL (h : VV C te Γ (Is (.list ds))) : VL C (tCB (rList C.K) (tCons te tNil)) Γ (Is ds) := vl_cbD (vw_consD h vw_nil) cl_listL
theorem vl_listT (h : VE C te Γ (Is (.tuple ds))) : VL C (tCB (rList C.K) (tCons te tNil)) Γ (Is ds) := vl_cbD (vw_consD h.v vw_nil) cl_listT
/-! ### ints -/
def rInt1 : List V → Hp → VK → Prop := fun xs H Q => (∃ i, xs = [.int i] ∧ Q (.int i) H) ∨ ∃ k, xs = [.bl k] ∧ Q (.int (if k then 1 else 0)) H
theorem cq_int {X : Cx} : CallR X (.type "int") rInt1 := call_int1
theorem ve_int1 (h : VE C te Γ (Is (.int i))) : VE C (tCB rInt1 (tCons te tNil)) Γ (Is (.int i)) := ve_cbD (vw_consD h.v vw_nil) fun B H vs e k Q q => by
  cases k with
  | cons k k' =>
    cases k'
    obtain rfl := k.int
    exact Or.inl ⟨i, rfl, q _ _ B H rfl (Stp.refl e) (.int _)⟩
theorem ve_int1R {R : Int → Prop} (h : VE C te Γ (fun d => ∃ i, d = .int i ∧ R i)) : VE C (tCB rInt1 (tCons te tNil)) Γ (fun d => ∃ i, d = .int i ∧ R i) := ve_cb (vw_cons h.v vw_nil) fun xs ⟨d, r, e, ⟨i, e1, e2⟩, e3⟩ => by
  subst e1
  cases e3
  subst e
  intro B H vs e k Q q
  cases k with
  | cons k k' =>
    cases k'
    obtain rfl := k.int
    exact Or.inl ⟨i, rfl, q _ _ B H ⟨i, rfl, e2⟩ (Stp.refl e) (.int _)⟩
def rAbs : List V → Hp → VK → Prop := fun xs H Q => ∃ i, xs = [.int i] ∧ Q (.int (if i < 0 then -i else i)) H
theorem cq_abs {X : Cx} : CallR X (.builtin "abs") rAbs := call_abs
theorem ve_abs (h : VE C te Γ (Is (.int i))) : VE C (tCB rAbs (tCons te tNil)) Γ (Is (.int (if i < 0 then -i else i))) := ve_cbD (vw_consD h.v vw_nil) fun B H vs e k Q q => by
  cases k with
  | cons k k' =>
    cases k'
    obtain rfl := k.int
    exact ⟨i, rfl, q _ _ B H rfl (Stp.refl e) (.int _)⟩
def rMx : List V → Hp → VK → Prop := fun xs H Q => ∃ i j, xs = [.int i, .int j] ∧ Q (.int (if j > i then j else i)) H
theorem cq_max {X : Cx} (hc : X.calm = true) : CallR X (.builtin "max") rMx := call_max2 hc
theorem ve_max (h : VE C ta Γ (Is (.int i))) (h2 : VE C tb Γ (Is (.int j))) : VE C (tCB rMx (tCons ta (tCons tb tNil))) Γ (Is (.int (if j > i then j else i))) := ve_cbD (vw_consD h.v (vw_consD h2.v vw_nil)) fun B H vs e k Q q => by
  cases k with
  | cons k k' =>
    cases k' with
    | cons k1 k2 =>
      cases k2
      obtain rfl := k.int
      obtain rfl := k1.int
      exact ⟨i, j, rfl, q _ _ B H rfl (Stp.refl e) (.int _)⟩
def rMn : List V → Hp → VK → Prop := fun xs H Q => ∃ i j, xs = [.int i, .int j] ∧ Q (.int (if j < i then j else i)) H
theorem cq_min {X : Cx} (hc : X.calm = true) : CallR X (.builtin "min") rMn := call_min2 hc
theorem ve_min (h : VE C ta Γ (Is (.int i))) (h2 : VE C tb Γ (Is (.int j))) : VE C (tCB rMn (tCons ta (tCons tb tNil))) Γ (Is (.int (if j < i then j else i))) := ve_cbD (vw_consD h.v (vw_consD h2.v vw_nil)) fun B H vs e k Q q => by
  cases k with
  | cons k k' =>
    cases k' with
    | cons k1 k2 =>
      cases k2
      obtain rfl := k.int
      obtain rfl := k1.int
      exact ⟨i, j, rfl, q _ _ B H rfl (Stp.refl e) (.int _)⟩
theorem ve_sum {ns : List Int} (h : VV C te Γ (Is (.list (ns.map .int)))) : VE C (tCB (rSum C.K) (tCons te tNil)) Γ (Is (.int ns.sum)) := ve_cbD (vw_consD h vw_nil) fun B H vs e k Q q => by
  cases k with
  | cons k k' =>
    cases k'
    obtain ⟨a, xs, rfl, h1, h2⟩ := k.lst e
    rw [dpall_ints h2] at h1
    exact ⟨a, ns, rfl, h1, q _ _ B H rfl (Stp.refl e) (.int _)⟩
theorem ve_all {ns : List Bool} (h : VV C te Γ (Is (.list (ns.map .bool)))) : VE C (tCB (rAll C.K) (tCons te tNil)) Γ (Is (.bool (ns.all id))) := ve_cbD (vw_consD h vw_nil) fun B H vs e k Q q => by
  cases k with
  | cons k k' =>
    cases k'
    obtain ⟨a, xs, rfl, h1, h2⟩ := k.lst e
    rw [dpall_bls h2] at h1
    exact ⟨a, ns, rfl, h1, q _ _ B H rfl (Stp.refl e) (.bl _)⟩
/-! ### repr -/
theorem ve_repr (h : VV C te Γ (Is d)) (h1 : d.showable = true) (h2 : d.hasDict = false) (h3 : d.depth ≤ 100) (h4 : d.shown.length ≤ sizeLine) : VE C (tCB (rRepr C.K) (tCons te tNil)) Γ (Is (.str d.shown)) := ve_cbD (vw_consD h vw_nil) fun B H vs e k Q q => by
  cases k with
  | cons k k' =>
    cases k'
    exact ⟨_, d, rfl, (k.now e).dp, h1, h2, h3, h4, q _ _ B H rfl (Stp.refl e) (.str _)⟩
/-! ### join -/
def rJoin (K : PySem.W.Frag) : V → List V → Hp → VK → Prop := fun x xs H Q => ∃ a p, ∃ ys : List Str, x = .str a ∧ xs = [.ref p] ∧ (SqL K H p (ys.map V.str) ∨ SqT K H p (ys.map V.str)) ∧
  (ys.map (·.length)).sum + ys.length * a.length ≤ 16777216 ∧ Q (.str (Txt.join a ys)) H
theorem mq_join {X : Cx} : MtR X "str.join" (rJoin X.K) := mt_join
theorem ve_joinL {ys : List Str} (h : VE C ta Γ (Is (.str s))) (h2 : VV C te Γ (Is (.list (ys.map .str)))) (hz : (ys.map (·.length)).sum + ys.length * s.length ≤ 16777216) : VE C (tM1 (rJoin C.K) ta te) Γ (Is (.str (Txt.join s ys))) := fun B H σ F Q q =>
  h B H σ F _ fun d v B1 H1 ed s1 k1 => by
    cases ed
    obtain rfl := dp_str k1
    refine ⟨⟨s, rfl⟩, h2 B1 H1 σ (F.step s1) _ fun d v B2 H2 ed s2 k2 => ?_⟩
    cases ed
    obtain ⟨a, xs, rfl, g1, g2⟩ := k2.lst ((F.step s1).step s2).sub
    rw [dpall_strs g2] at g1
    exact ⟨s, a, ys, rfl, rfl, Or.inl g1, hz, q _ _ B2 H2 rfl (s1.trans F.dlNow s2) (.str _)⟩
theorem ve_joinT {ys : List Str} (h : VE C ta Γ (Is (.str s))) (h2 : VE C te Γ (Is (.tuple (ys.map .str)))) (hz : (ys.map (·.length)).sum + ys.length * s.length ≤ 16777216) : VE C (tM1 (rJoin C.K) ta te) Γ (Is (.str (Txt.join s ys))) := fun B H σ F Q q =>
  h B H σ F _ fun d v B1 H1 ed s1 k1 => by
    cases ed
    obtain rfl := dp_str k1
    refine ⟨⟨s, rfl⟩, h2 B1 H1 σ (F.step s1) _ fun d v B2 H2 ed s2 k2 => ?_⟩
    cases ed
    obtain ⟨a, xs, rfl, g1, g2⟩ := dp_tup k2
    rw [dpall_strs g2] at g1
    exact ⟨s, a, ys, rfl, rfl, Or.inr (same_t ((F.step s1).step s2).sub g1), hz, q _ _ B2 H2 rfl (s1.trans F.dlNow s2) (.str _)⟩
/-! ### isinstance -/
def tyName : D → String
  | .none => "NoneType"
  | .bool _ => "bool"
  | .int _ => "int"
  | .str _ => "str"
  | .list _ => "list"
  | .tuple _ => "tuple"
  | .dict _ => "dict"
theorem dq_ty {K : PySem.W.Frag} {H : Hp} {v : V} (k : Dp K H v x) (hr : ∀ ds, x = .list ds → ∃ a xs, v = .ref a ∧ Rd H a (.lst xs)) : TyX K H v (.type (tyName x)) := by
  cases k with
  | non => exact .base .non
  | bl b => exact .base (.bl b)
  | int i => exact .base (.int i)
  | str z => exact .base (.str z)
  | lst h k =>
    obtain ⟨a, xs, e, h⟩ := hr _ rfl
    cases e
    rcases h with h | ⟨o, h⟩
    · exact .base (.lst h)
    · exact .base (.frz h)
  | tup h k =>
    rcases h with (h | ⟨o, h⟩) | ⟨o, its, n, h1, h2, _⟩
    · exact .base (.tup h)
    · exact .fTuple h
    · exact .kTuple h1 h2
def rIsAny (K : PySem.W.Frag) : List V → Hp → VK → Prop := fun xs H Q => rIsi K xs H Q ∨ rIsiT K xs H Q
theorem cq_isi {X : Cx} : CallR X (.builtin "isinstance") (rIsAny X.K) := CallR.or call_isi call_isiT
theorem vw_ty {B H : Hp} {v : V} (e : Same B H) (k : Vw C B H v x) : TyX C.K H v (.type (tyName x)) := dq_ty (k.now e).dp fun ds ed => by
  subst ed
  obtain ⟨a, xs, h1, h2, _⟩ := k.lstR e
  exact ⟨a, xs, h1, h2⟩
/-- isinstance(x, T) -/
theorem ve_isi {n : String} {b : Bool} (h : VV C te Γ (Is x)) (hb : kitB (tyName x) n = some b) : VE C (tCB (rIsAny C.K) (tCons te (tCons (tC (.ty n)) tNil))) Γ (Is (.bool b)) := fun B H σ F Q q =>
  h B H σ F _ fun d v B1 H1 ed s1 k1 => by
    cases ed
    exact Or.inl ⟨v, .ty n, _, _, b, rfl, .ty n, vw_ty (F.step s1).sub k1, kit_ty hb, q _ _ B1 H1 rfl s1 (.bl _)⟩
/-- isinstance(x, (T, U)) -/
theorem ve_isi2 {m n : String} {b c : Bool} (h : VV C te Γ (Is x)) (hb : kitB (tyName x) m = some b) (hc : kitB (tyName x) n = some c) :
    VE C (tCB (rIsAny C.K) (tCons te (tCons (tTup (tCons (tC (.ty m)) (tCons (tC (.ty n)) tNil))) tNil))) Γ (Is (.bool (b || c))) := fun B H σ F Q q =>
  h B H σ F _ fun d v B1 H1 ed s1 k1 => by
    cases ed
    refine ⟨by show 2 ≤ sizeLine; decide, fun p hp => ?_⟩
    have st := Stp.newM (dl := C.dl) (o := .tup [V.ty m, V.ty n]) (F.step s1).sub hp
    have k2 := k1.step (F.step s1) st
    refine Or.inr ⟨v, p, [.ty m, .ty n], _, [.type m, .type n], b || c, rfl, upd_same, .cons (.ty m) (.cons (.ty n) .nil), vw_ty ((F.step s1).step st).sub k2, ?_, q _ _ B1 _ rfl (s1.trans F.dlNow st) (.bl _)⟩
    refine kitAny_cons (kit_ty hb) (fun e => ?_) fun e => by rw [e]; rfl
    subst e
    refine kitAny_cons (r := false || c) (kit_ty hc) (fun e => ?_) fun e => by rw [e]; rfl
    subst e
    rfl
end

/-! ### enumerate of a text -/
def ItS (z : Str) : It := ⟨fun i _ => i < z.cps.size, fun i H v H' => ∃ T c, v = .ref T ∧ H T = none ∧ H' = upd H T (.tup [.int (i : Nat), .str ⟨#[c]⟩]) ∧ z.cps[i]? = some c, fun i _ => i = z.cps.size⟩
theorem walk_enumS {z : Str} : Walk (ItS z) z.cps.size (fun _ => True) (fun i H v H' => ∃ T c, v = .ref T ∧ H T = none ∧ H' = upd H T (.tup [.int (i : Nat), .str ⟨#[c]⟩]) ∧ z.cps[i]? = some c) :=
  ⟨fun _ _ h _ => h, fun _ _ => rfl, fun _ _ _ _ _ _ y => y⟩
theorem draws_str {prog : Program} {w : World} {A : Around} (hh : A.handled = none) (it : Addr) (x : Str) (t : Tok) :
    Draws prog w A it [it] x.cps.size (fun i v => ∃ c u, x.cps[i]? = some c ∧ v = .str ⟨#[c]⟩ u) (fun i h => h.IsStrIter it (strIterType x) x t i) := by
  unfold strIterType
  split
  · exact Draws.strAscii hh it x t
  · exact Draws.strWide hh it x t
theorem turn_enumS {P : Program} {w : World} {K : PySem.W.Frag} {elts : List Expr} {kk : Nat} {tpos : Pos} (z : Str) (t : Tok) (e it : Addr) :
    Turn P w K (.Tuple elts kk tpos) (ItS z) [e, it] e (fun i h => (∃ old, IsEnum h e it ((i : Nat) : Int) old) ∧ h.IsStrIter it (strIterType z) z t i ∧ e ≠ it) := by
  refine ⟨by simp, ?_, ?_, ?_, ?_, ?_⟩
  · rintro i h ⟨⟨old, he⟩, ⟨o, ho, hc, hd⟩, _⟩ b hb
    rcases List.mem_cons.mp hb with rfl | hb
    · exact ⟨_, he, fun v q => nomatch q⟩
    · rw [List.mem_singleton] at hb
      subst hb
      exact ⟨o, ho, fun v q => by rw [hd] at q; cases q⟩
  · rintro i h h' ⟨⟨old, he⟩, ⟨o, ho, r⟩, hne⟩ k
    exact ⟨⟨old, k e (by simp) _ he⟩, ⟨o, k it (by simp) o ho, r⟩, hne⟩
  · rintro X rfl rfl rfl hc i pins s σ H E I hf ⟨⟨old, he⟩, hit, hne⟩ hg
    have hel : e < s.heap.objs.size := Heap.lt_size he
    have hil : it < s.heap.objs.size := by
      obtain ⟨_, q, _⟩ := hit
      exact Heap.lt_size q
    refine wpAny_pyNext_enum_itemD (draws_str (by simpa using I.ok.hd hc) it z t) he hit hg hne (fun z => hne (List.mem_singleton.mp z)) fun x h' tk hP ho hit' hT hsz hk => ?_
    obtain ⟨c, u, hcx, rfl⟩ := hP
    refine ⟨_, rfl, wpAny_letOwnedTupleGo_enum (s := { s with heap := h', toks := tk + 1 }) ho fun h'' he' sb => ?_⟩
    have hT2 := (sb.2 s.heap.objs.size (Nat.ne_of_gt hel)).trans hT
    have new : ObjOk X.prog X.w (upd H s.heap.objs.size (.tup [.int (i : Nat), .str ⟨#[c]⟩])) h'' s.heap.objs.size (.tup [.int (i : Nat), .str ⟨#[c]⟩]) :=
      ⟨by show 2 ≤ sizeLine; decide, _, .cons ⟨_, rfl⟩ (.cons ⟨_, rfl⟩ .nil), ⟨_, hT2, rfl, _, rfl⟩⟩
    have J := I.turnedNew (ch := [e, it]) (t' := tk + 1) (fun b ob hb q => (sb.2 b (fun y => hb (by simp [y]))).trans (hk b ob (fun y => hb (by simp [y])) (fun y => hb (by simp [y])) q)) hf (Nat.le_refl _) new
    refine ⟨.ref s.heap.objs.size, _, J, rfl, ⟨_, c, rfl, I.hok.fresh (Nat.le_refl _), rfl, hcx⟩, ⟨⟨Value.str ⟨#[c]⟩ u, ?_⟩, ?_, hne⟩, fun b hb => ?_⟩
    · rw [show ((i + 1 : Nat) : Int) = (i : Int) + 1 by omega]
      exact he'
    · obtain ⟨o, ho', r⟩ := hit'
      exact ⟨o, (sb.2 it (Ne.symm hne)).trans ho', r⟩
    · have hb' : b < s.heap.objs.size := by
        rcases List.mem_cons.mp hb with y | y
        · rw [y]
          exact hel
        · rw [List.mem_singleton.mp y]
          exact hil
      rw [upd_ne (Nat.ne_of_lt hb')]
      exact (hf b hb).1
  · rintro X rfl rfl rfl hc i pins s σ H E I hf ⟨⟨old, he⟩, hit, hne⟩ hg
    obtain ⟨f0, f1, f2, f3, f4, f5⟩ := hf it (by simp)
    obtain rfl : i = z.cps.size := hg
    exact wpAny_pyNext_enum_endD (draws_str (by simpa using I.ok.hd hc) it z t) he hit fun h' eb => ⟨rfl, I.turned (t' := s.toks) (fun b o hb q => eb b o hb q) f0 f1 f3 f4 f5⟩
  · rintro A i s Q E ⟨⟨_, he⟩, _⟩ h
    exact wpAny_pyIter_enum he h
def iEnumS (ta : TA) : TI := fun σ H R => ta σ H fun vs H1 => ∃ z, vs = [.str z] ∧ R (ItS z) H1
theorem pi_enumS {X : Cx} {e : Expr} {ta : TA} {p pos tpos : Pos} {elts : List Expr} {kk : Nat} (hg : Gl X "enumerate") (hm : X.mg "enumerate" = none) (ha : PA X [e] ta) (hs : starEach [e] X.env = [(false, eval e X.env)] := by rfl) :
    PI X (.Tuple elts kk tpos) (.Call (.Name "enumerate" p) [e] [] pos) (iEnumS ta) := by
  constructor
  intro pins s σ H R I h
  refine Call_ (ld_blt I hg hm boot_enumerate ?_)
  refine PyProof.Rows.callWith_type1 ?_ hs rfl
  refine thn (ha.run pos pins s σ H _ I h) ?_
  rintro us s1 ⟨vs, H1, I1, r1, z, ex, q⟩
  subst ex
  obtain ⟨u, rfl, t, rfl⟩ := vals1 r1
  refine call_enumerate_str fun h' he hit hsz hk => wpAny_pyIter_enum he ?_
  have J : L2.Inv X pins σ H1 { s1 with heap := h' } := I1.kept (t' := s1.toks) hk
  refine ⟨_, [s1.heap.objs.size + 1, s1.heap.objs.size], _, _, H1, rfl, J, turn_enumS z t (s1.heap.objs.size + 1) s1.heap.objs.size, ⟨⟨.none, he⟩, hit, Nat.succ_ne_self _⟩, fun b hb => ?_, q⟩
  have hle : s1.heap.objs.size ≤ b := by
    rcases List.mem_cons.mp hb with y | y
    · rw [y]
      exact Nat.le_succ _
    · rw [List.mem_singleton.mp y]
      exact Nat.le_refl _
  exact I1.fpOk hle (I1.hok.fresh hle)
/-- the pairs of a place and a sign -/
def placed (z : Str) : List D := (List.range z.cps.size).map fun i => .tuple [.int (i : Nat), .str ⟨#[z.cps.getD i 0]⟩]
theorem placed_len (z : Str) : (placed z).length = z.cps.size := by simp [placed]
theorem placed_get {z : Str} {i : Nat} {d : D} (h : (placed z)[i]? = some d) : ∃ c, z.cps[i]? = some c ∧ d = .tuple [.int (i : Nat), .str ⟨#[c]⟩] := by
  unfold placed at h
  rw [List.getElem?_map] at h
  by_cases hi : i < z.cps.size
  · rw [List.getElem?_range hi] at h
    cases h
    refine ⟨z.cps[i], Array.getElem?_eq_getElem hi, ?_⟩
    show PyData.tuple [PyData.int (i : Nat), PyData.str ⟨#[z.cps.getD i 0]⟩] = _
    rw [Array.getD_eq_getD_getElem?, Array.getElem?_eq_getElem hi]
    rfl
  · rw [List.getElem?_eq_none_iff.mpr (by simpa using hi)] at h
    cases h
theorem vi_enumS {C : Cn} {Γ : List Sl} {te : TE} {z : Str} (h : VE C te Γ (Is (.str z))) : VI C (iEnumS (tCons te tNil)) Γ (Is (placed z)) := fun B H σ F T q => h B H σ F _ fun d v B1 H1 r s k => by
  cases r
  obtain rfl := dp_str k
  refine ⟨z, rfl, q _ _ B1 H1 (fun _ => True) _ rfl s (by rw [placed_len]; exact walk_enumS) (fun _ _ _ _ => trivial) ?_⟩
  rintro i x H2 H2' ⟨T, c, rfl, hT, rfl, hc⟩ B2 d e1 e2 hd
  obtain ⟨c', hc', rfl⟩ := placed_get hd
  rw [hc] at hc'
  cases hc'
  exact ⟨_, Stp.new e2 hT, .tup (Or.inl (Or.inl upd_same)) (.cons (.int _) (.cons (.str _) .nil))⟩
end Ly

/-! LyI: a loop over any list, tuple or text; signs compared; the source of draws' own shape. -/
namespace Ly
open PySem PySem.Spec PyProof.Rows L2

/-- for x in e, e a list, a tuple or a text -/
def iAny (K : PySem.W.Frag) (tl : TE) : TI := fun σ H R => tl σ H fun x H1 => (∃ a, x = .ref a ∧ (∃ xs, SqL K H1 a xs) ∧ R (Itl K a) H1) ∨ ((∃ a, x = .ref a ∧ (∃ xs, SqT K H1 a xs) ∧ R (Itt K a) H1) ∨ ∃ z, x = .str z ∧ R (Its z) H1)
theorem pi_any {X : Cx} {tg l : Expr} {tl : TE} (hl : PE X l tl) : PI X tg l (iAny X.K tl) := by
  constructor
  intro pins s σ H R I h
  refine thn (hl.run pins s σ H _ I h) ?_
  rintro v s1 ⟨x, H1, I1, r1, q⟩
  have fresh1 : ∀ b ∈ [s1.heap.objs.size], FpOk X pins H1 b := fun b hb => by
    rw [List.mem_singleton.mp hb]
    exact I1.fpOk (Nat.le_refl _) (I1.hok.fresh (Nat.le_refl _))
  rcases q with ⟨a, rfl, ⟨xs, hq⟩, q⟩ | ⟨a, rfl, ⟨xs, hq⟩, q⟩ | ⟨z, rfl, q⟩
  · obtain rfl : v = Value.ref a := r1
    obtain ⟨its, _, p, _⟩ := I1.list hq
    apply wpAny_pyIter_list p.isList
    exact ⟨_, [s1.heap.objs.size], _, _, H1, rfl, I1.kept (t' := s1.toks) fun b o e => Heap.get?_push_of_some _ e, turn_list a s1.heap.objs.size, ⟨_, Heap.get?_push_size _ rfl, rfl, rfl⟩, fresh1, q⟩
  · obtain rfl : v = Value.ref a := r1
    obtain ⟨its, _, p, _⟩ := I1.tuple hq
    apply wpAny_pyIter_tuple (show s1.heap.IsTuple a its.toArray from p)
    exact ⟨_, [s1.heap.objs.size], _, _, H1, rfl, I1.kept (t' := s1.toks) fun b o e => Heap.get?_push_of_some _ e, turn_tuple a s1.heap.objs.size, ⟨_, Heap.get?_push_size _ rfl, rfl, rfl⟩, fresh1, q⟩
  · obtain ⟨t, rfl⟩ := r1
    by_cases ha : z.cps.all (· < 128) = true
    · exact wpAny_pyIter_ascii ha (pi_one (tk := s1.toks) I1 _ (turn_str s1.heap.objs.size z t "str_ascii_iterator" (Or.inl rfl)) ⟨_, Heap.get?_push_size _ rfl, rfl, rfl⟩ q)
    · exact wpAny_pyIter_wide (by simpa using ha) (pi_one (tk := s1.toks) I1 _ (turn_str s1.heap.objs.size z t "str_iterator" (Or.inr rfl)) ⟨_, Heap.get?_push_size _ rfl, rfl, rfl⟩ q)
section
variable {C : Cn} {Γ : List Sl} {t te ta tb tc : TE} {ds : List D} {S : List D → Prop} {s z : Str}
theorem va_list (h : VE C t Γ (fun d => ∃ ds, d = .list ds ∧ S ds)) : VI C (iAny C.K t) Γ S := fun B H σ F T q => h B H σ F _ fun d v B1 H1 ⟨ds, e, r⟩ s k => by
  subst e
  obtain ⟨a, xs, rfl, h1, h2⟩ := dp_lst k
  refine Or.inl ⟨a, rfl, ⟨xs, same_l (F.step s).sub h1⟩, q ds _ B1 H1 _ _ r s (dpall_len h2 ▸ walk_list) (fun B2 H2 e1 e2 => same_l e2 (same_l e1 h1)) ?_⟩
  rintro i x H2 H2' ⟨rfl, hx⟩ B2 d e1 e2 hd
  obtain ⟨v, hv, k2⟩ := dpall_get h2 hd
  rw [hx] at hv
  cases hv
  exact ⟨B2, Stp.refl e2, dp_mono e1 k2⟩
theorem va_listD (h : VE C t Γ (Is (.list ds))) : VI C (iAny C.K t) Γ (Is ds) := va_list (h.imp fun d e => ⟨ds, e, rfl⟩)
theorem va_tup (h : VE C t Γ (fun d => ∃ ds, d = .tuple ds ∧ S ds)) : VI C (iAny C.K t) Γ S := fun B H σ F T q => h B H σ F _ fun d v B1 H1 ⟨ds, e, r⟩ s k => by
  subst e
  obtain ⟨a, xs, rfl, h1, h2⟩ := dp_tup k
  refine Or.inr (Or.inl ⟨a, rfl, ⟨xs, same_t (F.step s).sub h1⟩, q ds _ B1 H1 _ _ r s (dpall_len h2 ▸ walk_tup) (fun B2 H2 e1 e2 => same_t e2 (same_t e1 h1)) ?_⟩)
  rintro i x H2 H2' ⟨rfl, hx⟩ B2 d e1 e2 hd
  obtain ⟨v, hv, k2⟩ := dpall_get h2 hd
  rw [hx] at hv
  cases hv
  exact ⟨B2, Stp.refl e2, dp_mono e1 k2⟩
theorem va_tupD (h : VE C t Γ (Is (.tuple ds))) : VI C (iAny C.K t) Γ (Is ds) := va_tup (h.imp fun d e => ⟨ds, e, rfl⟩)
theorem va_strD (h : VE C t Γ (Is (.str z))) : VI C (iAny C.K t) Γ (Is (signs z)) := fun B H σ F T q => h B H σ F _ fun d v B1 H1 r s k => by
  cases r
  obtain rfl := dp_str k
  refine Or.inr (Or.inr ⟨z, rfl, q _ _ B1 H1 _ _ rfl s (signs_len z ▸ walk_str) (fun _ _ _ _ => trivial) ?_⟩)
  rintro i x H2 H2' ⟨rfl, c, hc, rfl⟩ B2 d e1 e2 hd
  have hd' : (signs z)[i]? = some (.str ⟨#[c]⟩) := by
    unfold signs
    rw [List.getElem?_map, Array.getElem?_toList, hc]
    rfl
  rw [hd'] at hd
  cases hd
  exact ⟨B2, Stp.refl e2, .str _⟩
/-! a < b < c -/
theorem ve_chain {r r' : R2} {x y : D} {R : D → Prop} {b : Bool} (ha : VE C ta Γ (Is x)) (hb : VE C tb Γ (Is y)) (ho : OD C r x y (Is (.bool b))) (h0 : b = false → R (.bool false)) (hc : b = true → VV C tc Γ (fun w => OD C r' y w R)) : VE C (tChain r r' ta tb tc) Γ R := fun B H σ F Q q =>
  ha B H σ F _ fun d v B1 H1 e1 s1 k1 => hb B1 H1 σ (F.step s1) _ fun d2 v2 B2 H2 e2 s2 k2 => by
    cases e1
    cases e2
    have F2 := (F.step s1).step s2
    refine ho B2 H2 v v2 F2.sub (Or.inl (dp_mono s2.ext k1)) (Or.inl k2) _ fun d3 w B3 H3 e3 s3 k3 => ?_
    cases e3
    obtain rfl := dp_bl k3
    have st := (s1.trans F.dlNow s2).trans F.dlNow s3
    refine ⟨b, rfl, ?_⟩
    cases b with
    | false => exact iteF (q _ _ B3 H3 (h0 rfl) st (.bl false))
    | true =>
      refine iteT (hc rfl B3 H3 σ (F2.step s3) _ fun d4 v4 B4 H4 e4 s4 k4 => ?_)
      exact e4 B4 H4 v2 v4 ((F2.step s3).step s4).sub (Or.inl (dp_mono (s3.ext.trans s4.ext) k2)) k4 _ fun d5 v5 B5 H5 e5 s5 k5 => q d5 v5 B5 H5 e5 ((st.trans F.dlNow s4).trans F.dlNow s5) k5
end
end Ly

/-! LyJ: the end of a law's row over GOk. -/
namespace Ly
open PySem PySem.Spec PyProof.Rows L2

/-- what is tracked at the law's own call: the script alone, if it is no object of the module -/
def H1 (K : PySem.W.Frag) (a : Addr) (o : Obj) (xs : List V) : Hp := fun b => if b = a ∧ K.lookup a = none then some (.frz o (.lst xs)) else none
theorem h1_at {K : PySem.W.Frag} {a : Addr} {o : Obj} {xs : List V} (h : K.lookup a = none) : H1 K a o xs a = some (.frz o (.lst xs)) := if_pos ⟨rfl, h⟩
theorem h1_only {K : PySem.W.Frag} {a b : Addr} {o : Obj} {xs : List V} {u : HO} (h : H1 K a o xs b = some u) : b = a ∧ K.lookup a = none ∧ u = .frz o (.lst xs) := by
  unfold H1 at h
  split at h
  · rename_i q
    cases h
    exact ⟨q.1, q.2, rfl⟩
  · cases h

section
variable {P : Program} {w : World} {K : PySem.W.Frag} {mg mb : Str → Option Value} {k : Nat} {fa a : Addr} {fd : FuncData} {x : Str} {sp : Sp} {s₁ : Shared} {vs : List Value} {ns : List Int}
theorem law_g (KX : K.In s₁.heap) (hns : s₁.heap.Ns mainGlobals mg) (hb : s₁.heap.Ns builtinsNs mb) (hbb : ∀ x : Str, x ≠ "__name__" → mb x = bootBuiltins x) (hlim : s₁.heap.NoLimit) (hg : s₁.gens = #[])
    (ha : s₁.heap.get? a = some { cls := .type "list", data := .seq vs.toArray }) (hi : IntsAre vs ns) (hl : ns.length ≤ sizeLine) (hr : Room k callerA)
    (F : ∀ base : Heap, K.In base → base.Ns mainGlobals mg → GOk P w K mg base CX0 k fa fd [x] sp) (hbind : ∀ (s : Shared) (u : Value), BindsTo s fd ⟨[u], []⟩ [(x, u)])
    (hsp : ∀ H : Hp, SqL K H a (ns.map V.int) → sp [.ref a] H (fun v _ => v = .bl true) E0) :
    codeAny (model P w) callerA (.call (.ref fa) ⟨[.ref a], []⟩) (fun r s' => r = .ok (.ret (.bool true)) ∧ OldK s₁.heap s'.heap ∧ s'.os = s₁.os ∧ AllBare s'.gens) s₁ := by
  have rv : Vals (ns.map V.int) vs := vals_ints hi
  have lv : vs.length = ns.length := by
    have := rv.length
    rw [List.length_map] at this
    exact this.symm
  let o : Obj := { cls := .type "list", data := .seq vs.toArray }
  let H : Hp := H1 K a o (ns.map V.int)
  have ok : HOk P w H s₁.heap := fun b u e => by
    obtain ⟨rfl, _, rfl⟩ := h1_only e
    exact ⟨ha, by rw [List.length_map]; exact hl, vs, _, rv, ha⟩
  have sq : SqL K H a (ns.map V.int) := by
    cases e : K.lookup a with
    | none => exact Or.inl (Or.inr ⟨o, h1_at e⟩)
    | some u =>
      have e2 := KX a u e
      rw [ha] at e2
      cases e2
      exact Or.inr ⟨_, vs.toArray, _, e, rfl, rfl, rfl, by rw [List.size_toArray, lv]; exact hl, by simpa using rv⟩
  have free : ∀ {b : Addr} {u : Obj} {es : Array DictEntry} {ep : Nat}, s₁.heap.get? b = some u → u.data = .dict es ep → H b = none := fun {b u es ep} e d => by
    cases q : H b with
    | none => rfl
    | some v =>
      obtain ⟨rfl, _, _⟩ := h1_only q
      rw [ha] at e
      cases e
      cases d
  have ns1 : ∀ {b : Addr} {m : Str → Option Value}, s₁.heap.Ns b m → (hidT s₁.heap H).Ns b m := by
    rintro b m ⟨u, es, ep, e, d, r⟩
    exact ⟨u, es, ep, hidT_get e (free e d), d, r⟩
  have kin : K.In (hidT s₁.heap H) := fun b u e => hidT_get (KX b u e) (by
    cases q : H b with
    | none => rfl
    | some v =>
      obtain ⟨rfl, z, _⟩ := h1_only q
      rw [z] at e
      cases e)
  obtain ⟨mc, hc1, hc2⟩ := hlim
  have hm : Mod K mg (hidT s₁.heap H) := ⟨kin, ns1 hns, ⟨mb, ns1 hb, hbb⟩, mc, ns1 hc1, hc2⟩
  have none_in : ∀ b : Addr, b ∉ frs ([] : List Env) := fun b hb => nomatch hb
  have e0 : Env0 P w K mg (hidT s₁.heap H) callerA [] s₁ H :=
    { frames := rfl, mod := hm, bs := fun b u e => of_hidT e, bsz := Nat.le_of_eq (hidT_size _ _), funs := trivial, frf := fun b hb => absurd hb (none_in b), hok := ok, bare := .of_eq hg }
  refine codeAny_mono ((F _ kin (ns1 hns)).does (us := [.ref a]) (vs := [.ref a]) (E := E0) rfl hr e0 (hbind s₁ (.ref a)) (.cons rfl .nil) (hsp H sq)) fun r s' h => ?_
  cases r with
  | error e => exact False.elim h
  | ok fl =>
    cases fl with
    | next => exact False.elim h
    | brk => exact False.elim h
    | cont => exact False.elim h
    | ret u =>
      obtain ⟨v, H', os, bare, un, ok', rr, q⟩ := h
      obtain rfl : v = .bl true := q
      obtain rfl : u = Value.bool true := rr
      refine ⟨rfl, OldK.of_keep fun b u e => ?_, os, bare⟩
      cases q : H b with
      | none => exact un.keep b u e q (none_in b) (fun z => nomatch z)
      | some y =>
        obtain ⟨rfl, _, rfl⟩ := h1_only q
        obtain ⟨e2, _⟩ := ok' b _ (un.frzs b _ _ q)
        rw [e2, ← e, ha]
end
/-- the goal that k_head leaves, from a law's promise over GOk -/
theorem walk_g {l : PySem.W.OpenLaw} {n k : Nat} {q : Program} {loose : List Str} {XP : (Str → Option Value) → Heap → Prop} {YP : World → Heap → Prop} {d : DefRec} {K : Params → PySem.W.Frag} {sp : PySem.W.Frag → Sp} {x : Str}
    (hn : l.most = some n) (hn2 : n ≤ sizeLine) (hdf : d.params.defaults = []) (hr : Room k callerA)
    (hY : ∀ (w : World) (h : Heap), YP w h → (K w.params).In h)
    (F : ∀ (w : World) (mg : Str → Option Value) (fa : Addr) (h : Heap), (K w.params).In h → h.Ns mainGlobals mg → mg d.name = some (.ref fa) →
      ∃ fd : FuncData, (∀ (s : Shared) (u : Value), BindsTo s fd ⟨[u], []⟩ [(x, u)]) ∧ ∀ base : Heap, (K w.params).In base → base.Ns mainGlobals mg → GOk l.prog w (K w.params) mg base CX0 k fa fd [x] (sp (K w.params)))
    (hsp : ∀ (K : PySem.W.Frag) (H : Hp) (a : Addr) (ns : List Int), ns.length ≤ n → SqL K H a (ns.map V.int) → sp K [.ref a] H (fun v _ => v = .bl true) E0) :
    PySem.W.WalkO q loose XP YP l.row.toRowW d [] (fun f vs => PySem.call f vs) := by
  apply Att.attach_call hn hdf
  intro w s₀ s₁ mg mb fa o pm cd doc a vs ns G Y ho hd hcd hmg hobj hints hlen hg
  obtain ⟨fd, hb, hF⟩ := F w mg fa _ (hY w _ Y) G.T.g hmg
  exact law_g (hY w _ Y) G.T.g G.T.b G.T.builtins G.T.nolimit hg hobj hints (Nat.le_trans hlen hn2) hr hF hb fun H hS => hsp _ H a ns hlen hS

/-- a law's own promise -/
def Lw (K : PySem.W.Frag) : Sp := fun vs H Q _ => ∃ (a : Addr) (ns : List Int), vs = [.ref a] ∧ SqL K H a (ns.map V.int) ∧ ns.length ≤ 63 ∧ ∀ H', Q (.bl true) H'
section
variable {P0 : Program} {w : World} {K : PySem.W.Frag} {mg : Str → Option Value} {base : Heap} {k : Nat} {f : Addr} {fd : FuncData} {N : List Str} {x qual : Str} {st : Stmt}
theorem fm_law {K : PySem.W.Frag} {H : Hp} {a : Addr} {xs : List V} {N : List Str} {n : Nat} (hS : SqL K H a xs) (hn : 1 + n = N.length) : Fm ⟨K, H, H, none⟩ H H (L2.start N [.ref a]) (.rd xs :: List.replicate n .no) := by
  refine ⟨Stp.refl (Same.refl H), (fun p q e => nomatch e), ?_, fun i sl h => ?_, fun i j p ds es h => ?_⟩
  · rw [start_len (by rw [List.length_singleton]; omega), List.length_cons, List.length_replicate]
    omega
  · cases i with
    | zero =>
      cases h
      exact ⟨a, rfl, hS⟩
    | succ i =>
      have h : (List.replicate n Sl.no)[i]? = some sl := h
      rw [List.getElem?_replicate] at h
      split at h
      · cases h
        trivial
      · cases h
  · exfalso
    cases i with
    | zero => cases h
    | succ i =>
      have h : (List.replicate n Sl.no)[i]? = some (.own ds) := h
      rw [List.getElem?_replicate] at h
      split at h <;> cases h
theorem law_ok (n : Nat) (F : Fun K x qual st f fd) (S : FnScope N ["script"] (defScope st)) (hn : 1 + n = N.length)
    (body : ∀ (cdv : Value) (A : Around) (outer : List Env) (s : Shared) (H : Hp) (E : XK), (cxOf CX0 P0 w K mg base N qual (defScope st) f cdv A outer s H E).A.guards = some [] → Room k (cxOf CX0 P0 w K mg base N qual (defScope st) f cdv A outer s H E).A →
      ∃ t, PSs (cxOf CX0 P0 w K mg base N qual (defScope st) f cdv A outer s H E).nox (defBody st) t ∧ ∀ H (ns : List Int), ns.length ≤ 63 → VS ⟨K, H, H, none⟩ t (.rd (ns.map V.int) :: List.replicate n .no) { nx := fun _ => False, rt := Is (.bool true) }) :
    GOk P0 w K mg base CX0 (k + 1) f fd ["script"] (Lw K) := by
  refine gok_of F S (fun {vs H Q E} ⟨a, ns, e, _⟩ => by rw [e]; rfl) fun cdv A outer s H vs Q E hg hr ⟨a, ns, e, hS, hl, hq⟩ => ?_
  subst e
  obtain ⟨t, ht, hv⟩ := body cdv A outer s H E hg hr
  refine ⟨t, ht.nox, hv H ns hl H H _ _ (fm_law hS hn) (fun _ _ _ _ e => e.elim) ?_ (fun _ _ _ _ e => e.elim) fun _ _ _ _ e => e.elim⟩
  intro d v B' H' e _ kd
  cases e
  obtain rfl := dp_bl kd
  exact hq H'
end
end Ly

/-! LyK: the laws' own draws: _law_draw, _law_any, _law_of, _law_mixed (their readings and what these give). -/
namespace Ly
open PySem PySem.Spec PyProof.Rows L2

/-- the source of draws is made from the script and a number -/
def Dr (K : PySem.W.Frag) : Sp := fun vs H Q _ => ∃ (B : Hp) (a : Addr) (ns : List Int) (salt : Int), vs = [.ref a, .int salt] ∧ Same B H ∧ SqL K B a (ns.map V.int) ∧ 0 ≤ salt ∧ salt ≤ 1000 ∧ ns.length ≤ 63 ∧
  ∀ p q B' H', Stp none B H B' H' → H p = none → H q = none → B' p = none → B' q = none → DealAt H' p q → Q (.ref p) H'
def P_any (ds : List D) : Prop := ∃ b : Int, ds = [.int b] ∧ 0 < b ∧ b < 1000000000000
def R_any (ds : List D) (d : D) : Prop := ∀ b : Int, ds = [.int b] → ∃ r, d = .int r ∧ 0 ≤ r ∧ r < b
def P_of (ds : List D) : Prop := ∃ xs, (ds = [.list xs] ∨ ds = [.tuple xs]) ∧ xs ≠ [] ∧ xs.length ≤ 100000
def R_of (ds : List D) (d : D) : Prop := ∀ xs, (ds = [.list xs] ∨ ds = [.tuple xs]) → d ∈ xs
def P_mixed (ds : List D) : Prop := ∃ xs, (ds = [.list xs] ∨ ds = [.tuple xs]) ∧ xs.length ≤ 10000
def R_mixed (ds : List D) (d : D) : Prop := ∀ xs, (ds = [.list xs] ∨ ds = [.tuple xs]) → ∃ ys, d = .list ys ∧ ys.Perm xs
end Ly

/-! LyL: what _law_any, _law_of, _law_mixed give. -/
namespace Ly
open PySem PySem.Spec PyProof.Rows L2

abbrev tIx0 (K : PySem.W.Frag) (i : Int) : TE := tOp (rIx K) (tVar 0) (tC (.int i))
abbrev rMod : R2 := rI (fun _ j => 0 < j) fun i j => .int (i % j)
abbrev rDiv : R2 := rI CDivW fun i j => .int (i / j)
abbrev rMul : R2 := rI CMulW fun i j => .int (i * j)
def t_any (K : PySem.W.Frag) : TS :=
  tSeq (tWhile (tAnd (tTest (tOp (rNeA K) (tIx0 K 0) (tLst tNil))) (tTest (tOp (rEqA K) (tOp (rIx K) (tIx0 K 0) (tUn (rU fun i => .int (-i)) (tC (.int 1)))) (tC (.int 0))))) (tDrop (tBM0 K "list" rPop (tIx0 K 0))))
  (tSeq (tIfS (tTest (tOp (rNeA K) (tIx0 K 0) (tLst tNil))) (tSeq (tAsg (tCB rInt1 (tCons (tBM0 K "list" rPop (tIx0 K 0)) tNil)) (gName 2))
      (tSeq (tDrop (tBM K "list" rAppend (tIx0 K 0) (tCons (tOp rDiv (tVar 2) (tVar 1)) tNil))) (tRet (tOp rMod (tVar 2) (tVar 1))))) tNext)
  (tSeq (tAsg (tOp rMod (tCB rInt1 (tCons (tOp (rAddA K) (tOp rMul (tIx0 K 1) (tC (.int 40693))) (tC (.int 71))) tNil)) (tC (.int 2147483647))) (gSub (tVar 0) (tC (.int 1)) rSetL))
    (tRet (tOp rMod (tCB rInt1 (tCons (tOp rDiv (tIx0 K 1) (tC (.int 64))) tNil)) (tVar 1)))))

theorem shaped_ints (ns : List Int) : SeqAt.shaped (.list (ns.map .int)) = true := by
  have h1 : ∀ ns : List Int, PyData.canLayAll0 (ns.map .int) = true := fun ns => by
    induction ns with
    | nil => simp [PyData.canLayAll0]
    | cons n ns ih => simp [PyData.canLayAll0, PyData.canLay0, ih]
  have h2 : ∀ ns : List Int, PyData.depthAll (ns.map .int) ≤ 1 := fun ns => by
    induction ns with
    | nil => simp [PyData.depthAll]
    | cons n ns ih =>
      simp only [List.map_cons, PyData.depthAll, PyData.depth]
      omega
  have h3 := h2 ns
  have h4 : PyData.depth (.list (ns.map .int)) ≤ 64 := by
    simp only [PyData.depth]
    omega
  have h5 : PyData.canLay0 (.list (ns.map .int)) = true := by
    simp only [PyData.canLay0]
    exact h1 ns
  unfold SeqAt.shaped
  rw [h5, decide_eq_true h4]
  rfl
theorem dp_ints {K : PySem.W.Frag} {H : Hp} {q : Addr} {ns : List Int} (h : H q = some (.lst (ns.map V.int))) : Dp K H (.ref q) (.list (ns.map .int)) := by
  refine .lst (Or.inl (Or.inl h)) ?_
  clear h
  induction ns with
  | nil => exact .nil
  | cons n ns ih => exact .cons (.int n) ih
theorem Stp.dealSet {p q a : Addr} {CB CH B H : Hp} {o : HO} (s : Stp (some (p, q)) CB CH B H) (ha : a = p ∨ a = q) (hB : B a = none) (hd : DealAt (upd H a o) p q) : Stp (some (p, q)) CB CH B (upd H a o) := by
  refine ⟨s.ext, fun b u e => ?_, fun b u e m => ?_, s.out, fun p' q' e _ => ?_⟩
  · rw [upd_ne (ne_of_none e hB)]
    exact s.sub b u e
  · have nb : b ≠ a := fun z => m ⟨p, q, rfl, z ▸ ha⟩
    rw [upd_ne nb]
    exact s.keep b u e m
  · cases e
    exact hd

section
variable {K : PySem.W.Frag} {σ : L2.St} {H : Hp} {p q : Addr} {ns : List Int} {c b : Int} {Q : VK}
theorem ix0_run (h0 : σ[0]? = some (some (.ref p))) (hp : H p = some (.lst [.ref q, .int c])) (k : Q (.ref q) H) : tIx0 K 0 σ H Q := ⟨.ref p, h0, Or.inl ⟨p, _, 0, .ref q, rfl, rfl, SqL.of hp, rfl, k⟩⟩
theorem ix1_run (h0 : σ[0]? = some (some (.ref p))) (hp : H p = some (.lst [.ref q, .int c])) (k : Q (.int c) H) : tIx0 K 1 σ H Q := ⟨.ref p, h0, Or.inl ⟨p, _, 1, .int c, rfl, rfl, SqL.of hp, rfl, k⟩⟩
theorem eqv_nil (ns : List Int) : PyData.eqv (.list (ns.map .int)) (.list []) = decide (ns = []) := by
  cases ns <;> simp [PyData.eqv, PyData.eqvAll]
/-- deal[0] != [] -/
theorem ne_run {Qb : Bool → Hp → Prop} (h0 : σ[0]? = some (some (.ref p))) (hp : H p = some (.lst [.ref q, .int c])) (hq : H q = some (.lst (ns.map V.int))) (k : ∀ r, H r = none → Qb (!decide (ns = [])) (upd H r (.lst []))) :
    tTest (tOp (rNeA K) (tIx0 K 0) (tLst tNil)) σ H Qb := by
  refine ix0_run h0 hp ⟨by show 0 ≤ sizeLine; decide, fun r hr => ?_⟩
  have hq' : upd H r (.lst []) q = some (.lst (ns.map V.int)) := by
    rw [upd_ne (ne_of_none hq hr)]
    exact hq
  refine Or.inr ⟨.list (ns.map .int), .list [], dp_ints hq', dp_ints (ns := []) upd_same, shaped_ints ns, shaped_ints [], _, rfl, ?_⟩
  rw [eqv_nil]
  exact k r hr
/-- all that _law_any needs to know of a moment -/
structure AnyAt (C : Cn) (p q : Addr) (B H : Hp) (σ : L2.St) (b : Int) (ns : List Int) (c : Int) : Prop where
  st : Stp (some (p, q)) C.B C.H B H
  n1 : B p = none
  n2 : B q = none
  len : σ.length = 3
  s0 : σ[0]? = some (some (.ref p))
  s1 : σ[1]? = some (some (.int b))
  ne : p ≠ q
  hp : H p = some (.lst [.ref q, .int c])
  hq : H q = some (.lst (ns.map V.int))
  sz : ns.length ≤ 64
  c0 : 0 ≤ c
  c1 : c < 2147483648
variable {C : Cn} {B : Hp}
theorem AnyAt.deal (a : AnyAt C p q B H σ b ns c) : DealAt H p q := ⟨a.ne, ns, c, a.hp, a.hq, a.sz, a.c0, a.c1⟩
theorem AnyAt.new {r : Addr} {o : HO} (a : AnyAt C p q B H σ b ns c) (hd : C.dl = some (p, q)) (h0 : DealAt C.H p q) (h : H r = none) : AnyAt C p q B (upd H r o) σ b ns c := by
  refine { a with st := ?_, hp := ?_, hq := ?_ }
  · exact a.st.trans (fun p' q' e => by cases e; exact h0) (Stp.newM a.st.sub h)
  · rw [upd_ne (ne_of_none a.hp h)]
    exact a.hp
  · rw [upd_ne (ne_of_none a.hq h)]
    exact a.hq
theorem AnyAt.setQ (a : AnyAt C p q B H σ b ns c) {ms : List Int} (hm : ms.length ≤ 64) : AnyAt C p q B (upd H q (.lst (ms.map V.int))) σ b ms c := by
  have hp : upd H q (.lst (ms.map V.int)) p = some (.lst [.ref q, .int c]) := by
    rw [upd_ne a.ne]
    exact a.hp
  exact { a with st := a.st.dealSet (Or.inr rfl) a.n2 ⟨a.ne, ms, c, hp, upd_same, hm, a.c0, a.c1⟩, hp := hp, hq := upd_same, sz := hm }
theorem AnyAt.setP (a : AnyAt C p q B H σ b ns c) {d : Int} (h0 : 0 ≤ d) (h1 : d < 2147483648) : AnyAt C p q B (upd H p (.lst [.ref q, .int d])) σ b ns d := by
  have hq : upd H p (.lst [.ref q, .int d]) q = some (.lst (ns.map V.int)) := by
    rw [upd_ne a.ne.symm]
    exact a.hq
  exact { a with st := a.st.dealSet (Or.inl rfl) a.n1 ⟨a.ne, ns, d, upd_same, hq, a.sz, h0, h1⟩, hp := upd_same, hq := hq, c0 := h0, c1 := h1 }
theorem AnyAt.slot2 (a : AnyAt C p q B H σ b ns c) (v : V) : AnyAt C p q B H (σ.set 2 (some v)) b ns c := by
  refine { a with len := by rw [List.length_set]; exact a.len, s0 := ?_, s1 := ?_ }
  · rw [List.getElem?_set_ne (by decide)]
    exact a.s0
  · rw [List.getElem?_set_ne (by decide)]
    exact a.s1
theorem last_map {ns : List Int} (h : ns ≠ []) : (ns.map V.int)[(ns.map V.int).length - 1]? = some (.int (ns.getLast h)) := by
  rw [← List.getLast?_eq_getElem?, List.getLast?_map, List.getLast?_eq_getLast h]
  rfl
theorem drop_map (ns : List Int) : (ns.map V.int).dropLast = (ns.dropLast).map V.int := by rw [List.map_dropLast]
/-- deal[0].pop() -/
theorem pop_run (a : AnyAt C p q B H σ b ns c) (h : ns ≠ []) (k : Q (.int (ns.getLast h)) (upd H q (.lst (ns.dropLast.map V.int)))) : tBM0 K "list" rPop (tIx0 K 0) σ H Q := by
  refine ix0_run a.s0 a.hp ⟨own_ty a.hq, q, _, _, rfl, rfl, a.hq, last_map h, ?_⟩
  rw [drop_map]
  exact k
theorem dropLast_len {ns : List Int} : ns.dropLast.length ≤ ns.length := by rw [List.length_dropLast]; omega

theorem vs_any {K : PySem.W.Frag} {B0 H0 : Hp} {p q : Addr} {ds : List D} (hP : P_any ds) : VS ⟨K, B0, H0, some (p, q)⟩ (t_any K) (.deal :: slots ds 1) { nx := fun _ => R_any ds .none, rt := R_any ds } := by
  obtain ⟨b, rfl, hb0, hb1⟩ := hP
  intro B H σ E F hn hr hk hc
  have hdl := F.dl p q rfl
  have hd0 : DealAt H0 p q := hdl.1
  obtain ⟨n1, n2⟩ := F.dlOut (p := p) (q := q) rfl
  obtain ⟨ne, ns, c, hp, hq, hz, hc0, hc1⟩ := F.dlNow p q rfl
  obtain ⟨p', q', e, s0⟩ := F.slot 0 .deal rfl
  cases e
  obtain ⟨v, s1, kv⟩ := F.slot 1 (.dat (.int b)) rfl
  obtain rfl := dp_int kv
  have A0 : AnyAt ⟨K, B0, H0, some (p, q)⟩ p q B H σ b ns c := ⟨F.st, n1, n2, F.len, s0, s1, ne, hp, hq, hz, hc0, hc1⟩
  have ret : ∀ {H' : Hp} {ms : List Int} {d r : Int} {σ' : L2.St}, AnyAt ⟨K, B0, H0, some (p, q)⟩ p q B H' σ' b ms d → 0 ≤ r → r < b → E.rt (.int r) H' := fun a h1 h2 =>
    hr (.int _) _ B _ (fun b' e => by cases e; exact ⟨_, rfl, h1, h2⟩) a.st (.int _)
  refine ⟨fun m σ' H' => ∃ ms d, AnyAt ⟨K, B0, H0, some (p, q)⟩ p q B H' σ' b ms d ∧ m = ms.length, ⟨_, ns, c, A0, rfl⟩, ?_⟩
  rintro m σ1 H1 ⟨ms, d, A1, rfl⟩
  -- behind the loop
  have rest : ∀ {H2 : Hp} {ms : List Int} {d : Int}, AnyAt ⟨K, B0, H0, some (p, q)⟩ p q B H2 σ1 b ms d →
      (tSeq (tIfS (tTest (tOp (rNeA K) (tIx0 K 0) (tLst tNil))) (tSeq (tAsg (tCB rInt1 (tCons (tBM0 K "list" rPop (tIx0 K 0)) tNil)) (gName 2))
        (tSeq (tDrop (tBM K "list" rAppend (tIx0 K 0) (tCons (tOp rDiv (tVar 2) (tVar 1)) tNil))) (tRet (tOp rMod (tVar 2) (tVar 1))))) tNext)
      (tSeq (tAsg (tOp rMod (tCB rInt1 (tCons (tOp (rAddA K) (tOp rMul (tIx0 K 1) (tC (.int 40693))) (tC (.int 71))) tNil)) (tC (.int 2147483647))) (gSub (tVar 0) (tC (.int 1)) rSetL))
        (tRet (tOp rMod (tCB rInt1 (tCons (tOp rDiv (tIx0 K 1) (tC (.int 64))) tNil)) (tVar 1))))) E σ1 H2 := by
    intro H2 ms d A2
    refine ne_run A2.s0 A2.hp A2.hq fun r hr1 => ?_
    have A3 := A2.new (o := .lst []) rfl hd0 hr1
    by_cases hm : ms = []
    · rw [decide_eq_true hm]
      refine iteF ?_
      -- deal[1] = int(deal[1] * 40693 + 71) % 2147483647
      refine ix1_run A3.s0 A3.hp ⟨d, 40693, rfl, rfl, wide_mul (a := 32) (b := 32) (by have := A3.c0; have := A3.c1; omega) (by decide) (by decide) (by decide) (by decide), ?_⟩
      refine Or.inl ⟨d * 40693, 71, rfl, rfl, ?_⟩
      refine Or.inl ⟨d * 40693 + 71, rfl, ?_⟩
      refine ⟨_, 2147483647, rfl, rfl, (by show (0 : Int) < 2147483647; decide), ?_⟩
      have e0 : 0 ≤ (d * 40693 + 71) % 2147483647 := Int.emod_nonneg _ (by decide)
      have e1 : (d * 40693 + 71) % 2147483647 < 2147483647 := Int.emod_lt_of_pos _ (by decide)
      have A4 := A3.setP (d := (d * 40693 + 71) % 2147483647) e0 (by omega)
      refine ⟨.ref p, A3.s0, p, _, 1, 1, rfl, rfl, A3.hp, rfl, ?_⟩
      show tRet (tOp rMod (tCB rInt1 (tCons (tOp rDiv (tIx0 K 1) (tC (.int 64))) tNil)) (tVar 1)) E σ1 _
      -- return int(deal[1] // 64) % bound
      refine ix1_run A4.s0 A4.hp ⟨_, 64, rfl, rfl, wide_div (b := 7) (by decide) (by decide) (by decide) (by decide), ?_⟩
      refine Or.inl ⟨_, rfl, ?_⟩
      refine ⟨.int b, A4.s1, _, b, rfl, rfl, hb0, ?_⟩
      exact ret A4 (Int.emod_nonneg _ (by omega)) (Int.emod_lt_of_pos _ hb0)
    · rw [decide_eq_false hm]
      refine iteT ?_
      -- rest = int(deal[0].pop())
      refine pop_run A3 hm (Or.inl ⟨_, rfl, ?_⟩)
      have A4 := (A3.setQ (ms := ms.dropLast) (Nat.le_trans dropLast_len A3.sz)).slot2 (.int (ms.getLast hm))
      have s2 : (σ1.set 2 (some (.int (ms.getLast hm))))[2]? = some (some (.int (ms.getLast hm))) := List.getElem?_set_self (by rw [A3.len]; decide)
      -- deal[0].append(rest // bound)
      refine ix0_run A4.s0 A4.hp ⟨own_ty A4.hq, ⟨_, s2, _, A4.s1, _, b, rfl, rfl, wide_div (b := 64) hb0 (by omega) (by decide) (by decide), ?_⟩⟩
      have hlen : ms.dropLast.length + 1 ≤ 64 := by
        rw [List.length_dropLast]
        have := A3.sz
        have : 0 < ms.length := List.length_pos_iff.mpr hm
        omega
      refine ⟨q, _, .int (ms.getLast hm / b), rfl, rfl, A4.hq, sz6 (by rw [List.length_map]; omega), ?_⟩
      have A5 := A4.setQ (ms := ms.dropLast ++ [ms.getLast hm / b]) (by rw [List.length_append]; exact hlen)
      rw [show ms.dropLast.map V.int ++ [V.int (ms.getLast hm / b)] = (ms.dropLast ++ [ms.getLast hm / b]).map V.int by rw [List.map_append]; rfl]
      -- return rest % bound
      refine ⟨_, s2, _, A5.s1, _, b, rfl, rfl, hb0, ?_⟩
      exact ret A5 (Int.emod_nonneg _ (by omega)) (Int.emod_lt_of_pos _ hb0)
  -- the test of the loop
  refine ne_run A1.s0 A1.hp A1.hq fun r hr1 => ?_
  have A2 := A1.new (o := .lst []) rfl hd0 hr1
  by_cases hm : ms = []
  · rw [decide_eq_true hm]
    exact iteF (iteF (rest A2))
  · rw [decide_eq_false hm]
    refine iteT ?_
    refine ix0_run A2.s0 A2.hp ⟨1, rfl, Or.inl ⟨q, _, -1, .int (ms.getLast hm), rfl, rfl, SqL.of A2.hq, ?_, ?_⟩⟩
    · exact atI_neg1 (by rw [List.getLast?_map, List.getLast?_eq_getLast hm]; rfl)
    · refine Or.inl ⟨rfl, _, rfl, ?_⟩
      by_cases hz : V.int (ms.getLast hm) = .int 0
      · rw [decide_eq_true hz]
        refine iteT ⟨_, fun σ' H' h => h, ?_⟩
        refine pop_run A2 hm ?_
        refine ⟨ms.dropLast.length, ?_, ms.dropLast, d, A2.setQ (Nat.le_trans dropLast_len A2.sz), rfl⟩
        rw [List.length_dropLast]
        have : 0 < ms.length := List.length_pos_iff.mpr hm
        omega
      · rw [decide_eq_false hz]
        exact iteF (rest A2)
end
end Ly

/-! LyM: what _law_draw, _law_of, _law_mixed give. -/
namespace Ly
open PySem PySem.Spec PyProof.Rows L2

section
variable {C : Cn} {Γ : List Sl} {tl th : TO} {lo hi : Option Int} {i : Nat} {ns : List Int}
theorem ints_dq {K : PySem.W.Frag} {H : Hp} : ∀ ns : List Int, DqAll K H (ns.map V.int) (ns.map PyData.int)
  | [] => .nil
  | n :: ns => .cons (.int n) (ints_dq ns)
theorem cut_map {α β : Type} (f : α → β) (xs : List α) : cut (xs.map f) lo hi = (cut xs lo hi).map f := by
  unfold cut
  rw [List.length_map, List.map_take, List.map_drop]
theorem cut_sub {α : Type} (xs : List α) : ∀ x ∈ cut xs lo hi, x ∈ xs := fun x h => List.mem_of_mem_drop (List.mem_of_mem_take h)
theorem cut_len {α : Type} (xs : List α) : (cut xs lo hi).length ≤ xs.length := by
  unfold cut
  rw [List.length_take, List.length_drop]
  omega
/-- a slice of a list that is read alone -/
theorem vl_slRd (h : Γ[i]? = some (.rd (ns.map V.int))) (h1 : VO C tl Γ (Is lo)) (h2 : VO C th Γ (Is hi)) : VL C (tSl (rSlany C.K) (tVar i) tl th) Γ (Is ((cut ns lo hi).map .int)) := fun B H σ F Q q => by
  obtain ⟨a, e, hs⟩ := F.slot i _ h
  refine ⟨.ref a, e, h1 B H σ F _ fun o B2 H2 e2 s2 => h2 B2 H2 σ (F.step s2) _ fun o' B3 H3 e3 s3 => ?_⟩
  cases e2
  cases e3
  have F3 := (F.step s2).step s3
  have st := s2.trans F.dlNow s3
  refine Or.inl ⟨a, _, rfl, same_l F3.sub (same_l st.ext hs), fun p hp => ?_⟩
  refine q _ p ((cut ns lo hi).map V.int) B3 _ rfl (st.trans F.dlNow (Stp.newM F3.sub hp)) (back_none F st hp) (F3.sub.free hp) ?_ (ints_dq _)
  rw [upd_same]
  show some (HO.lst (cutV (ns.map V.int) lo hi)) = _
  rw [show cutV (ns.map V.int) lo hi = cut (ns.map V.int) lo hi from rfl, cut_map]
end

def t_draw (K : PySem.W.Frag) : TS :=
  tSeq (tAsg (tLc (iAny K (tSl (rSlany K) (tVar 0) tNoPart (tPart (tC (.int 48))))) (gName 3) tYes (tCB rAbs (tCons (tCB rInt1 (tCons (tVar 3) tNil)) tNil)) [3]) (gName 2))
  (tSeq (tAsg (tOp (rAddA K) (tC (.int 7919)) (tOp rMul (tC (.int 104729)) (tVar 1))) (gName 4))
  (tSeq (tFor (iAny K (tVar 2)) (gName 3) (tAsg (tOp rMod (tCB rInt1 (tCons (tOp (rAddA K) (tOp (rAddA K) (tOp rMul (tVar 4) (tC (.int 48271))) (tOp rMod (tVar 3) (tC (.int 2147483549)))) (tC (.int 11))) tNil)) (tC (.int 2147483647))) (gName 4)))
  (tRet (tLst (tCons (tRevL K (tLc (iAny K (tVar 2)) (gName 3) (tTest (tOp (rI0 fun i j => .bl (decide (j ≤ i))) (tVar 3) (tOp (rI CPow fun i j => .int (i ^ j.toNat)) (tC (.int 10)) (tC (.int 18))))) (tVar 3) [3])) (tCons (tVar 4) tNil))))))
/-- what its names hold behind the first statements -/
def DrawAt (ns : List Int) (salt : Int) (Γ : List Sl) : Prop := ∃ (cs : List Int) (c : Int) (s3 : Sl), Γ = [.rd (ns.map V.int), .dat (.int salt), .dat (.list (cs.map .int)), s3, .dat (.int c)] ∧ cs.length ≤ 63 ∧ 0 ≤ c ∧ c < 2147483648 ∧ (s3 = .no ∨ ∃ d, s3 = .dat d)

section
variable {P0 : Program} {w : World} {K : PySem.W.Frag} {mg : Str → Option Value} {base : Heap} {k : Nat} {f : Addr} {fd : FuncData} {x qual : Str} {st : Stmt}
theorem len_of {α : Type} {xs : List α} {n : Nat} (h : xs.length ≤ n) {m : Nat} (hm : n ≤ m := by decide) : xs.length ≤ m := Nat.le_trans h hm
theorem ret_two {tr te : TE} {E : Ends} {σ : L2.St} {H : Hp} (h : tr σ H fun v H1 => te σ H1 fun w H2 => 2 ≤ sizeLine ∧ ∀ p, H2 p = none → E.rt (.ref p) (upd H2 p (.lst [v, w]))) : tRet (tLst (tCons tr (tCons te tNil))) E σ H := h
theorem vs_draw {B H : Hp} {ns : List Int} {salt : Int} (h0 : 0 ≤ salt) (h1 : salt ≤ 1000) (hn : ns.length ≤ 63) (E : Ends) (σ : L2.St) (F : Fm ⟨K, B, H, none⟩ B H σ [.rd (ns.map V.int), .dat (.int salt), .no, .no, .no])
    (q : ∀ p q B' H', Stp none B H B' H' → H p = none → H q = none → B' p = none → B' q = none → DealAt H' p q → E.rt (.ref p) H') : t_draw K E σ H := by
  -- cells
  have hc : VL ⟨K, B, H, none⟩ (tLc (iAny K (tSl (rSlany K) (tVar 0) tNoPart (tPart (tC (.int 48))))) (gName 3) tYes (tCB rAbs (tCons (tCB rInt1 (tCons (tVar 3) tNil)) tNil)) [3]) [.rd (ns.map V.int), .dat (.int salt), .no, .no, .no]
      (fun es => ∃ cs : List Int, es = cs.map .int ∧ cs.length ≤ 63) := by
    refine vl_lc (va_listD (vl_slRd (i := 0) (ns := ns) (lo := none) (hi := some 48) rfl vo_none (vo_someD ve_int)).ed) fun ds e => ?_
    cases e
    have hl : ((cut ns none (some 48)).map PyData.int).length ≤ 63 := by
      rw [List.length_map]
      exact Nat.le_trans (cut_len ns) hn
    refine ⟨len_of hl, fun i acc => ∃ cs : List Int, acc = cs.map .int ∧ cs.length ≤ i, ⟨[], rfl, Nat.le_refl _⟩, fun i d acc hd ⟨cs, e, hi⟩ => ?_, fun acc ⟨cs, e, hi⟩ => ⟨cs, e, Nat.le_trans hi hl⟩⟩
    rw [List.getElem?_map] at hd
    obtain ⟨m, _, rfl⟩ := Option.map_eq_some_iff.mp hd
    refine ⟨_, _, vg_name, fun j hj => hj, Is true, vt_yes, fun _ => ?_, fun e => by cases e⟩
    refine (ve_abs (ve_int1 (i := m) (ve_var rfl))).imp fun y ey => ?_
    subst ey e
    exact ⟨cs ++ [if m < 0 then -m else m], by rw [List.map_append]; rfl, by rw [List.length_append]; exact Nat.succ_le_succ hi⟩
  refine vs_asg (P := ⟨fun Γ => ∃ cs : List Int, Γ = [.rd (ns.map V.int), .dat (.int salt), .dat (.list (cs.map .int)), .no, .no] ∧ cs.length ≤ 63, fun _ => False, fun _ => False, fun _ => False⟩) hc.e
    (fun d ⟨es, e, cs, e2, hl⟩ => ⟨cs, by subst e e2; rfl, hl⟩) B H σ _ F (fun Γ1 B1 H1 σ1 ⟨cs, e, hl⟩ sB1 F1 => ?_) (fun _ _ _ _ e => e.elim) (fun _ _ _ _ e => e.elim) (fun _ _ _ _ e => e.elim)
  subst e
  -- blend
  refine vs_asg (P := ⟨DrawAt ns salt, fun _ => False, fun _ => False, fun _ => False⟩) (ve_opD ve_int.v (ve_opD ve_int.v (ve_var rfl).v (od_mul (wide_mul (a := 20) (b := 20) (by decide) (by omega) (by decide) (by decide) (by decide)))).v od_add)
    (fun d e => ⟨cs, 7919 + 104729 * salt, .no, by cases e; rfl, hl, by omega, by omega, Or.inl rfl⟩) B1 H1 σ1 _ F1 (fun Γ2 B2 H2 σ2 hd2 sB2 F2 => ?_) (fun _ _ _ _ e => e.elim) (fun _ _ _ _ e => e.elim) (fun _ _ _ _ e => e.elim)
  obtain ⟨cs2, c2, s3, e, hl2, hc0, hc1, hs3⟩ := hd2
  subst e
  -- the loop
  refine vs_for (P := ⟨DrawAt ns salt, fun _ => False, fun _ => False, fun _ => False⟩) (va_listD (ve_var rfl)) (fun ds e => ?_) B2 H2 σ2 _ F2 (fun Γ3 B3 H3 σ3 hd3 sB3 F3 => ?_) (fun _ _ _ _ e => e.elim) (fun _ _ _ _ e => e.elim) (fun _ _ _ _ e => e.elim)
  · cases e
    refine ⟨fun _ Γ => ∃ (c : Int) (s3 : Sl), Γ = [.rd (ns.map V.int), .dat (.int salt), .dat (.list (cs2.map .int)), s3, .dat (.int c)] ∧ 0 ≤ c ∧ c < 2147483648 ∧ (s3 = .no ∨ ∃ d, s3 = .dat d), ⟨c2, s3, rfl, hc0, hc1, hs3⟩, fun i d Γ' hd ⟨c, s3, e, h0, h1, _⟩ => ?_, fun Γ' ⟨c, s3, e, h0, h1, h2⟩ => ⟨cs2, c, s3, e, hl2, h0, h1, h2⟩⟩
    subst e
    rw [List.getElem?_map] at hd
    obtain ⟨m, _, rfl⟩ := Option.map_eq_some_iff.mp hd
    refine ⟨_, _, vg_name, vs_asg (ve_opD (ve_int1 (ve_opD (ve_opD (ve_opD (ve_var rfl).v ve_int.v (od_mul (wide_mul (a := 32) (b := 32) (by omega) (by decide) (by decide) (by decide) (by decide)))).v (ve_opD (ve_var rfl).v ve_int.v (od_mod (by decide))).v od_add).v ve_int.v od_add)).v ve_int.v (od_mod (by decide))) fun d e => ?_⟩
    cases e
    refine ⟨_, _, rfl, Int.emod_nonneg _ (by decide), ?_, Or.inr ⟨_, rfl⟩⟩
    have := Int.emod_lt_of_pos (c * 48271 + m % 2147483549 + 11) (show (0 : Int) < 2147483647 by decide)
    omega
  -- the end
  obtain ⟨cs3, c3, s3', e, hl3, hc0', hc1', _⟩ := hd3
  subst e
  have hr : VL ⟨K, B, H, none⟩ (tRevL K (tLc (iAny K (tVar 2)) (gName 3) (tTest (tOp (rI0 fun i j => .bl (decide (j ≤ i))) (tVar 3) (tOp (rI CPow fun i j => .int (i ^ j.toNat)) (tC (.int 10)) (tC (.int 18))))) (tVar 3) [3]))
      [.rd (ns.map V.int), .dat (.int salt), .dat (.list (cs3.map .int)), s3', .dat (.int c3)] (fun es => ∃ cs : List Int, es = cs.map .int ∧ cs.length ≤ 64) := by
    refine (vl_rev (S := fun es => ∃ cs : List Int, es = cs.map .int ∧ cs.length ≤ 64) (VL.v ?_)).imp fun es ⟨ds, ⟨cs, e1, e2⟩, e3⟩ => ⟨cs.reverse, by rw [e3, e1, List.map_reverse], by rw [List.length_reverse]; exact e2⟩
    refine vl_lc (va_listD (ve_var rfl)) fun ds e => ?_
    cases e
    have hl : (cs3.map PyData.int).length ≤ 63 := by
      rw [List.length_map]
      exact hl3
    refine ⟨len_of hl, fun i acc => ∃ cs : List Int, acc = cs.map .int ∧ cs.length ≤ i, ⟨[], rfl, Nat.le_refl _⟩, fun i d acc hd ⟨cs, e, hi⟩ => ?_, fun acc ⟨cs, e, hi⟩ => ⟨cs, e, by omega⟩⟩
    rw [List.getElem?_map] at hd
    obtain ⟨m, _, rfl⟩ := Option.map_eq_some_iff.mp hd
    refine ⟨_, _, vg_name, fun j hj => hj, fun _ => True, (vt_testD (ve_opD (ve_var rfl).v (ve_opD ve_int.v ve_int.v (od_pow ⟨by decide, by decide, by decide⟩)).v od_ge)).imp fun _ _ => trivial, fun _ => ?_, fun _ => ⟨cs, e, Nat.le_succ_of_le hi⟩⟩
    refine (ve_var (i := 3) (d := .int m) rfl).imp fun y ey => ?_
    subst ey e
    exact ⟨cs ++ [m], by rw [List.map_append]; rfl, by rw [List.length_append]; exact Nat.succ_le_succ hi⟩
  refine ret_two (hr B3 H3 σ3 F3 _ fun es r vs B4 H4 ⟨cs, e, hcs⟩ s4 g1 g2 g3 g4 => ?_)
  subst e
  obtain ⟨v, hv, kv⟩ := F3.slot 4 _ rfl
  obtain rfl := dp_int kv
  refine ⟨.int c3, hv, by show 2 ≤ sizeLine; decide, fun p hp => ?_⟩
  have F4 := F3.step s4
  have st : Stp none B H B4 (upd H4 p (.lst [.ref r, .int c3])) := F4.st.trans (fun p q e => by cases e) (Stp.newM F4.sub hp)
  have nr : r ≠ p := fun z => by
    subst z
    rw [g3] at hp
    cases hp
  refine q p r B4 _ st (F4.newC hp) (F3.newC g1) (F4.sub.free hp) g2 ⟨nr.symm, cs, c3, upd_same, ?_, hcs, hc0', hc1'⟩
  rw [upd_ne nr, g3, dpall_ints g4]
theorem draw_ok {N : List Str} (F : Fun K x qual st f fd) (S : FnScope N ["script", "salt"] (defScope st)) (hN : N.length = 5)
    (body : ∀ (cdv : Value) (A : Around) (outer : List Env) (s : Shared) (H : Hp) (E : XK), (cxOf CX0 P0 w K mg base N qual (defScope st) f cdv A outer s H E).A.guards = some [] → Room k (cxOf CX0 P0 w K mg base N qual (defScope st) f cdv A outer s H E).A →
      PSs (cxOf CX0 P0 w K mg base N qual (defScope st) f cdv A outer s H E).nox (defBody st) (t_draw K)) : GOk P0 w K mg base CX0 (k + 1) f fd ["script", "salt"] (Dr K) := by
  refine gok_of F S (fun {vs H Q E} ⟨_, a, ns, salt, e, _⟩ => by rw [e]; rfl) fun cdv A outer s H vs Q E hg hr ⟨B, a, ns, salt, e, hs, hS, h0, h1, hn, hq⟩ => ?_
  subst e
  refine ⟨_, (body cdv A outer s H E hg hr).nox, vs_draw h0 h1 hn _ _ ?_ hq⟩
  refine ⟨Stp.refl hs, (fun p q e => nomatch e), ?_, fun i sl h => ?_, fun i j p ds es h => ?_⟩
  · rw [start_len (by rw [hN]; exact (by decide : 2 ≤ 5)), hN]
    rfl
  · match i, h with
    | 0, h => cases h; exact ⟨a, rfl, hS⟩
    | 1, h => cases h; exact ⟨_, rfl, .int _⟩
    | 2, h => cases h; trivial
    | 3, h => cases h; trivial
    | 4, h => cases h; trivial
    | n + 5, h => cases h
  · exfalso
    match i, h with
    | 0, h => cases h
    | 1, h => cases h
    | 2, h => cases h
    | 3, h => cases h
    | 4, h => cases h
    | n + 5, h => cases h
end

/-! ### one of some things -/
abbrev tAny (K : PySem.W.Frag) (e : TE) : TE := tCallK (De K P_any R_any) (fun vs _ => vs) E0 (tCons (tVar 0) (tCons e tNil)) tNil
section
variable {C : Cn} {Γ : List Sl} {te : TE} {n : Int}
theorem ve_any (h0 : Γ[0]? = some .deal) (h : VE C te Γ (Is (.int n))) (hn : 0 < n) (hm : n < 1000000000000) : VE C (tAny C.K te) Γ (fun d => ∃ r, d = .int r ∧ 0 ≤ r ∧ r < n) :=
  (ve_deD h0 (va_consD h va_nil) ⟨n, rfl, hn, hm⟩).imp fun d r => r n rfl
end
def t_of (K : PySem.W.Frag) : TS := tRet (tOp (rIx K) (tVar 1) (tAny K (tCB (rLen K) (tCons (tVar 1) tNil))))
theorem vs_of {C : Cn} {ds : List D} (hP : P_of ds) : VS C (t_of C.K) (.deal :: slots ds 0) { nx := fun _ => R_of ds .none, rt := R_of ds } := by
  obtain ⟨xs, e, hne, hl⟩ := hP
  have hp : 0 < xs.length := List.length_pos_iff.mpr hne
  rcases e with rfl | rfl
  · refine vs_ret (ve_op (Ra := Is (.list xs)) (ve_var rfl).v (ve_any rfl (ve_lenL (ve_var rfl).v) (by omega) (by omega)).v fun x y ex ⟨r, ey, h0, h1⟩ => ?_)
    subst ex ey
    obtain ⟨m, rfl⟩ := Int.eq_ofNat_of_zero_le h0
    have hm : m < xs.length := by omega
    intro B H v u e k1 k2 Q q
    refine od_ixL (z := xs[m]) (atI_pos (List.getElem?_eq_getElem hm)) B H v u e k1 k2 Q fun d w B' H' ed s k => q d w B' H' (fun ys ey => ?_) s k
    subst ed
    rcases ey with ey | ey
    · cases ey
      exact List.getElem_mem hm
    · cases ey
  · refine vs_ret (ve_op (Ra := Is (.tuple xs)) (ve_var rfl).v (ve_any rfl (ve_lenT (ve_var rfl)) (by omega) (by omega)).v fun x y ex ⟨r, ey, h0, h1⟩ => ?_)
    subst ex ey
    obtain ⟨m, rfl⟩ := Int.eq_ofNat_of_zero_le h0
    have hm : m < xs.length := by omega
    intro B H v u e k1 k2 Q q
    refine od_ixT (z := xs[m]) (atI_pos (List.getElem?_eq_getElem hm)) B H v u e k1 k2 Q fun d w B' H' ed s k => q d w B' H' (fun ys ey => ?_) s k
    subst ed
    rcases ey with ey | ey
    · cases ey
    · cases ey
      exact List.getElem_mem hm
end Ly
namespace Ly
open PySem PySem.Spec PyProof.Rows L2
/-! slices by numbers -/
section
variable {α : Type} (xs : List α)
theorem cut_nat (a b : Nat) (h : a ≤ b) : cut xs (some (a : Int)) (some (b : Int)) = (xs.drop a).take (b - a) := by
  unfold cut
  rw [HT.sIx_nat, HT.sIx_nat]
  by_cases ha : a ≤ xs.length
  · rw [Nat.min_eq_left ha]
    by_cases hb : b ≤ xs.length
    · rw [Nat.min_eq_left hb]
    · rw [Nat.min_eq_right (by omega)]
      rw [List.take_of_length_le (by rw [List.length_drop]; omega), List.take_of_length_le (by rw [List.length_drop]; omega)]
  · rw [show min a xs.length = xs.length by omega, List.drop_length, List.drop_eq_nil_of_le (show xs.length ≤ a by omega)]
    simp
theorem cut_to (b : Nat) : cut xs none (some (b : Int)) = xs.take b := by
  unfold cut
  rw [HT.sIx_none, HT.sIx_nat, List.drop_zero, Nat.sub_zero]
  by_cases hb : b ≤ xs.length
  · rw [Nat.min_eq_left hb]
  · rw [show min b xs.length = xs.length by omega, List.take_of_length_le (Nat.le_refl _), List.take_of_length_le (show xs.length ≤ b by omega)]
theorem cut_from (a : Nat) : cut xs (some (a : Int)) none = xs.drop a := by
  unfold cut
  rw [HT.sIx_nat, HT.sIx_none]
  by_cases ha : a ≤ xs.length
  · rw [Nat.min_eq_left ha, List.take_of_length_le (by rw [List.length_drop]; omega)]
  · rw [show min a xs.length = xs.length by omega, List.drop_length, List.drop_eq_nil_of_le (show xs.length ≤ a by omega)]
    simp
end
end Ly

/-! LyN: the law's first statement (a source of draws is made), displays of literals, small data (Sm), joins. -/
namespace Ly
open PySem PySem.Spec PyProof.Rows L2

/-! ### small data -/
structure Sm (d : D) (k n : Nat) : Prop where
  ly : d.canLay0 = true
  sh : d.showable = true
  lv : d.leavesShort 13 = true
  dp : d.depth ≤ k
  wt : d.weight ≤ n
structure SmA (ds : List D) (k n : Nat) : Prop where
  ly : PyData.canLayAll0 ds = true
  sh : PyData.showableAll ds = true
  lv : PyData.leavesShortAll 13 ds = true
  dp : PyData.depthAll ds ≤ k
  wt : PyData.weightAll ds ≤ n
section
variable {d x y : D} {ds : List D} {k k' n n' m : Nat}
theorem Sm.mono (h : Sm d k n) (hk : k ≤ k' := by omega) (hn : n ≤ n' := by omega) : Sm d k' n' := ⟨h.ly, h.sh, h.lv, Nat.le_trans h.dp hk, Nat.le_trans h.wt hn⟩
theorem SmA.nil : SmA [] k n := ⟨rfl, rfl, rfl, Nat.zero_le _, Nat.zero_le _⟩
theorem SmA.cons (h : Sm d k n) (t : SmA ds k m) : SmA (d :: ds) k (n + 1 + m) := by
  refine ⟨?_, ?_, ?_, ?_, ?_⟩
  · rw [PyData.canLayAll0, h.ly, t.ly]; rfl
  · rw [PyData.showableAll, h.sh, t.sh]; rfl
  · rw [PyData.leavesShortAll, h.lv, t.lv]; rfl
  · rw [PyData.depthAll]; exact Nat.max_le.mpr ⟨h.dp, t.dp⟩
  · rw [PyData.weightAll]
    have := h.wt
    have := t.wt
    omega
theorem SmA.of : ∀ {ds : List D}, (∀ d ∈ ds, Sm d k n) → SmA ds k (ds.length * (n + 1))
  | [], _ => .nil
  | d :: ds, h => by
    have e : (d :: ds).length * (n + 1) = n + 1 + ds.length * (n + 1) := by rw [List.length_cons, Nat.succ_mul]; omega
    rw [e]
    exact SmA.cons (h d (List.mem_cons_self ..)) (SmA.of fun x hx => h x (List.mem_cons_of_mem _ hx))
theorem SmA.monoW (h : SmA ds k n) (hn : n ≤ n') : SmA ds k n' := ⟨h.ly, h.sh, h.lv, h.dp, Nat.le_trans h.wt hn⟩
theorem Sm.list (h : SmA ds k n) : Sm (.list ds) (k + 1) n := ⟨h.ly, h.sh, h.lv, Nat.succ_le_succ h.dp, h.wt⟩
theorem Sm.tup (h : SmA ds k n) : Sm (.tuple ds) (k + 1) n := ⟨h.ly, h.sh, h.lv, Nat.succ_le_succ h.dp, h.wt⟩
theorem sm_non : Sm .none k n := ⟨rfl, rfl, rfl, Nat.zero_le _, Nat.zero_le _⟩
theorem sm_bool {b : Bool} : Sm (.bool b) k n := ⟨rfl, rfl, rfl, Nat.zero_le _, Nat.zero_le _⟩
theorem sm_int {i : Int} (h : i.natAbs < 10 ^ 12) : Sm (.int i) k 41 := by
  have hl : i.natAbs.log2 < 40 := by
    by_cases h0 : i.natAbs = 0
    · rw [h0]; decide
    · rw [Nat.log2_lt h0]
      exact Nat.lt_of_lt_of_le h (by decide)
  refine ⟨rfl, ?_, ?_, Nat.zero_le _, ?_⟩
  · rw [PyData.showable]
    exact decide_eq_true (by omega)
  · rw [PyData.leavesShort]
    refine decide_eq_true ?_
    rw [PyData.shown]
    have := int_text_length_le10 (a := i) (k := 12) (by decide) h
    refine Nat.le_trans (Nat.le_of_eq ?_) this
    exact PySem.ofString_length _
  · rw [PyData.weight]
    split <;> omega
theorem sm_str {s : Str} (h : ∀ c ∈ s.cps.toList, c < 0x110000) (hn : s.length ≤ n) : Sm (.str s) k n := by
  refine ⟨?_, rfl, ?_, Nat.zero_le _, hn⟩
  · rw [PyData.canLay0]
    unfold PyData.strOk
    rw [Array.all_eq_true]
    intro i hi
    exact decide_eq_true (h _ (Array.getElem_mem_toList hi))
  · rw [PyData.leavesShort, List.all_eq_true]
    intro c hc
    exact decide_eq_true (Nat.lt_of_lt_of_le (h c hc) (by decide))
theorem Sm.shaped (h : Sm d k n) (hk : k ≤ 64 := by decide) : SeqAt.shaped d = true := by
  unfold SeqAt.shaped
  rw [h.ly, Bool.true_and]
  exact decide_eq_true (Nat.le_trans h.dp hk)
theorem Sm.eqv (h : Sm d k n) : PyData.eqv d d = true := SeqAt.eqv_refl d h.ly
end
section
variable {C : Cn} {te ta tb tc : TE} {Γ : List Sl} {d x y z : D} {k k' n n' : Nat}
theorem ve_reprS (h : VV C te Γ (Is d)) (s : Sm d k n) (hk : k ≤ 64 := by decide) (hn : n ≤ 1048576 := by omega) : VE C (tCB (rRepr C.K) (tCons te tNil)) Γ (Is (.str d.shown)) :=
  ve_repr h s.sh (PyData.hasDict_of_canLay d s.ly) (Nat.le_trans s.dp (by omega)) (PyData.shown_fits (B := 13) (by decide) (by decide) s.lv (Nat.le_trans s.wt hn))
theorem od_neD (hx : SeqAt.shaped x = true) (hy : SeqAt.shaped y = true) {b : Bool} (e : PyData.eqv x y = b) : OD C (rNeA C.K) x y (Is (.bool (!b))) := e ▸ od_ne hx hy
theorem od_neSame (h : Sm x k n) (e : x = y) (hk : k ≤ 64 := by decide) : OD C (rNeA C.K) x y (Is (.bool false)) := e ▸ od_neD (h.shaped hk) (h.shaped hk) h.eqv
theorem od_eqSame (h : Sm x k n) (e : x = y) (hk : k ≤ 64 := by decide) : OD C (rEqA C.K) x y (Is (.bool true)) := by
  subst e
  have := od_eq (C := C) (h.shaped hk) (h.shaped hk)
  rw [h.eqv] at this
  exact this
theorem od_neSSame {s t : Str} (e : s = t) : OD C (rNeA C.K) (.str s) (.str t) (Is (.bool false)) := by
  have := od_neS (C := C) (s := s) (t := t)
  rw [decide_eq_true e] at this
  exact this
theorem ve_chainD {r r' : R2} {b c : Bool} (ha : VE C ta Γ (Is x)) (hb : VE C tb Γ (Is y)) (ho : OD C r x y (Is (.bool b))) (hc : VV C tc Γ (Is z)) (ho2 : OD C r' y z (Is (.bool c))) : VE C (tChain r r' ta tb tc) Γ (Is (.bool (b && c))) :=
  ve_chain ha hb ho (fun e => by rw [e]; rfl) fun e => by
    subst e
    intro B H σ F Q q
    refine hc B H σ F Q fun d v B' H' ed s k => q d v B' H' ?_ s k
    cases ed
    exact ho2
/-! displays of literals -/
theorem va_strs : ∀ ss : List Str, VA C (ss.foldr (fun s A => tCons (tC (.str s)) A) tNil) Γ (Is (ss.map .str))
  | [] => va_nil
  | s :: ss => va_consD ve_str (va_strs ss)
theorem va_ints : ∀ ss : List Int, VA C (ss.foldr (fun s A => tCons (tC (.int s)) A) tNil) Γ (Is (ss.map .int))
  | [] => va_nil
  | s :: ss => va_consD ve_int (va_ints ss)
theorem ve_lstS (ss : List Str) (h : ss.length ≤ 1000 := by decide) : VE C (tLst (ss.foldr (fun s A => tCons (tC (.str s)) A) tNil)) Γ (Is (.list (ss.map .str))) := (vl_lstD (va_strs ss) (by rw [List.length_map]; omega)).ed
theorem ve_tupS (ss : List Str) (h : ss.length ≤ 1000 := by decide) : VE C (tTup (ss.foldr (fun s A => tCons (tC (.str s)) A) tNil)) Γ (Is (.tuple (ss.map .str))) := ve_tupD (va_strs ss) (by rw [List.length_map]; omega)
end

section
variable {C : Cn} {te ta : TE} {Γ : List Sl} {s : Str}
/-- a join of strings of which only something is known -/
theorem ve_joinLR {S : List Str → Prop} (h : VE C ta Γ (Is (.str s))) (h2 : VV C te Γ (fun d => ∃ es, d = .list es ∧ ∃ ys : List Str, es = ys.map .str ∧ S ys)) (hz : ∀ ys, S ys → (ys.map (·.length)).sum + ys.length * s.length ≤ 16777216) :
    VE C (tM1 (rJoin C.K) ta te) Γ (fun d => ∃ ys, S ys ∧ d = .str (Txt.join s ys)) := fun B H σ F Q q =>
  h B H σ F _ fun d v B1 H1 ed s1 k1 => by
    cases ed
    obtain rfl := dp_str k1
    refine ⟨⟨s, rfl⟩, h2 B1 H1 σ (F.step s1) _ fun d v B2 H2 ⟨es, ed, ys, ee, hy⟩ s2 k2 => ?_⟩
    subst ed ee
    obtain ⟨a, xs, rfl, g1, g2⟩ := k2.lst ((F.step s1).step s2).sub
    rw [dpall_strs g2] at g1
    exact ⟨s, a, ys, rfl, rfl, Or.inl g1, hz ys hy, q _ _ B2 H2 ⟨ys, hy, rfl⟩ (s1.trans F.dlNow s2) (.str _)⟩
theorem sum_len : ∀ (ys : List Str) (n : Nat), (∀ s ∈ ys, s.length ≤ n) → (ys.map (·.length)).sum ≤ n * ys.length
  | [], n, _ => Nat.le_refl _
  | y :: ys, n, h => by
    have h1 := h y (List.mem_cons_self ..)
    have h2 := sum_len ys n fun s hs => h s (List.mem_cons_of_mem _ hs)
    rw [List.map_cons, List.sum_cons, List.length_cons, Nat.mul_succ]
    omega
end
section
variable {C : Cn} {te : TE} {Γ : List Sl} {i : Int}
theorem ve_neg (h : VE C te Γ (Is (.int i))) : VE C (tUn (rU fun i => .int (-i)) te) Γ (Is (.int (-i))) := ve_un (Ra := Is (.int i)) h.v fun x ex B H v e k Q q => by
  subst ex
  obtain rfl := k.int
  exact ⟨i, rfl, q _ _ B H rfl (Stp.refl e) (.int _)⟩
end
section
variable {C : Cn} {A A' : TA} {Γ : List Sl} {ds es : List D} {P : List D → Prop} {R' : List D → D → Prop} {E : XK} {gV : List V → List V → List V} {te : TE} {i : Nat} {n : Int}
/-- with names -/
theorem ve_kwD {gD : List D → List D → List D} (hg : ∀ {H : Hp} {vs zs : List V} {us ws : List D}, DqAll C.K H vs us → DqAll C.K H zs ws → DqAll C.K H (gV vs zs) (gD us ws)) (h : VA C A Γ (Is ds)) (h' : VA C A' Γ (Is es)) (hP : P (gD ds es)) :
    VE C (tCallK (Pu C.K P R') gV E A A') Γ (R' (gD ds es)) := ve_pu gD h h' (fun B vs zs ds es h1 h2 => hg h1 h2) fun xs ys e1 e2 => by
  cases e1
  cases e2
  exact ⟨hP, fun _ r => r⟩
/-- a draw, wherever the source lies -/
theorem ve_anyI (h0 : Γ[i]? = some .deal) (h : VE C te Γ (Is (.int n))) (hn : 0 < n) (hm : n < 1000000000000) : VE C (tCallK (De C.K P_any R_any) (fun vs _ => vs) E (tCons (tVar i) (tCons te tNil)) tNil) Γ (fun d => ∃ r, d = .int r ∧ 0 ≤ r ∧ r < n) :=
  (ve_deD h0 (va_consD h va_nil) ⟨n, rfl, hn, hm⟩).imp fun d r => r n rfl
end
/-! ### the law's first statement -/
theorem vs_begin {K : PySem.W.Frag} {H : Hp} {ns : List Int} {n : Nat} {t : TS} {R : D → Prop} {s : Int} (hn : ns.length ≤ 63) (h0 : 0 ≤ s := by decide) (h1 : s ≤ 1000 := by decide)
    (k : ∀ B H p q, VS ⟨K, B, H, some (p, q)⟩ t (.rd (ns.map V.int) :: .deal :: List.replicate n .no) { nx := fun _ => False, rt := R }) :
    VS ⟨K, H, H, none⟩ (tSeq (tAsg (tCallK (Dr K) (fun vs _ => vs) E0 (tCons (tVar 0) (tCons (tC (.int s)) tNil)) tNil) (gName 1)) t) (.rd (ns.map V.int) :: .no :: List.replicate n .no) { nx := fun _ => False, rt := R } := fun B H1 σ E F n' r b c => by
  obtain ⟨a, ea, hS⟩ := F.slot 0 _ rfl
  refine ⟨.ref a, ea, B, a, ns, s, rfl, F.sub, hS, h0, h1, hn, fun p q B' H' st hp hq hBp hBq hd => ?_⟩
  refine k B' H' p q B' H' _ E ⟨Stp.refl st.sub, fun p' q' e => ?_, ?_, fun i sl h => ?_, fun i j x ds es h => ?_⟩ (fun _ _ _ _ e => e.elim) (fun d v B2 H2 rd s2 kd => ?_) (fun _ _ _ _ e => e.elim) fun _ _ _ _ e => e.elim
  · cases e
    exact ⟨hd, hBp, hBq⟩
  · rw [List.length_set]
    exact F.len
  · match i, h with
    | 0, h =>
      cases h
      refine ⟨a, ?_, same_l st.ext hS⟩
      rw [List.getElem?_set_ne (by decide)]
      exact ea
    | 1, h =>
      cases h
      refine ⟨p, q, rfl, ?_⟩
      rw [List.getElem?_set_self (by rw [F.len]; exact Nat.succ_lt_succ (Nat.succ_pos _))]
    | i + 2, h =>
      have h : (List.replicate n Sl.no)[i]? = some sl := h
      rw [List.getElem?_replicate] at h
      split at h
      · cases h
        trivial
      · cases h
  · exfalso
    match i, h with
    | 0, h => cases h
    | 1, h => cases h
    | i + 2, h =>
      have h : (List.replicate n Sl.no)[i]? = some (.own ds) := h
      rw [List.getElem?_replicate] at h
      split at h <;> cases h
  · refine r d v B2 H2 rd ?_ kd
    have keep : ∀ a o, H1 a = some o → H2 a = some o := fun a o e => s2.keep a o (st.keep a o e fun ⟨_, _, z, _⟩ => nomatch z) fun ⟨p', q', e1, e2⟩ => by
      cases e1
      rcases e2 with e2 | e2
      · subst e2
        rw [hp] at e
        cases e
      · subst e2
        rw [hq] at e
        cases e
    have s0 : Stp none B H1 B2 H2 := ⟨st.ext.trans s2.ext, s2.sub, fun a o e _ => keep a o e, fun a ha hb => s2.out a (st.there (fun _ _ e => nomatch e) ha) (st.out a ha hb), fun _ _ e => nomatch e⟩
    exact F.st.trans (fun _ _ e => nomatch e) s0
end Ly

/-! LyO: is of bools, sorted ints, tuple * int, xs.append(ys.pop(e)), _law_mixed. -/
namespace Ly
open PySem PySem.Spec PyProof.Rows L2

theorem dpall_erase {K : PySem.W.Frag} {H : Hp} : ∀ {vs : List V} {ds : List D} (n : Nat), DqAll K H vs ds → DqAll K H (vs.eraseIdx n) (ds.eraseIdx n)
  | _, _, _, .nil => .nil
  | _, _, 0, .cons _ h => h
  | _, _, n + 1, .cons h1 h2 => .cons h1 (dpall_erase n h2)
section
variable {C : Cn} {te ta : TE} {Γ : List Sl} {x y : D} {a b : Bool} {ds es : List D} {P : Po} {i j : Nat}
theorem od_isBl : OD C rIsB (.bool a) (.bool b) (Is (.bool (decide (a = b)))) := fun B H v u e k1 k2 Q q => by
  obtain rfl := k1.bl
  obtain rfl := k2.bl
  exact ⟨a, b, rfl, rfl, q _ _ B H rfl (Stp.refl e) (.bl _)⟩
theorem od_notBl : OD C rNotB (.bool a) (.bool b) (Is (.bool (!decide (a = b)))) := fun B H v u e k1 k2 Q q => by
  obtain rfl := k1.bl
  obtain rfl := k2.bl
  exact ⟨a, b, rfl, rfl, q _ _ B H rfl (Stp.refl e) (.bl _)⟩
/-- e is not True, e is not False: false where e is it -/
theorem vt_isnt (h : VE C te Γ (Is (.bool a))) : VT C (tTest (tOp rNotB te (tC (.bl a)))) Γ (Is false) := (vt_testD (ve_opD h.v ve_bl.v od_notBl)).to (by simp)
theorem vl_sortedI {ns : List Int} (h : VV C te Γ (Is (.list (ns.map .int)))) : VL C (tCB (rSortedI C.K) (tCons te tNil)) Γ (fun ds => ∃ ms : List Int, ds = ms.map .int ∧ ms.Perm ns ∧ ms.Pairwise (· ≤ ·)) := fun B H σ F Q q =>
  h B H σ F _ fun d v B1 H1 ed s1 k1 => by
    cases ed
    obtain ⟨a, xs, rfl, g1, g2⟩ := k1.lst (F.step s1).sub
    rw [dpall_ints g2] at g1
    refine ⟨a, ns, rfl, g1, fun ms p hp h1 h2 => ?_⟩
    exact q _ p _ B1 _ ⟨ms, rfl, hp, h1⟩ (s1.trans F.dlNow (Stp.newM (F.step s1).sub h2)) (back_none F s1 h2) ((F.step s1).sub.free h2) upd_same (dpall_map _ _ (fun i => .int i) ms)
end
theorem sorted_is {ms ns : List Int} (h1 : ms.Perm ns) (h2 : ms.Pairwise (· ≤ ·)) (h3 : ns.Pairwise (· ≤ ·)) : ms = ns :=
  h1.eq_of_pairwise (fun a b _ _ h k => Int.le_antisymm h k) h2 h3

/-! ### tuple * int -/
theorem tuple_mul1 (l : Addr) (items : Array Value) (n : Nat) (dd : Option Addr) (sl : Array (Option Value)) (u : Tok) :
    Meets (Builtin.«tuple.__mul__» ⟨[.ref l, .int 1 u], []⟩) (fun _ R s => s.heap.get? l = some { cls := .type "tuple", dict := dd, data := .seq items n, slots := sl } ∧ R (.ok (.ret (.ref l))) s) :=
  .of_wp fun prog w A R s h => by
    obtain ⟨hp, g, d, tk, os⟩ := s
    obtain ⟨hl, h⟩ := h
    have f1 := AutoSeq1.idx_int
    wp_walk using wpAny_loadPart' hl
    exact ⟨_, rfl, h⟩
def rRep1 (K : PySem.W.Frag) : R2 := fun x y H Q => ∃ l xs, x = .ref l ∧ y = .int 1 ∧ SqT K H l xs ∧ Q (.ref l) H
theorem op_rep1 {X : Cx} : OpR X (binaryOp .Mult) (rRep1 X.K) := by
  intro pins s σ H x y v u Q I rx ry h
  obtain ⟨l, xs, rfl, rfl, hT, q⟩ := h
  cases rx
  obtain ⟨t, rfl⟩ := ry
  obtain ⟨its, r, ⟨⟨cls, dd, data, sl⟩, ho, hc, n, hd⟩, hs⟩ := I.tuple hT
  simp only at hc hd
  subst hc hd
  refine wpAny_binaryOp_repeat_ref (T := "tuple") (U := "int") (by decide) ⟨_, ho, rfl⟩ (fun s' => typeIs_int s' 1 t) noFill_tuple_mul F.fills_int_mul F.slot_int_rmul repeat_tuple F.slot_int_index.lookup
    (call_meets F.slot_int_rmul (typeIs_int s 1 t) F.entry_int_rmul (F.args_int_rmul_2 _ _) (int_rmul_tuple 1 t l its.toArray n dd sl)
      ⟨ho, rfl, ⟨_, ho, rfl⟩, call_meets F.slot_tuple_mul ⟨_, ho, rfl⟩ F.entry_tuple_mul (F.args_tuple_mul_2 _ _) (tuple_mul1 l its.toArray n dd sl t) ⟨ho, ?_⟩⟩)
  exact ⟨.ref l, H, I, rfl, q⟩
def rMulT (K : PySem.W.Frag) : R2 := fun x y H Q => rRepT K x y H Q ∨ rRep1 K x y H Q
theorem oq_mulT {X : Cx} : OpR X (binaryOp .Mult) (rMulT X.K) := OpR.or op_repT op_rep1
theorem dpall_rep {K : PySem.W.Frag} {H : Hp} {vs : List V} {ds : List D} (h : DqAll K H vs ds) : ∀ n : Nat, DqAll K H (List.replicate n vs).flatten (List.replicate n ds).flatten
  | 0 => .nil
  | n + 1 => by
    rw [List.replicate_succ, List.replicate_succ, List.flatten_cons, List.flatten_cons]
    exact dpall_app h (dpall_rep h n)
section
variable {C : Cn} {te ta : TE} {Γ : List Sl} {x y : D} {a b : Bool} {ds es : List D} {P : Po} {i j : Nat}
theorem od_mulT {k : Int} (hne : ds ≠ []) (h1 : 1 ≤ k) (h2 : k ≤ 1000) (hl : ds.length ≤ 1000) : OD C (rMulT C.K) (.tuple ds) (.int k) (Is (.tuple (List.replicate k.toNat ds).flatten)) := fun B H v u e k1 k2 Q q => by
  obtain ⟨l, xs, rfl, g1, g2⟩ := k1.tup e
  obtain rfl := k2.int
  by_cases hk : k = 1
  · subst hk
    refine Or.inr ⟨l, xs, rfl, rfl, g1, ?_⟩
    have kd : Dq C.K B (.ref l) (.tuple ds) := by
      rcases k1 with k1 | ⟨_, _, _, _, z, _⟩
      · exact k1
      · cases z
    refine q _ _ B H ?_ (Stp.refl e) kd
    show _ = PyData.tuple (List.replicate 1 ds).flatten
    simp
  · refine Or.inl ⟨l, k, xs, rfl, rfl, g1, fun z => hne ?_, by omega, h2, by rw [dpall_len g2]; exact hl, fun p hp => ?_⟩
    · have := dpall_len g2
      rw [z] at this
      exact List.length_eq_zero_iff.mp this.symm
    · exact q _ _ (upd B p (.tup (List.replicate k.toNat xs).flatten)) _ rfl (Stp.new e hp) (.tup (Or.inl (Or.inl upd_same)) (dpall_mono (Stp.new (dl := C.dl) e hp).ext (dpall_rep g2 _)))
theorem vl_listRg {n : Int} (h : VE C te Γ (Is (.int n))) (h1 : -1000000 ≤ n) (h2 : n ≤ 1000000) : VL C (tLstRg (tRg1 te)) Γ (Is (Ly.upTo 0 n.toNat)) := fun B H σ F Q q => h B H σ F _ fun d v B1 H1 ed s1 k1 => by
  cases ed
  obtain rfl := dp_int k1
  refine ⟨n, rfl, ⟨by omega, by omega, by omega, by omega, by omega⟩, fun p hp => ?_⟩
  refine q _ p _ B1 _ rfl (s1.trans F.dlNow (Stp.newM (F.step s1).sub hp)) (back_none F s1 hp) ((F.step s1).sub.free hp) upd_same ?_
  unfold rgV Ly.upTo
  rw [Int.sub_zero]
  exact dpall_map _ _ (fun i => .int _) _
/-- xs.append(ys.pop(e)), both one's own -/
theorem vs_appPop (hi : Γ[i]? = some (.own ds)) (hj : Γ[j]? = some (.own es)) (hij : i ≠ j) (h : VE C te Γ (fun d => ∃ r, d = .int r ∧ 0 ≤ r ∧ r < es.length)) (hz : ds.length < 100000) (hz2 : es.length ≤ 100000)
    (k : ∀ (m : Nat) x, es[m]? = some x → P.nx ((Γ.set j (.own (es.eraseIdx m))).set i (.own (ds ++ [x])))) :
    VS C (tDrop (tBM C.K "list" rAppend (tVar i) (tCons (tBM C.K "list" rPopAt (tVar j) (tCons te tNil)) tNil))) Γ P := fun B H σ E F n r b c => by
  obtain ⟨p, vs, e, hC, hB, hp, hd⟩ := F.hasOwn hi
  obtain ⟨p2, us, e2, hC2, hB2, hp2, hd2⟩ := F.hasOwn hj
  have hpp : p2 ≠ p := fun z => hij (F.inj i j p ds es hi hj e (z ▸ e2))
  refine ⟨.ref p, e, own_ty hp, .ref p2, e2, own_ty hp2, h B H σ F _ fun d v B1 H1 ⟨m, ed, h0, h1⟩ s1 k1 => ?_⟩
  subst ed
  obtain rfl := dp_int k1
  obtain ⟨m, rfl⟩ := Int.eq_ofNat_of_zero_le h0
  have F1 := F.step s1
  have hp1 := s1.keep p _ hp (F.notMd hC)
  have hp21 := s1.keep p2 _ hp2 (F.notMd hC2)
  have hm : m < es.length := by omega
  have hd21 := dpall_mono s1.ext hd2
  obtain ⟨y, hy, ky⟩ := dpall_get hd21 (List.getElem?_eq_getElem hm)
  have hlu := dpall_len hd2
  have hix : ixN us.length (m : Int) = some m := by
    unfold ixN
    rw [if_pos (by omega), if_pos (by omega)]
    rfl
  refine ⟨p2, us, m, m, y, rfl, rfl, hp21, by omega, by omega, (ixN_seq hix).1, hy, ?_⟩
  have F2 : Fm C B1 (upd H1 p2 (.lst (us.eraseIdx m))) σ (Γ.set j (.own (es.eraseIdx m))) := F1.mutOwn hj e2 (dpall_erase m hd21)
  have hi2 : (Γ.set j (.own (es.eraseIdx m)))[i]? = some (.own ds) := by rw [List.getElem?_set_ne (Ne.symm hij)]; exact hi
  have hp2' : upd H1 p2 (.lst (us.eraseIdx m)) p = some (.lst vs) := by rw [upd_ne (Ne.symm hpp)]; exact hp1
  refine ⟨p, vs, y, rfl, rfl, hp2', sz6 (by rw [dpall_len hd]; exact hz), ?_⟩
  exact n _ B1 _ σ (k m _ (List.getElem?_eq_getElem hm)) s1.ext (F2.mutOwn hi2 e (dpall_app (dpall_mono s1.ext hd) (dpall_one ky)))
end
end Ly

/-! LyP: comprehensions of which only something is known, parts of small data, _law_mixed, the plain tests (is_integer .. is_row_of). -/
namespace Ly
open PySem PySem.Spec PyProof.Rows L2

inductive A2 {α β : Type} (R : α → β → Prop) : List α → List β → Prop where
  | nil : A2 R [] []
  | cons {a : α} {b : β} {as : List α} {bs : List β} (h : R a b) (t : A2 R as bs) : A2 R (a :: as) (b :: bs)
theorem A2.append {α β : Type} {R : α → β → Prop} : ∀ {a c : List α} {b d : List β}, A2 R a b → A2 R c d → A2 R (a ++ c) (b ++ d)
  | _, _, _, _, .nil, h => h
  | _, _, _, _, .cons h1 h2, h => .cons h1 (A2.append h2 h)
section
variable {C : Cn} {wi : TI} {g : TG} {tt : TT} {te : TE} {vs : List Nat} {Γ : List Sl}
/-- each result with its source -/
theorem vl_mapR {ds : List D} (R : D → D → Prop) (h : VI C wi Γ (Is ds)) (hz : ds.length ≤ 100000) (k : ∀ d ∈ ds, ∃ Γ1 js, VG C g d (wipeS Γ vs) Γ1 js ∧ (∀ j ∈ js, j ∈ vs) ∧ VE C te Γ1 (R d)) :
    VL C (tLc wi g tYes te vs) Γ (fun es => A2 R ds es) := vl_lc h fun xs e => by
  cases e
  refine ⟨hz, fun i acc => A2 R (ds.take i) acc, .nil, fun i d acc hd iv => ?_, fun acc iv => by
    have iv : A2 R (ds.take ds.length) acc := iv
    rw [List.take_length] at iv
    exact iv⟩
  obtain ⟨Γ1, js, hg, hjs, he⟩ := k d (List.mem_of_getElem? hd)
  refine ⟨Γ1, js, hg, hjs, Is true, fun B H σ F Q q => q true B H rfl (Stp.refl F.sub), fun _ => he.imp fun y ey => ?_, fun e => by cases e⟩
  show A2 R (ds.take (i + 1)) (acc ++ [y])
  rw [List.take_add_one, hd]
  exact A2.append iv (.cons ey .nil)
/-- all results are of a kind -/
theorem vl_lcA {S : List D → Prop} {n : Nat} {T : Bool → Prop} (R : D → Prop) (h : VI C wi Γ S) (hz : ∀ ds, S ds → ds.length ≤ n) (hn : n ≤ 100000) (k : ∀ ds, S ds → ∀ d ∈ ds, ∃ Γ1 js, VG C g d (wipeS Γ vs) Γ1 js ∧ (∀ j ∈ js, j ∈ vs) ∧ VT C tt Γ1 T ∧ VE C te Γ1 R) :
    VL C (tLc wi g tt te vs) Γ (fun es => es.length ≤ n ∧ ∀ y ∈ es, R y) := vl_lc h fun ds hd => by
  have hl := hz ds hd
  refine ⟨by omega, fun i acc => acc.length ≤ i ∧ ∀ y ∈ acc, R y, ⟨Nat.le_refl _, fun _ h => nomatch h⟩, fun i d acc hi ⟨iv, iw⟩ => ?_, fun acc ⟨iv, iw⟩ => ⟨by omega, iw⟩⟩
  obtain ⟨Γ1, js, hg, hjs, ht, he⟩ := k ds hd d (List.mem_of_getElem? hi)
  refine ⟨Γ1, js, hg, hjs, T, ht, fun _ => he.imp fun y ey => ⟨by rw [List.length_append]; exact Nat.succ_le_succ iv, fun z hz => ?_⟩, fun _ => ⟨by omega, iw⟩⟩
  rcases List.mem_append.mp hz with hz | hz
  · exact iw z hz
  · rw [List.mem_singleton.mp hz]
    exact ey
end

/-! ### parts of small data -/
section
variable {d x : D} {ds : List D} {k n : Nat}
theorem SmA.mem : ∀ {ds : List D} {n : Nat}, SmA ds k n → ∀ x ∈ ds, Sm x k n
  | [], _, _, x, hx => nomatch hx
  | d :: ds, n, h, x, hx => by
    obtain ⟨h1, h2, h3, h4, h5⟩ := h
    rw [PyData.canLayAll0, Bool.and_eq_true] at h1
    rw [PyData.showableAll, Bool.and_eq_true] at h2
    rw [PyData.leavesShortAll, Bool.and_eq_true] at h3
    rw [PyData.depthAll] at h4
    rw [PyData.weightAll] at h5
    rcases List.mem_cons.mp hx with e | hx
    · subst e
      exact ⟨h1.1, h2.1, h3.1, by omega, by omega⟩
    · exact SmA.mem ⟨h1.2, h2.2, h3.2, by omega, by omega⟩ x hx
theorem SmA.len : ∀ {ds : List D} {n : Nat}, SmA ds k n → ds.length ≤ n
  | [], _, _ => Nat.zero_le _
  | d :: ds, n, h => by
    obtain ⟨h1, h2, h3, h4, h5⟩ := h
    rw [PyData.canLayAll0, Bool.and_eq_true] at h1
    rw [PyData.showableAll, Bool.and_eq_true] at h2
    rw [PyData.leavesShortAll, Bool.and_eq_true] at h3
    rw [PyData.depthAll] at h4
    rw [PyData.weightAll] at h5
    have := SmA.len (ds := ds) (n := n - (d.weight + 1)) ⟨h1.2, h2.2, h3.2, by omega, by omega⟩
    rw [List.length_cons]
    omega
theorem Sm.tupA (h : Sm (.tuple ds) (k + 1) n) : SmA ds k n := by
  obtain ⟨h1, h2, h3, h4, h5⟩ := h
  rw [PyData.depth] at h4
  exact ⟨h1, h2, h3, Nat.le_of_succ_le_succ h4, h5⟩
theorem Sm.lstA (h : Sm (.list ds) (k + 1) n) : SmA ds k n := by
  obtain ⟨h1, h2, h3, h4, h5⟩ := h
  rw [PyData.depth] at h4
  exact ⟨h1, h2, h3, Nat.le_of_succ_le_succ h4, h5⟩
theorem Sm.tupM (h : Sm (.tuple ds) k n) (hx : x ∈ ds) : Sm x k n := by
  have h' : Sm (.tuple ds) (k + 1) n := h.mono
  exact h'.tupA.mem x hx
theorem Sm.tupL (h : Sm (.tuple ds) k n) : ds.length ≤ n := by
  have h' : Sm (.tuple ds) (k + 1) n := h.mono
  exact h'.tupA.len
end
theorem canLayAll_mem : ∀ {ds : List D}, PyData.canLayAll0 ds = true ↔ ∀ x ∈ ds, x.canLay0 = true
  | [] => by simp [PyData.canLayAll0]
  | d :: ds => by rw [PyData.canLayAll0, Bool.and_eq_true, canLayAll_mem]; simp
theorem depthAll_mem {n : Nat} : ∀ {ds : List D}, PyData.depthAll ds ≤ n ↔ ∀ x ∈ ds, x.depth ≤ n
  | [] => by simp [PyData.depthAll]
  | d :: ds => by rw [PyData.depthAll, Nat.max_le, depthAll_mem]; simp
theorem shaped_sub {xs ys : List D} (h : SeqAt.shaped (.list xs) = true) (hs : ∀ y ∈ ys, y ∈ xs) : SeqAt.shaped (.list ys) = true := by
  unfold SeqAt.shaped at h ⊢
  rw [Bool.and_eq_true, decide_eq_true_eq, PyData.canLay0, PyData.depth, canLayAll_mem] at h
  rw [Bool.and_eq_true, decide_eq_true_eq, PyData.canLay0, PyData.depth, canLayAll_mem]
  have h2 : PyData.depthAll xs ≤ 63 := by omega
  refine ⟨fun y hy => h.1 y (hs y hy), ?_⟩
  have : PyData.depthAll ys ≤ 63 := depthAll_mem.mpr fun y hy => depthAll_mem.mp h2 y (hs y hy)
  omega

/-! ### _law_mixed -/
def Pm (ds : List D) : Prop := ∃ xs, (ds = [.list xs] ∨ ds = [.tuple xs]) ∧ xs.length ≤ 10000 ∧ SeqAt.shaped (.list xs) = true
def t_mixed (K : PySem.W.Frag) : TS :=
  tSeq (tPar 2 3 (tCons (tCB (rList K) (tCons (tVar 1) tNil)) (tCons (tLst tNil) tNil)))
  (tSeq (tWhile (tTest (tOp (rNeA K) (tVar 2) (tLst tNil))) (tDrop (tBM K "list" rAppend (tVar 3) (tCons (tBM K "list" rPopAt (tVar 2) (tCons (tAny K (tCB (rLen K) (tCons (tVar 2) tNil))) tNil)) tNil))))
  (tRet (tVar 3)))
theorem erase_perm {α : Type} : ∀ (xs : List α) (m : Nat) (x : α), xs[m]? = some x → (x :: xs.eraseIdx m).Perm xs
  | [], _, _, h => nomatch h
  | y :: ys, 0, x, h => by
    injection h with h
    subst h
    exact .refl _
  | y :: ys, m + 1, x, h => by
    have h : ys[m]? = some x := h
    exact (List.Perm.swap y x _).trans ((erase_perm ys m x h).cons y)
theorem vs_mixed {C : Cn} {ds : List D} (hP : Pm ds) : VS C (t_mixed C.K) (.deal :: slots ds 2) { nx := fun _ => R_mixed ds .none, rt := R_mixed ds } := by
  obtain ⟨xs, hds, hl, hs⟩ := hP
  have hd1 : ∃ d, ds = [d] ∧ (d = .list xs ∨ d = .tuple xs) := by
    rcases hds with rfl | rfl
    · exact ⟨_, rfl, Or.inl rfl⟩
    · exact ⟨_, rfl, Or.inr rfl⟩
  obtain ⟨d, rfl, hd⟩ := hd1
  have hdd : ∀ ys : List D, ([d] = [PyData.list ys] ∨ [d] = [PyData.tuple ys]) → ys = xs := by
    rintro ys (h | h) <;> injection h with h _ <;> rcases hd with rfl | rfl <;> first | (injection h with h; exact h.symm) | cases h
  have hlist : VL C (tCB (rList C.K) (tCons (tVar 1) tNil)) [.deal, .dat d, .no, .no] (Is xs) := by
    rcases hd with rfl | rfl
    · exact vl_listL (ve_var rfl).v
    · exact vl_listT (ve_var rfl)
  refine vs_seq (Is [.deal, .dat d, .own xs, .own []]) (vs_parLL hlist (vl_lstD va_nil) fun x y ex ey => by cases ex; cases ey; rfl) ?_
  rintro Γ rfl
  refine vs_seq (fun Γ => ∃ ys, Γ = [.deal, .dat d, .own [], .own ys] ∧ ys.Perm xs) ?_ ?_
  · refine vs_while (fun m Γ => ∃ as bs, Γ = [.deal, .dat d, .own as, .own bs] ∧ (as ++ bs).Perm xs ∧ m = as.length) _ ⟨xs, [], rfl, by rw [List.append_nil], rfl⟩ ?_
    rintro m Γ ⟨as, bs, rfl, hp, rfl⟩
    have hlen := hp.length_eq
    rw [List.length_append] at hlen
    have hsa : SeqAt.shaped (.list as) = true := shaped_sub hs fun y hy => hp.mem_iff.mp (List.mem_append_left _ hy)
    have ht : VT C (tTest (tOp (rNeA C.K) (tVar 2) (tLst tNil))) [.deal, .dat d, .own as, .own bs] (Is (!as.isEmpty)) := by
      refine vt_testD (ve_opD (vv_own rfl) (vl_lstD va_nil).vd (od_neD hsa rfl ?_))
      show PyData.eqvAll as [] = _
      cases as <;> rfl
    refine ⟨_, ht, fun h => ?_, fun h => ?_⟩
    · have hpos : 0 < as.length := by
        cases as with
        | nil => cases h
        | cons _ _ => exact Nat.succ_pos _
      refine vs_appPop (i := 3) (j := 2) rfl rfl (by decide) (ve_any rfl (ve_lenL (vv_own rfl)) (by omega) (by omega)) (by omega) (by omega) fun m x hm => ?_
      have hml : m < as.length := (List.getElem?_eq_some_iff.mp hm).1
      refine ⟨(as.eraseIdx m).length, ?_, as.eraseIdx m, bs ++ [x], rfl, ?_, rfl⟩
      · rw [List.length_eraseIdx, if_pos hml]
        omega
      · refine List.Perm.trans ?_ hp
        rw [← List.append_assoc]
        exact (List.perm_append_singleton x _).trans ((erase_perm as m x hm).append_right bs)
    · cases as with
      | nil => exact ⟨bs, rfl, hp⟩
      | cons _ _ => cases h
  · rintro Γ ⟨ys, rfl, hp⟩
    refine vs_retOwn 3 rfl fun zs hz => ?_
    obtain rfl := hdd zs hz
    exact ⟨ys, rfl, hp⟩

/-! ### plain tests -/
def isInt : D → Bool
  | .int _ => true
  | _ => false
def isNum : D → Bool
  | .int i => decide (0 ≤ i)
  | _ => false
def isIdx (n : Int) : D → Bool
  | .int i => decide (0 ≤ i) && decide (i < n)
  | _ => false
def isTup : D → Bool
  | .tuple _ => true
  | _ => false
def isSeq : D → Bool
  | .tuple _ => true
  | .list _ => true
  | _ => false
def isRow (ns : List Nat) : D → Bool
  | .tuple xs => ns.contains xs.length
  | _ => false
def P_is1 (ds : List D) : Prop := ∃ d, ds = [d]
def R_isInt (ds : List D) (r : D) : Prop := ∀ d, ds = [d] → r = .bool (isInt d)
def R_isNum (ds : List D) (r : D) : Prop := ∀ d, ds = [d] → r = .bool (isNum d)
def R_isSeq (ds : List D) (r : D) : Prop := ∀ d, ds = [d] → r = .bool (isSeq d)
def P_isIdx (ds : List D) : Prop := ∃ d n, ds = [d, .int n]
def R_isIdx (ds : List D) (r : D) : Prop := ∀ d n, ds = [d, .int n] → r = .bool (isIdx n d)
def P_isRow (ds : List D) : Prop := ∃ d, ∃ ns : List Nat, ds = [d, .tuple (ns.map fun n => .int (n : Nat))]
def R_isRow (ds : List D) (r : D) : Prop := ∀ d (ns : List Nat), ds = [d, .tuple (ns.map fun n => .int (n : Nat))] → r = .bool (isRow ns d)
def isBl : D → Bool
  | .bool _ => true
  | _ => false
section
variable {C : Cn} {te : TE} {Γ : List Sl} {d : D}
theorem ve_isInt (h : VV C te Γ (Is d)) : VE C (tCB (rIsAny C.K) (tCons te (tCons (tC (.ty "int")) tNil))) Γ (Is (.bool (isInt d || isBl d))) := by
  cases d <;> exact ve_isi h rfl
theorem ve_isBool (h : VV C te Γ (Is d)) : VE C (tCB (rIsAny C.K) (tCons te (tCons (tC (.ty "bool")) tNil))) Γ (Is (.bool (isBl d))) := by
  cases d <;> exact ve_isi h rfl
theorem ve_isTup (h : VV C te Γ (Is d)) : VE C (tCB (rIsAny C.K) (tCons te (tCons (tC (.ty "tuple")) tNil))) Γ (Is (.bool (isTup d))) := by
  cases d <;> exact ve_isi h rfl
def t_isInt (K : PySem.W.Frag) : TS := tRet (tAndV (tCB (rIsAny K) (tCons (tVar 0) (tCons (tC (.ty "int")) tNil))) (tNotV (tCB (rIsAny K) (tCons (tVar 0) (tCons (tC (.ty "bool")) tNil)))))
theorem vs_isInt {ds : List D} (hP : P_is1 ds) : VS C (t_isInt C.K) (slots ds 0) { nx := fun _ => R_isInt ds .none, rt := R_isInt ds } := by
  obtain ⟨d, rfl⟩ := hP
  refine vs_retD (ve_andD (ve_isInt (ve_var rfl).v) fun _ => ve_notD (ve_isBool (ve_var rfl).v)) fun d' e => ?_
  injection e with e
  subst e
  cases d <;> rfl
def t_isNum (K : PySem.W.Frag) : TS := tRet (tAndV (tCallK (Pu K P_is1 R_isInt) (fun vs _ => vs) E0 (tCons (tVar 0) tNil) tNil) (tOp (rI0 fun i j => .bl (decide (j ≤ i))) (tVar 0) (tC (.int 0))))
theorem vs_isNum {ds : List D} (hP : P_is1 ds) : VS C (t_isNum C.K) (slots ds 0) { nx := fun _ => R_isNum ds .none, rt := R_isNum ds } := by
  obtain ⟨d, rfl⟩ := hP
  have h1 : VE C (tCallK (Pu C.K P_is1 R_isInt) (fun vs _ => vs) E0 (tCons (tVar 0) tNil) tNil) (slots [d] 0) (Is (.bool (isInt d))) := (ve_callD (va_consD (ve_var rfl) va_nil) ⟨d, rfl⟩).imp fun r k => k d rfl
  have fin : VE C (tAndV (tCallK (Pu C.K P_is1 R_isInt) (fun vs _ => vs) E0 (tCons (tVar 0) tNil) tNil) (tOp (rI0 fun i j => .bl (decide (j ≤ i))) (tVar 0) (tC (.int 0)))) (slots [d] 0) (Is (.bool (isNum d))) := by
    cases d with
    | int i => exact (ve_andD h1 fun _ => ve_opD (ve_var rfl).v ve_int.v od_ge).to rfl
    | _ => exact (ve_andD (c := false) h1 fun e => by cases e).to rfl
  exact vs_retD fin fun d' e => by
    injection e with e
    subst e
    rfl
def t_isIdx (K : PySem.W.Frag) : TS := tRet (tAndV (tCallK (Pu K P_is1 R_isNum) (fun vs _ => vs) E0 (tCons (tVar 0) tNil) tNil) (tOp rLtA (tVar 0) (tVar 1)))
theorem vs_isIdx {ds : List D} (hP : P_isIdx ds) : VS C (t_isIdx C.K) (slots ds 0) { nx := fun _ => R_isIdx ds .none, rt := R_isIdx ds } := by
  obtain ⟨d, n, rfl⟩ := hP
  have h1 : VE C (tCallK (Pu C.K P_is1 R_isNum) (fun vs _ => vs) E0 (tCons (tVar 0) tNil) tNil) (slots [d, .int n] 0) (Is (.bool (isNum d))) := (ve_callD (va_consD (ve_var rfl) va_nil) ⟨d, rfl⟩).imp fun r k => k d rfl
  have fin : VE C (tAndV (tCallK (Pu C.K P_is1 R_isNum) (fun vs _ => vs) E0 (tCons (tVar 0) tNil) tNil) (tOp rLtA (tVar 0) (tVar 1))) (slots [d, .int n] 0) (Is (.bool (isIdx n d))) := by
    cases d with
    | int i => exact (ve_andD h1 fun _ => ve_opD (ve_var rfl).v (ve_var rfl).v od_lt).to rfl
    | _ => exact (ve_andD (c := false) h1 fun e => by cases e).to rfl
  exact vs_retD fin fun d' n' e => by
    injection e with e e2
    injection e2 with e2 _
    injection e2 with e2
    subst e e2
    rfl
def t_isRow (K : PySem.W.Frag) : TS := tRet (tAndV (tCB (rIsAny K) (tCons (tVar 0) (tCons (tC (.ty "tuple")) tNil))) (tOp (rInA K) (tCB (rLen K) (tCons (tVar 0) tNil)) (tVar 1)))
theorem ints_inj : ∀ {ns ms : List Nat}, (ns.map fun n => PyData.int (n : Nat)) = (ms.map fun n => PyData.int (n : Nat)) → ns = ms
  | [], [], _ => rfl
  | [], _ :: _, h => nomatch h
  | _ :: _, [], h => nomatch h
  | n :: ns, m :: ms, h => by
    injection h with h1 h2
    injection h1 with h1
    rw [ints_inj h2, Int.ofNat.inj h1]
theorem any_ints (ns : List Nat) (m : Nat) : ((ns.map fun n => PyData.int (n : Nat)).any fun z => PyData.eqv z (.int (m : Nat))) = ns.contains m := by
  induction ns with
  | nil => rfl
  | cons n ns ih =>
    rw [List.map_cons, List.any_cons, ih, List.contains_cons, PyData.eqv]
    congr 1
    by_cases h : m = n
    · rw [h]; simp
    · rw [beq_eq_false_iff_ne.mpr h, beq_eq_false_iff_ne.mpr (by omega)]
theorem flat_ints (ns : List Nat) : (ns.map fun n => PyData.int (n : Nat)).all flatD = true := by
  rw [List.all_map, List.all_eq_true]
  intro x _
  rfl
theorem vs_isRow {ds : List D} (hP : P_isRow ds) : VS C (t_isRow C.K) (slots ds 0) { nx := fun _ => R_isRow ds .none, rt := R_isRow ds } := by
  obtain ⟨d, ns, rfl⟩ := hP
  have fin : VE C (tAndV (tCB (rIsAny C.K) (tCons (tVar 0) (tCons (tC (.ty "tuple")) tNil))) (tOp (rInA C.K) (tCB (rLen C.K) (tCons (tVar 0) tNil)) (tVar 1))) (slots [d, .tuple (ns.map fun n => .int (n : Nat))] 0) (Is (.bool (isRow ns d))) := by
    cases d with
    | tuple xs =>
      refine (ve_andD (ve_isTup (ve_var rfl).v) fun _ => ve_opD (ve_lenT (ve_var rfl)).v (ve_var rfl).v (od_inT rfl (flat_ints ns))).to ?_
      rw [any_ints]
      rfl
    | _ => exact (ve_andD (c := false) (ve_isTup (ve_var rfl).v) fun e => by cases e).to rfl
  exact vs_retD fin fun d' n' e => by
    injection e with e e2
    injection e2 with e2 _
    injection e2 with e2
    obtain rfl := ints_inj e2
    subst e
    rfl
theorem call_isNum {E : XK} (h : VE C te Γ (Is d)) : VE C (tCallK (Pu C.K P_is1 R_isNum) (fun vs _ => vs) E (tCons te tNil) tNil) Γ (Is (.bool (isNum d))) := (ve_callD (va_consD h va_nil) ⟨d, rfl⟩).imp fun r k => k d rfl
theorem call_isIdx {E : XK} {t2 : TE} {n : Int} (h : VE C te Γ (Is d)) (h2 : VE C t2 Γ (Is (.int n))) : VE C (tCallK (Pu C.K P_isIdx R_isIdx) (fun vs _ => vs) E (tCons te (tCons t2 tNil)) tNil) Γ (Is (.bool (isIdx n d))) :=
  (ve_callD (va_consD h (va_consD h2 va_nil)) ⟨d, n, rfl⟩).imp fun r k => k d n rfl
theorem call_isRow {E : XK} {t2 : TE} (ns : List Nat) (h : VE C te Γ (Is d)) (h2 : VE C t2 Γ (Is (.tuple (ns.map fun n => .int (n : Nat))))) : VE C (tCallK (Pu C.K P_isRow R_isRow) (fun vs _ => vs) E (tCons te (tCons t2 tNil)) tNil) Γ (Is (.bool (isRow ns d))) :=
  (ve_callD (va_consD h (va_consD h2 va_nil)) ⟨d, ns, rfl⟩).imp fun r k => k d ns rfl
end
end Ly

/-! LyQ: promises told by a parameter: Pa (data of a parameter in, something of it out), Da (a source of draws first). -/
namespace Ly
open PySem PySem.Spec PyProof.Rows L2

def Pa (K : PySem.W.Frag) {α : Type} (f : α → List D) (P : α → Prop) (R : α → D → Prop) : Sp := fun vs H Q E => ∃ a, P a ∧ Pu K (Is (f a)) (fun _ => R a) vs H Q E
def Da (K : PySem.W.Frag) {α : Type} (f : α → List D) (P : α → Prop) (R : α → D → Prop) : Sp := fun vs H Q E => ∃ a, P a ∧ De K (Is (f a)) (fun _ => R a) vs H Q E
section
variable {P0 : Program} {w : World} {K : PySem.W.Frag} {mg : Str → Option Value} {base : Heap} {k : Nat} {f : Addr} {fd : FuncData} {ps N : List Str} {x qual : Str} {st : Stmt} {α : Type} {g : α → List D} {P : α → Prop} {R : α → D → Prop}
theorem GOk.ex {S : α → Sp} (h : ∀ a, P a → GOk P0 w K mg base CX0 k f fd ps (S a)) : GOk P0 w K mg base CX0 k f fd ps (fun vs H Q E => ∃ a, P a ∧ S a vs H Q E) :=
  ⟨fun ⟨a, p, q⟩ => (h a p).size q, fun gd r e0 b rv ⟨a, p, q⟩ => (h a p).does gd r e0 b rv q⟩
theorem pa_ok (n : Nat) (F : Fun K x qual st f fd) (S : FnScope N ps (defScope st)) (hl : ∀ a, (g a).length = ps.length) (hn : ps.length + n = N.length)
    (body : ∀ (cdv : Value) (A : Around) (outer : List Env) (s : Shared) (H : Hp) (E : XK), (cxOf CX0 P0 w K mg base N qual (defScope st) f cdv A outer s H E).A.guards = some [] → Room k (cxOf CX0 P0 w K mg base N qual (defScope st) f cdv A outer s H E).A →
      ∃ t, PSs (cxOf CX0 P0 w K mg base N qual (defScope st) f cdv A outer s H E).nox (defBody st) t ∧ ∀ B H a, P a → VS ⟨K, B, H, none⟩ t (slots (g a) n) { nx := fun _ => R a .none, rt := R a }) :
    GOk P0 w K mg base CX0 (k + 1) f fd ps (Pa K g P R) :=
  GOk.ex fun a hp => pu_ok n F S (fun ds e => by cases e; exact hl a) hn fun cdv A outer s H E hg hr => by
    obtain ⟨t, ht, hv⟩ := body cdv A outer s H E hg hr
    exact ⟨t, ht, fun B H ds e => by cases e; exact hv B H a hp⟩
theorem da_ok (n : Nat) (F : Fun K x qual st f fd) (S : FnScope N ps (defScope st)) (hl : ∀ a, (g a).length + 1 = ps.length) (hn : ps.length + n = N.length)
    (body : ∀ (cdv : Value) (A : Around) (outer : List Env) (s : Shared) (H : Hp) (E : XK), (cxOf CX0 P0 w K mg base N qual (defScope st) f cdv A outer s H E).A.guards = some [] → Room k (cxOf CX0 P0 w K mg base N qual (defScope st) f cdv A outer s H E).A →
      ∃ t, PSs (cxOf CX0 P0 w K mg base N qual (defScope st) f cdv A outer s H E).nox (defBody st) t ∧ ∀ B H p q a, P a → VS ⟨K, B, H, some (p, q)⟩ t (.deal :: slots (g a) n) { nx := fun _ => R a .none, rt := R a }) :
    GOk P0 w K mg base CX0 (k + 1) f fd ps (Da K g P R) :=
  GOk.ex fun a hp => de_ok n F S (fun ds e => by cases e; exact hl a) hn fun cdv A outer s H E hg hr => by
    obtain ⟨t, ht, hv⟩ := body cdv A outer s H E hg hr
    exact ⟨t, ht, fun B H p q ds e => by cases e; exact hv B H p q a hp⟩
end
section
variable {C : Cn} {A A' : TA} {Γ : List Sl} {α : Type} {g : α → List D} {P : α → Prop} {R : α → D → Prop} {E : XK} {gV : List V → List V → List V} {ds es : List D} {i : Nat}
theorem ve_callA (a : α) (h : VA C A Γ (Is (g a))) (hP : P a) : VE C (tCallK (Pa C.K g P R) (fun vs _ => vs) E A tNil) Γ (R a) := fun B H σ F Q q =>
  h B H σ F _ fun ds vs B1 H1 e1 s1 k1 => by
    cases e1
    exact ⟨a, hP, B1, g a, (F.step s1).sub, k1, rfl, fun d v B3 H3 r3 s3 k3 => q d v B3 H3 r3 (s1.trans F.dlNow s3.any) k3⟩
/-- with names -/
theorem ve_kwA (a : α) {gD : List D → List D → List D} (hg : ∀ {H : Hp} {vs zs : List V} {us ws : List D}, DqAll C.K H vs us → DqAll C.K H zs ws → DqAll C.K H (gV vs zs) (gD us ws)) (h : VA C A Γ (Is ds)) (h' : VA C A' Γ (Is es)) (he : gD ds es = g a) (hP : P a) :
    VE C (tCallK (Pa C.K g P R) gV E A A') Γ (R a) := fun B H σ F Q q =>
  h B H σ F _ fun ds vs B1 H1 e1 s1 k1 => h' B1 H1 σ (F.step s1) _ fun es zs B2 H2 e2 s2 k2 => by
    cases e1
    cases e2
    exact ⟨a, hP, B2, g a, ((F.step s1).step s2).sub, by have := hg (dpall_mono s2.ext k1) k2; rw [he] at this; exact this, rfl, fun d v B3 H3 r3 s3 k3 => q d v B3 H3 r3 ((s1.trans F.dlNow s2).trans F.dlNow s3.any) k3⟩
theorem ve_callDa (a : α) (hi : Γ[i]? = some .deal) (h : VA C A Γ (Is (g a))) (hP : P a) : VE C (tCallK (Da C.K g P R) (fun vs _ => vs) E (tCons (tVar i) A) tNil) Γ (R a) := fun B H σ F Q q => by
  obtain ⟨p, r, e, hs⟩ := F.slot i _ hi
  refine ⟨.ref p, hs, h B H σ F _ fun ds vs B1 H1 e1 s1 k1 => ?_⟩
  cases e1
  have F1 := F.step s1
  obtain ⟨n1, n2⟩ := F1.dlOut e
  refine ⟨a, hP, B1, p, r, vs, g a, rfl, F1.sub, F1.dlNow p r e, n1, n2, k1, rfl, fun d v B3 H3 r3 s3 k3 => ?_⟩
  rw [← e] at s3
  exact q d v B3 H3 r3 (s1.trans F.dlNow s3) k3
end
/-! ### comprehensions over told things -/
section
variable {C : Cn} {wi : TI} {g : TG} {tt : TT} {te : TE} {vs : List Nat} {Γ : List Sl} {α : Type} {m : α → D} {xs : List α}
theorem vl_lcM (f : α → Bool) (v : α → D) (h : VI C wi Γ (Is (xs.map m))) (hz : xs.length ≤ 100000) (k : ∀ x ∈ xs, ∃ Γ1 js, VG C g (m x) (wipeS Γ vs) Γ1 js ∧ (∀ j ∈ js, j ∈ vs) ∧ VT C tt Γ1 (Is (f x)) ∧ (f x = true → VE C te Γ1 (Is (v x)))) :
    VL C (tLc wi g tt te vs) Γ (Is ((xs.filter f).map v)) := vl_lc h fun ds e => by
  cases e
  refine ⟨by rw [List.length_map]; exact hz, fun i acc => acc = ((xs.take i).filter f).map v, rfl, fun i d acc hd iv => ?_, fun acc iv => ?_⟩
  · rw [List.getElem?_map] at hd
    obtain ⟨x, hx, rfl⟩ := Option.map_eq_some_iff.mp hd
    obtain ⟨Γ1, js, hg, hjs, ht, he⟩ := k x (List.mem_of_getElem? hx)
    refine ⟨Γ1, js, hg, hjs, Is (f x), ht, fun e => (he e.symm).imp fun y ey => ?_, fun e => ?_⟩
    · subst ey iv
      rw [List.take_add_one, hx, List.filter_append, List.map_append]
      show _ = _ ++ List.map v (List.filter f [x])
      rw [List.filter_cons, if_pos e.symm]
      rfl
    · subst iv
      rw [List.take_add_one, hx, List.filter_append, List.map_append]
      show _ = _ ++ List.map v (List.filter f [x])
      rw [List.filter_cons, if_neg (by rw [← e]; decide)]
      exact (List.append_nil _).symm
  · have iv : acc = ((xs.take (xs.map m).length).filter f).map v := iv
    rw [List.length_map, List.take_length] at iv
    exact iv
theorem vl_mapM (v : α → D) (h : VI C wi Γ (Is (xs.map m))) (hz : xs.length ≤ 100000) (k : ∀ x ∈ xs, ∃ Γ1 js, VG C g (m x) (wipeS Γ vs) Γ1 js ∧ (∀ j ∈ js, j ∈ vs) ∧ VE C te Γ1 (Is (v x))) :
    VL C (tLc wi g tYes te vs) Γ (Is (xs.map v)) := (vl_lcM (fun _ => true) v h hz fun x hx => by
  obtain ⟨Γ1, js, hg, hjs, he⟩ := k x hx
  exact ⟨Γ1, js, hg, hjs, vt_yes, fun _ => he⟩).to (by rw [List.filter_eq_self.mpr fun _ _ => rfl])
/-- all([..]) -/
theorem ve_allM (f : α → Bool) (h : VI C wi Γ (Is (xs.map m))) (hz : xs.length ≤ 100000) (k : ∀ x ∈ xs, ∃ Γ1 js, VG C g (m x) (wipeS Γ vs) Γ1 js ∧ (∀ j ∈ js, j ∈ vs) ∧ VE C te Γ1 (Is (.bool (f x)))) :
    VE C (tCB (rAll C.K) (tCons (tLc wi g tYes te vs) tNil)) Γ (Is (.bool (xs.all f))) :=
  (ve_all (ns := xs.map f) ((vl_mapM (fun x => .bool (f x)) h hz k).to (by rw [List.map_map]; rfl)).vd).to (by rw [List.all_map]; rfl)
/-- tuple([..]) -/
theorem ve_tupM (f : α → Bool) (v : α → D) (h : VI C wi Γ (Is (xs.map m))) (hz : xs.length ≤ 100000) (k : ∀ x ∈ xs, ∃ Γ1 js, VG C g (m x) (wipeS Γ vs) Γ1 js ∧ (∀ j ∈ js, j ∈ vs) ∧ VT C tt Γ1 (Is (f x)) ∧ (f x = true → VE C te Γ1 (Is (v x)))) :
    VE C (tCB (rTup C.K) (tCons (tLc wi g tt te vs) tNil)) Γ (Is (.tuple ((xs.filter f).map v))) := ve_tupL (vl_lcM f v h hz k).vd
/-- over data as it is -/
theorem id_map (ds : List D) : ds = ds.map id := (List.map_id ds).symm
theorem va_tupI {te : TE} {ds : List D} (h : VE C te Γ (Is (.tuple ds))) : VI C (iAny C.K te) Γ (Is (ds.map id)) := by
  rw [List.map_id]
  exact va_tupD h
theorem va_listI {te : TE} {ds : List D} (h : VE C te Γ (Is (.list ds))) : VI C (iAny C.K te) Γ (Is (ds.map id)) := by
  rw [List.map_id]
  exact va_listD h
/-- range(n) -/
theorem vi_rngM {te : TE} {n : Nat} (h : VE C te Γ (Is (.int (n : Nat)))) (hn : n ≤ 1000000) : VI C (iRng1 (tCons te tNil)) Γ (Is ((List.range n).map fun (i : Nat) => PyData.int (i : Nat))) := by
  have e : Ly.upTo 0 ((n : Int)).toNat = (List.range n).map fun (i : Nat) => PyData.int (i : Nat) := by
    unfold Ly.upTo
    rw [Int.toNat_natCast]
    refine List.map_congr_left fun i _ => ?_
    show PyData.int (0 + (i : Nat)) = _
    rw [Int.zero_add]
  rw [← e]
  exact vi_rng1D h
end
end Ly

/-! LyR: small things of lists, orders (levels and told pairs), _law_closed. -/
namespace Ly
open PySem PySem.Spec PyProof.Rows L2

section
variable {C : Cn} {r : R2} {x y : D} {R R' : D → Prop} {ta tb te : TE} {Γ : List Sl}
theorem OD.imp (h : OD C r x y R) (i : ∀ d, R d → R' d) : OD C r x y R' := fun B H v u e k1 k2 Q q => h B H v u e k1 k2 Q fun d w B' H' rd s k => q d w B' H' (i d rd) s k
/-- a test of a draw against a number -/
theorem vt_anyEq {i : Nat} {b : Int} {E : XK} (h0 : Γ[i]? = some .deal) (hb : 0 < b) (hm : b < 1000000000000) {z : Int} : VT C (tTest (tOp (rEqA C.K) (tCallK (De C.K P_any R_any) (fun vs _ => vs) E (tCons (tVar i) (tCons (tC (.int b)) tNil)) tNil) (tC (.int z)))) Γ (fun _ => True) :=
  vt_test (ve_op (ve_anyI h0 ve_int hb hm).v (Rb := Is (.int z)) ve_int.v fun x y ⟨r, ex, _, _⟩ ey => by
    subst ex ey
    exact od_eqI.imp fun d e => ⟨_, e, trivial⟩)
end
theorem all_map {α β : Type} {f : α → β} {Q : α → Prop} : ∀ {es : List β}, (∀ y ∈ es, ∃ p, y = f p ∧ Q p) → ∃ ps : List α, es = ps.map f ∧ ∀ p ∈ ps, Q p
  | [], _ => ⟨[], rfl, fun _ h => nomatch h⟩
  | e :: es, h => by
    obtain ⟨p, rfl, hp⟩ := h e (List.mem_cons_self ..)
    obtain ⟨ps, rfl, hq⟩ := all_map fun y hy => h y (List.mem_cons_of_mem _ hy)
    refine ⟨p :: ps, rfl, fun z hz => ?_⟩
    rcases List.mem_cons.mp hz with rfl | hz
    · exact hp
    · exact hq z hz
theorem perm_map_inv {α β : Type} {f : α → β} {as bs : List β} (h : as.Perm bs) : ∀ xs : List α, bs = xs.map f → ∃ zs : List α, as = zs.map f ∧ zs.Perm xs := by
  induction h with
  | nil =>
    intro xs e
    obtain rfl : xs = [] := List.map_eq_nil_iff.mp e.symm
    exact ⟨[], rfl, .refl _⟩
  | cons b _ ih =>
    intro xs e
    cases xs with
    | nil => cases e
    | cons x xs =>
      injection e with e1 e2
      obtain ⟨zs, e3, h⟩ := ih xs e2
      exact ⟨x :: zs, by rw [e1, e3]; rfl, h.cons x⟩
  | swap a b l =>
    intro xs e
    match xs, e with
    | x :: y :: xs, e =>
      injection e with e1 e2
      injection e2 with e2 e3
      exact ⟨y :: x :: xs, by rw [e1, e2, e3]; rfl, .swap x y xs⟩
  | trans _ _ ih1 ih2 =>
    intro xs e
    obtain ⟨zs, e1, h1⟩ := ih2 xs e
    obtain ⟨us, e2, h2⟩ := ih1 zs e1
    exact ⟨us, e2, h2.trans h1⟩
abbrev nsD (ns : List Nat) : List D := ns.map fun n => .int (n : Nat)
theorem ns_cast (ns : List Nat) : nsD ns = (ns.map fun (n : Nat) => (n : Int)).map PyData.int := by rw [List.map_map]; rfl
theorem shaped_ns (xs : List Nat) : SeqAt.shaped (.list (nsD xs)) = true := by
  unfold SeqAt.shaped
  rw [Bool.and_eq_true, decide_eq_true_eq, PyData.canLay0, PyData.depth, canLayAll_mem]
  refine ⟨fun x hx => ?_, ?_⟩
  · obtain ⟨n, _, rfl⟩ := List.mem_map.mp hx
    rfl
  · have : PyData.depthAll (nsD xs) ≤ 0 := depthAll_mem.mpr fun x hx => by
      obtain ⟨n, _, rfl⟩ := List.mem_map.mp hx
      exact Nat.le_refl _
    omega
/-- sorted(xs), numbers -/
theorem vl_sortedN {C : Cn} {te : TE} {Γ : List Sl} {ns : List Nat} (h : VV C te Γ (Is (.list (nsD ns)))) : VL C (tCB (rSortedI C.K) (tCons te tNil)) Γ (fun ds => ∃ ms : List Nat, ds = nsD ms ∧ ms.Perm ns ∧ ms.Pairwise (· ≤ ·)) :=
  (vl_sortedI (ns := ns.map fun (n : Nat) => (n : Int)) (by rw [← ns_cast]; exact h)).imp fun ds ⟨ms, e, hp, hs⟩ => by
    obtain ⟨zs, rfl, hz⟩ := perm_map_inv hp ns rfl
    refine ⟨zs, by rw [e, ← ns_cast], hz, ?_⟩
    rw [List.pairwise_map] at hs
    exact hs.imp fun h => by omega

/-! ### told pairs -/
/-- by told pairs from x up to y, none or more -/
inductive Up (ps : List (Nat × Nat)) : Nat → Nat → Prop where
  | here (x : Nat) : Up ps x x
  | step {x y z : Nat} (t : Up ps x y) (h : (y, z) ∈ ps) : Up ps x z
theorem Up.trans {ps : List (Nat × Nat)} {x y z : Nat} (h : Up ps x y) (k : Up ps y z) : Up ps x z := by
  induction k with
  | here => exact h
  | step _ e ih => exact .step ih e
/-- in at most t steps -/
def Rch (ps : List (Nat × Nat)) (x : Nat) : Nat → Nat → Prop
  | 0, h => x = h
  | t + 1, h => Rch ps x t h ∨ ∃ y, (y, h) ∈ ps ∧ Rch ps x t y
section
variable {ps : List (Nat × Nat)} {x : Nat}
theorem Rch.mono {h : Nat} : ∀ {t u : Nat}, t ≤ u → Rch ps x t h → Rch ps x u h
  | t, 0, l, r => by
    obtain rfl : t = 0 := by omega
    exact r
  | t, u + 1, l, r => by
    by_cases e : t = u + 1
    · exact e ▸ r
    · exact Or.inl (Rch.mono (by omega) r)
theorem Rch.up : ∀ {t h : Nat}, Rch ps x t h → Up ps x h
  | 0, h, r => by
    cases r
    exact .here _
  | t + 1, h, r => by
    rcases r with r | ⟨y, hy, r⟩
    · exact Rch.up r
    · exact .step (Rch.up r) hy
theorem Up.rch {h : Nat} (u : Up ps x h) : ∃ t, Rch ps x t h := by
  induction u with
  | here => exact ⟨0, rfl⟩
  | step _ e ih =>
    obtain ⟨t, r⟩ := ih
    exact ⟨t + 1, Or.inr ⟨_, e, r⟩⟩
theorem filter_lt {α : Type} {p q : α → Bool} : ∀ (l : List α), (∀ x ∈ l, p x = true → q x = true) → (l.filter p).length ≤ (l.filter q).length ∧ ((∃ x ∈ l, q x = true ∧ p x = false) → (l.filter p).length < (l.filter q).length)
  | [], _ => ⟨Nat.le_refl _, fun ⟨_, h, _⟩ => nomatch h⟩
  | y :: l, h => by
    obtain ⟨h1, h2⟩ := filter_lt l fun x hx => h x (List.mem_cons_of_mem _ hx)
    have hy := h y (List.mem_cons_self ..)
    rw [List.filter_cons, List.filter_cons]
    cases hp : p y with
    | true =>
      rw [hy hp]
      refine ⟨Nat.succ_le_succ h1, fun ⟨x, hx, hq, hn⟩ => ?_⟩
      rcases List.mem_cons.mp hx with rfl | hx
      · rw [hp] at hn
        cases hn
      · exact Nat.succ_lt_succ (h2 ⟨x, hx, hq, hn⟩)
    | false =>
      cases hq : q y with
      | true => exact ⟨Nat.le_succ_of_le h1, fun _ => Nat.lt_succ_of_le h1⟩
      | false =>
        refine ⟨h1, fun ⟨x, hx, hq', hn⟩ => ?_⟩
        rcases List.mem_cons.mp hx with rfl | hx
        · rw [hq] at hq'
          cases hq'
        · exact h2 ⟨x, hx, hq', hn⟩
open Classical in
/-- many steps are enough -/
theorem Up.many {many : Nat} (hps : ∀ p ∈ ps, p.1 < many ∧ p.2 < many) (hx : x < many) {h : Nat} (u : Up ps x h) : Rch ps x many h := by
  let S : Nat → List Nat := fun t => (List.range many).filter fun h => decide (Rch ps x t h)
  have grow : ∀ t, t + 1 ≤ (S t).length ∨ ∃ u, u ≤ t ∧ ∀ h, h < many → Rch ps x (u + 1) h → Rch ps x u h := by
    intro t
    induction t with
    | zero =>
      left
      have : x ∈ S 0 := List.mem_filter.mpr ⟨List.mem_range.mpr hx, decide_eq_true rfl⟩
      exact List.length_pos_of_mem this
    | succ t ih =>
      rcases ih with ih | ⟨u, hu, hs⟩
      · by_cases st : ∀ h, h < many → Rch ps x (t + 1) h → Rch ps x t h
        · exact Or.inr ⟨t, by omega, st⟩
        · left
          have : ∃ h, h < many ∧ Rch ps x (t + 1) h ∧ ¬ Rch ps x t h := by
            apply Classical.byContradiction
            intro no
            exact st fun h hh r => Classical.byContradiction fun n => no ⟨h, hh, r, n⟩
          obtain ⟨h, hh, r, n⟩ := this
          have := (filter_lt (p := fun h => decide (Rch ps x t h)) (q := fun h => decide (Rch ps x (t + 1) h)) (List.range many) fun y _ hy => decide_eq_true (Or.inl (of_decide_eq_true hy))).2 ⟨h, List.mem_range.mpr hh, decide_eq_true r, decide_eq_false n⟩
          show t + 1 + 1 ≤ ((List.range many).filter fun h => decide (Rch ps x (t + 1) h)).length
          have ih : t + 1 ≤ ((List.range many).filter fun h => decide (Rch ps x t h)).length := ih
          omega
      · exact Or.inr ⟨u, by omega, hs⟩
  rcases grow many with g | ⟨v, hv, hs⟩
  · have := List.length_filter_le (fun h => decide (Rch ps x many h)) (List.range many)
    rw [List.length_range] at this
    have g : many + 1 ≤ ((List.range many).filter fun h => decide (Rch ps x many h)).length := g
    omega
  · have stay : ∀ T h, h < many → Rch ps x T h → Rch ps x v h := by
      intro T
      induction T with
      | zero => exact fun h _ r => Rch.mono (Nat.zero_le _) r
      | succ T ih =>
        intro h hh r
        rcases r with r | ⟨y, hy, r⟩
        · exact ih h hh r
        · exact hs h hh (Or.inr ⟨y, hy, ih y (hps _ hy).1 r⟩)
    have hh : h < many := by
      cases u with
      | here => exact hx
      | step _ e => exact (hps _ e).2
    obtain ⟨T, r⟩ := u.rch
    exact Rch.mono hv (stay T h hh r)
end
/-! ### _law_closed -/
def prD (p : Nat × Nat) : D := .tuple [.int (p.1 : Nat), .int (p.2 : Nat)]
abbrev tnD (ns : List Nat) : D := .tuple (nsD ns)
abbrev lnD (ns : List Nat) : D := .list (nsD ns)
/-- rows of numbers -/
abbrev ordD (rs : List (List Nat)) : D := .tuple (rs.map tnD)
structure Closed (many : Nat) (ps : List (Nat × Nat)) (rs : List (List Nat)) : Prop where
  len : rs.length = many
  is : ∀ h, h < many → ∀ x, x ∈ rs.getD h [] ↔ x < many ∧ Up ps x h
  nd : ∀ h, h < many → (rs.getD h []).Pairwise (· < ·)
abbrev A_closed : Nat × List (Nat × Nat) → List D := fun a => [.int (a.1 : Nat), .list (a.2.map prD)]
def P_closed : Nat × List (Nat × Nat) → Prop := fun a => a.1 ≤ 100 ∧ a.2.length ≤ 1000 ∧ ∀ p ∈ a.2, p.1 < a.1 ∧ p.2 < a.1
def R_closed : Nat × List (Nat × Nat) → D → Prop := fun a d => ∃ rs, d = ordD rs ∧ Closed a.1 a.2 rs
structure Rnd (many : Nat) (ps : List (Nat × Nat)) (rs : List (List Nat)) : Prop where
  len : rs.length = many
  up : ∀ h, h < many → ∀ x ∈ rs.getD h [], x < many ∧ Up ps x h
  nd : ∀ h, h < many → (rs.getD h []).Pairwise (· < ·)
def Full (many t : Nat) (ps : List (Nat × Nat)) (rs : List (List Nat)) : Prop := ∀ h, h < many → ∀ x, x < many → Rch ps x t h → x ∈ rs.getD h []
theorem getD_set {α : Type} {xs : List α} {i j : Nat} {y d : α} (hi : i < xs.length) : (xs.set i y).getD j d = if i = j then y else xs.getD j d := by
  rw [List.getD_eq_getElem?_getD, List.getD_eq_getElem?_getD]
  by_cases h : i = j
  · subst h
    rw [List.getElem?_set_self hi, if_pos rfl]
    rfl
  · rw [List.getElem?_set_ne h, if_neg h]
theorem getD_at {α : Type} {xs : List α} {i : Nat} {d : α} (hi : i < xs.length) : xs[i]? = some (xs.getD i d) := by
  rw [List.getD_eq_getElem?_getD, List.getElem?_eq_getElem hi]
  rfl
theorem nd_le {xs : List Nat} (h : xs.Pairwise (· < ·)) : xs.Nodup := h.imp fun h => by omega
theorem le_nd {xs : List Nat} (h : xs.Pairwise (· ≤ ·)) (n : xs.Nodup) : xs.Pairwise (· < ·) := by
  have := h.and n
  exact this.imp fun ⟨h1, h2⟩ => by omega
theorem up_len : ∀ {xs : List Nat} {lo hi : Nat}, xs.Pairwise (· < ·) → (∀ x ∈ xs, lo ≤ x ∧ x < hi) → xs.length ≤ hi - lo
  | [], _, _, _, _ => Nat.zero_le _
  | x :: xs, lo, hi, h, k => by
    rw [List.pairwise_cons] at h
    have h1 := k x (List.mem_cons_self ..)
    have := up_len (xs := xs) (lo := x + 1) (hi := hi) h.2 fun y hy => ⟨h.1 y hy, (k y (List.mem_cons_of_mem _ hy)).2⟩
    rw [List.length_cons]
    omega
theorem rnd_set {many : Nat} {ps : List (Nat × Nat)} {rs : List (List Nat)} {lo hi : Nat} {ms : List Nat} (hr : Rnd many ps rs) (hl : lo < many) (hh : hi < many) (hp : (lo, hi) ∈ ps)
    (hm : ms.Perm (rs.getD hi [] ++ (rs.getD lo []).filter fun x => !(rs.getD hi []).contains x)) (hs : ms.Pairwise (· ≤ ·)) : Rnd many ps (rs.set hi ms) ∧ (∀ h, h < many → ∀ x ∈ rs.getD h [], x ∈ (rs.set hi ms).getD h []) ∧ ∀ x ∈ rs.getD lo [], x ∈ (rs.set hi ms).getD hi [] := by
  have hlen := hr.len
  have hset : ∀ j, (rs.set hi ms).getD j [] = if hi = j then ms else rs.getD j [] := fun j => getD_set (by omega)
  have nd : ms.Nodup := by
    refine hm.nodup_iff.mpr ?_
    refine List.nodup_append.mpr ⟨nd_le (hr.nd hi hh), (nd_le (hr.nd lo hl)).filter _, fun a ha b hb e => ?_⟩
    subst e
    have := (List.mem_filter.mp hb).2
    simp at this
    exact this ha
  refine ⟨⟨by rw [List.length_set]; exact hlen, fun h hm2 x hx => ?_, fun h hm2 => ?_⟩, fun h hm2 x hx => ?_, fun x hx => ?_⟩
  · rw [hset] at hx
    by_cases e : hi = h
    · rw [if_pos e] at hx
      subst e
      rcases List.mem_append.mp (hm.mem_iff.mp hx) with hx | hx
      · exact hr.up _ hh x hx
      · have := hr.up _ hl x (List.mem_filter.mp hx).1
        exact ⟨this.1, .step this.2 hp⟩
    · rw [if_neg e] at hx
      exact hr.up h hm2 x hx
  · rw [hset]
    by_cases e : hi = h
    · rw [if_pos e]
      exact le_nd hs nd
    · rw [if_neg e]
      exact hr.nd h hm2
  · rw [hset]
    by_cases e : hi = h
    · rw [if_pos e]
      subst e
      exact hm.mem_iff.mpr (List.mem_append_left _ hx)
    · rw [if_neg e]
      exact hx
  · rw [hset, if_pos rfl]
    refine hm.mem_iff.mpr ?_
    by_cases e : (rs.getD hi []).contains x = true
    · exact List.mem_append_left _ (by simpa using e)
    · exact List.mem_append_right _ (List.mem_filter.mpr ⟨hx, by rw [Bool.eq_false_iff.mpr e]; rfl⟩)
def t_closed (K : PySem.W.Frag) : TS :=
  tSeq (tAsg (tLc (iRng1 (tCons (tVar 0) tNil)) (gName 3) tYes (tLst (tCons (tVar 3) tNil)) [3]) (gName 2))
  (tSeq (tFor (iRng1 (tCons (tVar 0) tNil)) (gName 4) (tFor (iAny K (tVar 1)) (gTup K 2 (gCons (gName 5) (gCons (gName 6) gNil))) (tAsg (tCB (rSortedI K) (tCons (tOp (rAddA K) (tOp (rIx K) (tVar 2) (tVar 6)) (tLc (iAny K (tOp (rIx K) (tVar 2) (tVar 5))) (gName 7) (tTest (tOp (rNotInA K) (tVar 7) (tOp (rIx K) (tVar 2) (tVar 6)))) (tVar 7) [7])) tNil)) (gSub (tVar 2) (tVar 6) rSetL))))
  (tRet (tCB (rTup K) (tCons (tLc (iAny K (tVar 2)) (gName 8) tYes (tCB (rTup K) (tCons (tVar 8) tNil)) [8]) tNil))))
theorem vs_closed {C : Cn} {a : Nat × List (Nat × Nat)} (hP : P_closed a) : VS C (t_closed C.K) (slots (A_closed a) 7) { nx := fun _ => R_closed a .none, rt := R_closed a } := by
  obtain ⟨many, ps⟩ := a
  obtain ⟨h1, h2, h3⟩ := hP
  have h1 : many ≤ 100 := h1
  have h2 : ps.length ≤ 1000 := h2
  have h3 : ∀ p ∈ ps, p.1 < many ∧ p.2 < many := h3
  have hst : VL C (tLc (iRng1 (tCons (tVar 0) tNil)) (gName 3) tYes (tLst (tCons (tVar 3) tNil)) [3]) (slots (A_closed (many, ps)) 7) (Is (((List.range many).map fun i => [i]).map lnD)) :=
    (vl_mapM (m := fun (i : Nat) => PyData.int (i : Nat)) (fun i => lnD [i]) (vi_rngM (ve_var rfl) (by omega)) (by rw [List.length_range]; omega) fun i hi => ⟨_, _, vg_name, fun j hj => hj, (vl_lstD (va_consD (ve_var rfl) va_nil)).ed⟩).to (by rw [List.map_map]; rfl)
  refine vq_ownD hst ?_
  have r0 : Rnd many ps ((List.range many).map fun i => [i]) ∧ Full many 0 ps ((List.range many).map fun i => [i]) := by
    have hg : ∀ h, h < many → ((List.range many).map fun i => [i]).getD h [] = [h] := fun h hh => by
      rw [List.getD_eq_getElem?_getD, List.getElem?_map, List.getElem?_range hh]
      rfl
    refine ⟨⟨by rw [List.length_map, List.length_range], fun h hh x hx => ?_, fun h hh => ?_⟩, fun h hh x hx r => ?_⟩
    · rw [hg h hh] at hx
      rw [List.mem_singleton.mp hx]
      exact ⟨hh, .here _⟩
    · rw [hg h hh]
      exact List.pairwise_singleton _ _
    · rw [hg h hh]
      cases r
      exact List.mem_singleton.mpr rfl
  refine vs_seq (fun Γ => ∃ rs s4 s5 s6 s7, Γ = [.dat (.int (many : Nat)), .dat (.list (ps.map prD)), .own (rs.map lnD), .no, s4, s5, s6, s7, .no] ∧ Rnd many ps rs ∧ Full many many ps rs) ?_ ?_
  · refine vs_for (vi_rngM (n := many) (ve_var rfl) (by omega)) fun ds e => ?_
    cases e
    refine ⟨fun t Γ => ∃ rs s4 s5 s6 s7, Γ = [.dat (.int (many : Nat)), .dat (.list (ps.map prD)), .own (rs.map lnD), .no, s4, s5, s6, s7, .no] ∧ Rnd many ps rs ∧ Full many t ps rs, ⟨_, _, _, _, _, rfl, r0.1, r0.2⟩, ?_, fun Γ' h => ?_⟩
    · rintro t d Γ' _ ⟨rs0, s4, s5, s6, s7, rfl, hr0, hf0⟩
      refine ⟨_, _, vg_name, ?_⟩
      refine vs_for (va_listD (ds := ps.map prD) (ve_var rfl)) fun ds e => ?_
      cases e
      refine ⟨fun j Γ => ∃ rs s5 s6 s7, Γ = [.dat (.int (many : Nat)), .dat (.list (ps.map prD)), .own (rs.map lnD), .no, .dat d, s5, s6, s7, .no] ∧ Rnd many ps rs ∧ (∀ h, h < many → ∀ x ∈ rs0.getD h [], x ∈ rs.getD h []) ∧ ∀ i, i < j → ∀ lo hi, ps[i]? = some (lo, hi) → ∀ x ∈ rs0.getD lo [], x ∈ rs.getD hi [],
        ⟨rs0, _, _, _, rfl, hr0, fun _ _ _ h => h, fun i hi => by omega⟩, ?_, fun Γ' h => ?_⟩
      · rintro j d' Γ' hd ⟨rs, s5, s6, s7, rfl, hr, hk, hj⟩
        rw [List.getElem?_map] at hd
        obtain ⟨⟨lo, hi⟩, hp, rfl⟩ := Option.map_eq_some_iff.mp hd
        have hmem := List.mem_of_getElem? hp
        obtain ⟨hlo, hhi⟩ := h3 _ hmem
        have hlo : lo < many := hlo
        have hhi : hi < many := hhi
        have hlen := hr.len
        refine ⟨_, _, vg_tup2 vg_name vg_name, ?_⟩
        have at2 : ∀ {Γ : List Sl} {te : TE} {k : Nat}, k < many → Γ[2]? = some (.own (rs.map lnD)) → VE C te Γ (Is (.int (k : Nat))) → VE C (tOp (rIx C.K) (tVar 2) te) Γ (Is (lnD (rs.getD k []))) := fun {Γ te k} hk h2 ht =>
          ve_opD (vv_own h2) ht.v (od_ixL (atI_pos (by rw [List.getElem?_map, getD_at (d := []) (by omega)]; rfl)))
        have hsz : ∀ k, k < many → (rs.getD k []).length ≤ 100 := fun k hk => by
          have := up_len (hr.nd k hk) (lo := 0) (hi := many) fun x hx => ⟨Nat.zero_le _, (hr.up k hk x hx).1⟩
          omega
        have z1 := hsz hi hhi
        have z2 := hsz lo hlo
        have zf := List.length_filter_le (fun x => !(rs.getD hi []).contains x) (rs.getD lo [])
        refine vs_setAt (i := 2) (k := hi) (z := (hi : Int)) rfl (vl_sortedN (ns := rs.getD hi [] ++ (rs.getD lo []).filter fun x => !(rs.getD hi []).contains x) ?_).e (ve_var rfl) ?_ ?_
        · refine ((vl_opD (at2 hhi rfl (ve_var rfl)).v (vl_lcM (m := fun n : Nat => PyData.int (n : Nat)) (fun x => !(rs.getD hi []).contains x) (fun n => .int (n : Nat)) (va_listD (at2 hlo rfl (ve_var rfl))) (by omega) fun x hx => ⟨_, _, vg_name, fun j hj => hj, ?_, fun _ => ve_var rfl⟩).vd (ol_cat ?_)).to ?_).vd
          · exact vt_testD ((ve_opD (ve_var rfl).v (at2 hhi rfl (ve_var rfl)).v (od_notinL rfl (shaped_ns _))).to (congrArg (fun b => PyData.bool (!b)) (any_ints _ x)))
          · rw [List.length_map, List.length_map]
            omega
          · exact List.map_append.symm
        · rw [List.length_map, hlen]
          unfold ixN
          rw [if_pos (by omega), if_pos (by omega)]
          rfl
        · rintro d ⟨ds, rfl, ms, rfl, hm, hs⟩
          obtain ⟨g1, g2, g3⟩ := rnd_set hr hlo hhi hmem hm hs
          refine ⟨rs.set hi ms, .dat (.int (lo : Nat)), .dat (.int (hi : Nat)), s7, ?_, g1, fun h hh x hx => g2 h hh x (hk h hh x hx), fun i hi' lo' hi2 hpi x hx => ?_⟩
          · rw [List.map_set]
            rfl
          · by_cases e : i = j
            · subst e
              rw [hp] at hpi
              injection hpi with hpi
              injection hpi with e1 e2
              subst e1 e2
              exact g3 x (hk lo hlo x hx)
            · exact g2 hi2 (h3 _ (List.mem_of_getElem? hpi)).2 x (hj i (by omega) lo' hi2 hpi x hx)
      · rw [List.length_map] at h
        obtain ⟨rs, s5, s6, s7, rfl, hr, hk, hj⟩ := h
        refine ⟨rs, _, _, _, _, rfl, hr, fun h hh x hx r => ?_⟩
        rcases r with r | ⟨y, hy, r⟩
        · exact hk h hh x (hf0 h hh x hx r)
        · obtain ⟨i, hi, he⟩ := List.getElem_of_mem hy
          exact hj i hi y h (by rw [List.getElem?_eq_getElem hi, he]) x (hf0 y (h3 _ hy).1 x hx r)
    · rw [List.length_map, List.length_range] at h
      exact h
  · rintro Γ ⟨rs, s4, s5, s6, s7, rfl, hr, hf⟩
    refine vs_freeze 2 rfl ?_
    refine vs_retD (ve_tupL (vl_mapM (m := lnD) (xs := rs) tnD (va_listD (ve_var rfl)) (by rw [hr.len]; omega) fun r hr => ⟨_, _, vg_name, fun j hj => hj, ve_tupL (ve_var rfl).v⟩).vd) ?_
    exact ⟨rs, rfl, hr.len, fun h hh x => ⟨hr.up h hh x, fun ⟨hx, u⟩ => hf h hh x hx (u.many h3 hx)⟩, hr.nd⟩
end Ly

/-! LyS: calls with arguments of which only something is known, checks of small data, numbers drawn. -/
namespace Ly
open PySem PySem.Spec PyProof.Rows L2

theorem A2.map {α β γ : Type} {R : α → β → Prop} {f : γ → β} {Q : γ → Prop} (h : ∀ a b, R a b → ∃ p, b = f p ∧ Q p) : ∀ {as : List α} {bs : List β}, A2 R as bs → ∃ ps : List γ, bs = ps.map f ∧ ps.length = as.length ∧ ∀ p ∈ ps, Q p
  | _, _, .nil => ⟨[], rfl, rfl, fun _ h => nomatch h⟩
  | _, _, .cons r t => by
    obtain ⟨p, rfl, hp⟩ := h _ _ r
    obtain ⟨ps, rfl, hl, hq⟩ := A2.map h t
    refine ⟨p :: ps, rfl, congrArg (· + 1) hl, fun z hz => ?_⟩
    rcases List.mem_cons.mp hz with rfl | hz
    · exact hp
    · exact hq z hz
section
variable {C : Cn} {A : TA} {Γ : List Sl} {α : Type} {g : α → List D} {P : α → Prop} {R : α → D → Prop} {R' : D → Prop} {S : List D → Prop} {E : XK} {i : Nat} {te : TE}
theorem ve_callAx (h : VA C A Γ S) (k : ∀ ds, S ds → ∃ a, ds = g a ∧ P a ∧ ∀ d, R a d → R' d) : VE C (tCallK (Pa C.K g P R) (fun vs _ => vs) E A tNil) Γ R' := fun B H σ F Q q =>
  h B H σ F _ fun ds vs B1 H1 e1 s1 k1 => by
    obtain ⟨a, rfl, hP, hR⟩ := k ds e1
    exact ⟨a, hP, B1, g a, (F.step s1).sub, k1, rfl, fun d v B3 H3 r3 s3 k3 => q d v B3 H3 (hR d r3) (s1.trans F.dlNow s3.any) k3⟩
/-- two arguments: the first told -/
theorem ve_call2x {ta tb : TE} {x : D} {Rb : D → Prop} (h1 : VE C ta Γ (Is x)) (h2 : VE C tb Γ Rb) (k : ∀ y, Rb y → ∃ a, [x, y] = g a ∧ P a ∧ ∀ d, R a d → R' d) : VE C (tCallK (Pa C.K g P R) (fun vs _ => vs) E (tCons ta (tCons tb tNil)) tNil) Γ R' :=
  ve_callAx (va_cons h1 (va_cons h2 va_nil)) fun ds ⟨a, as, e1, ea, b, bs, e2, eb, e3⟩ => by
    cases ea
    cases e3
    subst e1 e2
    exact k b eb
theorem ve_anyN {n : Nat} (h0 : Γ[i]? = some .deal) (h : VE C te Γ (Is (.int (n : Nat)))) (hn : 0 < n) (hm : n < 1000000000000) : VE C (tCallK (De C.K P_any R_any) (fun vs _ => vs) E (tCons (tVar i) (tCons te tNil)) tNil) Γ (fun d => ∃ r : Nat, d = .int (r : Nat) ∧ r < n) :=
  (ve_anyI h0 h (by omega) (by omega)).imp fun d ⟨r, e, h0, h1⟩ => by
    obtain ⟨m, rfl⟩ := Int.eq_ofNat_of_zero_le h0
    exact ⟨m, e, by omega⟩
theorem vt_anyGt {b z : Int} (h0 : Γ[i]? = some .deal) (hb : 0 < b) (hm : b < 1000000000000) : VT C (tTest (tOp (rI0 fun i j => .bl (decide (j < i))) (tCallK (De C.K P_any R_any) (fun vs _ => vs) E (tCons (tVar i) (tCons (tC (.int b)) tNil)) tNil) (tC (.int z)))) Γ (fun _ => True) :=
  vt_test (ve_op (ve_anyI h0 ve_int hb hm).v (Rb := Is (.int z)) ve_int.v fun x y ⟨r, ex, _, _⟩ ey => by
    subst ex ey
    exact od_gt.imp fun d e => ⟨_, e, trivial⟩)
/-- one of a told list -/
theorem ve_ofL {ds : List D} (h0 : Γ[i]? = some .deal) (h : VE C te Γ (Is (.list ds))) (hn : ds ≠ []) (hm : ds.length ≤ 100000) : VE C (tCallK (De C.K P_of R_of) (fun vs _ => vs) E (tCons (tVar i) (tCons te tNil)) tNil) Γ (fun d => d ∈ ds) :=
  (ve_deD h0 (va_consD h va_nil) ⟨ds, Or.inl rfl, hn, hm⟩).imp fun d r => r _ (Or.inl rfl)
/-- tuple of a list of which something is known -/
theorem ve_tupX {S : List D → Prop} (h : VL C te Γ S) : VE C (tCB (rTup C.K) (tCons te tNil)) Γ (fun d => ∃ ds, d = .tuple ds ∧ S ds) := ve_tupN h.v
end
theorem range_ns (n : Nat) : Ly.upTo 0 ((n : Int)).toNat = nsD (List.range n) := by
  unfold Ly.upTo
  rw [Int.toNat_natCast]
  refine List.map_congr_left fun i _ => ?_
  show PyData.int (0 + (i : Nat)) = _
  rw [Int.zero_add]
/-- small data, by a check -/
def smB (d : D) (k n : Nat) : Bool := d.canLay0 && (d.showable && (d.leavesShort 13 && (decide (d.depth ≤ k) && decide (d.weight ≤ n))))
theorem smB_is {d : D} {k n : Nat} (h : smB d k n = true) : Sm d k n := by
  unfold smB at h
  simp only [Bool.and_eq_true, decide_eq_true_eq] at h
  exact ⟨h.1, h.2.1, h.2.2.1, h.2.2.2.1, h.2.2.2.2⟩
theorem sm_ns {ns : List Nat} {m : Nat} (h : ∀ x ∈ ns, x < 1000000000000) (hl : ns.length ≤ m) {n : Nat} (hn : m * 42 ≤ n := by decide) : SmA (nsD ns) 0 n := by
  have : SmA (nsD ns) 0 ((nsD ns).length * (41 + 1)) := SmA.of fun d hd => by
    obtain ⟨x, hx, rfl⟩ := List.mem_map.mp hd
    have := h x hx
    exact sm_int (by rw [Int.natAbs_natCast]; omega)
  refine this.monoW ?_
  rw [List.length_map]
  omega
/-- rows of numbers, at most m of at most l -/
theorem sm_ord {rs : List (List Nat)} {m l : Nat} (h : ∀ r ∈ rs, r.length ≤ l ∧ ∀ x ∈ r, x < 1000000000000) (hm : rs.length ≤ m) {n : Nat} (hn : m * (l * 42 + 1) ≤ n := by decide) : Sm (ordD rs) 2 n := by
  refine Sm.tup ((SmA.of (k := 1) (n := l * 42) fun d hd => ?_).monoW ?_)
  · obtain ⟨r, hr, rfl⟩ := List.mem_map.mp hd
    exact Sm.tup (sm_ns (h r hr).2 (h r hr).1 (Nat.le_refl _))
  · rw [List.length_map]
    exact Nat.le_trans (Nat.mul_le_mul_right _ hm) hn
end Ly

/-! LyT: lists of ints by order, zip, tuple.index, a dict display looked up at once, list * int, bits, tuples of the top. -/
namespace Ly
open PySem PySem.Spec PyProof.Rows L2

/-! ### list < list, of ints -/
def rLtL (K : PySem.W.Frag) : R2 := fun x y H Q => ∃ (a b : Addr) (ns ms : List Int), x = .ref a ∧ y = .ref b ∧ SqL K H a (ns.map V.int) ∧ SqL K H b (ms.map V.int) ∧
  Q (.bl (SeqAt.firstLt (fun j => decide (ns.getD j 0 = ms.getD j 0)) (fun j => decide (ns.getD j 0 < ms.getD j 0)) (decide (ns.length < ms.length)) (List.range (min ns.length ms.length)))) H
theorem vals_int {ns : List Int} {vs : List Value} (r : Vals (ns.map V.int) vs) {j : Nat} (h : j < vs.length) : ∃ t, vs[j] = .int (ns.getD j 0) t := by
  induction ns generalizing vs j with
  | nil => cases r; cases h
  | cons n ns ih =>
    cases r with
    | cons h1 h2 =>
      cases j with
      | zero =>
        obtain ⟨t, rfl⟩ := h1
        exact ⟨t, rfl⟩
      | succ j => exact ih h2 (by simpa using h)
theorem op_ltL {X : Cx} (hu : X.A.units < cLine) : OpR X (compareOp .Lt) (rLtL X.K) := by
  intro pins s σ H x y v u Q I rx ry h
  obtain ⟨a, b, ns, ms, rfl, rfl, ha, hb, q⟩ := h
  cases rx
  cases ry
  obtain ⟨its, r1, p1, _⟩ := I.list ha
  obtain ⟨its2, r2, p2, _⟩ := I.list hb
  have l1 : its.length = ns.length := by rw [← r1.length, List.length_map]
  have l2 : its2.length = ms.length := by rw [← r2.length, List.length_map]
  have key := SeqAt.RcLt.lists (A := X.A) (s := s) (e := fun j => decide (ns.getD j 0 = ms.getD j 0)) (r := fun j => decide (ns.getD j 0 < ms.getD j 0)) p1.isList p2.isList hu (fun j h1 h2 => ?_) (fun j h1 h2 _ => ?_)
  · rw [List.size_toArray, List.size_toArray, l1, l2] at key
    exact key X.prog X.w _ _ ⟨.bl _, H, I, rfl, q⟩
  · rw [List.size_toArray] at h1 h2
    obtain ⟨t, e1⟩ := vals_int r1 h1
    obtain ⟨t2, e2⟩ := vals_int r2 h2
    rw [List.getElem_toArray, List.getElem_toArray, e1, e2]
    have := SeqAt.EqAt.int_int (A := X.A.in1) (s := s) (ns.getD j 0) t (ms.getD j 0) t2
    rw [show (ns.getD j 0 == ms.getD j 0) = decide (ns.getD j 0 = ms.getD j 0) from rfl] at this
    exact this
  · rw [List.size_toArray] at h1 h2
    obtain ⟨t, e1⟩ := vals_int r1 h1
    obtain ⟨t2, e2⟩ := vals_int r2 h2
    rw [List.getElem_toArray, List.getElem_toArray, e1, e2]
    exact fun prog w E Q h => HT.rcLt_int X.A.in1 s _ t _ t2 prog w E Q h
def rLtB (K : PySem.W.Frag) : R2 := fun x y H Q => rLtA x y H Q ∨ rLtL K x y H Q
theorem oq_ltB {X : Cx} {k : Nat} (hr : Room k X.A) : OpR X (compareOp .Lt) (rLtB X.K) := OpR.or oq_lt (op_ltL (by have := hr.un; omega))
theorem od_ltL {C : Cn} {ns ms : List Int} : OD C (rLtB C.K) (.list (ns.map .int)) (.list (ms.map .int)) (Is (.bool (SeqAt.firstLt (fun j => decide (ns.getD j 0 = ms.getD j 0)) (fun j => decide (ns.getD j 0 < ms.getD j 0)) (decide (ns.length < ms.length)) (List.range (min ns.length ms.length))))) := fun B H v u e k1 k2 Q q => by
  obtain ⟨a, xs, rfl, g1, g2⟩ := k1.lst e
  obtain ⟨b, ys, rfl, g3, g4⟩ := k2.lst e
  rw [dpall_ints g2] at g1
  rw [dpall_ints g4] at g3
  exact Or.inr ⟨a, b, ns, ms, rfl, rfl, g1, g3, q _ _ B H rfl (Stp.refl e) (.bl _)⟩

/-! ### zip of two lists -/
def zipD (xs ys : List D) : List D := List.zipWith (fun x y => .tuple [x, y]) xs ys
theorem zipD_len (xs ys : List D) : (zipD xs ys).length = min xs.length ys.length := List.length_zipWith
theorem zipD_get {xs ys : List D} {i : Nat} {d : D} (h : (zipD xs ys)[i]? = some d) : ∃ x y, xs[i]? = some x ∧ ys[i]? = some y ∧ d = .tuple [x, y] := by
  unfold zipD at h
  rw [List.getElem?_zipWith] at h
  cases hx : xs[i]? with
  | none => rw [hx] at h; cases h
  | some x =>
    cases hy : ys[i]? with
    | none => rw [hx, hy] at h; cases h
    | some y =>
      rw [hx, hy] at h
      cases h
      exact ⟨x, y, rfl, rfl, rfl⟩
theorem vi_zip {C : Cn} {Γ : List Sl} {ta tb : TE} {xs ys : List D} (h : VE C ta Γ (Is (.list xs))) (h2 : VE C tb Γ (Is (.list ys))) : VI C (RZ.iZipA C.K (tCons ta (tCons tb tNil))) Γ (Is (zipD xs ys)) := fun B H σ F T q => h B H σ F _ fun d v B1 H1 e1 s1 k1 => h2 B1 H1 σ (F.step s1) _ fun d2 v2 B2 H2 e2 s2 k2 => by
  cases e1
  cases e2
  have F2 := (F.step s1).step s2
  obtain ⟨a, us, rfl, g1, g2⟩ := dp_lst (dp_mono s2.ext k1)
  obtain ⟨b, ws, rfl, g3, g4⟩ := dp_lst k2
  refine ⟨a, b, us, ws, rfl, Or.inl ⟨same_l F2.sub g1, same_l F2.sub g3, ?_⟩⟩
  refine q _ _ B2 H2 _ _ rfl (s1.trans F.dlNow s2) (walk_zip (xs := us) (ys := ws) (by rw [zipD_len, dpall_len g2, dpall_len g4])) (fun B3 H3 m1 m2 => ⟨same_l m2 (same_l m1 g1), same_l m2 (same_l m1 g3)⟩) ?_
  rintro i x H3 H3' ⟨t, y, z, rfl, ht, rfl, hy, hz⟩ B3 d m1 m2 hd
  obtain ⟨y', z', hy', hz', rfl⟩ := zipD_get hd
  obtain ⟨v, hv, kv⟩ := dpall_get g2 hy'
  obtain ⟨w, hw, kw⟩ := dpall_get g4 hz'
  have hy : us[i]? = some y := hy
  have hz : ws[i]? = some z := hz
  rw [hy] at hv
  rw [hz] at hw
  cases hv
  cases hw
  have st : Stp C.dl B3 H3 (upd B3 t (.tup [y, z])) (upd H3 t (.tup [y, z])) := Stp.new m2 ht
  exact ⟨_, st, .tup (Or.inl (Or.inl upd_same)) (.cons (dp_mono (m1.trans st.ext) kv) (.cons (dp_mono (m1.trans st.ext) kw) .nil))⟩

/-! ### t.index(x), texts -/
def rTIndex (K : PySem.W.Frag) : V → List V → Hp → VK → Prop := fun x xs H Q => ∃ p, ∃ ys : List Str, ∃ z j, x = .ref p ∧ xs = [.str z] ∧ SqT K H p (ys.map V.str) ∧ ys[j]? = some z ∧ (∀ m, m < j → ys[m]? ≠ some z) ∧ Q (.int (j : Nat)) H
theorem mq_tindex {X : Cx} : MtR X "tuple.index" (rTIndex X.K) := mt_tup_index
theorem ve_tindex {C : Cn} {Γ : List Sl} {v : V} {tb : TE} {ys : List Str} {z : Str} {j : Nat} (ht : ∀ H, tyV C.K "tuple" v H) (h : ∀ B, Dq C.K B v (.tuple (ys.map .str))) (h2 : VE C tb Γ (Is (.str z))) (hj : ys[j]? = some z) (hn : ∀ m, m < j → ys[m]? ≠ some z) :
    VE C (tBM C.K "tuple" (rTIndex C.K) (tC v) (tCons tb tNil)) Γ (Is (.int (j : Nat))) := fun B H σ F Q q => ⟨ht H, h2 B H σ F _ fun d2 v2 B2 H2 e2 s2 k2 => by
  cases e2
  obtain rfl := dp_str k2
  obtain ⟨a, us, rfl, g1, g2⟩ := dp_tup (h H2)
  rw [dpall_strs g2] at g1
  exact ⟨a, ys, z, j, rfl, rfl, g1, hj, hn, q _ _ B2 H2 rfl s2 (.int _)⟩⟩
/-! ### [x] * n -/
theorem vl_rep {C : Cn} {Γ : List Sl} {ta tb : TE} {ds : List D} {k : Int} (h : VL C ta Γ (Is ds)) (h2 : VE C tb Γ (Is (.int k))) (h1 : -1000000 ≤ k) (hz : k ≤ 1000000) (hs : ds.length * k.toNat ≤ 1000000) : VL C (tOp rRep ta tb) Γ (Is (List.replicate k.toNat ds).flatten) := fun B H σ F Q q =>
  h B H σ F _ fun es p vs B1 H1 e1 s1 n1 n2 n3 n4 => h2 B1 H1 σ (F.step s1) _ fun d v B2 H2 e2 s2 k2 => by
    cases e1
    cases e2
    obtain rfl := dp_int k2
    have F2 := (F.step s1).step s2
    have hp := s2.keep p _ n3 (F.notMd (F.newC n1))
    have st := s1.trans F.dlNow s2
    refine ⟨p, k, vs, rfl, rfl, hp, by omega, by omega, by rw [dpall_len n4, sizeLine_eq]; omega, fun r hr => ?_⟩
    exact q _ r _ B2 _ rfl (st.trans F.dlNow (Stp.newM F2.sub hr)) (back_none F st hr) (F2.sub.free hr) upd_same (dpall_rep (dpall_mono s2.ext n4) _)

/-! ### a display of texts and data, looked up at once -/
theorem pairs_ok {C : Cn} {Γ : List Sl} : ∀ (l : List (Str × TE × D)), (∀ e ∈ l, VE C e.2.1 Γ (Is e.2.2)) → ∀ {B H σ}, Fm C B H σ Γ → ∀ Q : List (V × V) → Hp → Prop,
    (∀ vs B' H', Stp C.dl B H B' H' → DqAll C.K B' vs (l.map fun e => e.2.2) → Q (List.zipWith (fun (e : Str × TE × D) v => (.str e.1, v)) l vs) H') → tPairs (l.map fun e => (tC (.str e.1), e.2.1)) σ H Q
  | [], _, B, H, σ, F, Q, q => q [] B H (Stp.refl F.sub) .nil
  | e :: l, h, B, H, σ, F, Q, q => h e (List.mem_cons_self ..) B H σ F _ fun d v B1 H1 ed s1 k1 => by
    cases ed
    refine pairs_ok l (fun e he => h e (List.mem_cons_of_mem _ he)) (F.step s1) _ fun vs B2 H2 s2 k2 => ?_
    exact q (v :: vs) B2 H2 (s1.trans F.dlNow s2) (.cons (dp_mono s2.ext k1) k2)
theorem putK_new {kvs : List (Key × V)} {k : Key} {v : V} (h : ∀ e ∈ kvs, e.1 ≠ k) : putK kvs k v = kvs ++ [(k, v)] := by
  unfold putK
  rw [if_neg]
  intro z
  obtain ⟨e, he, hk⟩ := List.any_eq_true.mp z
  exact h e he (of_decide_eq_true hk)
theorem mergeK_new : ∀ (more kvs : List (Key × V)), (∀ e ∈ kvs, ∀ f ∈ more, e.1 ≠ f.1) → (more.map (·.1)).Nodup → mergeK kvs more = kvs ++ more
  | [], kvs, _, _ => (List.append_nil _).symm
  | f :: more, kvs, h, n => by
    rw [List.map_cons, List.nodup_cons] at n
    show mergeK (putK kvs f.1 f.2) more = _
    rw [putK_new fun e he => h e he f (List.mem_cons_self ..), mergeK_new more _ (fun e he g hg => ?_) n.2, List.append_assoc]
    · rfl
    · rcases List.mem_append.mp he with he | he
      · exact h e he g (List.mem_cons_of_mem _ hg)
      · rw [List.mem_singleton.mp he]
        intro z
        exact n.1 (List.mem_map.mpr ⟨g, hg, z.symm⟩)
theorem zip_get {C : Cn} {B : Hp} {z : Str} {t : TE} {d : D} : ∀ {l : List (Str × TE × D)} {vs : List V}, DqAll C.K B vs (l.map fun e => e.2.2) → (l.map (·.1)).Nodup → (z, t, d) ∈ l →
    ∃ v, valV (List.zipWith (fun (e : Str × TE × D) v => ((Sum.inr e.1 : Key), v)) l vs) (Sum.inr z) = some v ∧ Dq C.K B v d
  | [], _, _, _, h => nomatch h
  | e :: l, _, .cons (v := v) (vs := vs) hv hr, n, h => by
    rw [List.map_cons, List.nodup_cons] at n
    rw [List.zipWith_cons_cons]
    rcases List.mem_cons.mp h with h | h
    · subst h
      exact ⟨v, valV_pos rfl, hv⟩
    · obtain ⟨u, h1, h2⟩ := zip_get hr n.2 h
      refine ⟨u, ?_, h2⟩
      rw [valV_neg]
      · exact h1
      · intro q
        injection q with q
        exact n.1 (List.mem_map.mpr ⟨_, h, q.symm⟩)
theorem ve_dget {C : Cn} {Γ : List Sl} (l : List (Str × TE × D)) {ty : TE} {z : Str} {t : TE} {d : D} (hl : ∀ e ∈ l, VE C e.2.1 Γ (Is e.2.2)) (hz : l.length ≤ 15) (hk : (l.map (·.1)).Nodup) (hy : VE C ty Γ (Is (.str z))) (hm : (z, t, d) ∈ l) :
    VE C (tDGet (tDisp (l.map fun e => (tC (.str e.1), e.2.1))) ty) Γ (Is d) := fun B H σ F Q q => fun p hp => by
  have hC := F.newC hp
  have hB := F.sub.free hp
  have F1 : Fm C B (upd H p (.dK [])) σ Γ := F.poke hC hB fun j es hj => F.noOwn hp hj
  have s1 : Stp C.dl B H B (upd H p (.dK [])) := Stp.newM F.sub hp
  refine pairs_ok l hl F1 _ fun vs B2 H2 s2 k2 => ?_
  have hn : upd H p (.dK []) p ≠ none := by rw [upd_same]; simp
  have hB2 := s2.out p hn hB
  have hH2 := s2.keep p _ upd_same (F.notMd hC)
  have hlen : vs.length = l.length := by rw [dpall_len k2, List.length_map]
  let kvs : List (Key × V) := List.zipWith (fun (e : Str × TE × D) v => ((Sum.inr e.1 : Key), v)) l vs
  have ek : mergeK [] kvs = kvs := by
    have h1 : kvs.map (·.1) = (l.map (·.1)).map Sum.inr := by
      have : ∀ (l : List (Str × TE × D)) (vs : List V), vs.length = l.length → (List.zipWith (fun (e : Str × TE × D) v => ((Sum.inr e.1 : Key), v)) l vs).map (·.1) = (l.map (·.1)).map Sum.inr := by
        intro l
        induction l with
        | nil => intro vs _; cases vs <;> rfl
        | cons e l ih =>
          intro vs h
          cases vs with
          | nil => cases h
          | cons v vs =>
            rw [List.zipWith_cons_cons, List.map_cons, ih vs (by simpa using h)]
            rfl
      exact this l vs hlen
    rw [mergeK_new kvs [] (fun _ h => nomatch h) (by
      rw [h1]
      exact List.Pairwise.map _ (fun a b h z => h (Sum.inr.inj z)) hk)]
    rfl
  refine ⟨hH2, kvs, ?_, ?_, ?_⟩
  · have : ∀ (l : List (Str × TE × D)) (vs : List V), List.zipWith (fun (e : Str × TE × D) v => (V.str e.1, v)) l vs = (List.zipWith (fun (e : Str × TE × D) v => ((Sum.inr e.1 : Key), v)) l vs).map fun kv => (kV kv.1, kv.2) := by
      intro l
      induction l with
      | nil => intro vs; cases vs <;> rfl
      | cons e l ih =>
        intro vs
        cases vs with
        | nil => rfl
        | cons v vs => rw [List.zipWith_cons_cons, List.zipWith_cons_cons, List.map_cons, ← ih vs]; rfl
    exact this l vs
  · show (List.zipWith _ l vs).length ≤ 15
    rw [List.length_zipWith]
    omega
  · rw [ek]
    have F2 := F1.step s2
    have F3 : Fm C B2 (upd H2 p (.dK kvs)) σ Γ := F2.poke hC hB2 fun j es hj e => by
      obtain ⟨p', ws, e', _, _, h3, _⟩ := F2.hasOwn hj
      rw [e] at e'
      injection e' with e'
      injection e' with e'
      injection e' with e'
      subst e'
      rw [hH2] at h3
      cases h3
    refine hy B2 _ σ F3 _ fun d' w B3 H3 ed s3 k3 => ?_
    cases ed
    obtain rfl := dp_str k3
    obtain ⟨v, hv, kv⟩ := zip_get k2 hk hm
    have hH3 := s3.keep p _ upd_same (F.notMd hC)
    refine ⟨p, v, rfl, Or.inl ⟨kvs, Sum.inr z, Or.inl hH3, rfl, hv.symm⟩, ?_⟩
    exact q d v B3 H3 rfl (((s1.trans F.dlNow s2).poke F.dlNow hp hB2).trans F.dlNow s3) (dp_mono s3.ext kv)
/-! ### tuples of the top -/
theorem dq_ktup {K : PySem.W.Frag} {a : Addr} {o : Obj} {its : Array Value} {n : Nat} {vs : List V} {ds : List D} (hl : K.lookup a = some o) (hc : o.cls = .type "tuple") (hd : o.data = .seq its n) (hz : its.size ≤ sizeLine) (hv : Vals vs its.toList) (hk : ∀ H, DqAll K H vs ds) :
    ∀ H, Dq K H (.ref a) (.tuple ds) := fun H => .tup (Or.inr ⟨o, its, n, hl, hc, hd, hz, hv⟩) (hk H)
theorem ty_ktup {K : PySem.W.Frag} {a : Addr} {o : Obj} (hl : K.lookup a = some o) (hc : o.cls = .type "tuple") (hd : o.dict = none) : ∀ H, tyV K "tuple" (.ref a) H := fun _ => Or.inr (Or.inl ⟨rfl, o, hl, hc, hd⟩)
/-! ### a choice as a test -/
def tIfT (t : TT) (ta tb : TT) : TT := fun σ H Q => t σ H fun c H1 => if c = true then ta σ H1 Q else tb σ H1 Q
theorem pt_ifExp {X : Cx} {c a b : Expr} {pos : Pos} {tc ta tb : TT} (hc : PT X c tc) (ha : PT X a ta) (hb : PT X b tb) : PT X (.IfExp c a b pos) (tIfT tc ta tb) := by
  refine ⟨fun pins s σ H Q I h => ?_⟩
  show wpAny _ _ (do if ← isTrue c X.env (eval c X.env) then isTrue a X.env (eval a X.env) else isTrue b X.env (eval b X.env)) _ _ _
  refine wpAny_bind (thn (hc.run pins s σ H _ I h) fun d s1 ⟨H1, I1, q1⟩ => ?_)
  cases d with
  | true => exact ha.run pins s1 σ H1 Q I1 q1
  | false => exact hb.run pins s1 σ H1 Q I1 q1
theorem vt_if {C : Cn} {Γ : List Sl} {t ta tb : TT} {S R : Bool → Prop} (h : VT C t Γ S) (h1 : S true → VT C ta Γ R) (h2 : S false → VT C tb Γ R) : VT C (tIfT t ta tb) Γ R := fun B H σ F Q q => h B H σ F _ fun b B1 H1 r s1 => by
  cases b with
  | true => exact iteT (h1 r B1 H1 σ (F.step s1) Q fun d B2 H2 r2 s2 => q d B2 H2 r2 (s1.trans F.dlNow s2))
  | false => exact iteF (h2 r B1 H1 σ (F.step s1) Q fun d B2 H2 r2 s2 => q d B2 H2 r2 (s1.trans F.dlNow s2))
theorem un1 {k : Nat} {A : Around} (hr : Room k A) : A.units + 1 < cLine := by
  have := hr.un
  omega
/-! a, b, c = x, y, z -/
theorem vs_par3 {C : Cn} {Γ : List Sl} {ta tb tc : TE} {i j l : Nat} {x y z : D} {P : Po} (h1 : VE C ta Γ (Is x)) (h2 : VE C tb Γ (Is y)) (h3 : VE C tc Γ (Is z)) (k : P.nx (((Γ.set i (.dat x)).set j (.dat y)).set l (.dat z))) :
    VS C (tPar3 i j l (tCons ta (tCons tb (tCons tc tNil)))) Γ P := fun B H σ E F n r b c => h1 B H σ F _ fun d1 v1 B1 H1 e1 s1 k1 => h2 B1 H1 σ (F.step s1) _ fun d2 v2 B2 H2 e2 s2 k2 => h3 B2 H2 σ ((F.step s1).step s2) _ fun d3 v3 B3 H3 e3 s3 k3 => by
  cases e1
  cases e2
  cases e3
  exact ⟨v1, v2, v3, rfl, n _ B3 H3 _ k ((s1.ext.trans s2.ext).trans s3.ext) ((((((F.step s1).step s2).step s3).set (dp_mono (s2.ext.trans s3.ext) k1)).set (dp_mono s3.ext k2)).set k3)⟩
theorem vs_par3L {C : Cn} {Γ : List Sl} {ta tb tc : TE} {i j l : Nat} {x : List D} {y z : D} {P : Po} (h1 : VL C ta Γ (Is x)) (h2 : VE C tb Γ (Is y)) (h3 : VE C tc Γ (Is z)) (k : P.nx (((Γ.set i (.own x)).set j (.dat y)).set l (.dat z))) :
    VS C (tPar3 i j l (tCons ta (tCons tb (tCons tc tNil)))) Γ P := fun B H σ E F n r b c => h1 B H σ F _ fun d1 p vs B1 H1 e1 s1 n1 n2 n3 n4 => h2 B1 H1 σ (F.step s1) _ fun d2 v2 B2 H2 e2 s2 k2 => h3 B2 H2 σ ((F.step s1).step s2) _ fun d3 v3 B3 H3 e3 s3 k3 => by
  cases e1
  cases e2
  cases e3
  have F3 := ((F.step s1).step s2).step s3
  have p2 := s2.keep p _ n3 (F.notMd (F.newC n1))
  have b2 := s2.out p (by rw [n3]; simp) n2
  exact ⟨.ref p, v2, v3, rfl, n _ B3 H3 _ k ((s1.ext.trans s2.ext).trans s3.ext) (((F3.setOwn (F.newC n1) (s3.out p (by rw [p2]; simp) b2) (s3.keep p _ p2 (F.notMd (F.newC n1))) (dpall_mono (s2.ext.trans s3.ext) n4) fun j es _ hj => F.noOwn n1 hj).set (dp_mono s3.ext k2)).set k3)⟩
end Ly

namespace K03
open PySem PySem.Spec PyProof.Rows L2 Ly
abbrev P__law_any := Ly.P_any
abbrev R__law_any := Ly.R_any
abbrev P__law_of := Ly.P_of
abbrev R__law_of := Ly.R_of
abbrev P__law_mixed := Ly.Pm
abbrev R__law_mixed := Ly.R_mixed
abbrev P_is_integer := Ly.P_is1
abbrev R_is_integer := Ly.R_isInt
abbrev P_is_number := Ly.P_is1
abbrev R_is_number := Ly.R_isNum
abbrev P_is_index := Ly.P_isIdx
abbrev R_is_index := Ly.R_isIdx
/-! ### words and ops -/
def nm : Nat → Str
  | 0 => "add"
  | 1 => "sub"
  | 2 => "mul"
  | 3 => "div"
  | 4 => "rem"
  | 5 => "and"
  | 6 => "or"
  | 7 => "xor"
  | 8 => "shl"
  | 9 => "shr"
  | 10 => "eq"
  | _ => "lt"
def sums (k : Nat) (a b : Int) : Int := if k = 0 then a + b else if k = 1 then a - b else if k = 2 then a * b else if k = 3 then (if b = 0 then 0 else a / b) else if b = 0 then a else a % b
def bitsop (k w a b : Nat) : Nat := if k = 5 then a &&& b else if k = 6 then a ||| b else if k = 7 then a ^^^ b else if k = 8 then a * 2 ^ (b % w) else a / 2 ^ (b % w)
def wop (k w a b : Nat) : Int := if k = 10 then (if a = b then 1 else 0) else if k = 11 then (if a < b then 1 else 0) else (if k < 5 then sums k a b else (bitsop k w a b : Nat)) % 2 ^ w
/-- words of a width -/
structure Wd (w a b : Nat) : Prop where
  w0 : 1 ≤ w
  w1 : w ≤ 32
  a1 : a < 2 ^ w
  b1 : b < 2 ^ w
def bits (n w : Nat) : List Nat := (List.range w).map fun i => n / 2 ^ i % 2
def back : List Nat → Nat
  | [] => 0
  | d :: ds => d + 2 * back ds
abbrev A_is_word : D × Nat → List D := fun a => [a.1, .int (a.2 : Nat)]
def P_is_word : D × Nat → Prop := fun a => a.2 ≤ 64
def R_is_word : D × Nat → D → Prop := fun a d => d = .bool (isIdx ((2 ^ a.2 : Nat) : Int) a.1)
/-- an op, a width, two words -/
structure Ask where
  k : Nat
  w : Nat
  a : Nat
  b : Nat
structure Ask.Ok (q : Ask) : Prop where
  k1 : q.k < 12
  wd : Wd q.w q.a q.b
abbrev A_by_sums : Ask → List D := fun q => [.str (nm q.k), .int (q.a : Nat), .int (q.b : Nat)]
def P_by_sums : Ask → Prop := fun q => q.Ok ∧ q.k < 5
def R_by_sums : Ask → D → Prop := fun q d => d = .int (sums q.k q.a q.b)
abbrev A_by_bits : Ask → List D := fun q => [.str (nm q.k), .int (q.w : Nat), .int (q.a : Nat), .int (q.b : Nat)]
def P_by_bits : Ask → Prop := fun q => q.Ok ∧ 5 ≤ q.k ∧ q.k < 10
def R_by_bits : Ask → D → Prop := fun q d => d = .int (bitsop q.k q.w q.a q.b : Nat)
abbrev A_word_op : Ask → List D := A_by_bits
def P_word_op : Ask → Prop := fun q => q.Ok
def R_word_op : Ask → D → Prop := fun q d => d = .int (wop q.k q.w q.a q.b)
abbrev A_op_width : Nat × Nat → List D := fun a => [.str (nm a.1), .int (a.2 : Nat)]
def P_op_width : Nat × Nat → Prop := fun a => a.1 < 12
def R_op_width : Nat × Nat → D → Prop := fun a d => d = .int (if a.1 < 10 then (a.2 : Int) else 1)
abbrev A__law_power : Nat → List D := fun a => [.int (a : Nat)]
def P__law_power : Nat → Prop := fun a => a ≤ 1000
def R__law_power : Nat → D → Prop := fun a d => d = .int ((2 ^ a : Nat) : Int)
abbrev A__law_digits : Nat × Nat → List D := fun a => [.int (a.1 : Nat), .int (a.2 : Nat)]
def P__law_digits : Nat × Nat → Prop := fun a => a.2 ≤ 1000
def R__law_digits : Nat × Nat → D → Prop := fun a d => d = .list (Ly.nsD (bits a.1 a.2))
abbrev A__law_back : List Nat → List D := fun a => [.list (Ly.nsD a)]
def P__law_back : List Nat → Prop := fun a => a.length ≤ 64 ∧ ∀ x ∈ a, x ≤ 1
def R__law_back : List Nat → D → Prop := fun a d => d = .int (back a : Nat)
abbrev A__law_times : Nat × Nat × Nat → List D := fun a => [.int (a.1 : Nat), .int (a.2.1 : Nat), .int (a.2.2 : Nat)]
def P__law_times : Nat × Nat × Nat → Prop := fun a => Wd a.2.2 a.1 a.2.1 ∧ 0 < a.2.1
def R__law_times : Nat × Nat × Nat → D → Prop := fun a d => d = .int ((a.1 / a.2.1 : Nat) : Int)
abbrev A__law_due : Ask → List D := A_by_bits
def P__law_due : Ask → Prop := fun q => q.Ok
def R__law_due : Ask → D → Prop := fun q d => d = .int (wop q.k q.w q.a q.b)
end K03
namespace K03
open PySem PySem.Spec PyProof.Rows L2 Ly
/-! ### the text -/
def topS (i : Nat) : Stmt := PySem.Challenge.pw_lookanyhow_k03_words_and_ops.main.body.getD i (.Pass ⟨0, 0, 0, 0⟩)
abbrev s_is_integer : Stmt := topS 1
theorem sc_is_integer : FnScope ["value"] ["value"] (defScope s_is_integer) := ⟨rfl, rfl, rfl, by decide +kernel, rfl, by decide +kernel, by decide +kernel⟩
abbrev s_is_number : Stmt := topS 2
theorem sc_is_number : FnScope ["value"] ["value"] (defScope s_is_number) := ⟨rfl, rfl, rfl, by decide +kernel, rfl, by decide +kernel, by decide +kernel⟩
abbrev s_is_index : Stmt := topS 3
theorem sc_is_index : FnScope ["value", "many"] ["value", "many"] (defScope s_is_index) := ⟨rfl, rfl, rfl, by decide +kernel, rfl, by decide +kernel, by decide +kernel⟩
abbrev s_is_word : Stmt := topS 7
theorem sc_is_word : FnScope ["value", "width"] ["value", "width"] (defScope s_is_word) := ⟨rfl, rfl, rfl, by decide +kernel, rfl, by decide +kernel, by decide +kernel⟩
abbrev s_by_sums : Stmt := topS 8
theorem sc_by_sums : FnScope ["op", "one", "other"] ["op", "one", "other"] (defScope s_by_sums) := ⟨rfl, rfl, rfl, by decide +kernel, rfl, by decide +kernel, by decide +kernel⟩
abbrev s_by_bits : Stmt := topS 9
theorem sc_by_bits : FnScope ["op", "width", "one", "other"] ["op", "width", "one", "other"] (defScope s_by_bits) := ⟨rfl, rfl, rfl, by decide +kernel, rfl, by decide +kernel, by decide +kernel⟩
abbrev s_word_op : Stmt := topS 10
theorem sc_word_op : FnScope ["op", "width", "one", "other", "found"] ["op", "width", "one", "other"] (defScope s_word_op) := ⟨rfl, rfl, rfl, by decide +kernel, rfl, by decide +kernel, by decide +kernel⟩
abbrev s_op_width : Stmt := topS 11
theorem sc_op_width : FnScope ["op", "width"] ["op", "width"] (defScope s_op_width) := ⟨rfl, rfl, rfl, by decide +kernel, rfl, by decide +kernel, by decide +kernel⟩
abbrev s__law_draw : Stmt := topS 13
theorem sc__law_draw : FnScope ["script", "salt", "cells", "cell", "blend"] ["script", "salt"] (defScope s__law_draw) := ⟨rfl, rfl, rfl, by decide +kernel, rfl, by decide +kernel, by decide +kernel⟩
abbrev s__law_any : Stmt := topS 14
theorem sc__law_any : FnScope ["deal", "bound", "rest"] ["deal", "bound"] (defScope s__law_any) := ⟨rfl, rfl, rfl, by decide +kernel, rfl, by decide +kernel, by decide +kernel⟩
abbrev s__law_of : Stmt := topS 15
theorem sc__law_of : FnScope ["deal", "some"] ["deal", "some"] (defScope s__law_of) := ⟨rfl, rfl, rfl, by decide +kernel, rfl, by decide +kernel, by decide +kernel⟩
abbrev s__law_power : Stmt := topS 17
theorem sc__law_power : FnScope ["many"] ["many"] (defScope s__law_power) := ⟨rfl, rfl, rfl, by decide +kernel, rfl, by decide +kernel, by decide +kernel⟩
abbrev s__law_digits : Stmt := topS 18
theorem sc__law_digits : FnScope ["number", "width", "rest", "found", "turn"] ["number", "width"] (defScope s__law_digits) := ⟨rfl, rfl, rfl, by decide +kernel, rfl, by decide +kernel, by decide +kernel⟩
abbrev s__law_back : Stmt := topS 19
theorem sc__law_back : FnScope ["digits", "total", "weight", "digit"] ["digits"] (defScope s__law_back) := ⟨rfl, rfl, rfl, by decide +kernel, rfl, by decide +kernel, by decide +kernel⟩
abbrev s__law_times : Stmt := topS 20
theorem sc__law_times : FnScope ["one", "other", "width", "pieces", "found", "rest", "turn", "at"] ["one", "other", "width"] (defScope s__law_times) := ⟨rfl, rfl, rfl, by decide +kernel, rfl, by decide +kernel, by decide +kernel⟩
abbrev s__law_due : Stmt := topS 21
theorem sc__law_due : FnScope ["op", "width", "one", "other", "first", "second", "top", "times", "wanted", "a", "b", "by"] ["op", "width", "one", "other"] (defScope s__law_due) := ⟨rfl, rfl, rfl, by decide +kernel, rfl, by decide +kernel, by decide +kernel⟩
abbrev s_law : Stmt := topS 22
theorem sc_law : FnScope ["script", "deal", "names", "turn", "width", "top", "one", "other", "op"] ["script"] (defScope s_law) := ⟨rfl, rfl, rfl, by decide +kernel, rfl, by decide +kernel, by decide +kernel⟩
/-! ### what stands behind the top -/
structure Top (K : PySem.W.Frag) (mg : Str → Option Value) where
  f_is_integer : Addr
  fd_is_integer : FuncData
  F_is_integer : Fun K "is_integer" "is_integer" s_is_integer f_is_integer fd_is_integer
  g_is_integer : mg "is_integer" = some (.ref f_is_integer)
  f_is_number : Addr
  fd_is_number : FuncData
  F_is_number : Fun K "is_number" "is_number" s_is_number f_is_number fd_is_number
  g_is_number : mg "is_number" = some (.ref f_is_number)
  f_is_index : Addr
  fd_is_index : FuncData
  F_is_index : Fun K "is_index" "is_index" s_is_index f_is_index fd_is_index
  g_is_index : mg "is_index" = some (.ref f_is_index)
  f_is_word : Addr
  fd_is_word : FuncData
  F_is_word : Fun K "is_word" "is_word" s_is_word f_is_word fd_is_word
  g_is_word : mg "is_word" = some (.ref f_is_word)
  f_by_sums : Addr
  fd_by_sums : FuncData
  F_by_sums : Fun K "by_sums" "by_sums" s_by_sums f_by_sums fd_by_sums
  g_by_sums : mg "by_sums" = some (.ref f_by_sums)
  f_by_bits : Addr
  fd_by_bits : FuncData
  F_by_bits : Fun K "by_bits" "by_bits" s_by_bits f_by_bits fd_by_bits
  g_by_bits : mg "by_bits" = some (.ref f_by_bits)
  f_word_op : Addr
  fd_word_op : FuncData
  F_word_op : Fun K "word_op" "word_op" s_word_op f_word_op fd_word_op
  g_word_op : mg "word_op" = some (.ref f_word_op)
  f_op_width : Addr
  fd_op_width : FuncData
  F_op_width : Fun K "op_width" "op_width" s_op_width f_op_width fd_op_width
  g_op_width : mg "op_width" = some (.ref f_op_width)
  f__law_draw : Addr
  fd__law_draw : FuncData
  F__law_draw : Fun K "_law_draw" "_law_draw" s__law_draw f__law_draw fd__law_draw
  g__law_draw : mg "_law_draw" = some (.ref f__law_draw)
  f__law_any : Addr
  fd__law_any : FuncData
  F__law_any : Fun K "_law_any" "_law_any" s__law_any f__law_any fd__law_any
  g__law_any : mg "_law_any" = some (.ref f__law_any)
  f__law_of : Addr
  fd__law_of : FuncData
  F__law_of : Fun K "_law_of" "_law_of" s__law_of f__law_of fd__law_of
  g__law_of : mg "_law_of" = some (.ref f__law_of)
  f__law_power : Addr
  fd__law_power : FuncData
  F__law_power : Fun K "_law_power" "_law_power" s__law_power f__law_power fd__law_power
  g__law_power : mg "_law_power" = some (.ref f__law_power)
  f__law_digits : Addr
  fd__law_digits : FuncData
  F__law_digits : Fun K "_law_digits" "_law_digits" s__law_digits f__law_digits fd__law_digits
  g__law_digits : mg "_law_digits" = some (.ref f__law_digits)
  f__law_back : Addr
  fd__law_back : FuncData
  F__law_back : Fun K "_law_back" "_law_back" s__law_back f__law_back fd__law_back
  g__law_back : mg "_law_back" = some (.ref f__law_back)
  f__law_times : Addr
  fd__law_times : FuncData
  F__law_times : Fun K "_law_times" "_law_times" s__law_times f__law_times fd__law_times
  g__law_times : mg "_law_times" = some (.ref f__law_times)
  f__law_due : Addr
  fd__law_due : FuncData
  F__law_due : Fun K "_law_due" "_law_due" s__law_due f__law_due fd__law_due
  g__law_due : mg "_law_due" = some (.ref f__law_due)
  f_law : Addr
  fd_law : FuncData
  F_law : Fun K "law" "law" s_law f_law fd_law
  g_law : mg "law" = some (.ref f_law)
  v_OPS : V
  u_OPS : Value
  m_OPS : mg "OPS" = some u_OPS
  r_OPS : L2.RelV v_OPS u_OPS
  c_OPS : ∀ H, Dq K H v_OPS (.tuple [.str "add", .str "sub", .str "mul", .str "div", .str "rem", .str "and", .str "or", .str "xor", .str "shl", .str "shr", .str "eq", .str "lt"])
  y_OPS : ∀ H, tyV K "tuple" v_OPS H
  v_WIDTHS : V
  u_WIDTHS : Value
  m_WIDTHS : mg "WIDTHS" = some u_WIDTHS
  r_WIDTHS : L2.RelV v_WIDTHS u_WIDTHS
  c_WIDTHS : ∀ H, Dq K H v_WIDTHS (.tuple [.int 1, .int 2, .int 4, .int 8, .int 16, .int 32])
  y_WIDTHS : ∀ H, tyV K "tuple" v_WIDTHS H
  n_isinstance : mg "isinstance" = none
  n_bool : mg "bool" = none
  n_int : mg "int" = none
  n_abs : mg "abs" = none
  n_len : mg "len" = none
  n_range : mg "range" = none
  n_list : mg "list" = none
  n_zip : mg "zip" = none
  n_repr : mg "repr" = none
section
variable {K : PySem.W.Frag} {f : Addr} {fd : FuncData}
theorem b_is_integer (F : Fun K "is_integer" "is_integer" s_is_integer f fd) : KBinds K fd ["value"] [] (fun us _ => us) (fun vs _ => vs) := binds_pos F fun _ _ _ _ _ _ us hl => match us, hl with | [_], _ => rfl
theorem b_is_number (F : Fun K "is_number" "is_number" s_is_number f fd) : KBinds K fd ["value"] [] (fun us _ => us) (fun vs _ => vs) := binds_pos F fun _ _ _ _ _ _ us hl => match us, hl with | [_], _ => rfl
theorem b_is_index (F : Fun K "is_index" "is_index" s_is_index f fd) : KBinds K fd ["value", "many"] [] (fun us _ => us) (fun vs _ => vs) := binds_pos F fun _ _ _ _ _ _ us hl => match us, hl with | [_, _], _ => rfl
theorem b_is_word (F : Fun K "is_word" "is_word" s_is_word f fd) : KBinds K fd ["value", "width"] [] (fun us _ => us) (fun vs _ => vs) := binds_pos F fun _ _ _ _ _ _ us hl => match us, hl with | [_, _], _ => rfl
theorem b_by_sums (F : Fun K "by_sums" "by_sums" s_by_sums f fd) : KBinds K fd ["op", "one", "other"] [] (fun us _ => us) (fun vs _ => vs) := binds_pos F fun _ _ _ _ _ _ us hl => match us, hl with | [_, _, _], _ => rfl
theorem b_by_bits (F : Fun K "by_bits" "by_bits" s_by_bits f fd) : KBinds K fd ["op", "width", "one", "other"] [] (fun us _ => us) (fun vs _ => vs) := binds_pos F fun _ _ _ _ _ _ us hl => match us, hl with | [_, _, _, _], _ => rfl
theorem b_word_op (F : Fun K "word_op" "word_op" s_word_op f fd) : KBinds K fd ["op", "width", "one", "other"] [] (fun us _ => us) (fun vs _ => vs) := binds_pos F fun _ _ _ _ _ _ us hl => match us, hl with | [_, _, _, _], _ => rfl
theorem b_op_width (F : Fun K "op_width" "op_width" s_op_width f fd) : KBinds K fd ["op", "width"] [] (fun us _ => us) (fun vs _ => vs) := binds_pos F fun _ _ _ _ _ _ us hl => match us, hl with | [_, _], _ => rfl
theorem b__law_draw (F : Fun K "_law_draw" "_law_draw" s__law_draw f fd) : KBinds K fd ["script", "salt"] [] (fun us _ => us) (fun vs _ => vs) := binds_pos F fun _ _ _ _ _ _ us hl => match us, hl with | [_, _], _ => rfl
theorem b__law_any (F : Fun K "_law_any" "_law_any" s__law_any f fd) : KBinds K fd ["deal", "bound"] [] (fun us _ => us) (fun vs _ => vs) := binds_pos F fun _ _ _ _ _ _ us hl => match us, hl with | [_, _], _ => rfl
theorem b__law_of (F : Fun K "_law_of" "_law_of" s__law_of f fd) : KBinds K fd ["deal", "some"] [] (fun us _ => us) (fun vs _ => vs) := binds_pos F fun _ _ _ _ _ _ us hl => match us, hl with | [_, _], _ => rfl
theorem b__law_power (F : Fun K "_law_power" "_law_power" s__law_power f fd) : KBinds K fd ["many"] [] (fun us _ => us) (fun vs _ => vs) := binds_pos F fun _ _ _ _ _ _ us hl => match us, hl with | [_], _ => rfl
theorem b__law_digits (F : Fun K "_law_digits" "_law_digits" s__law_digits f fd) : KBinds K fd ["number", "width"] [] (fun us _ => us) (fun vs _ => vs) := binds_pos F fun _ _ _ _ _ _ us hl => match us, hl with | [_, _], _ => rfl
theorem b__law_back (F : Fun K "_law_back" "_law_back" s__law_back f fd) : KBinds K fd ["digits"] [] (fun us _ => us) (fun vs _ => vs) := binds_pos F fun _ _ _ _ _ _ us hl => match us, hl with | [_], _ => rfl
theorem b__law_times (F : Fun K "_law_times" "_law_times" s__law_times f fd) : KBinds K fd ["one", "other", "width"] [] (fun us _ => us) (fun vs _ => vs) := binds_pos F fun _ _ _ _ _ _ us hl => match us, hl with | [_, _, _], _ => rfl
theorem b__law_due (F : Fun K "_law_due" "_law_due" s__law_due f fd) : KBinds K fd ["op", "width", "one", "other"] [] (fun us _ => us) (fun vs _ => vs) := binds_pos F fun _ _ _ _ _ _ us hl => match us, hl with | [_, _, _, _], _ => rfl
theorem b_law (F : Fun K "law" "law" s_law f fd) : KBinds K fd ["script"] [] (fun us _ => us) (fun vs _ => vs) := binds_pos F fun _ _ _ _ _ _ us hl => match us, hl with | [_], _ => rfl
def kf_op_width_0_width_op {α : Type} (us ws : List α) : List α := match us, ws with | [], [k0, k1] => [k1, k0] | _, _ => []
theorem kr_op_width_0_width_op {vs zs : List V} {us ws : List Value} (h1 : Vals vs us) (h2 : Vals zs ws) : Vals (kf_op_width_0_width_op vs zs) (kf_op_width_0_width_op us ws) := by
  cases h1 with
  | nil =>
    cases h2 with
    | nil => first | exact .nil | (cases h2 <;> exact .nil)
    | cons r_width h2 =>
      cases h2 with
      | nil => first | exact .nil | (cases h2 <;> exact .nil)
      | cons r_op h2 =>
        cases h2 with
        | nil =>
          exact (.cons r_op (.cons r_width .nil))
        | cons _ _ => first | exact .nil | (cases h2 <;> exact .nil)
  | cons _ _ => first | exact .nil | (cases h2 <;> exact .nil)
theorem kd_op_width_0_width_op {H : Hp} {vs zs : List V} {us ws : List D} (h1 : DqAll K H vs us) (h2 : DqAll K H zs ws) : DqAll K H (kf_op_width_0_width_op vs zs) (kf_op_width_0_width_op us ws) := by
  cases h1 with
  | nil =>
    cases h2 with
    | nil => first | exact .nil | (cases h2 <;> exact .nil)
    | cons r_width h2 =>
      cases h2 with
      | nil => first | exact .nil | (cases h2 <;> exact .nil)
      | cons r_op h2 =>
        cases h2 with
        | nil =>
          exact (.cons r_op (.cons r_width .nil))
        | cons _ _ => first | exact .nil | (cases h2 <;> exact .nil)
  | cons _ _ => first | exact .nil | (cases h2 <;> exact .nil)
theorem kb_op_width_0_width_op (F : Fun K "op_width" "op_width" s_op_width f fd) : KBinds K fd ["op", "width"] ["width", "op"] (fun us ws => kf_op_width_0_width_op us ws) (fun vs zs => kf_op_width_0_width_op vs zs) := by
  refine binds_kw F ["width", "op"] kf_op_width_0_width_op kr_op_width_0_width_op fun _ _ _ _ _ _ us ws hl => ?_
  rcases us with _ | ⟨_, us⟩ <;> rcases ws with _ | ⟨x1, _ | ⟨x0, _ | ⟨_, ws⟩⟩⟩ <;> first | rfl | (cases hl; done)
def kf_word_op_0_other_one_width_op {α : Type} (us ws : List α) : List α := match us, ws with | [], [k0, k1, k2, k3] => [k3, k2, k1, k0] | _, _ => []
theorem kr_word_op_0_other_one_width_op {vs zs : List V} {us ws : List Value} (h1 : Vals vs us) (h2 : Vals zs ws) : Vals (kf_word_op_0_other_one_width_op vs zs) (kf_word_op_0_other_one_width_op us ws) := by
  cases h1 with
  | nil =>
    cases h2 with
    | nil => first | exact .nil | (cases h2 <;> exact .nil)
    | cons r_other h2 =>
      cases h2 with
      | nil => first | exact .nil | (cases h2 <;> exact .nil)
      | cons r_one h2 =>
        cases h2 with
        | nil => first | exact .nil | (cases h2 <;> exact .nil)
        | cons r_width h2 =>
          cases h2 with
          | nil => first | exact .nil | (cases h2 <;> exact .nil)
          | cons r_op h2 =>
            cases h2 with
            | nil =>
              exact (.cons r_op (.cons r_width (.cons r_one (.cons r_other .nil))))
            | cons _ _ => first | exact .nil | (cases h2 <;> exact .nil)
  | cons _ _ => first | exact .nil | (cases h2 <;> exact .nil)
theorem kd_word_op_0_other_one_width_op {H : Hp} {vs zs : List V} {us ws : List D} (h1 : DqAll K H vs us) (h2 : DqAll K H zs ws) : DqAll K H (kf_word_op_0_other_one_width_op vs zs) (kf_word_op_0_other_one_width_op us ws) := by
  cases h1 with
  | nil =>
    cases h2 with
    | nil => first | exact .nil | (cases h2 <;> exact .nil)
    | cons r_other h2 =>
      cases h2 with
      | nil => first | exact .nil | (cases h2 <;> exact .nil)
      | cons r_one h2 =>
        cases h2 with
        | nil => first | exact .nil | (cases h2 <;> exact .nil)
        | cons r_width h2 =>
          cases h2 with
          | nil => first | exact .nil | (cases h2 <;> exact .nil)
          | cons r_op h2 =>
            cases h2 with
            | nil =>
              exact (.cons r_op (.cons r_width (.cons r_one (.cons r_other .nil))))
            | cons _ _ => first | exact .nil | (cases h2 <;> exact .nil)
  | cons _ _ => first | exact .nil | (cases h2 <;> exact .nil)
theorem kb_word_op_0_other_one_width_op (F : Fun K "word_op" "word_op" s_word_op f fd) : KBinds K fd ["op", "width", "one", "other"] ["other", "one", "width", "op"] (fun us ws => kf_word_op_0_other_one_width_op us ws) (fun vs zs => kf_word_op_0_other_one_width_op vs zs) := by
  refine binds_kw F ["other", "one", "width", "op"] kf_word_op_0_other_one_width_op kr_word_op_0_other_one_width_op fun _ _ _ _ _ _ us ws hl => ?_
  rcases us with _ | ⟨_, us⟩ <;> rcases ws with _ | ⟨x3, _ | ⟨x2, _ | ⟨x1, _ | ⟨x0, _ | ⟨_, ws⟩⟩⟩⟩⟩ <;> first | rfl | (cases hl; done)
def kf_is_word_0_width_value {α : Type} (us ws : List α) : List α := match us, ws with | [], [k0, k1] => [k1, k0] | _, _ => []
theorem kr_is_word_0_width_value {vs zs : List V} {us ws : List Value} (h1 : Vals vs us) (h2 : Vals zs ws) : Vals (kf_is_word_0_width_value vs zs) (kf_is_word_0_width_value us ws) := by
  cases h1 with
  | nil =>
    cases h2 with
    | nil => first | exact .nil | (cases h2 <;> exact .nil)
    | cons r_width h2 =>
      cases h2 with
      | nil => first | exact .nil | (cases h2 <;> exact .nil)
      | cons r_value h2 =>
        cases h2 with
        | nil =>
          exact (.cons r_value (.cons r_width .nil))
        | cons _ _ => first | exact .nil | (cases h2 <;> exact .nil)
  | cons _ _ => first | exact .nil | (cases h2 <;> exact .nil)
theorem kd_is_word_0_width_value {H : Hp} {vs zs : List V} {us ws : List D} (h1 : DqAll K H vs us) (h2 : DqAll K H zs ws) : DqAll K H (kf_is_word_0_width_value vs zs) (kf_is_word_0_width_value us ws) := by
  cases h1 with
  | nil =>
    cases h2 with
    | nil => first | exact .nil | (cases h2 <;> exact .nil)
    | cons r_width h2 =>
      cases h2 with
      | nil => first | exact .nil | (cases h2 <;> exact .nil)
      | cons r_value h2 =>
        cases h2 with
        | nil =>
          exact (.cons r_value (.cons r_width .nil))
        | cons _ _ => first | exact .nil | (cases h2 <;> exact .nil)
  | cons _ _ => first | exact .nil | (cases h2 <;> exact .nil)
theorem kb_is_word_0_width_value (F : Fun K "is_word" "is_word" s_is_word f fd) : KBinds K fd ["value", "width"] ["width", "value"] (fun us ws => kf_is_word_0_width_value us ws) (fun vs zs => kf_is_word_0_width_value vs zs) := by
  refine binds_kw F ["width", "value"] kf_is_word_0_width_value kr_is_word_0_width_value fun _ _ _ _ _ _ us ws hl => ?_
  rcases us with _ | ⟨_, us⟩ <;> rcases ws with _ | ⟨x1, _ | ⟨x0, _ | ⟨_, ws⟩⟩⟩ <;> first | rfl | (cases hl; done)
end
/-! ### promises -/
abbrev sp_is_integer (K : PySem.W.Frag) : Sp := Pu K P_is_integer R_is_integer
abbrev sp_is_number (K : PySem.W.Frag) : Sp := Pu K P_is_number R_is_number
abbrev sp_is_index (K : PySem.W.Frag) : Sp := Pu K P_is_index R_is_index
abbrev sp_is_word (K : PySem.W.Frag) : Sp := Pa K A_is_word P_is_word R_is_word
abbrev sp_by_sums (K : PySem.W.Frag) : Sp := Pa K A_by_sums P_by_sums R_by_sums
abbrev sp_by_bits (K : PySem.W.Frag) : Sp := Pa K A_by_bits P_by_bits R_by_bits
abbrev sp_word_op (K : PySem.W.Frag) : Sp := Pa K A_word_op P_word_op R_word_op
abbrev sp_op_width (K : PySem.W.Frag) : Sp := Pa K A_op_width P_op_width R_op_width
abbrev sp__law_draw (K : PySem.W.Frag) : Sp := Dr K
abbrev sp__law_any (K : PySem.W.Frag) : Sp := De K P__law_any R__law_any
abbrev sp__law_of (K : PySem.W.Frag) : Sp := De K P__law_of R__law_of
abbrev sp__law_power (K : PySem.W.Frag) : Sp := Pa K A__law_power P__law_power R__law_power
abbrev sp__law_digits (K : PySem.W.Frag) : Sp := Pa K A__law_digits P__law_digits R__law_digits
abbrev sp__law_back (K : PySem.W.Frag) : Sp := Pa K A__law_back P__law_back R__law_back
abbrev sp__law_times (K : PySem.W.Frag) : Sp := Pa K A__law_times P__law_times R__law_times
abbrev sp__law_due (K : PySem.W.Frag) : Sp := Pa K A__law_due P__law_due R__law_due
abbrev sp_law (K : PySem.W.Frag) : Sp := Lw K
/-! ### readings and derivations -/
section
variable {P0 : Program} {w : World} {K : PySem.W.Frag} {mg : Str → Option Value} {base : Heap}
def t_is_integer (T : Top K mg) : TS :=
      (tRet (tAndV (tCB (rIsAny K) (tCons (tVar 0) (tCons (tC (.ty "int")) tNil))) (tNotV (tCB (rIsAny K) (tCons (tVar 0) (tCons (tC (.ty "bool")) tNil))))))
theorem d_is_integer (T : Top K mg)  (cdv : Value) (A : Around) (outer : List Env) (s : Shared) (H : Hp) (E : XK) (hg : (cxOf CX0 P0 w K mg base ["value"] "is_integer" (defScope s_is_integer) T.f_is_integer cdv A outer s H E).A.guards = some []) (hr : Room 0 (cxOf CX0 P0 w K mg base ["value"] "is_integer" (defScope s_is_integer) T.f_is_integer cdv A outer s H E).A) :
    PSs (cxOf CX0 P0 w K mg base ["value"] "is_integer" (defScope s_is_integer) T.f_is_integer cdv A outer s H E).nox (defBody s_is_integer) (t_is_integer T) :=
      (pss_one (ps_ret (pe_and (pe_callB cq_isi (by rfl) T.n_isinstance (by decide +kernel) (pa_cons (pv 0) (pa_cons (pe_bltn (v := .ty "int") (by rfl) T.n_int (by decide +kernel) rfl) pa_nil))) (pe_one (pe_not (pe_callB cq_isi (by rfl) T.n_isinstance (by decide +kernel) (pa_cons (pv 0) (pa_cons (pe_bltn (v := .ty "bool") (by rfl) T.n_bool (by decide +kernel) rfl) pa_nil))))))))
def t_is_number (T : Top K mg) : TS :=
      (tRet (tAndV (tCallK (sp_is_integer K) (fun vs _ => vs) E0 (tCons (tVar 0) tNil) tNil) (tOp (rI0 fun i j => .bl (decide (j ≤ i))) (tVar 0) (tC (.int 0)))))
theorem d_is_number (T : Top K mg) (G_is_integer : GOk P0 w K mg base CX0 1 T.f_is_integer T.fd_is_integer ["value"] (sp_is_integer K)) (cdv : Value) (A : Around) (outer : List Env) (s : Shared) (H : Hp) (E : XK) (hg : (cxOf CX0 P0 w K mg base ["value"] "is_number" (defScope s_is_number) T.f_is_number cdv A outer s H E).A.guards = some []) (hr : Room 1 (cxOf CX0 P0 w K mg base ["value"] "is_number" (defScope s_is_number) T.f_is_number cdv A outer s H E).A) :
    PSs (cxOf CX0 P0 w K mg base ["value"] "is_number" (defScope s_is_number) T.f_is_number cdv A outer s H E).nox (defBody s_is_number) (t_is_number T) :=
      (pss_one (ps_ret (pe_and (pe_g G_is_integer hg hr (by rfl) T.g_is_integer T.F_is_integer.kp (b_is_integer T.F_is_integer) pass0 (pa_cons (pv 0) pa_nil)) (pe_one (pe_cmpR op_ge (pv 0) pe_int (nomark _))))))
def t_is_index (T : Top K mg) : TS :=
      (tRet (tAndV (tCallK (sp_is_number K) (fun vs _ => vs) E0 (tCons (tVar 0) tNil) tNil) (tOp rLtA (tVar 0) (tVar 1))))
theorem d_is_index (T : Top K mg) (G_is_number : GOk P0 w K mg base CX0 2 T.f_is_number T.fd_is_number ["value"] (sp_is_number K)) (cdv : Value) (A : Around) (outer : List Env) (s : Shared) (H : Hp) (E : XK) (hg : (cxOf CX0 P0 w K mg base ["value", "many"] "is_index" (defScope s_is_index) T.f_is_index cdv A outer s H E).A.guards = some []) (hr : Room 2 (cxOf CX0 P0 w K mg base ["value", "many"] "is_index" (defScope s_is_index) T.f_is_index cdv A outer s H E).A) :
    PSs (cxOf CX0 P0 w K mg base ["value", "many"] "is_index" (defScope s_is_index) T.f_is_index cdv A outer s H E).nox (defBody s_is_index) (t_is_index T) :=
      (pss_one (ps_ret (pe_and (pe_g G_is_number hg hr (by rfl) T.g_is_number T.F_is_number.kp (b_is_number T.F_is_number) pass0 (pa_cons (pv 0) pa_nil)) (pe_one (pe_cmpR oq_lt (pv 0) (pv 1) (nomark _))))))
def t_is_word (T : Top K mg) : TS :=
      (tRet (tCallK (sp_is_index K) (fun vs _ => vs) E0 (tCons (tVar 0) (tCons (tOp (rI CPow fun i j => .int (i * 2 ^ j.toNat)) (tC (.int 1)) (tVar 1)) tNil)) tNil))
theorem d_is_word (T : Top K mg) (G_is_index : GOk P0 w K mg base CX0 3 T.f_is_index T.fd_is_index ["value", "many"] (sp_is_index K)) (cdv : Value) (A : Around) (outer : List Env) (s : Shared) (H : Hp) (E : XK) (hg : (cxOf CX0 P0 w K mg base ["value", "width"] "is_word" (defScope s_is_word) T.f_is_word cdv A outer s H E).A.guards = some []) (hr : Room 3 (cxOf CX0 P0 w K mg base ["value", "width"] "is_word" (defScope s_is_word) T.f_is_word cdv A outer s H E).A) :
    PSs (cxOf CX0 P0 w K mg base ["value", "width"] "is_word" (defScope s_is_word) T.f_is_word cdv A outer s H E).nox (defBody s_is_word) (t_is_word T) :=
      (pss_one (ps_ret (pe_g G_is_index hg hr (by rfl) T.g_is_index T.F_is_index.kp (b_is_index T.F_is_index) pass0 (pa_cons (pv 0) (pa_cons (pe_op op_shl pe_int (pv 1)) pa_nil)))))
def t_by_sums (T : Top K mg) : TS :=
      (tSeq (tIfS (tTest (tOp (rEqA K) (tVar 0) (tC (.str "add")))) (tRet (tOp (rAddA K) (tVar 1) (tVar 2))) tNext)
      (tSeq (tIfS (tTest (tOp (rEqA K) (tVar 0) (tC (.str "sub")))) (tRet (tOp (rI0 fun i j => .int (i - j)) (tVar 1) (tVar 2))) tNext)
      (tSeq (tIfS (tTest (tOp (rEqA K) (tVar 0) (tC (.str "mul")))) (tRet (tOp (rI CMulW fun i j => .int (i * j)) (tVar 1) (tVar 2))) tNext)
      (tSeq (tIfS (tTest (tOp (rEqA K) (tVar 0) (tC (.str "div")))) (tRet (tIf (tTest (tOp (rEqA K) (tVar 2) (tC (.int 0)))) (tC (.int 0)) (tOp (rI CDivW fun i j => .int (i / j)) (tVar 1) (tVar 2)))) tNext)
      (tRet (tIf (tTest (tOp (rEqA K) (tVar 2) (tC (.int 0)))) (tVar 1) (tOp (rI (fun _ j => 0 < j) fun i j => .int (i % j)) (tVar 1) (tVar 2))))))))
theorem d_by_sums (T : Top K mg)  (cdv : Value) (A : Around) (outer : List Env) (s : Shared) (H : Hp) (E : XK) (hg : (cxOf CX0 P0 w K mg base ["op", "one", "other"] "by_sums" (defScope s_by_sums) T.f_by_sums cdv A outer s H E).A.guards = some []) (hr : Room 0 (cxOf CX0 P0 w K mg base ["op", "one", "other"] "by_sums" (defScope s_by_sums) T.f_by_sums cdv A outer s H E).A) :
    PSs (cxOf CX0 P0 w K mg base ["op", "one", "other"] "by_sums" (defScope s_by_sums) T.f_by_sums cdv A outer s H E).nox (defBody s_by_sums) (t_by_sums T) :=
      (pss_cons (ps_if (pt_cmpR (oq_eq hr) (pv 0) pe_str (nomark _)) (pss_one (ps_ret (pe_op oq_add (pv 1) (pv 2)))) pss_nil)
      (pss_cons (ps_if (pt_cmpR (oq_eq hr) (pv 0) pe_str (nomark _)) (pss_one (ps_ret (pe_op op_sub (pv 1) (pv 2)))) pss_nil)
      (pss_cons (ps_if (pt_cmpR (oq_eq hr) (pv 0) pe_str (nomark _)) (pss_one (ps_ret (pe_op op_mulW (pv 1) (pv 2)))) pss_nil)
      (pss_cons (ps_if (pt_cmpR (oq_eq hr) (pv 0) pe_str (nomark _)) (pss_one (ps_ret (pe_ifExp (pt_cmpR (oq_eq hr) (pv 2) pe_int (nomark _)) pe_int (pe_op op_fdivW (pv 1) (pv 2))))) pss_nil)
      (pss_one (ps_ret (pe_ifExp (pt_cmpR (oq_eq hr) (pv 2) pe_int (nomark _)) (pv 1) (pe_op op_mod (pv 1) (pv 2)))))))))
def t_by_bits (T : Top K mg) : TS :=
      (tSeq (tIfS (tTest (tOp (rEqA K) (tVar 0) (tC (.str "and")))) (tRet (tOp (rI0 fun i j => .int (Builtin.bitAnd i j)) (tVar 2) (tVar 3))) tNext)
      (tSeq (tIfS (tTest (tOp (rEqA K) (tVar 0) (tC (.str "or")))) (tRet (tOp (rI0 fun i j => .int (Builtin.bitOr i j)) (tVar 2) (tVar 3))) tNext)
      (tSeq (tIfS (tTest (tOp (rEqA K) (tVar 0) (tC (.str "xor")))) (tRet (tOp (rI0 fun i j => .int (Builtin.bitXor i j)) (tVar 2) (tVar 3))) tNext)
      (tRet (tIf (tTest (tOp (rEqA K) (tVar 0) (tC (.str "shl")))) (tOp (rI CPow fun i j => .int (i * 2 ^ j.toNat)) (tVar 2) (tOp (rI (fun _ j => 0 < j) fun i j => .int (i % j)) (tVar 3) (tVar 1))) (tOp (rI (fun _ j => 0 ≤ j) fun i j => .int (i / 2 ^ j.toNat)) (tVar 2) (tOp (rI (fun _ j => 0 < j) fun i j => .int (i % j)) (tVar 3) (tVar 1))))))))
theorem d_by_bits (T : Top K mg)  (cdv : Value) (A : Around) (outer : List Env) (s : Shared) (H : Hp) (E : XK) (hg : (cxOf CX0 P0 w K mg base ["op", "width", "one", "other"] "by_bits" (defScope s_by_bits) T.f_by_bits cdv A outer s H E).A.guards = some []) (hr : Room 0 (cxOf CX0 P0 w K mg base ["op", "width", "one", "other"] "by_bits" (defScope s_by_bits) T.f_by_bits cdv A outer s H E).A) :
    PSs (cxOf CX0 P0 w K mg base ["op", "width", "one", "other"] "by_bits" (defScope s_by_bits) T.f_by_bits cdv A outer s H E).nox (defBody s_by_bits) (t_by_bits T) :=
      (pss_cons (ps_if (pt_cmpR (oq_eq hr) (pv 0) pe_str (nomark _)) (pss_one (ps_ret (pe_op op_and (pv 2) (pv 3)))) pss_nil)
      (pss_cons (ps_if (pt_cmpR (oq_eq hr) (pv 0) pe_str (nomark _)) (pss_one (ps_ret (pe_op op_or (pv 2) (pv 3)))) pss_nil)
      (pss_cons (ps_if (pt_cmpR (oq_eq hr) (pv 0) pe_str (nomark _)) (pss_one (ps_ret (pe_op op_xor (pv 2) (pv 3)))) pss_nil)
      (pss_one (ps_ret (pe_ifExp (pt_cmpR (oq_eq hr) (pv 0) pe_str (nomark _)) (pe_op op_shl (pv 2) (pe_op op_mod (pv 3) (pv 1))) (pe_op op_shr (pv 2) (pe_op op_mod (pv 3) (pv 1)))))))))
def t_word_op (T : Top K mg) : TS :=
      (tSeq (tIfS (tTest (tOp (rEqA K) (tVar 0) (tC (.str "eq")))) (tRet (tIf (tTest (tOp (rEqA K) (tVar 2) (tVar 3))) (tC (.int 1)) (tC (.int 0)))) tNext)
      (tSeq (tIfS (tTest (tOp (rEqA K) (tVar 0) (tC (.str "lt")))) (tRet (tIf (tTest (tOp rLtA (tVar 2) (tVar 3))) (tC (.int 1)) (tC (.int 0)))) tNext)
      (tSeq (tAsg (tIf (tTest (tOp rLtA (tBM K "tuple" (rTIndex K) (tC T.v_OPS) (tCons (tVar 0) tNil)) (tC (.int 5)))) (tCallK (sp_by_sums K) (fun vs _ => vs) E0 (tCons (tVar 0) (tCons (tVar 2) (tCons (tVar 3) tNil))) tNil) (tCallK (sp_by_bits K) (fun vs _ => vs) E0 (tCons (tVar 0) (tCons (tVar 1) (tCons (tVar 2) (tCons (tVar 3) tNil)))) tNil)) (gName 4))
      (tRet (tOp (rI (fun _ j => 0 < j) fun i j => .int (i % j)) (tVar 4) (tOp (rI CPow fun i j => .int (i * 2 ^ j.toNat)) (tC (.int 1)) (tVar 1)))))))
theorem d_word_op (T : Top K mg) (G_by_sums : GOk P0 w K mg base CX0 1 T.f_by_sums T.fd_by_sums ["op", "one", "other"] (sp_by_sums K)) (G_by_bits : GOk P0 w K mg base CX0 1 T.f_by_bits T.fd_by_bits ["op", "width", "one", "other"] (sp_by_bits K)) (cdv : Value) (A : Around) (outer : List Env) (s : Shared) (H : Hp) (E : XK) (hg : (cxOf CX0 P0 w K mg base ["op", "width", "one", "other", "found"] "word_op" (defScope s_word_op) T.f_word_op cdv A outer s H E).A.guards = some []) (hr : Room 1 (cxOf CX0 P0 w K mg base ["op", "width", "one", "other", "found"] "word_op" (defScope s_word_op) T.f_word_op cdv A outer s H E).A) :
    PSs (cxOf CX0 P0 w K mg base ["op", "width", "one", "other", "found"] "word_op" (defScope s_word_op) T.f_word_op cdv A outer s H E).nox (defBody s_word_op) (t_word_op T) :=
      (pss_cons (ps_if (pt_cmpR (oq_eq hr) (pv 0) pe_str (nomark _)) (pss_one (ps_ret (pe_ifExp (pt_cmpR (oq_eq hr) (pv 2) (pv 3) (nomark _)) pe_int pe_int))) pss_nil)
      (pss_cons (ps_if (pt_cmpR (oq_eq hr) (pv 0) pe_str (nomark _)) (pss_one (ps_ret (pe_ifExp (pt_cmpR oq_lt (pv 2) (pv 3) (nomark _)) pe_int pe_int))) pss_nil)
      (pss_cons (ps_set (i := 4) sc_word_op.nd rfl (.inl rfl) (pe_ifExp (pt_cmpR oq_lt (pe_bm PySem.F.plainAttrs_tuple PySem.F.slot_tuple_index PySem.F.type_tuple_index mq_tindex (pe_glob (by rfl) T.m_OPS T.r_OPS) (pa_cons (pv 0) pa_nil)) pe_int (nomark _)) (pe_g G_by_sums hg hr (by rfl) T.g_by_sums T.F_by_sums.kp (b_by_sums T.F_by_sums) pass0 (pa_cons (pv 0) (pa_cons (pv 2) (pa_cons (pv 3) pa_nil)))) (pe_g G_by_bits hg hr (by rfl) T.g_by_bits T.F_by_bits.kp (b_by_bits T.F_by_bits) pass0 (pa_cons (pv 0) (pa_cons (pv 1) (pa_cons (pv 2) (pa_cons (pv 3) pa_nil)))))))
      (pss_one (ps_ret (pe_op op_mod (pv 4) (pe_op op_shl pe_int (pv 1))))))))
def t_op_width (T : Top K mg) : TS :=
      (tRet (tIf (tTest (tOp (rInA K) (tVar 0) (tTup (tCons (tC (.str "eq")) (tCons (tC (.str "lt")) tNil))))) (tC (.int 1)) (tVar 1)))
theorem d_op_width (T : Top K mg)  (cdv : Value) (A : Around) (outer : List Env) (s : Shared) (H : Hp) (E : XK) (hg : (cxOf CX0 P0 w K mg base ["op", "width"] "op_width" (defScope s_op_width) T.f_op_width cdv A outer s H E).A.guards = some []) (hr : Room 0 (cxOf CX0 P0 w K mg base ["op", "width"] "op_width" (defScope s_op_width) T.f_op_width cdv A outer s H E).A) :
    PSs (cxOf CX0 P0 w K mg base ["op", "width"] "op_width" (defScope s_op_width) T.f_op_width cdv A outer s H E).nox (defBody s_op_width) (t_op_width T) :=
      (pss_one (ps_ret (pe_ifExp (pt_cmpR (oq_in hr) (pv 0) (pe_tup (pa_cons pe_str (pa_cons pe_str pa_nil))) (by rfl)) pe_int (pv 1))))
def t__law_draw (T : Top K mg) : TS :=
      (tSeq (tAsg (tLc (iAny K (tSl (rSlany K) (tVar 0) tNoPart (tPart (tC (.int 48))))) (gName 3) tYes (tCB rAbs (tCons (tCB rInt1 (tCons (tVar 3) tNil)) tNil)) [3]) (gName 2))
      (tSeq (tAsg (tOp (rAddA K) (tC (.int 7919)) (tOp (rI CMulW fun i j => .int (i * j)) (tC (.int 104729)) (tVar 1))) (gName 4))
      (tSeq (tFor (iAny K (tVar 2)) (gName 3) (tAsg (tOp (rI (fun _ j => 0 < j) fun i j => .int (i % j)) (tCB rInt1 (tCons (tOp (rAddA K) (tOp (rAddA K) (tOp (rI CMulW fun i j => .int (i * j)) (tVar 4) (tC (.int 48271))) (tOp (rI (fun _ j => 0 < j) fun i j => .int (i % j)) (tVar 3) (tC (.int 2147483549)))) (tC (.int 11))) tNil)) (tC (.int 2147483647))) (gName 4)))
      (tRet (tLst (tCons (tRevL K (tLc (iAny K (tVar 2)) (gName 3) (tTest (tOp (rI0 fun i j => .bl (decide (j ≤ i))) (tVar 3) (tOp (rI CPow fun i j => .int (i ^ j.toNat)) (tC (.int 10)) (tC (.int 18))))) (tVar 3) [3])) (tCons (tVar 4) tNil)))))))
theorem d__law_draw (T : Top K mg)  (cdv : Value) (A : Around) (outer : List Env) (s : Shared) (H : Hp) (E : XK) (hg : (cxOf CX0 P0 w K mg base ["script", "salt", "cells", "cell", "blend"] "_law_draw" (defScope s__law_draw) T.f__law_draw cdv A outer s H E).A.guards = some []) (hr : Room 0 (cxOf CX0 P0 w K mg base ["script", "salt", "cells", "cell", "blend"] "_law_draw" (defScope s__law_draw) T.f__law_draw cdv A outer s H E).A) :
    PSs (cxOf CX0 P0 w K mg base ["script", "salt", "cells", "cell", "blend"] "_law_draw" (defScope s__law_draw) T.f__law_draw cdv A outer s H E).nox (defBody s__law_draw) (t__law_draw T) :=
      (pss_cons (ps_setLc (i := 2) (own := [("cell", 3)]) (by rfl) sc__law_draw.nd rfl rfl (sw_true rfl rfl rfl (by decide +kernel)) (pi_any (pe_slice sq_any (pv 0) po_none (po_some pe_int))) (blkOk_by (own := [("cell", 3)]) (N := ["script", "salt", "cells", "cell", "blend"]) (sc := defScope s__law_draw) (by decide +kernel)) (fun _ _ _ _ _ => (pg_name (i := 3) sc__law_draw.nd rfl (.inl rfl))) (fun _ _ _ _ _ => pts_nil) (fun _ _ _ _ _ => (pe_callB cq_abs (by rfl) T.n_abs (by decide +kernel) (pa_cons (pe_callTy cq_int (by rfl) T.n_int (by decide +kernel) (pa_cons (pv 3) pa_nil)) pa_nil))))
      (pss_cons (ps_set (i := 4) sc__law_draw.nd rfl (.inl rfl) (pe_op oq_add pe_int (pe_op op_mulW pe_int (pv 1))))
      (pss_cons (ps_for PassesOwn.never rfl (pi_any (pv 2)) (pg_name (i := 3) sc__law_draw.nd rfl (.inl rfl)) (pss_one (ps_set (i := 4) sc__law_draw.nd rfl (.inl rfl) (pe_op op_mod (pe_callTy cq_int (by rfl) T.n_int (by decide +kernel) (pa_cons (pe_op oq_add (pe_op oq_add (pe_op op_mulW (pv 4) pe_int) (pe_op op_mod (pv 3) pe_int)) pe_int) pa_nil)) pe_int))))
      (pss_one (ps_ret (pe_lst (pa_cons (pe_revL (pe_lc (own := [("cell", 3)]) (by rfl) sc__law_draw.nd (pi_any (pv 2)) (blkOk_by (own := [("cell", 3)]) (N := ["script", "salt", "cells", "cell", "blend"]) (sc := defScope s__law_draw) (by decide +kernel)) (fun _ _ _ _ _ => (pg_name (i := 3) sc__law_draw.nd rfl (.inl rfl))) (fun _ _ _ _ _ => (pts_one (pt_cmpR op_ge (pv 3) (pe_op op_pow pe_int pe_int) (nomark _)))) (fun _ _ _ _ _ => (pv 3)))) (pa_cons (pv 4) pa_nil))))))))
def t__law_any (T : Top K mg) : TS :=
      (tSeq (tWhile (tAnd (tTest (tOp (rNeA K) (tOp (rIx K) (tVar 0) (tC (.int 0))) (tLst tNil))) (tTest (tOp (rEqA K) (tOp (rIx K) (tOp (rIx K) (tVar 0) (tC (.int 0))) (tUn (rU fun i => .int (-i)) (tC (.int 1)))) (tC (.int 0))))) (tDrop (tBM0 K "list" rPop (tOp (rIx K) (tVar 0) (tC (.int 0))))))
      (tSeq (tIfS (tTest (tOp (rNeA K) (tOp (rIx K) (tVar 0) (tC (.int 0))) (tLst tNil))) (tSeq (tAsg (tCB rInt1 (tCons (tBM0 K "list" rPop (tOp (rIx K) (tVar 0) (tC (.int 0)))) tNil)) (gName 2))
        (tSeq (tDrop (tBM K "list" rAppend (tOp (rIx K) (tVar 0) (tC (.int 0))) (tCons (tOp (rI CDivW fun i j => .int (i / j)) (tVar 2) (tVar 1)) tNil)))
        (tRet (tOp (rI (fun _ j => 0 < j) fun i j => .int (i % j)) (tVar 2) (tVar 1))))) tNext)
      (tSeq (tAsg (tOp (rI (fun _ j => 0 < j) fun i j => .int (i % j)) (tCB rInt1 (tCons (tOp (rAddA K) (tOp (rI CMulW fun i j => .int (i * j)) (tOp (rIx K) (tVar 0) (tC (.int 1))) (tC (.int 40693))) (tC (.int 71))) tNil)) (tC (.int 2147483647))) (gSub (tVar 0) (tC (.int 1)) rSetL))
      (tRet (tOp (rI (fun _ j => 0 < j) fun i j => .int (i % j)) (tCB rInt1 (tCons (tOp (rI CDivW fun i j => .int (i / j)) (tOp (rIx K) (tVar 0) (tC (.int 1))) (tC (.int 64))) tNil)) (tVar 1))))))
theorem d__law_any (T : Top K mg)  (cdv : Value) (A : Around) (outer : List Env) (s : Shared) (H : Hp) (E : XK) (hg : (cxOf CX0 P0 w K mg base ["deal", "bound", "rest"] "_law_any" (defScope s__law_any) T.f__law_any cdv A outer s H E).A.guards = some []) (hr : Room 0 (cxOf CX0 P0 w K mg base ["deal", "bound", "rest"] "_law_any" (defScope s__law_any) T.f__law_any cdv A outer s H E).A) :
    PSs (cxOf CX0 P0 w K mg base ["deal", "bound", "rest"] "_law_any" (defScope s__law_any) T.f__law_any cdv A outer s H E).nox (defBody s__law_any) (t__law_any T) :=
      (pss_cons (ps_while PassesOwn.never (PW.pt (pw_and (pt_cmpR (oq_ne hr) (pe_ix ix_seq (pv 0) pe_int (fun _ _ => rfl)) (pe_lst pa_nil) (nomark _)) (pw_and1 (pt_cmpR (oq_eq hr) (pe_ix ix_seq (pe_ix ix_seq (pv 0) pe_int (fun _ _ => rfl)) (pe_un un_neg pe_int) (fun _ _ => rfl)) pe_int (nomark _))))) (pss_one (ps_expr (pe_bm0 PySem.F.plainAttrs_list PySem.F.slot_list_pop PySem.F.type_list_pop mt_pop (pe_ix ix_seq (pv 0) pe_int (fun _ _ => rfl))))))
      (pss_cons (ps_if (pt_cmpR (oq_ne hr) (pe_ix ix_seq (pv 0) pe_int (fun _ _ => rfl)) (pe_lst pa_nil) (nomark _)) (pss_cons (ps_set (i := 2) sc__law_any.nd rfl (.inl rfl) (pe_callTy cq_int (by rfl) T.n_int (by decide +kernel) (pa_cons (pe_bm0 PySem.F.plainAttrs_list PySem.F.slot_list_pop PySem.F.type_list_pop mt_pop (pe_ix ix_seq (pv 0) pe_int (fun _ _ => rfl))) pa_nil)))
        (pss_cons (ps_expr (pe_bm PySem.F.plainAttrs_list PySem.F.slot_list_append PySem.F.type_list_append mt_append (pe_ix ix_seq (pv 0) pe_int (fun _ _ => rfl)) (pa_cons (pe_op op_fdivW (pv 2) (pv 1)) pa_nil)))
        (pss_one (ps_ret (pe_op op_mod (pv 2) (pv 1)))))) pss_nil)
      (pss_cons (ps_asg (pe_op op_mod (pe_callTy cq_int (by rfl) T.n_int (by decide +kernel) (pa_cons (pe_op oq_add (pe_op op_mulW (pe_ix ix_seq (pv 0) pe_int (fun _ _ => rfl)) pe_int) pe_int) pa_nil)) pe_int) (pg_sub (pv 0) pe_int set_list))
      (pss_one (ps_ret (pe_op op_mod (pe_callTy cq_int (by rfl) T.n_int (by decide +kernel) (pa_cons (pe_op op_fdivW (pe_ix ix_seq (pv 0) pe_int (fun _ _ => rfl)) pe_int) pa_nil)) (pv 1)))))))
def t__law_of (T : Top K mg) : TS :=
      (tRet (tOp (rIx K) (tVar 1) (tCallK (sp__law_any K) (fun vs _ => vs) E0 (tCons (tVar 0) (tCons (tCB (rLen K) (tCons (tVar 1) tNil)) tNil)) tNil)))
theorem d__law_of (T : Top K mg) (G__law_any : GOk P0 w K mg base CX0 1 T.f__law_any T.fd__law_any ["deal", "bound"] (sp__law_any K)) (cdv : Value) (A : Around) (outer : List Env) (s : Shared) (H : Hp) (E : XK) (hg : (cxOf CX0 P0 w K mg base ["deal", "some"] "_law_of" (defScope s__law_of) T.f__law_of cdv A outer s H E).A.guards = some []) (hr : Room 1 (cxOf CX0 P0 w K mg base ["deal", "some"] "_law_of" (defScope s__law_of) T.f__law_of cdv A outer s H E).A) :
    PSs (cxOf CX0 P0 w K mg base ["deal", "some"] "_law_of" (defScope s__law_of) T.f__law_of cdv A outer s H E).nox (defBody s__law_of) (t__law_of T) :=
      (pss_one (ps_ret (pe_ix ix_seq (pv 1) (pe_g G__law_any hg hr (by rfl) T.g__law_any T.F__law_any.kp (b__law_any T.F__law_any) pass0 (pa_cons (pv 0) (pa_cons (pe_callB cq_len (by rfl) T.n_len (by decide +kernel) (pa_cons (pv 1) pa_nil)) pa_nil))) (fun _ _ => rfl))))
def t__law_power (T : Top K mg) : TS :=
      (tRet (tOp (rI CPow fun i j => .int (i * 2 ^ j.toNat)) (tC (.int 1)) (tVar 0)))
theorem d__law_power (T : Top K mg)  (cdv : Value) (A : Around) (outer : List Env) (s : Shared) (H : Hp) (E : XK) (hg : (cxOf CX0 P0 w K mg base ["many"] "_law_power" (defScope s__law_power) T.f__law_power cdv A outer s H E).A.guards = some []) (hr : Room 0 (cxOf CX0 P0 w K mg base ["many"] "_law_power" (defScope s__law_power) T.f__law_power cdv A outer s H E).A) :
    PSs (cxOf CX0 P0 w K mg base ["many"] "_law_power" (defScope s__law_power) T.f__law_power cdv A outer s H E).nox (defBody s__law_power) (t__law_power T) :=
      (pss_one (ps_ret (pe_op op_shl pe_int (pv 0))))
def t__law_digits (T : Top K mg) : TS :=
      (tSeq (tPar 2 3 (tCons (tVar 0) (tCons (tLst tNil) tNil)))
      (tSeq (tFor (iRng1 (tCons (tVar 1) tNil)) (gName 4) (tSeq (tDrop (tBM K "list" rAppend (tVar 3) (tCons (tOp (rI (fun _ j => 0 < j) fun i j => .int (i % j)) (tCB rInt1 (tCons (tVar 2) tNil)) (tC (.int 2))) tNil)))
        (tAsg (tOp (rI CDivW fun i j => .int (i / j)) (tVar 2) (tC (.int 2))) (gName 2))))
      (tRet (tVar 3))))
theorem d__law_digits (T : Top K mg)  (cdv : Value) (A : Around) (outer : List Env) (s : Shared) (H : Hp) (E : XK) (hg : (cxOf CX0 P0 w K mg base ["number", "width", "rest", "found", "turn"] "_law_digits" (defScope s__law_digits) T.f__law_digits cdv A outer s H E).A.guards = some []) (hr : Room 0 (cxOf CX0 P0 w K mg base ["number", "width", "rest", "found", "turn"] "_law_digits" (defScope s__law_digits) T.f__law_digits cdv A outer s H E).A) :
    PSs (cxOf CX0 P0 w K mg base ["number", "width", "rest", "found", "turn"] "_law_digits" (defScope s__law_digits) T.f__law_digits cdv A outer s H E).nox (defBody s__law_digits) (t__law_digits T) :=
      (pss_cons (ps_par (i := 2) (j := 3) (by rfl) sc__law_digits.nd rfl rfl (by decide) rfl rfl (pa_cons (pv 0) (pa_cons (pe_lst pa_nil) pa_nil)) (by rfl))
      (pss_cons (ps_for PassesOwn.never rfl (pi_range1 (by rfl) T.n_range (pa_cons (pv 1) pa_nil)) (pg_name (i := 4) sc__law_digits.nd rfl (.inl rfl)) (pss_cons (ps_expr (pe_bm PySem.F.plainAttrs_list PySem.F.slot_list_append PySem.F.type_list_append mt_append (pv 3) (pa_cons (pe_op op_mod (pe_callTy cq_int (by rfl) T.n_int (by decide +kernel) (pa_cons (pv 2) pa_nil)) pe_int) pa_nil)))
        (pss_one (ps_set (i := 2) sc__law_digits.nd rfl (.inl rfl) (pe_op op_fdivW (pv 2) pe_int)))))
      (pss_one (ps_ret (pv 3)))))
def t__law_back (T : Top K mg) : TS :=
      (tSeq (tAsg (tTup (tCons (tC (.int 0)) (tCons (tC (.int 1)) tNil))) (gTup K 2 (gCons (gName 1) (gCons (gName 2) gNil))))
      (tSeq (tFor (iAny K (tVar 0)) (gName 3) (tPar 1 2 (tCons (tOp (rAddA K) (tVar 1) (tOp (rI CMulW fun i j => .int (i * j)) (tVar 3) (tVar 2))) (tCons (tOp (rAddA K) (tVar 2) (tVar 2)) tNil))))
      (tRet (tVar 1))))
theorem d__law_back (T : Top K mg)  (cdv : Value) (A : Around) (outer : List Env) (s : Shared) (H : Hp) (E : XK) (hg : (cxOf CX0 P0 w K mg base ["digits", "total", "weight", "digit"] "_law_back" (defScope s__law_back) T.f__law_back cdv A outer s H E).A.guards = some []) (hr : Room 0 (cxOf CX0 P0 w K mg base ["digits", "total", "weight", "digit"] "_law_back" (defScope s__law_back) T.f__law_back cdv A outer s H E).A) :
    PSs (cxOf CX0 P0 w K mg base ["digits", "total", "weight", "digit"] "_law_back" (defScope s__law_back) T.f__law_back cdv A outer s H E).nox (defBody s__law_back) (t__law_back T) :=
      (pss_cons (ps_asg (pe_tup (pa_cons pe_int (pa_cons pe_int pa_nil))) (pg_tup (by rfl) (pgs_cons (pg_name (i := 1) sc__law_back.nd rfl (.inl rfl)) (pgs_cons (pg_name (i := 2) sc__law_back.nd rfl (.inl rfl)) pgs_nil))))
      (pss_cons (ps_for PassesOwn.never rfl (pi_any (pv 0)) (pg_name (i := 3) sc__law_back.nd rfl (.inl rfl)) (pss_one (ps_par (i := 1) (j := 2) (by rfl) sc__law_back.nd rfl rfl (by decide) rfl rfl (pa_cons (pe_op oq_add (pv 1) (pe_op op_mulW (pv 3) (pv 2))) (pa_cons (pe_op oq_add (pv 2) (pv 2)) pa_nil)) (by rfl))))
      (pss_one (ps_ret (pv 1)))))
def t__law_times (T : Top K mg) : TS :=
      (tSeq (tPar3 3 4 5 (tCons (tLst (tCons (tVar 1) tNil)) (tCons (tC (.int 0)) (tCons (tVar 0) tNil))))
      (tSeq (tFor (iRng1 (tCons (tVar 2) tNil)) (gName 6) (tDrop (tBM K "list" rAppend (tVar 3) (tCons (tOp (rAddA K) (tOp (rIx K) (tVar 3) (tUn (rU fun i => .int (-i)) (tC (.int 1)))) (tOp (rIx K) (tVar 3) (tUn (rU fun i => .int (-i)) (tC (.int 1))))) tNil))))
      (tSeq (tFor (iAny K (tRevL K (tLstRg (tRg1 (tOp (rAddA K) (tVar 2) (tC (.int 1))))))) (gName 7) (tIfS (tTest (tOp rLeA (tOp (rIx K) (tVar 3) (tVar 7)) (tVar 5))) (tPar 5 4 (tCons (tOp (rI0 fun i j => .int (i - j)) (tVar 5) (tOp (rIx K) (tVar 3) (tVar 7))) (tCons (tOp (rAddA K) (tVar 4) (tCallK (sp__law_power K) (fun vs _ => vs) E0 (tCons (tVar 7) tNil) tNil)) tNil))) tNext))
      (tRet (tVar 4)))))
theorem d__law_times (T : Top K mg) (G__law_power : GOk P0 w K mg base CX0 1 T.f__law_power T.fd__law_power ["many"] (sp__law_power K)) (cdv : Value) (A : Around) (outer : List Env) (s : Shared) (H : Hp) (E : XK) (hg : (cxOf CX0 P0 w K mg base ["one", "other", "width", "pieces", "found", "rest", "turn", "at"] "_law_times" (defScope s__law_times) T.f__law_times cdv A outer s H E).A.guards = some []) (hr : Room 1 (cxOf CX0 P0 w K mg base ["one", "other", "width", "pieces", "found", "rest", "turn", "at"] "_law_times" (defScope s__law_times) T.f__law_times cdv A outer s H E).A) :
    PSs (cxOf CX0 P0 w K mg base ["one", "other", "width", "pieces", "found", "rest", "turn", "at"] "_law_times" (defScope s__law_times) T.f__law_times cdv A outer s H E).nox (defBody s__law_times) (t__law_times T) :=
      (pss_cons (ps_par3 (i := 3) (j := 4) (l := 5) rfl sc__law_times.nd rfl rfl rfl (by decide) (by decide) (by decide) rfl rfl rfl (pa_cons (pe_lst (pa_cons (pv 1) pa_nil)) (pa_cons pe_int (pa_cons (pv 0) pa_nil))) (by rfl))
      (pss_cons (ps_for PassesOwn.never rfl (pi_range1 (by rfl) T.n_range (pa_cons (pv 2) pa_nil)) (pg_name (i := 6) sc__law_times.nd rfl (.inl rfl)) (pss_one (ps_expr (pe_bm PySem.F.plainAttrs_list PySem.F.slot_list_append PySem.F.type_list_append mt_append (pv 3) (pa_cons (pe_op oq_add (pe_ix ix_seq (pv 3) (pe_un un_neg pe_int) (fun _ _ => rfl)) (pe_ix ix_seq (pv 3) (pe_un un_neg pe_int) (fun _ _ => rfl))) pa_nil)))))
      (pss_cons (ps_for PassesOwn.never rfl (pi_any (pe_revL (pe_listRg rfl (by rfl) T.n_list (prg_1 (by rfl) T.n_range (pe_op oq_add (pv 2) pe_int))))) (pg_name (i := 7) sc__law_times.nd rfl (.inl rfl)) (pss_one (ps_if (pt_cmpR oq_le (pe_ix ix_seq (pv 3) (pv 7) (fun _ _ => rfl)) (pv 5) (nomark _)) (pss_one (ps_par (i := 5) (j := 4) (by rfl) sc__law_times.nd rfl rfl (by decide) rfl rfl (pa_cons (pe_op op_sub (pv 5) (pe_ix ix_seq (pv 3) (pv 7) (fun _ _ => rfl))) (pa_cons (pe_op oq_add (pv 4) (pe_g G__law_power hg hr (by rfl) T.g__law_power T.F__law_power.kp (b__law_power T.F__law_power) pass0 (pa_cons (pv 7) pa_nil))) pa_nil)) (by rfl))) pss_nil)))
      (pss_one (ps_ret (pv 4))))))
def t__law_due (T : Top K mg) : TS :=
      (tSeq (tPar3 4 5 6 (tCons (tCallK (sp__law_digits K) (fun vs _ => vs) E0 (tCons (tVar 2) (tCons (tVar 1) tNil)) tNil) (tCons (tCallK (sp__law_digits K) (fun vs _ => vs) E0 (tCons (tVar 3) (tCons (tVar 1) tNil)) tNil) (tCons (tCallK (sp__law_power K) (fun vs _ => vs) E0 (tCons (tVar 1) tNil) tNil) tNil))))
      (tSeq (tIfS (tTest (tOp (rInA K) (tVar 0) (tLst (tCons (tC (.str "add")) (tCons (tC (.str "sub")) (tCons (tC (.str "mul")) tNil)))))) (tRet (tCallK (sp__law_back K) (fun vs _ => vs) E0 (tCons (tCallK (sp__law_digits K) (fun vs _ => vs) E0 (tCons (tIf (tTest (tOp (rEqA K) (tVar 0) (tC (.str "add")))) (tOp (rAddA K) (tVar 2) (tVar 3)) (tIf (tTest (tOp (rEqA K) (tVar 0) (tC (.str "sub")))) (tOp (rI0 fun i j => .int (i - j)) (tOp (rAddA K) (tVar 2) (tVar 6)) (tVar 3)) (tOp (rI CMulW fun i j => .int (i * j)) (tVar 2) (tVar 3)))) (tCons (tVar 1) tNil)) tNil) tNil) tNil)) tNext)
      (tSeq (tIfS (tTest (tOp (rInA K) (tVar 0) (tLst (tCons (tC (.str "div")) (tCons (tC (.str "rem")) tNil))))) (tSeq (tAsg (tIf (tTest (tOp (rEqA K) (tVar 3) (tC (.int 0)))) (tC (.int 0)) (tCallK (sp__law_times K) (fun vs _ => vs) E0 (tCons (tVar 2) (tCons (tVar 3) (tCons (tVar 1) tNil))) tNil)) (gName 7))
        (tRet (tIf (tTest (tOp (rEqA K) (tVar 0) (tC (.str "div")))) (tVar 7) (tOp (rI0 fun i j => .int (i - j)) (tVar 2) (tOp (rI CMulW fun i j => .int (i * j)) (tVar 3) (tVar 7)))))) tNext)
      (tSeq (tIfS (tTest (tOp (rInA K) (tVar 0) (tLst (tCons (tC (.str "and")) (tCons (tC (.str "or")) (tCons (tC (.str "xor")) tNil)))))) (tSeq (tAsg (tDGet (tDisp [((tC (.str "and")), (tLst (tCons (tC (.int 2)) tNil))), ((tC (.str "or")), (tLst (tCons (tC (.int 1)) (tCons (tC (.int 2)) tNil)))), ((tC (.str "xor")), (tLst (tCons (tC (.int 1)) tNil)))]) (tVar 0)) (gName 8))
        (tRet (tCallK (sp__law_back K) (fun vs _ => vs) E0 (tCons (tLc (RZ.iZipA K (tCons (tVar 4) (tCons (tVar 5) tNil))) (gTup K 2 (gCons (gName 9) (gCons (gName 10) gNil))) tYes (tIf (tTest (tOp (rInA K) (tOp (rAddA K) (tVar 9) (tVar 10)) (tVar 8))) (tC (.int 1)) (tC (.int 0))) [9, 10]) tNil) tNil))) tNext)
      (tSeq (tAsg (tOp (rI (fun _ j => 0 < j) fun i j => .int (i % j)) (tCB rInt1 (tCons (tVar 3) tNil)) (tVar 1)) (gName 11))
      (tSeq (tIfS (tTest (tOp (rInA K) (tVar 0) (tLst (tCons (tC (.str "shl")) (tCons (tC (.str "shr")) tNil))))) (tRet (tCallK (sp__law_back K) (fun vs _ => vs) E0 (tCons (tIf (tTest (tOp (rEqA K) (tVar 0) (tC (.str "shl")))) (tSl (rSlany K) (tOp (rAddA K) (tOp rRep (tLst (tCons (tC (.int 0)) tNil)) (tVar 11)) (tVar 4)) tNoPart (tPart (tVar 1))) (tSl (rSlany K) (tOp (rAddA K) (tVar 4) (tOp rRep (tLst (tCons (tC (.int 0)) tNil)) (tVar 11))) (tPart (tVar 11)) tNoPart)) tNil) tNil)) tNext)
      (tRet (tIf (tIfT (tTest (tOp (rEqA K) (tVar 0) (tC (.str "eq")))) (tTest (tOp (rEqA K) (tVar 4) (tVar 5))) (tTest (tOp (rLtB K) (tRevL K (tVar 4)) (tRevL K (tVar 5))))) (tC (.int 1)) (tC (.int 0))))))))))
theorem d__law_due (T : Top K mg) (G__law_digits : GOk P0 w K mg base CX0 1 T.f__law_digits T.fd__law_digits ["number", "width"] (sp__law_digits K)) (G__law_power : GOk P0 w K mg base CX0 1 T.f__law_power T.fd__law_power ["many"] (sp__law_power K)) (G__law_back : GOk P0 w K mg base CX0 1 T.f__law_back T.fd__law_back ["digits"] (sp__law_back K)) (G__law_times : GOk P0 w K mg base CX0 2 T.f__law_times T.fd__law_times ["one", "other", "width"] (sp__law_times K)) (cdv : Value) (A : Around) (outer : List Env) (s : Shared) (H : Hp) (E : XK) (hg : (cxOf CX0 P0 w K mg base ["op", "width", "one", "other", "first", "second", "top", "times", "wanted", "a", "b", "by"] "_law_due" (defScope s__law_due) T.f__law_due cdv A outer s H E).A.guards = some []) (hr : Room 2 (cxOf CX0 P0 w K mg base ["op", "width", "one", "other", "first", "second", "top", "times", "wanted", "a", "b", "by"] "_law_due" (defScope s__law_due) T.f__law_due cdv A outer s H E).A) :
    PSs (cxOf CX0 P0 w K mg base ["op", "width", "one", "other", "first", "second", "top", "times", "wanted", "a", "b", "by"] "_law_due" (defScope s__law_due) T.f__law_due cdv A outer s H E).nox (defBody s__law_due) (t__law_due T) :=
      (pss_cons (ps_par3 (i := 4) (j := 5) (l := 6) rfl sc__law_due.nd rfl rfl rfl (by decide) (by decide) (by decide) rfl rfl rfl (pa_cons (pe_g G__law_digits hg (hr.mono (by decide)) (by rfl) T.g__law_digits T.F__law_digits.kp (b__law_digits T.F__law_digits) pass0 (pa_cons (pv 2) (pa_cons (pv 1) pa_nil))) (pa_cons (pe_g G__law_digits hg (hr.mono (by decide)) (by rfl) T.g__law_digits T.F__law_digits.kp (b__law_digits T.F__law_digits) pass0 (pa_cons (pv 3) (pa_cons (pv 1) pa_nil))) (pa_cons (pe_g G__law_power hg (hr.mono (by decide)) (by rfl) T.g__law_power T.F__law_power.kp (b__law_power T.F__law_power) pass0 (pa_cons (pv 1) pa_nil)) pa_nil))) (by rfl))
      (pss_cons (ps_if (pt_cmpR (oq_in hr) (pv 0) (pe_lst (pa_cons pe_str (pa_cons pe_str (pa_cons pe_str pa_nil)))) (by rfl)) (pss_one (ps_ret (pe_g G__law_back hg (hr.mono (by decide)) (by rfl) T.g__law_back T.F__law_back.kp (b__law_back T.F__law_back) pass0 (pa_cons (pe_g G__law_digits hg (hr.mono (by decide)) (by rfl) T.g__law_digits T.F__law_digits.kp (b__law_digits T.F__law_digits) pass0 (pa_cons (pe_ifExp (pt_cmpR (oq_eq hr) (pv 0) pe_str (nomark _)) (pe_op oq_add (pv 2) (pv 3)) (pe_ifExp (pt_cmpR (oq_eq hr) (pv 0) pe_str (nomark _)) (pe_op op_sub (pe_op oq_add (pv 2) (pv 6)) (pv 3)) (pe_op op_mulW (pv 2) (pv 3)))) (pa_cons (pv 1) pa_nil))) pa_nil)))) pss_nil)
      (pss_cons (ps_if (pt_cmpR (oq_in hr) (pv 0) (pe_lst (pa_cons pe_str (pa_cons pe_str pa_nil))) (by rfl)) (pss_cons (ps_set (i := 7) sc__law_due.nd rfl (.inl rfl) (pe_ifExp (pt_cmpR (oq_eq hr) (pv 3) pe_int (nomark _)) pe_int (pe_g G__law_times hg hr (by rfl) T.g__law_times T.F__law_times.kp (b__law_times T.F__law_times) pass0 (pa_cons (pv 2) (pa_cons (pv 3) (pa_cons (pv 1) pa_nil))))))
        (pss_one (ps_ret (pe_ifExp (pt_cmpR (oq_eq hr) (pv 0) pe_str (nomark _)) (pv 7) (pe_op op_sub (pv 2) (pe_op op_mulW (pv 3) (pv 7))))))) pss_nil)
      (pss_cons (ps_if (pt_cmpR (oq_in hr) (pv 0) (pe_lst (pa_cons pe_str (pa_cons pe_str (pa_cons pe_str pa_nil)))) (by rfl)) (pss_cons (ps_set (i := 8) sc__law_due.nd rfl (.inr rfl) (pe_dget (un1 hr) (pe_disp (pps_cons pe_str (pe_lst (pa_cons pe_int pa_nil)) (pps_cons pe_str (pe_lst (pa_cons pe_int (pa_cons pe_int pa_nil))) (pps_cons pe_str (pe_lst (pa_cons pe_int pa_nil)) pps_nil))) rfl rfl (fun h => nomatch h) (by decide)) (pv 0) (fun _ _ => rfl)))
        (pss_one (ps_ret (pe_g G__law_back hg (hr.mono (by decide)) (by rfl) T.g__law_back T.F__law_back.kp (b__law_back T.F__law_back) pass0 (pa_cons (pe_lc (own := [("a", 9), ("b", 10)]) (by rfl) sc__law_due.nd (RZ.pi_zipA (by rfl) T.n_zip (pa_cons (pv 4) (pa_cons (pv 5) pa_nil))) (blkOk_by (own := [("a", 9), ("b", 10)]) (N := ["op", "width", "one", "other", "first", "second", "top", "times", "wanted", "a", "b", "by"]) (sc := defScope s__law_due) (by decide +kernel)) (fun _ _ _ _ _ => (pg_tup (by rfl) (pgs_cons (pg_name (i := 9) sc__law_due.nd rfl (.inl rfl)) (pgs_cons (pg_name (i := 10) sc__law_due.nd rfl (.inl rfl)) pgs_nil)))) (fun _ _ _ _ _ => pts_nil) (fun _ _ _ _ _ => (pe_ifExp (pt_cmpR (oq_in hr) (pe_op oq_add (pv 9) (pv 10)) (pv 8) (by rfl)) pe_int pe_int))) pa_nil))))) pss_nil)
      (pss_cons (ps_set (i := 11) sc__law_due.nd rfl (.inl rfl) (pe_op op_mod (pe_callTy cq_int (by rfl) T.n_int (by decide +kernel) (pa_cons (pv 3) pa_nil)) (pv 1)))
      (pss_cons (ps_if (pt_cmpR (oq_in hr) (pv 0) (pe_lst (pa_cons pe_str (pa_cons pe_str pa_nil))) (by rfl)) (pss_one (ps_ret (pe_g G__law_back hg (hr.mono (by decide)) (by rfl) T.g__law_back T.F__law_back.kp (b__law_back T.F__law_back) pass0 (pa_cons (pe_ifExp (pt_cmpR (oq_eq hr) (pv 0) pe_str (nomark _)) (pe_slice sq_any (pe_op oq_add (pe_op op_rep (pe_lst (pa_cons pe_int pa_nil)) (pv 11)) (pv 4)) po_none (po_some (pv 1))) (pe_slice sq_any (pe_op oq_add (pv 4) (pe_op op_rep (pe_lst (pa_cons pe_int pa_nil)) (pv 11))) (po_some (pv 11)) po_none)) pa_nil)))) pss_nil)
      (pss_one (ps_ret (pe_ifExp (pt_ifExp (pt_cmpR (oq_eq hr) (pv 0) pe_str (nomark _)) (pt_cmpR (oq_eq hr) (pv 4) (pv 5) (nomark _)) (pt_cmpR (oq_ltB hr) (pe_revL (pv 4)) (pe_revL (pv 5)) (nomark _))) pe_int pe_int)))))))))
def t_law (T : Top K mg) : TS :=
      (tSeq (tAsg (tCallK (sp__law_draw K) (fun vs _ => vs) E0 (tCons (tVar 0) (tCons (tC (.int 3)) tNil)) tNil) (gName 1))
      (tSeq (tAsg (tTup (tCons (tC (.str "add")) (tCons (tC (.str "sub")) (tCons (tC (.str "mul")) (tCons (tC (.str "div")) (tCons (tC (.str "rem")) (tCons (tC (.str "and")) (tCons (tC (.str "or")) (tCons (tC (.str "xor")) (tCons (tC (.str "shl")) (tCons (tC (.str "shr")) (tCons (tC (.str "eq")) (tCons (tC (.str "lt")) tNil))))))))))))) (gName 2))
      (tSeq (tIfS (tTest (tOp (rNeA K) (tCB (rRepr K) (tCons (tTup (tCons (tC T.v_OPS) (tCons (tC T.v_WIDTHS) tNil))) tNil)) (tCB (rRepr K) (tCons (tTup (tCons (tVar 2) (tCons (tTup (tCons (tC (.int 1)) (tCons (tC (.int 2)) (tCons (tC (.int 4)) (tCons (tC (.int 8)) (tCons (tC (.int 16)) (tCons (tC (.int 32)) tNil))))))) tNil))) tNil)))) (tRet (tC (.bl false))) tNext)
      (tSeq (tFor (iRng1 (tCons (tC (.int 5)) tNil)) (gName 3) (tSeq (tAsg (tCallK (sp__law_of K) (fun vs _ => vs) E0 (tCons (tVar 1) (tCons (tLst (tCons (tC (.int 1)) (tCons (tC (.int 2)) (tCons (tC (.int 4)) (tCons (tC (.int 8)) (tCons (tC (.int 16)) (tCons (tC (.int 32)) tNil))))))) tNil)) tNil) (gName 4))
        (tSeq (tAsg (tCallK (sp__law_power K) (fun vs _ => vs) E0 (tCons (tVar 4) tNil) tNil) (gName 5))
        (tSeq (tAsg (tCallK (sp__law_of K) (fun vs _ => vs) E0 (tCons (tVar 1) (tCons (tLst (tCons (tCallK (sp__law_any K) (fun vs _ => vs) E0 (tCons (tVar 1) (tCons (tVar 5) tNil)) tNil) (tCons (tC (.int 0)) (tCons (tOp (rI0 fun i j => .int (i - j)) (tVar 5) (tC (.int 1))) (tCons (tOp (rI CDivW fun i j => .int (i / j)) (tVar 5) (tC (.int 2))) (tCons (tOp (rI (fun _ j => 0 < j) fun i j => .int (i % j)) (tCB rInt1 (tCons (tCallK (sp__law_any K) (fun vs _ => vs) E0 (tCons (tVar 1) (tCons (tC (.int 9)) tNil)) tNil) tNil)) (tVar 5)) tNil)))))) tNil)) tNil) (gName 6))
        (tSeq (tAsg (tCallK (sp__law_of K) (fun vs _ => vs) E0 (tCons (tVar 1) (tCons (tLst (tCons (tCallK (sp__law_any K) (fun vs _ => vs) E0 (tCons (tVar 1) (tCons (tVar 5) tNil)) tNil) (tCons (tVar 6) (tCons (tC (.int 0)) (tCons (tOp (rI0 fun i j => .int (i - j)) (tVar 5) (tC (.int 1))) (tCons (tOp (rI (fun _ j => 0 < j) fun i j => .int (i % j)) (tCB rInt1 (tCons (tOp (rAddA K) (tVar 6) (tC (.int 1))) tNil)) (tVar 5)) (tCons (tOp (rI (fun _ j => 0 < j) fun i j => .int (i % j)) (tCB rInt1 (tCons (tVar 4) tNil)) (tVar 5)) (tCons (tOp (rI (fun _ j => 0 < j) fun i j => .int (i % j)) (tCB rInt1 (tCons (tCallK (sp__law_any K) (fun vs _ => vs) E0 (tCons (tVar 1) (tCons (tC (.int 9)) tNil)) tNil) tNil)) (tVar 5)) tNil)))))))) tNil)) tNil) (gName 7))
        (tSeq (tIfS (tTest (tOp rNotB (tCallK (sp_is_word K) (fun vs zs => kf_is_word_0_width_value vs zs) E0 tNil (tCons (tVar 4) (tCons (tVar 6) tNil))) (tC (.bl true)))) (tRet (tC (.bl false))) tNext)
        (tSeq (tFor (iAny K (tVar 2)) (gName 8) (tSeq (tIfS (tTest (tOp (rNeA K) (tCB (rRepr K) (tCons (tCallK (sp_word_op K) (fun vs zs => kf_word_op_0_other_one_width_op vs zs) E0 tNil (tCons (tVar 7) (tCons (tVar 6) (tCons (tVar 4) (tCons (tVar 8) tNil))))) tNil)) (tCB (rRepr K) (tCons (tCallK (sp__law_due K) (fun vs _ => vs) E0 (tCons (tVar 8) (tCons (tVar 4) (tCons (tVar 6) (tCons (tVar 7) tNil)))) tNil) tNil)))) (tRet (tC (.bl false))) tNext)
          (tIfS (tTest (tOp (rNeA K) (tCB (rRepr K) (tCons (tCallK (sp_op_width K) (fun vs zs => kf_op_width_0_width_op vs zs) E0 tNil (tCons (tVar 4) (tCons (tVar 8) tNil))) tNil)) (tCB (rRepr K) (tCons (tIf (tTest (tOp (rInA K) (tVar 8) (tLst (tCons (tC (.str "eq")) (tCons (tC (.str "lt")) tNil))))) (tC (.int 1)) (tVar 4)) tNil)))) (tRet (tC (.bl false))) tNext)))
        (tIfS (tTest (tOp rNotB (tCallK (sp_is_word K) (fun vs _ => vs) E0 (tCons (tCallK (sp__law_of K) (fun vs _ => vs) E0 (tCons (tVar 1) (tCons (tLst (tCons (tVar 5) (tCons (tUn (rU fun i => .int (-i)) (tC (.int 1))) (tCons (tC (.bl true)) (tCons (tC (.bl false)) (tCons (tC .non) (tCons (tC (.str "0")) (tCons (tTup (tCons (tC (.int 0)) tNil)) (tCons (tOp (rAddA K) (tOp (rI CPow fun i j => .int (i ^ j.toNat)) (tC (.int 10)) (tC (.int 12))) (tVar 5)) tNil))))))))) tNil)) tNil) (tCons (tVar 4) tNil)) tNil) (tC (.bl false)))) (tRet (tC (.bl false))) tNext))))))))
      (tRet (tC (.bl true)))))))
theorem d_law (T : Top K mg) (G__law_draw : GOk P0 w K mg base CX0 1 T.f__law_draw T.fd__law_draw ["script", "salt"] (sp__law_draw K)) (G__law_of : GOk P0 w K mg base CX0 2 T.f__law_of T.fd__law_of ["deal", "some"] (sp__law_of K)) (G__law_power : GOk P0 w K mg base CX0 1 T.f__law_power T.fd__law_power ["many"] (sp__law_power K)) (G_is_word : GOk P0 w K mg base CX0 4 T.f_is_word T.fd_is_word ["value", "width"] (sp_is_word K)) (G__law_any : GOk P0 w K mg base CX0 1 T.f__law_any T.fd__law_any ["deal", "bound"] (sp__law_any K)) (G_word_op : GOk P0 w K mg base CX0 2 T.f_word_op T.fd_word_op ["op", "width", "one", "other"] (sp_word_op K)) (G__law_due : GOk P0 w K mg base CX0 3 T.f__law_due T.fd__law_due ["op", "width", "one", "other"] (sp__law_due K)) (G_op_width : GOk P0 w K mg base CX0 1 T.f_op_width T.fd_op_width ["op", "width"] (sp_op_width K)) (cdv : Value) (A : Around) (outer : List Env) (s : Shared) (H : Hp) (E : XK) (hg : (cxOf CX0 P0 w K mg base ["script", "deal", "names", "turn", "width", "top", "one", "other", "op"] "law" (defScope s_law) T.f_law cdv A outer s H E).A.guards = some []) (hr : Room 4 (cxOf CX0 P0 w K mg base ["script", "deal", "names", "turn", "width", "top", "one", "other", "op"] "law" (defScope s_law) T.f_law cdv A outer s H E).A) :
    PSs (cxOf CX0 P0 w K mg base ["script", "deal", "names", "turn", "width", "top", "one", "other", "op"] "law" (defScope s_law) T.f_law cdv A outer s H E).nox (defBody s_law) (t_law T) :=
      (pss_cons (ps_set (i := 1) sc_law.nd rfl (.inl rfl) (pe_g G__law_draw hg (hr.mono (by decide)) (by rfl) T.g__law_draw T.F__law_draw.kp (b__law_draw T.F__law_draw) pass0 (pa_cons (pv 0) (pa_cons pe_int pa_nil))))
      (pss_cons (ps_set (i := 2) sc_law.nd rfl (.inl rfl) (pe_tup (pa_cons pe_str (pa_cons pe_str (pa_cons pe_str (pa_cons pe_str (pa_cons pe_str (pa_cons pe_str (pa_cons pe_str (pa_cons pe_str (pa_cons pe_str (pa_cons pe_str (pa_cons pe_str (pa_cons pe_str pa_nil))))))))))))))
      (pss_cons (ps_if (pt_cmpR (oq_ne hr) (pe_callB (cq_repr hg hr) (by rfl) T.n_repr (by decide +kernel) (pa_cons (pe_tup (pa_cons (pe_glob (by rfl) T.m_OPS T.r_OPS) (pa_cons (pe_glob (by rfl) T.m_WIDTHS T.r_WIDTHS) pa_nil))) pa_nil)) (pe_callB (cq_repr hg hr) (by rfl) T.n_repr (by decide +kernel) (pa_cons (pe_tup (pa_cons (pv 2) (pa_cons (pe_tup (pa_cons pe_int (pa_cons pe_int (pa_cons pe_int (pa_cons pe_int (pa_cons pe_int (pa_cons pe_int pa_nil))))))) pa_nil))) pa_nil)) (nomark _)) (pss_one (ps_ret pe_bl)) pss_nil)
      (pss_cons (ps_for PassesOwn.never rfl (pi_range1 (by rfl) T.n_range (pa_cons pe_int pa_nil)) (pg_name (i := 3) sc_law.nd rfl (.inl rfl)) (pss_cons (ps_set (i := 4) sc_law.nd rfl (.inl rfl) (pe_g G__law_of hg (hr.mono (by decide)) (by rfl) T.g__law_of T.F__law_of.kp (b__law_of T.F__law_of) pass0 (pa_cons (pv 1) (pa_cons (pe_lst (pa_cons pe_int (pa_cons pe_int (pa_cons pe_int (pa_cons pe_int (pa_cons pe_int (pa_cons pe_int pa_nil))))))) pa_nil))))
        (pss_cons (ps_set (i := 5) sc_law.nd rfl (.inl rfl) (pe_g G__law_power hg (hr.mono (by decide)) (by rfl) T.g__law_power T.F__law_power.kp (b__law_power T.F__law_power) pass0 (pa_cons (pv 4) pa_nil)))
        (pss_cons (ps_set (i := 6) sc_law.nd rfl (.inl rfl) (pe_g G__law_of hg (hr.mono (by decide)) (by rfl) T.g__law_of T.F__law_of.kp (b__law_of T.F__law_of) pass0 (pa_cons (pv 1) (pa_cons (pe_lst (pa_cons (pe_g G__law_any hg (hr.mono (by decide)) (by rfl) T.g__law_any T.F__law_any.kp (b__law_any T.F__law_any) pass0 (pa_cons (pv 1) (pa_cons (pv 5) pa_nil))) (pa_cons pe_int (pa_cons (pe_op op_sub (pv 5) pe_int) (pa_cons (pe_op op_fdivW (pv 5) pe_int) (pa_cons (pe_op op_mod (pe_callTy cq_int (by rfl) T.n_int (by decide +kernel) (pa_cons (pe_g G__law_any hg (hr.mono (by decide)) (by rfl) T.g__law_any T.F__law_any.kp (b__law_any T.F__law_any) pass0 (pa_cons (pv 1) (pa_cons pe_int pa_nil))) pa_nil)) (pv 5)) pa_nil)))))) pa_nil))))
        (pss_cons (ps_set (i := 7) sc_law.nd rfl (.inl rfl) (pe_g G__law_of hg (hr.mono (by decide)) (by rfl) T.g__law_of T.F__law_of.kp (b__law_of T.F__law_of) pass0 (pa_cons (pv 1) (pa_cons (pe_lst (pa_cons (pe_g G__law_any hg (hr.mono (by decide)) (by rfl) T.g__law_any T.F__law_any.kp (b__law_any T.F__law_any) pass0 (pa_cons (pv 1) (pa_cons (pv 5) pa_nil))) (pa_cons (pv 6) (pa_cons pe_int (pa_cons (pe_op op_sub (pv 5) pe_int) (pa_cons (pe_op op_mod (pe_callTy cq_int (by rfl) T.n_int (by decide +kernel) (pa_cons (pe_op oq_add (pv 6) pe_int) pa_nil)) (pv 5)) (pa_cons (pe_op op_mod (pe_callTy cq_int (by rfl) T.n_int (by decide +kernel) (pa_cons (pv 4) pa_nil)) (pv 5)) (pa_cons (pe_op op_mod (pe_callTy cq_int (by rfl) T.n_int (by decide +kernel) (pa_cons (pe_g G__law_any hg (hr.mono (by decide)) (by rfl) T.g__law_any T.F__law_any.kp (b__law_any T.F__law_any) pass0 (pa_cons (pv 1) (pa_cons pe_int pa_nil))) pa_nil)) (pv 5)) pa_nil)))))))) pa_nil))))
        (pss_cons (ps_if (pt_cmpR op_notBl (pe_gk0 G_is_word hg hr (by rfl) T.g_is_word T.F_is_word.kp (kb_is_word_0_width_value T.F_is_word) pass0 (pk_cons (pv 4) (pk_cons (pv 6) pk_nil))) pe_bl (nomark _)) (pss_one (ps_ret pe_bl)) pss_nil)
        (pss_cons (ps_for PassesOwn.never rfl (pi_any (pv 2)) (pg_name (i := 8) sc_law.nd rfl (.inl rfl)) (pss_cons (ps_if (pt_cmpR (oq_ne hr) (pe_callB (cq_repr hg hr) (by rfl) T.n_repr (by decide +kernel) (pa_cons (pe_gk0 G_word_op hg (hr.mono (by decide)) (by rfl) T.g_word_op T.F_word_op.kp (kb_word_op_0_other_one_width_op T.F_word_op) pass0 (pk_cons (pv 7) (pk_cons (pv 6) (pk_cons (pv 4) (pk_cons (pv 8) pk_nil))))) pa_nil)) (pe_callB (cq_repr hg hr) (by rfl) T.n_repr (by decide +kernel) (pa_cons (pe_g G__law_due hg (hr.mono (by decide)) (by rfl) T.g__law_due T.F__law_due.kp (b__law_due T.F__law_due) pass0 (pa_cons (pv 8) (pa_cons (pv 4) (pa_cons (pv 6) (pa_cons (pv 7) pa_nil))))) pa_nil)) (nomark _)) (pss_one (ps_ret pe_bl)) pss_nil)
          (pss_one (ps_if (pt_cmpR (oq_ne hr) (pe_callB (cq_repr hg hr) (by rfl) T.n_repr (by decide +kernel) (pa_cons (pe_gk0 G_op_width hg (hr.mono (by decide)) (by rfl) T.g_op_width T.F_op_width.kp (kb_op_width_0_width_op T.F_op_width) pass0 (pk_cons (pv 4) (pk_cons (pv 8) pk_nil))) pa_nil)) (pe_callB (cq_repr hg hr) (by rfl) T.n_repr (by decide +kernel) (pa_cons (pe_ifExp (pt_cmpR (oq_in hr) (pv 8) (pe_lst (pa_cons pe_str (pa_cons pe_str pa_nil))) (by rfl)) pe_int (pv 4)) pa_nil)) (nomark _)) (pss_one (ps_ret pe_bl)) pss_nil))))
        (pss_one (ps_if (pt_cmpR op_notBl (pe_g G_is_word hg hr (by rfl) T.g_is_word T.F_is_word.kp (b_is_word T.F_is_word) pass0 (pa_cons (pe_g G__law_of hg (hr.mono (by decide)) (by rfl) T.g__law_of T.F__law_of.kp (b__law_of T.F__law_of) pass0 (pa_cons (pv 1) (pa_cons (pe_lst (pa_cons (pv 5) (pa_cons (pe_un un_neg pe_int) (pa_cons pe_bl (pa_cons pe_bl (pa_cons pe_non (pa_cons pe_str (pa_cons (pe_tup (pa_cons pe_int pa_nil)) (pa_cons (pe_op oq_add (pe_op op_pow pe_int pe_int) (pv 5)) pa_nil))))))))) pa_nil))) (pa_cons (pv 4) pa_nil))) pe_bl (nomark _)) (pss_one (ps_ret pe_bl)) pss_nil)))))))))
      (pss_one (ps_ret pe_bl))))))
end
/-! ### the top -/
theorem top_mk {K : PySem.W.Frag} {h : Heap} {mg : Str → Option Value} {fa : Addr} (X : K.In h) (G : h.Ns mainGlobals mg) (hfa : mg "law" = some (.ref fa))
    {f0 : Addr} {od0 an0 : Option Addr} {sl0 : Array (Option Value)} {oc0 kV0 dc0 pm0 cd0 ct0 : Value}
    {f1 : Addr} {od1 an1 : Option Addr} {sl1 : Array (Option Value)} {oc1 kV1 dc1 pm1 cd1 ct1 : Value}
    {f2 : Addr} {od2 an2 : Option Addr} {sl2 : Array (Option Value)} {oc2 kV2 dc2 pm2 cd2 ct2 : Value}
    {f3 : Addr} {od3 an3 : Option Addr} {sl3 : Array (Option Value)} {oc3 kV3 dc3 pm3 cd3 ct3 : Value}
    {f4 : Addr} {od4 an4 : Option Addr} {sl4 : Array (Option Value)} {oc4 kV4 dc4 pm4 cd4 ct4 : Value}
    {f5 : Addr} {od5 an5 : Option Addr} {sl5 : Array (Option Value)} {oc5 kV5 dc5 pm5 cd5 ct5 : Value}
    {f6 : Addr} {od6 an6 : Option Addr} {sl6 : Array (Option Value)} {oc6 kV6 dc6 pm6 cd6 ct6 : Value}
    {f7 : Addr} {od7 an7 : Option Addr} {sl7 : Array (Option Value)} {oc7 kV7 dc7 pm7 cd7 ct7 : Value}
    {f8 : Addr} {od8 an8 : Option Addr} {sl8 : Array (Option Value)} {oc8 kV8 dc8 pm8 cd8 ct8 : Value}
    {f9 : Addr} {od9 an9 : Option Addr} {sl9 : Array (Option Value)} {oc9 kV9 dc9 pm9 cd9 ct9 : Value}
    {f10 : Addr} {od10 an10 : Option Addr} {sl10 : Array (Option Value)} {oc10 kV10 dc10 pm10 cd10 ct10 : Value}
    {f11 : Addr} {od11 an11 : Option Addr} {sl11 : Array (Option Value)} {oc11 kV11 dc11 pm11 cd11 ct11 : Value}
    {f12 : Addr} {od12 an12 : Option Addr} {sl12 : Array (Option Value)} {oc12 kV12 dc12 pm12 cd12 ct12 : Value}
    {f13 : Addr} {od13 an13 : Option Addr} {sl13 : Array (Option Value)} {oc13 kV13 dc13 pm13 cd13 ct13 : Value}
    {f14 : Addr} {od14 an14 : Option Addr} {sl14 : Array (Option Value)} {oc14 kV14 dc14 pm14 cd14 ct14 : Value}
    {f15 : Addr} {od15 an15 : Option Addr} {sl15 : Array (Option Value)} {oc15 kV15 dc15 pm15 cd15 ct15 : Value}
    {f16 : Addr} {od16 an16 : Option Addr} {sl16 : Array (Option Value)} {oc16 kV16 dc16 pm16 cd16 ct16 : Value}
    {ad0 : Addr} {on0 : Nat} {os0 : Array (Option Value)} {tk0_0 : Tok} {tk0_1 : Tok} {tk0_2 : Tok} {tk0_3 : Tok} {tk0_4 : Tok} {tk0_5 : Tok} {tk0_6 : Tok} {tk0_7 : Tok} {tk0_8 : Tok} {tk0_9 : Tok} {tk0_10 : Tok} {tk0_11 : Tok}
    {ad1 : Addr} {on1 : Nat} {os1 : Array (Option Value)} {tk1_0 : Tok} {tk1_1 : Tok} {tk1_2 : Tok} {tk1_3 : Tok} {tk1_4 : Tok} {tk1_5 : Tok}
    (a0 : PySem.W.nsIn K mainGlobals "is_integer" = some (some (.ref f0))) (l0 : K.lookup f0 = some ⟨oc0, od0, .func (PySem.W.fnOf "is_integer" "is_integer" (defArgs s_is_integer) (defBody s_is_integer) (defScope s_is_integer) .none kV0 dc0 pm0 an0 cd0 ct0), sl0⟩) (c0 : PySem.W.codeIn K cd0 "is_integer" = true) (k0 : PySem.W.keepIn K (.ref f0) = true)
    (a1 : PySem.W.nsIn K mainGlobals "is_number" = some (some (.ref f1))) (l1 : K.lookup f1 = some ⟨oc1, od1, .func (PySem.W.fnOf "is_number" "is_number" (defArgs s_is_number) (defBody s_is_number) (defScope s_is_number) .none kV1 dc1 pm1 an1 cd1 ct1), sl1⟩) (c1 : PySem.W.codeIn K cd1 "is_number" = true) (k1 : PySem.W.keepIn K (.ref f1) = true)
    (a2 : PySem.W.nsIn K mainGlobals "is_index" = some (some (.ref f2))) (l2 : K.lookup f2 = some ⟨oc2, od2, .func (PySem.W.fnOf "is_index" "is_index" (defArgs s_is_index) (defBody s_is_index) (defScope s_is_index) .none kV2 dc2 pm2 an2 cd2 ct2), sl2⟩) (c2 : PySem.W.codeIn K cd2 "is_index" = true) (k2 : PySem.W.keepIn K (.ref f2) = true)
    (a3 : PySem.W.nsIn K mainGlobals "is_word" = some (some (.ref f3))) (l3 : K.lookup f3 = some ⟨oc3, od3, .func (PySem.W.fnOf "is_word" "is_word" (defArgs s_is_word) (defBody s_is_word) (defScope s_is_word) .none kV3 dc3 pm3 an3 cd3 ct3), sl3⟩) (c3 : PySem.W.codeIn K cd3 "is_word" = true) (k3 : PySem.W.keepIn K (.ref f3) = true)
    (a4 : PySem.W.nsIn K mainGlobals "by_sums" = some (some (.ref f4))) (l4 : K.lookup f4 = some ⟨oc4, od4, .func (PySem.W.fnOf "by_sums" "by_sums" (defArgs s_by_sums) (defBody s_by_sums) (defScope s_by_sums) .none kV4 dc4 pm4 an4 cd4 ct4), sl4⟩) (c4 : PySem.W.codeIn K cd4 "by_sums" = true) (k4 : PySem.W.keepIn K (.ref f4) = true)
    (a5 : PySem.W.nsIn K mainGlobals "by_bits" = some (some (.ref f5))) (l5 : K.lookup f5 = some ⟨oc5, od5, .func (PySem.W.fnOf "by_bits" "by_bits" (defArgs s_by_bits) (defBody s_by_bits) (defScope s_by_bits) .none kV5 dc5 pm5 an5 cd5 ct5), sl5⟩) (c5 : PySem.W.codeIn K cd5 "by_bits" = true) (k5 : PySem.W.keepIn K (.ref f5) = true)
    (a6 : PySem.W.nsIn K mainGlobals "word_op" = some (some (.ref f6))) (l6 : K.lookup f6 = some ⟨oc6, od6, .func (PySem.W.fnOf "word_op" "word_op" (defArgs s_word_op) (defBody s_word_op) (defScope s_word_op) .none kV6 dc6 pm6 an6 cd6 ct6), sl6⟩) (c6 : PySem.W.codeIn K cd6 "word_op" = true) (k6 : PySem.W.keepIn K (.ref f6) = true)
    (a7 : PySem.W.nsIn K mainGlobals "op_width" = some (some (.ref f7))) (l7 : K.lookup f7 = some ⟨oc7, od7, .func (PySem.W.fnOf "op_width" "op_width" (defArgs s_op_width) (defBody s_op_width) (defScope s_op_width) .none kV7 dc7 pm7 an7 cd7 ct7), sl7⟩) (c7 : PySem.W.codeIn K cd7 "op_width" = true) (k7 : PySem.W.keepIn K (.ref f7) = true)
    (a8 : PySem.W.nsIn K mainGlobals "_law_draw" = some (some (.ref f8))) (l8 : K.lookup f8 = some ⟨oc8, od8, .func (PySem.W.fnOf "_law_draw" "_law_draw" (defArgs s__law_draw) (defBody s__law_draw) (defScope s__law_draw) .none kV8 dc8 pm8 an8 cd8 ct8), sl8⟩) (c8 : PySem.W.codeIn K cd8 "_law_draw" = true) (k8 : PySem.W.keepIn K (.ref f8) = true)
    (a9 : PySem.W.nsIn K mainGlobals "_law_any" = some (some (.ref f9))) (l9 : K.lookup f9 = some ⟨oc9, od9, .func (PySem.W.fnOf "_law_any" "_law_any" (defArgs s__law_any) (defBody s__law_any) (defScope s__law_any) .none kV9 dc9 pm9 an9 cd9 ct9), sl9⟩) (c9 : PySem.W.codeIn K cd9 "_law_any" = true) (k9 : PySem.W.keepIn K (.ref f9) = true)
    (a10 : PySem.W.nsIn K mainGlobals "_law_of" = some (some (.ref f10))) (l10 : K.lookup f10 = some ⟨oc10, od10, .func (PySem.W.fnOf "_law_of" "_law_of" (defArgs s__law_of) (defBody s__law_of) (defScope s__law_of) .none kV10 dc10 pm10 an10 cd10 ct10), sl10⟩) (c10 : PySem.W.codeIn K cd10 "_law_of" = true) (k10 : PySem.W.keepIn K (.ref f10) = true)
    (a11 : PySem.W.nsIn K mainGlobals "_law_power" = some (some (.ref f11))) (l11 : K.lookup f11 = some ⟨oc11, od11, .func (PySem.W.fnOf "_law_power" "_law_power" (defArgs s__law_power) (defBody s__law_power) (defScope s__law_power) .none kV11 dc11 pm11 an11 cd11 ct11), sl11⟩) (c11 : PySem.W.codeIn K cd11 "_law_power" = true) (k11 : PySem.W.keepIn K (.ref f11) = true)
    (a12 : PySem.W.nsIn K mainGlobals "_law_digits" = some (some (.ref f12))) (l12 : K.lookup f12 = some ⟨oc12, od12, .func (PySem.W.fnOf "_law_digits" "_law_digits" (defArgs s__law_digits) (defBody s__law_digits) (defScope s__law_digits) .none kV12 dc12 pm12 an12 cd12 ct12), sl12⟩) (c12 : PySem.W.codeIn K cd12 "_law_digits" = true) (k12 : PySem.W.keepIn K (.ref f12) = true)
    (a13 : PySem.W.nsIn K mainGlobals "_law_back" = some (some (.ref f13))) (l13 : K.lookup f13 = some ⟨oc13, od13, .func (PySem.W.fnOf "_law_back" "_law_back" (defArgs s__law_back) (defBody s__law_back) (defScope s__law_back) .none kV13 dc13 pm13 an13 cd13 ct13), sl13⟩) (c13 : PySem.W.codeIn K cd13 "_law_back" = true) (k13 : PySem.W.keepIn K (.ref f13) = true)
    (a14 : PySem.W.nsIn K mainGlobals "_law_times" = some (some (.ref f14))) (l14 : K.lookup f14 = some ⟨oc14, od14, .func (PySem.W.fnOf "_law_times" "_law_times" (defArgs s__law_times) (defBody s__law_times) (defScope s__law_times) .none kV14 dc14 pm14 an14 cd14 ct14), sl14⟩) (c14 : PySem.W.codeIn K cd14 "_law_times" = true) (k14 : PySem.W.keepIn K (.ref f14) = true)
    (a15 : PySem.W.nsIn K mainGlobals "_law_due" = some (some (.ref f15))) (l15 : K.lookup f15 = some ⟨oc15, od15, .func (PySem.W.fnOf "_law_due" "_law_due" (defArgs s__law_due) (defBody s__law_due) (defScope s__law_due) .none kV15 dc15 pm15 an15 cd15 ct15), sl15⟩) (c15 : PySem.W.codeIn K cd15 "_law_due" = true) (k15 : PySem.W.keepIn K (.ref f15) = true)
    (a16 : PySem.W.nsIn K mainGlobals "law" = some (some (.ref f16))) (l16 : K.lookup f16 = some ⟨oc16, od16, .func (PySem.W.fnOf "law" "law" (defArgs s_law) (defBody s_law) (defScope s_law) .none kV16 dc16 pm16 an16 cd16 ct16), sl16⟩) (c16 : PySem.W.codeIn K cd16 "law" = true) (k16 : PySem.W.keepIn K (.ref f16) = true)
    (q0 : PySem.W.nsIn K mainGlobals "OPS" = some (some (.ref ad0))) (p0 : K.lookup ad0 = some ⟨.type "tuple", none, .seq #[.str "add" tk0_0, .str "sub" tk0_1, .str "mul" tk0_2, .str "div" tk0_3, .str "rem" tk0_4, .str "and" tk0_5, .str "or" tk0_6, .str "xor" tk0_7, .str "shl" tk0_8, .str "shr" tk0_9, .str "eq" tk0_10, .str "lt" tk0_11] on0, os0⟩)
    (q1 : PySem.W.nsIn K mainGlobals "WIDTHS" = some (some (.ref ad1))) (p1 : K.lookup ad1 = some ⟨.type "tuple", none, .seq #[.int 1 tk1_0, .int 2 tk1_1, .int 4 tk1_2, .int 8 tk1_3, .int 16 tk1_4, .int 32 tk1_5] on1, os1⟩)
    (z_isinstance : PySem.W.nsIn K mainGlobals "isinstance" = some none)
    (z_bool : PySem.W.nsIn K mainGlobals "bool" = some none)
    (z_int : PySem.W.nsIn K mainGlobals "int" = some none)
    (z_abs : PySem.W.nsIn K mainGlobals "abs" = some none)
    (z_len : PySem.W.nsIn K mainGlobals "len" = some none)
    (z_range : PySem.W.nsIn K mainGlobals "range" = some none)
    (z_list : PySem.W.nsIn K mainGlobals "list" = some none)
    (z_zip : PySem.W.nsIn K mainGlobals "zip" = some none)
    (z_repr : PySem.W.nsIn K mainGlobals "repr" = some none) :
    ∃ T : Top K mg, T.f_law = fa ∧ ∀ (s : Shared) (u : Value), BindsTo s T.fd_law ⟨[u], []⟩ [("script", u)] := by
  have e := hfa.symm.trans (PySem.W.mg_of X G a16)
  cases e
  exact ⟨{ f_is_integer := f0, fd_is_integer := _, F_is_integer := fun_mk l0 c0 k0, g_is_integer := PySem.W.mg_of X G a0, f_is_number := f1, fd_is_number := _, F_is_number := fun_mk l1 c1 k1, g_is_number := PySem.W.mg_of X G a1, f_is_index := f2, fd_is_index := _, F_is_index := fun_mk l2 c2 k2, g_is_index := PySem.W.mg_of X G a2, f_is_word := f3, fd_is_word := _, F_is_word := fun_mk l3 c3 k3, g_is_word := PySem.W.mg_of X G a3, f_by_sums := f4, fd_by_sums := _, F_by_sums := fun_mk l4 c4 k4, g_by_sums := PySem.W.mg_of X G a4, f_by_bits := f5, fd_by_bits := _, F_by_bits := fun_mk l5 c5 k5, g_by_bits := PySem.W.mg_of X G a5, f_word_op := f6, fd_word_op := _, F_word_op := fun_mk l6 c6 k6, g_word_op := PySem.W.mg_of X G a6, f_op_width := f7, fd_op_width := _, F_op_width := fun_mk l7 c7 k7, g_op_width := PySem.W.mg_of X G a7, f__law_draw := f8, fd__law_draw := _, F__law_draw := fun_mk l8 c8 k8, g__law_draw := PySem.W.mg_of X G a8, f__law_any := f9, fd__law_any := _, F__law_any := fun_mk l9 c9 k9, g__law_any := PySem.W.mg_of X G a9, f__law_of := f10, fd__law_of := _, F__law_of := fun_mk l10 c10 k10, g__law_of := PySem.W.mg_of X G a10, f__law_power := f11, fd__law_power := _, F__law_power := fun_mk l11 c11 k11, g__law_power := PySem.W.mg_of X G a11, f__law_digits := f12, fd__law_digits := _, F__law_digits := fun_mk l12 c12 k12, g__law_digits := PySem.W.mg_of X G a12, f__law_back := f13, fd__law_back := _, F__law_back := fun_mk l13 c13 k13, g__law_back := PySem.W.mg_of X G a13, f__law_times := f14, fd__law_times := _, F__law_times := fun_mk l14 c14 k14, g__law_times := PySem.W.mg_of X G a14, f__law_due := f15, fd__law_due := _, F__law_due := fun_mk l15 c15 k15, g__law_due := PySem.W.mg_of X G a15, f_law := _, fd_law := _, F_law := fun_mk l16 c16 k16, g_law := PySem.W.mg_of X G a16, v_OPS := .ref ad0, u_OPS := .ref ad0, m_OPS := PySem.W.mg_of X G q0, r_OPS := rfl, c_OPS := dq_ktup (vs := [.str "add", .str "sub", .str "mul", .str "div", .str "rem", .str "and", .str "or", .str "xor", .str "shl", .str "shr", .str "eq", .str "lt"]) p0 rfl rfl (Nat.le_trans (m := 100) (of_decide_eq_true rfl) (by decide)) (.cons ⟨_, rfl⟩ (.cons ⟨_, rfl⟩ (.cons ⟨_, rfl⟩ (.cons ⟨_, rfl⟩ (.cons ⟨_, rfl⟩ (.cons ⟨_, rfl⟩ (.cons ⟨_, rfl⟩ (.cons ⟨_, rfl⟩ (.cons ⟨_, rfl⟩ (.cons ⟨_, rfl⟩ (.cons ⟨_, rfl⟩ (.cons ⟨_, rfl⟩ .nil)))))))))))) (fun _ => (.cons (.str _) (.cons (.str _) (.cons (.str _) (.cons (.str _) (.cons (.str _) (.cons (.str _) (.cons (.str _) (.cons (.str _) (.cons (.str _) (.cons (.str _) (.cons (.str _) (.cons (.str _) .nil))))))))))))), y_OPS := ty_ktup p0 rfl rfl, v_WIDTHS := .ref ad1, u_WIDTHS := .ref ad1, m_WIDTHS := PySem.W.mg_of X G q1, r_WIDTHS := rfl, c_WIDTHS := dq_ktup (vs := [.int 1, .int 2, .int 4, .int 8, .int 16, .int 32]) p1 rfl rfl (Nat.le_trans (m := 100) (of_decide_eq_true rfl) (by decide)) (.cons ⟨_, rfl⟩ (.cons ⟨_, rfl⟩ (.cons ⟨_, rfl⟩ (.cons ⟨_, rfl⟩ (.cons ⟨_, rfl⟩ (.cons ⟨_, rfl⟩ .nil)))))) (fun _ => (.cons (.int _) (.cons (.int _) (.cons (.int _) (.cons (.int _) (.cons (.int _) (.cons (.int _) .nil))))))), y_WIDTHS := ty_ktup p1 rfl rfl, n_isinstance := PySem.W.mg_none_of X G z_isinstance, n_bool := PySem.W.mg_none_of X G z_bool, n_int := PySem.W.mg_none_of X G z_int, n_abs := PySem.W.mg_none_of X G z_abs, n_len := PySem.W.mg_none_of X G z_len, n_range := PySem.W.mg_none_of X G z_range, n_list := PySem.W.mg_none_of X G z_list, n_zip := PySem.W.mg_none_of X G z_zip, n_repr := PySem.W.mg_none_of X G z_repr }, rfl, fun s u => .of_eq rfl⟩
end K03
namespace K03
open PySem PySem.Spec PyProof.Rows L2 Ly
theorem bits_zero (n : Nat) : bits n 0 = [] := rfl
theorem bits_succ (n w : Nat) : bits n (w + 1) = n % 2 :: bits (n / 2) w := by
  unfold bits
  rw [List.range_succ_eq_map, List.map_cons, List.map_map, Nat.pow_zero, Nat.div_one]
  congr 1
  refine List.map_congr_left fun i _ => ?_
  show n / 2 ^ (i + 1) % 2 = n / 2 / 2 ^ i % 2
  rw [Nat.div_div_eq_div_mul, Nat.pow_succ, Nat.mul_comm]
theorem bits_last (n w : Nat) : bits n (w + 1) = bits n w ++ [n / 2 ^ w % 2] := by
  unfold bits
  rw [List.range_succ, List.map_append]
  rfl
theorem bits_len (n w : Nat) : (bits n w).length = w := by unfold bits; rw [List.length_map, List.length_range]
theorem bits_le (n w : Nat) : ∀ x ∈ bits n w, x ≤ 1 := fun x hx => by
  obtain ⟨i, _, rfl⟩ := List.mem_map.mp hx
  omega
theorem back_bits : ∀ (w n : Nat), back (bits n w) = n % 2 ^ w
  | 0, n => by rw [bits_zero, Nat.pow_zero, Nat.mod_one]; rfl
  | w + 1, n => by
    rw [bits_succ, back, back_bits w (n / 2), Nat.pow_succ, Nat.mul_comm (2 ^ w) 2, Nat.mod_mul]
theorem back_zip (f op : Nat → Nat → Nat) (h1 : ∀ a b, op a b % 2 = f (a % 2) (b % 2)) (h2 : ∀ a b, op a b / 2 = op (a / 2) (b / 2)) : ∀ (w a b : Nat), back (List.zipWith f (bits a w) (bits b w)) = op a b % 2 ^ w
  | 0, a, b => by rw [bits_zero, bits_zero, Nat.pow_zero, Nat.mod_one]; rfl
  | w + 1, a, b => by
    rw [bits_succ, bits_succ, List.zipWith_cons_cons, back, back_zip f op h1 h2 w, ← h1, ← h2, Nat.pow_succ, Nat.mul_comm (2 ^ w) 2, Nat.mod_mul]
def wants (ws : List Nat) (x y : Nat) : Nat := if ws.contains (x + y) then 1 else 0
theorem two_cases (x : Nat) : x % 2 = 0 ∨ x % 2 = 1 := by omega
theorem and_two (a b : Nat) : (a &&& b) % 2 = wants [2] (a % 2) (b % 2) := by
  have h := @Nat.and_mod_two_eq_one a b
  rcases two_cases a with ha | ha <;> rcases two_cases b with hb | hb <;> rcases two_cases (a &&& b) with hc | hc <;> rw [ha, hb, hc] at h ⊢ <;> simp at h ⊢ <;> rfl
theorem or_two (a b : Nat) : (a ||| b) % 2 = wants [1, 2] (a % 2) (b % 2) := by
  have h := @Nat.or_mod_two_eq_one a b
  rcases two_cases a with ha | ha <;> rcases two_cases b with hb | hb <;> rcases two_cases (a ||| b) with hc | hc <;> rw [ha, hb, hc] at h ⊢ <;> simp at h ⊢ <;> rfl
theorem xor_two (a b : Nat) : (a ^^^ b) % 2 = wants [1] (a % 2) (b % 2) := by
  have h := @Nat.xor_mod_two_eq_one a b
  rcases two_cases a with ha | ha <;> rcases two_cases b with hb | hb <;> rcases two_cases (a ^^^ b) with hc | hc <;> rw [ha, hb, hc] at h ⊢ <;> simp at h ⊢ <;> rfl
theorem back_zeros : ∀ (s : Nat) (l : List Nat), back (List.replicate s 0 ++ l) = 2 ^ s * back l
  | 0, l => by rw [List.replicate_zero, List.nil_append, Nat.pow_zero, Nat.one_mul]
  | s + 1, l => by
    rw [List.replicate_succ, List.cons_append, back, back_zeros s l, Nat.zero_add, Nat.pow_succ, Nat.mul_comm (2 ^ s) 2, Nat.mul_assoc]
theorem back_app0 : ∀ (l : List Nat) (s : Nat), back (l ++ List.replicate s 0) = back l
  | [], s => by
    have := back_zeros s []
    rw [List.append_nil] at this
    rw [List.nil_append, this]
    rfl
  | d :: l, s => by rw [List.cons_append, back, back, back_app0 l s]
theorem bits_take (a : Nat) {v w : Nat} (h : v ≤ w) : (bits a w).take v = bits a v := by
  unfold bits
  rw [← List.map_take, List.take_range, Nat.min_eq_left h]
theorem bits_drop (a : Nat) : ∀ {s w : Nat}, s ≤ w → (bits a w).drop s = bits (a / 2 ^ s) (w - s)
  | 0, w, _ => by rw [List.drop_zero, Nat.pow_zero, Nat.div_one, Nat.sub_zero]
  | s + 1, 0, h => by omega
  | s + 1, w + 1, h => by
    rw [bits_succ, List.drop_succ_cons, bits_drop (a / 2) (by omega), Nat.div_div_eq_div_mul, Nat.pow_succ, Nat.mul_comm (2 ^ s) 2, Nat.add_sub_add_right]
theorem back_shl (a : Nat) {s w : Nat} (h : s ≤ w) : back ((List.replicate s 0 ++ bits a w).take w) = a * 2 ^ s % 2 ^ w := by
  rw [List.take_append, List.length_replicate, List.take_of_length_le (by rw [List.length_replicate]; exact h), bits_take a (by omega), back_zeros, back_bits, Nat.mul_comm a, ← Nat.mul_mod_mul_left, ← Nat.pow_add]
  congr 2
  omega
theorem back_shr {a s w : Nat} (h : s ≤ w) (ha : a < 2 ^ w) : back ((bits a w ++ List.replicate s 0).drop s) = a / 2 ^ s := by
  rw [List.drop_append_of_le_length (by rw [bits_len]; exact h), back_app0, bits_drop a h, back_bits]
  refine Nat.mod_eq_of_lt ((Nat.div_lt_iff_lt_mul (Nat.two_pow_pos s)).mpr ?_)
  rw [← Nat.pow_add]
  exact Nat.lt_of_lt_of_le ha (Nat.pow_le_pow_right (by decide) (by omega))
theorem bits_eq {a b w : Nat} (ha : a < 2 ^ w) (hb : b < 2 ^ w) : (bits a w == bits b w) = decide (a = b) := by
  by_cases h : a = b
  · rw [h]; simp
  · rw [decide_eq_false h]
    refine beq_eq_false_iff_ne.mpr fun e => h ?_
    have := congrArg back e
    rw [back_bits, back_bits, Nat.mod_eq_of_lt ha, Nat.mod_eq_of_lt hb] at this
    exact this
theorem first_map (e r : Nat → Bool) (fin : Bool) (f : Nat → Nat) : ∀ l : List Nat, SeqAt.firstLt e r fin (l.map f) = SeqAt.firstLt (fun j => e (f j)) (fun j => r (f j)) fin l
  | [] => rfl
  | j :: t => by
    show (if e (f j) = true then SeqAt.firstLt e r fin (t.map f) else r (f j)) = if e (f j) = true then _ else r (f j)
    rw [first_map e r fin f t]
abbrev revI (a w : Nat) : List Int := (bits a w).reverse.map fun (n : Nat) => (n : Int)
theorem revI_succ (a w : Nat) : revI a (w + 1) = ((a / 2 ^ w % 2 : Nat) : Int) :: revI a w := by
  show ((bits a (w + 1)).reverse.map _) = _
  rw [bits_last, List.reverse_append]
  rfl
theorem lt_bits : ∀ (w a b : Nat), SeqAt.firstLt (fun j => decide ((revI a w).getD j 0 = (revI b w).getD j 0)) (fun j => decide ((revI a w).getD j 0 < (revI b w).getD j 0)) false (List.range w) = decide (a % 2 ^ w < b % 2 ^ w)
  | 0, a, b => by
    rw [Nat.pow_zero, Nat.mod_one, Nat.mod_one]
    rfl
  | w + 1, a, b => by
    rw [List.range_succ_eq_map, revI_succ, revI_succ]
    have ih := lt_bits w a b
    have ea : a % 2 ^ (w + 1) = a % 2 ^ w + 2 ^ w * (a / 2 ^ w % 2) := by rw [Nat.pow_succ, Nat.mod_mul]
    have eb : b % 2 ^ (w + 1) = b % 2 ^ w + 2 ^ w * (b / 2 ^ w % 2) := by rw [Nat.pow_succ, Nat.mod_mul]
    have la := Nat.mod_lt a (Nat.two_pow_pos w)
    have lb := Nat.mod_lt b (Nat.two_pow_pos w)
    rw [ea, eb]
    rcases two_cases (a / 2 ^ w) with ha | ha <;> rcases two_cases (b / 2 ^ w) with hb | hb <;> rw [ha, hb]
    · rw [SeqAt.firstLt_yes (by rfl), first_map]
      exact ih.trans (decide_eq_decide.mpr (by omega))
    · rw [SeqAt.firstLt_no (by rfl)]
      exact (decide_eq_true (by show ((0 : Nat) : Int) < ((1 : Nat) : Int); decide)).trans (decide_eq_true (by omega)).symm
    · rw [SeqAt.firstLt_no (by rfl)]
      exact (decide_eq_false (by show ¬ ((1 : Nat) : Int) < ((0 : Nat) : Int); decide)).trans (decide_eq_false (by omega)).symm
    · rw [SeqAt.firstLt_yes (by rfl), first_map]
      exact ih.trans (decide_eq_decide.mpr (by omega))
end K03
namespace K03
open PySem PySem.Spec PyProof.Rows L2 Ly
section
variable {P0 : Program} {w : World} {K : PySem.W.Frag} {mg : Str → Option Value} {base : Heap} {B H : Hp} {p q : Addr}
theorem ok__law_draw (T : Top K mg) : GOk P0 w K mg base CX0 1 T.f__law_draw T.fd__law_draw ["script", "salt"] (sp__law_draw K) :=
  draw_ok T.F__law_draw sc__law_draw rfl fun cdv A outer s H E hg hr => d__law_draw T cdv A outer s H E hg hr
theorem ok__law_any (T : Top K mg) : GOk P0 w K mg base CX0 1 T.f__law_any T.fd__law_any ["deal", "bound"] (sp__law_any K) :=
  de_ok 1 T.F__law_any sc__law_any (fun ds ⟨b, e, _⟩ => by rw [e]; rfl) rfl fun cdv A outer s H E hg hr => ⟨_, d__law_any T cdv A outer s H E hg hr, fun B H p q ds hP => vs_any hP⟩
theorem ok__law_of (T : Top K mg) : GOk P0 w K mg base CX0 2 T.f__law_of T.fd__law_of ["deal", "some"] (sp__law_of K) :=
  de_ok 0 T.F__law_of sc__law_of (fun ds ⟨xs, e, _⟩ => by rcases e with rfl | rfl <;> rfl) rfl fun cdv A outer s H E hg hr => ⟨_, d__law_of T (ok__law_any T) cdv A outer s H E hg hr, fun B H p q ds hP => vs_of hP⟩
theorem ok_is_integer (T : Top K mg) : GOk P0 w K mg base CX0 1 T.f_is_integer T.fd_is_integer ["value"] (sp_is_integer K) :=
  pu_ok 0 T.F_is_integer sc_is_integer (fun ds ⟨d, e⟩ => by rw [e]; rfl) rfl fun cdv A outer s H E hg hr => ⟨_, d_is_integer T cdv A outer s H E hg hr, fun B H ds hP => vs_isInt hP⟩
theorem ok_is_number (T : Top K mg) : GOk P0 w K mg base CX0 2 T.f_is_number T.fd_is_number ["value"] (sp_is_number K) :=
  pu_ok 0 T.F_is_number sc_is_number (fun ds ⟨d, e⟩ => by rw [e]; rfl) rfl fun cdv A outer s H E hg hr => ⟨_, d_is_number T (ok_is_integer T) cdv A outer s H E hg hr, fun B H ds hP => vs_isNum hP⟩
theorem ok_is_index (T : Top K mg) : GOk P0 w K mg base CX0 3 T.f_is_index T.fd_is_index ["value", "many"] (sp_is_index K) :=
  pu_ok 0 T.F_is_index sc_is_index (fun ds ⟨d, n, e⟩ => by rw [e]; rfl) rfl fun cdv A outer s H E hg hr => ⟨_, d_is_index T (ok_is_number T) cdv A outer s H E hg hr, fun B H ds hP => vs_isIdx hP⟩
section
variable {C : Cn} {Γ : List Sl} {te : TE}
/-- 1 << w -/
theorem ve_shl1 {w : Nat} (h : VE C te Γ (Is (.int (w : Nat)))) (hw : w ≤ 1000) : VE C (tOp (rI CPow fun i j => .int (i * 2 ^ j.toNat)) (tC (.int 1)) te) Γ (Is (.int ((2 ^ w : Nat) : Int))) :=
  (ve_opD ve_int.v h.v (od_shl ⟨by omega, by omega, by decide⟩)).to (by
    rw [Int.toNat_natCast, Int.one_mul]
    congr 1)
theorem nm_eq {i j : Nat} (hi : i < 12) (hj : j < 12) : decide (nm i = nm j) = (i == j) := by
  have h : ∀ a b : Fin 12, decide (nm a.val = nm b.val) = (a.val == b.val) := by decide +kernel
  exact h ⟨i, hi⟩ ⟨j, hj⟩
/-- op == 'name' -/
theorem vt_nm {i k : Nat} (j : Nat) (h : Γ[i]? = some (.dat (.str (nm k)))) (hk : k < 12) (hj : j < 12 := by decide) : VT C (tTest (tOp (rEqA C.K) (tVar i) (tC (.str (nm j))))) Γ (Is (k == j)) := (vt_testD (ve_opD (ve_var h).v ve_str.v od_eqS)).to (nm_eq hk hj)
theorem any_nm {k : Nat} (hk : k < 12) : ∀ (js : List Nat), (∀ j ∈ js, j < 12) → ((js.map fun j => PyData.str (nm j)).any fun z => PyData.eqv z (.str (nm k))) = js.contains k
  | [], _ => rfl
  | j :: js, h => by
    rw [List.map_cons, List.any_cons, any_nm hk js fun x hx => h x (List.mem_cons_of_mem _ hx), List.contains_cons, PyData.eqv]
    congr 1
    have e := nm_eq hk (h j (List.mem_cons_self ..))
    rw [← e]
    by_cases q : nm j = nm k
    · rw [q]; simp
    · rw [beq_eq_false_iff_ne.mpr q, decide_eq_false fun z => q z.symm]
theorem sh_nm {k : Nat} (hk : k < 12) : SeqAt.shaped (.str (nm k)) = true := by
  have h : ∀ a : Fin 12, SeqAt.shaped (.str (nm a.val)) = true := by decide +kernel
  exact h ⟨k, hk⟩
/-- op in ['a', ..] -/
theorem ve_inNm {k : Nat} (js : List Nat) {t2 : TE} (h : VE C te Γ (Is (.str (nm k)))) (hk : k < 12) (h2 : VE C t2 Γ (Is (.list (js.map fun j => .str (nm j))))) (hj : ∀ j ∈ js, j < 12) : VE C (tOp (rInA C.K) te t2) Γ (Is (.bool (js.contains k))) :=
  (ve_opD h.v h2.v (od_inL (sh_nm hk) (by
    unfold SeqAt.shaped
    rw [Bool.and_eq_true, decide_eq_true_eq, PyData.canLay0, PyData.depth, canLayAll_mem]
    refine ⟨fun x hx => ?_, ?_⟩
    · obtain ⟨n, hn, rfl⟩ := List.mem_map.mp hx
      exact SeqAt.canLay_of_shaped (sh_nm (hj n hn))
    · have : PyData.depthAll (js.map fun j => PyData.str (nm j)) ≤ 0 := depthAll_mem.mpr fun x hx => by
        obtain ⟨n, _, rfl⟩ := List.mem_map.mp hx
        exact Nat.le_refl _
      omega))).to (congrArg PyData.bool (any_nm hk js hj))
theorem ve_inNmT {k : Nat} (js : List Nat) {t2 : TE} (h : VE C te Γ (Is (.str (nm k)))) (hk : k < 12) (h2 : VE C t2 Γ (Is (.tuple (js.map fun j => .str (nm j))))) (hj : ∀ j ∈ js, j < 12) : VE C (tOp (rInA C.K) te t2) Γ (Is (.bool (js.contains k))) :=
  (ve_opD h.v h2.v (od_inT rfl (by rw [List.all_map, List.all_eq_true]; exact fun _ _ => rfl))).to (congrArg PyData.bool (any_nm hk js hj))
end
theorem vs_is_word (T : Top K mg) {a : D × Nat} (hP : P_is_word a) : VS ⟨K, B, H, none⟩ (t_is_word T) (slots (A_is_word a) 0) { nx := fun _ => R_is_word a .none, rt := R_is_word a } := by
  obtain ⟨x, v⟩ := a
  have hP : v ≤ 64 := hP
  exact vs_ret (call_isIdx (ve_var rfl) (ve_shl1 (ve_var rfl) (by omega)))
theorem ok_is_word (T : Top K mg) : GOk P0 w K mg base CX0 4 T.f_is_word T.fd_is_word ["value", "width"] (sp_is_word K) :=
  pa_ok 0 T.F_is_word sc_is_word (fun _ => rfl) rfl fun cdv A outer s H E hg hr => ⟨_, d_is_word T (ok_is_index T) cdv A outer s H E hg hr, fun B H a hP => vs_is_word T hP⟩
theorem wd_lt {w a b : Nat} (h : Wd w a b) : a < 4294967296 ∧ b < 4294967296 := by
  have : 2 ^ w ≤ 2 ^ 32 := Nat.pow_le_pow_right (by decide) h.w1
  have := h.a1
  have := h.b1
  omega
theorem vs_by_sums (T : Top K mg) {a : Ask} (hP : P_by_sums a) : VS ⟨K, B, H, none⟩ (t_by_sums T) (slots (A_by_sums a) 0) { nx := fun _ => R_by_sums a .none, rt := R_by_sums a } := by
  obtain ⟨k, v, m, n⟩ := a
  obtain ⟨⟨h1, h2⟩, h3⟩ := hP
  have h1 : k < 12 := h1
  have h3 : k < 5 := h3
  obtain ⟨lm, ln⟩ := wd_lt h2
  have lm : m < 4294967296 := lm
  have ln : n < 4294967296 := ln
  show VS ⟨K, B, H, none⟩ (t_by_sums T) [.dat (.str (nm k)), .dat (.int (m : Nat)), .dat (.int (n : Nat))] _
  refine vq_ifD (vt_nm 0 rfl h1) (fun h => vq_leave (vs_retD (ve_opD (ve_var rfl).v (ve_var rfl).v od_add) ?_)) fun n0 => vq_next ?_
  · obtain rfl : k = 0 := eq_of_beq h
    rfl
  refine vq_ifD (vt_nm 1 rfl h1) (fun h => vq_leave (vs_retD (ve_opD (ve_var rfl).v (ve_var rfl).v od_sub) ?_)) fun n1 => vq_next ?_
  · obtain rfl : k = 1 := eq_of_beq h
    rfl
  refine vq_ifD (vt_nm 2 rfl h1) (fun h => vq_leave (vs_retD (ve_opD (ve_var rfl).v (ve_var rfl).v (od_mul (wide_mul (a := 40) (b := 40) (by rw [Int.natAbs_natCast]; omega) (by rw [Int.natAbs_natCast]; omega) (by decide) (by decide) (by decide)))) ?_)) fun n2 => vq_next ?_
  · obtain rfl : k = 2 := eq_of_beq h
    rfl
  have e0 : VT ⟨K, B, H, none⟩ (tTest (tOp (rEqA K) (tVar 2) (tC (.int 0)))) [.dat (.str (nm k)), .dat (.int (m : Nat)), .dat (.int (n : Nat))] (Is (decide ((n : Int) = 0))) := vt_testD (ve_opD (ve_var rfl).v ve_int.v od_eqI)
  refine vq_ifD (vt_nm 3 rfl h1) (fun h => vq_leave ?_) fun n3 => vq_next ?_
  · obtain rfl : k = 3 := eq_of_beq h
    by_cases hn : (n : Int) = 0
    · refine vs_retD (ve_if (R := Is (.int 0)) e0 (fun _ => ve_int) fun h => ?_) ?_
      · rw [decide_eq_true hn] at h
        cases h
      · show _ = PyData.int (if (n : Int) = 0 then 0 else _)
        rw [if_pos hn]
    · refine vs_retD (ve_if (R := Is (.int ((m : Int) / n))) e0 (fun h => ?_) fun _ => ve_opD (ve_var rfl).v (ve_var rfl).v (od_fdiv (by omega) (by omega))) ?_
      · rw [decide_eq_false hn] at h
        cases h
      · show _ = PyData.int (if (n : Int) = 0 then 0 else _)
        rw [if_neg hn]
  · obtain rfl : k = 4 := by
      have := ne_of_beq_false n0
      have := ne_of_beq_false n1
      have := ne_of_beq_false n2
      have := ne_of_beq_false n3
      omega
    by_cases hn : (n : Int) = 0
    · refine vs_retD (ve_if (R := Is (.int (m : Nat))) e0 (fun _ => ve_var rfl) fun h => ?_) ?_
      · rw [decide_eq_true hn] at h
        cases h
      · show _ = PyData.int (if (n : Int) = 0 then _ else _)
        rw [if_pos hn]
    · refine vs_retD (ve_if (R := Is (.int ((m : Int) % n))) e0 (fun h => ?_) fun _ => ve_opD (ve_var rfl).v (ve_var rfl).v (od_mod (by omega))) ?_
      · rw [decide_eq_false hn] at h
        cases h
      · show _ = PyData.int (if (n : Int) = 0 then _ else _)
        rw [if_neg hn]
theorem ok_by_sums (T : Top K mg) : GOk P0 w K mg base CX0 1 T.f_by_sums T.fd_by_sums ["op", "one", "other"] (sp_by_sums K) :=
  pa_ok 0 T.F_by_sums sc_by_sums (fun _ => rfl) rfl fun cdv A outer s H E hg hr => ⟨_, d_by_sums T cdv A outer s H E hg hr, fun B H a hP => vs_by_sums T hP⟩
theorem shr_cast (m s : Nat) : (m : Int) / 2 ^ ((s : Int)).toNat = ((m / 2 ^ s : Nat) : Int) := by
  rw [Int.toNat_natCast, Int.natCast_ediv, Int.natCast_pow]
  rfl
theorem shl_cast (m s : Nat) : (m : Int) * 2 ^ ((s : Int)).toNat = ((m * 2 ^ s : Nat) : Int) := by
  rw [Int.toNat_natCast, Int.natCast_mul, Int.natCast_pow]
  rfl
theorem vs_by_bits (T : Top K mg) {a : Ask} (hP : P_by_bits a) : VS ⟨K, B, H, none⟩ (t_by_bits T) (slots (A_by_bits a) 0) { nx := fun _ => R_by_bits a .none, rt := R_by_bits a } := by
  obtain ⟨k, v, m, n⟩ := a
  obtain ⟨⟨h1, h2⟩, h3, h4⟩ := hP
  have h1 : k < 12 := h1
  have h3 : 5 ≤ k := h3
  have h4 : k < 10 := h4
  obtain ⟨lm, ln⟩ := wd_lt h2
  have lm : m < 4294967296 := lm
  have ln : n < 4294967296 := ln
  have v0 : 1 ≤ v := h2.w0
  have v1 : v ≤ 32 := h2.w1
  show VS ⟨K, B, H, none⟩ (t_by_bits T) [.dat (.str (nm k)), .dat (.int (v : Nat)), .dat (.int (m : Nat)), .dat (.int (n : Nat))] _
  refine vq_ifD (vt_nm 5 rfl h1) (fun h => vq_leave (vs_retD (ve_opD (ve_var rfl).v (ve_var rfl).v (od_I0 fun _ => .int _)) ?_)) fun n0 => vq_next ?_
  · obtain rfl : k = 5 := eq_of_beq h
    show PyData.int _ = PyData.int ((m &&& n : Nat) : Int)
    rw [bitAnd_pp (Int.natCast_nonneg _) (Int.natCast_nonneg _), Int.toNat_natCast, Int.toNat_natCast]
  refine vq_ifD (vt_nm 6 rfl h1) (fun h => vq_leave (vs_retD (ve_opD (ve_var rfl).v (ve_var rfl).v (od_I0 fun _ => .int _)) ?_)) fun n1 => vq_next ?_
  · obtain rfl : k = 6 := eq_of_beq h
    show PyData.int _ = PyData.int ((m ||| n : Nat) : Int)
    rw [Bits.bitOr_pp (Int.natCast_nonneg _) (Int.natCast_nonneg _), Int.toNat_natCast, Int.toNat_natCast]
  refine vq_ifD (vt_nm 7 rfl h1) (fun h => vq_leave (vs_retD (ve_opD (ve_var rfl).v (ve_var rfl).v (od_I0 fun _ => .int _)) ?_)) fun n2 => vq_next ?_
  · obtain rfl : k = 7 := eq_of_beq h
    show PyData.int _ = PyData.int ((m ^^^ n : Nat) : Int)
    rw [Bits.bitXor_pp (Int.natCast_nonneg _) (Int.natCast_nonneg _), Int.toNat_natCast, Int.toNat_natCast]
  have by_ : VE ⟨K, B, H, none⟩ (tOp (rI (fun _ j => 0 < j) fun i j => .int (i % j)) (tVar 3) (tVar 1)) [.dat (.str (nm k)), .dat (.int (v : Nat)), .dat (.int (m : Nat)), .dat (.int (n : Nat))] (Is (.int ((n % v : Nat) : Int))) := (ve_opD (ve_var rfl).v (ve_var rfl).v (od_mod (by omega))).to (congrArg PyData.int (Int.natCast_emod n v).symm)
  have lt : n % v < v := Nat.mod_lt _ (by omega)
  by_cases h8 : k = 8
  · subst h8
    refine vs_retD (ve_if (R := Is (.int ((m * 2 ^ (n % v) : Nat) : Int))) (vt_nm 8 rfl (by decide)) (fun _ => (ve_opD (ve_var rfl).v by_.v (od_shl ⟨by omega, by omega, by rw [Int.natAbs_natCast]; omega⟩)).to (congrArg PyData.int (shl_cast _ _))) fun h => by cases h) rfl
  · obtain rfl : k = 9 := by
      have := ne_of_beq_false n0
      have := ne_of_beq_false n1
      have := ne_of_beq_false n2
      omega
    refine vs_retD (ve_if (R := Is (.int ((m / 2 ^ (n % v) : Nat) : Int))) (vt_nm 8 rfl (by decide)) (fun h => by cases h) fun _ => (ve_opD (ve_var rfl).v by_.v (od_shr (by omega))).to (congrArg PyData.int (shr_cast _ _))) rfl
theorem ok_by_bits (T : Top K mg) : GOk P0 w K mg base CX0 1 T.f_by_bits T.fd_by_bits ["op", "width", "one", "other"] (sp_by_bits K) :=
  pa_ok 0 T.F_by_bits sc_by_bits (fun _ => rfl) rfl fun cdv A outer s H E hg hr => ⟨_, d_by_bits T cdv A outer s H E hg hr, fun B H a hP => vs_by_bits T hP⟩
abbrev names : List Str := ["add", "sub", "mul", "div", "rem", "and", "or", "xor", "shl", "shr", "eq", "lt"]
theorem names_at {k : Nat} (h : k < 12) : names[k]? = some (nm k) ∧ ∀ m, m < k → names[m]? ≠ some (nm k) := by
  have h1 : ∀ a : Fin 12, names[a.val]? = some (nm a.val) ∧ ∀ b : Fin 12, b.val < a.val → names[b.val]? ≠ some (nm a.val) := by decide +kernel
  obtain ⟨g1, g2⟩ := h1 ⟨k, h⟩
  exact ⟨g1, fun m hm => g2 ⟨m, by omega⟩ hm⟩
theorem vs_word_op (T : Top K mg) {a : Ask} (hP : P_word_op a) : VS ⟨K, B, H, none⟩ (t_word_op T) (slots (A_word_op a) 1) { nx := fun _ => R_word_op a .none, rt := R_word_op a } := by
  obtain ⟨k, v, m, n⟩ := a
  obtain ⟨h1, h2⟩ := hP
  have h1 : k < 12 := h1
  have h2 : Wd v m n := h2
  have v1 := h2.w1
  show VS ⟨K, B, H, none⟩ (t_word_op T) [.dat (.str (nm k)), .dat (.int (v : Nat)), .dat (.int (m : Nat)), .dat (.int (n : Nat)), .no] _
  refine vq_ifD (vt_nm 10 rfl h1) (fun h => vq_leave ?_) fun n0 => vq_next ?_
  · obtain rfl : k = 10 := eq_of_beq h
    refine vs_retD (ve_ifD (vt_testD (ve_opD (ve_var rfl).v (ve_var rfl).v od_eqI)) (fun _ => ve_int) fun _ => ve_int) ?_
    show _ = PyData.int (if m = n then 1 else 0)
    by_cases e : m = n
    · rw [if_pos e, if_pos (decide_eq_true (by omega))]
    · rw [if_neg e, if_neg (by rw [decide_eq_false (by omega)]; decide)]
  refine vq_ifD (vt_nm 11 rfl h1) (fun h => vq_leave ?_) fun n1 => vq_next ?_
  · obtain rfl : k = 11 := eq_of_beq h
    refine vs_retD (ve_ifD (vt_testD (ve_opD (ve_var rfl).v (ve_var rfl).v od_lt)) (fun _ => ve_int) fun _ => ve_int) ?_
    show _ = PyData.int (if m < n then 1 else 0)
    by_cases e : m < n
    · rw [if_pos e, if_pos (decide_eq_true (by omega))]
    · rw [if_neg e, if_neg (by rw [decide_eq_false (by omega)]; decide)]
  have n0 := ne_of_beq_false n0
  have n1 := ne_of_beq_false n1
  obtain ⟨i1, i2⟩ := names_at h1
  have idx : VT ⟨K, B, H, none⟩ (tTest (tOp rLtA (tBM K "tuple" (rTIndex K) (tC T.v_OPS) (tCons (tVar 0) tNil)) (tC (.int 5)))) [.dat (.str (nm k)), .dat (.int (v : Nat)), .dat (.int (m : Nat)), .dat (.int (n : Nat)), .no] (Is (decide ((k : Int) < 5))) :=
    vt_testD (ve_opD (ve_tindex (ys := names) T.y_OPS T.c_OPS (ve_var rfl) i1 i2).v ve_int.v od_lt)
  refine vq_asgD (d := .int (if k < 5 then sums k m n else (bitsop k v m n : Nat))) (ve_if idx (fun h => ?_) fun h => ?_) ?_
  · have hk : k < 5 := by have := of_decide_eq_true h.symm; omega
    rw [if_pos hk]
    exact ve_callA (Ask.mk k v m n) (va_consD (ve_var rfl) (va_consD (ve_var rfl) (va_consD (ve_var rfl) va_nil))) ⟨⟨h1, h2⟩, hk⟩
  · have hk : ¬ k < 5 := by have := of_decide_eq_false h.symm; omega
    rw [if_neg hk]
    exact ve_callA (Ask.mk k v m n) (va_consD (ve_var rfl) (va_consD (ve_var rfl) (va_consD (ve_var rfl) (va_consD (ve_var rfl) va_nil)))) ⟨⟨h1, h2⟩, by show 5 ≤ k; omega, by show k < 10; omega⟩
  · have hp := Nat.two_pow_pos v
    refine vs_retD (ve_opD (ve_var rfl).v (ve_shl1 (ve_var rfl) (by omega)).v (od_mod (by omega))) ?_
    show _ = PyData.int (if k = 10 then _ else if k = 11 then _ else _ % 2 ^ v)
    rw [if_neg n0, if_neg n1, Int.natCast_pow]
    rfl
theorem ok_word_op (T : Top K mg) : GOk P0 w K mg base CX0 2 T.f_word_op T.fd_word_op ["op", "width", "one", "other"] (sp_word_op K) :=
  pa_ok 1 T.F_word_op sc_word_op (fun _ => rfl) rfl fun cdv A outer s H E hg hr => ⟨_, d_word_op T (ok_by_sums T) (ok_by_bits T) cdv A outer s H E hg hr, fun B H a hP => vs_word_op T hP⟩
theorem vs_op_width (T : Top K mg) {a : Nat × Nat} (hP : P_op_width a) : VS ⟨K, B, H, none⟩ (t_op_width T) (slots (A_op_width a) 0) { nx := fun _ => R_op_width a .none, rt := R_op_width a } := by
  obtain ⟨k, v⟩ := a
  have hk : k < 12 := hP
  refine vs_retD (ve_ifD (vt_testD (ve_inNmT [10, 11] (ve_var rfl) hk (ve_tupS [nm 10, nm 11]) (by decide))) (fun _ => ve_int) fun _ => ve_var rfl) ?_
  show _ = PyData.int (if k < 10 then (v : Int) else 1)
  by_cases h : k < 10
  · rw [if_pos h, if_neg]
    simp
    omega
  · rw [if_neg h, if_pos]
    simp
    omega
theorem ok_op_width (T : Top K mg) : GOk P0 w K mg base CX0 1 T.f_op_width T.fd_op_width ["op", "width"] (sp_op_width K) :=
  pa_ok 0 T.F_op_width sc_op_width (fun _ => rfl) rfl fun cdv A outer s H E hg hr => ⟨_, d_op_width T cdv A outer s H E hg hr, fun B H a hP => vs_op_width T hP⟩
theorem vs__law_power (T : Top K mg) {a : Nat} (hP : P__law_power a) : VS ⟨K, B, H, none⟩ (t__law_power T) (slots (A__law_power a) 0) { nx := fun _ => R__law_power a .none, rt := R__law_power a } := vs_ret (ve_shl1 (ve_var rfl) hP)
theorem ok__law_power (T : Top K mg) : GOk P0 w K mg base CX0 1 T.f__law_power T.fd__law_power ["many"] (sp__law_power K) :=
  pa_ok 0 T.F__law_power sc__law_power (fun _ => rfl) rfl fun cdv A outer s H E hg hr => ⟨_, d__law_power T cdv A outer s H E hg hr, fun B H a hP => vs__law_power T hP⟩
end
end K03
namespace K03
open PySem PySem.Spec PyProof.Rows L2 Ly
section
variable {P0 : Program} {w : World} {K : PySem.W.Frag} {mg : Str → Option Value} {base : Heap} {B H : Hp} {p q : Addr}
theorem vs__law_digits (T : Top K mg) {a : Nat × Nat} (hP : P__law_digits a) : VS ⟨K, B, H, none⟩ (t__law_digits T) (slots (A__law_digits a) 3) { nx := fun _ => R__law_digits a .none, rt := R__law_digits a } := by
  obtain ⟨n, v⟩ := a
  have hP : v ≤ 1000 := hP
  refine vs_seq (Is [.dat (.int (n : Nat)), .dat (.int (v : Nat)), .dat (.int (n : Nat)), .own [], .no]) (vs_parEL (ve_var rfl) (vl_lstD va_nil) fun x y ex ey => by cases ex; cases ey; rfl) ?_
  rintro Γ rfl
  refine vs_seq (fun Γ => ∃ s4, Γ = [.dat (.int (n : Nat)), .dat (.int (v : Nat)), .dat (.int (n / 2 ^ v : Nat)), .own (nsD (bits n v)), s4]) ?_ ?_
  · refine vs_for (vi_rngM (n := v) (ve_var rfl) (by omega)) fun ds e => ?_
    cases e
    refine ⟨fun i Γ => ∃ s4, Γ = [.dat (.int (n : Nat)), .dat (.int (v : Nat)), .dat (.int (n / 2 ^ i : Nat)), .own (nsD (bits n i)), s4], ⟨.no, by rw [Nat.pow_zero, Nat.div_one]; rfl⟩, ?_, fun Γ' h => by rw [List.length_map, List.length_range] at h; exact h⟩
    rintro i d Γ' hd ⟨s4, rfl⟩
    have hi : i < v := by
      have := (List.getElem?_eq_some_iff.mp hd).1
      rw [List.length_map, List.length_range] at this
      exact this
    refine ⟨_, _, vg_name, ?_⟩
    refine vq_app rfl ((ve_opD (ve_int1 (ve_var rfl)).v ve_int.v (od_mod (by decide))).to (y := .int ((n / 2 ^ i % 2 : Nat) : Int)) rfl) (by rw [List.length_map, bits_len]; omega) fun d' ed => ?_
    cases ed
    refine vs_asgD ((ve_opD (ve_var rfl).v ve_int.v (od_fdiv (by decide) (by decide))).to (y := .int ((n / 2 ^ i / 2 : Nat) : Int)) rfl) ⟨.dat d, ?_⟩
    have e1 : n / 2 ^ i / 2 = n / 2 ^ (i + 1) := by rw [Nat.div_div_eq_div_mul, Nat.pow_succ]
    have e2 : nsD (bits n (i + 1)) = nsD (bits n i) ++ [.int ((n / 2 ^ i % 2 : Nat) : Int)] := by rw [bits_last, nsD, List.map_append]; rfl
    rw [e2, ← e1]
    rfl
  · rintro Γ ⟨s4, rfl⟩
    exact vs_retOwn 3 rfl rfl
theorem ok__law_digits (T : Top K mg) : GOk P0 w K mg base CX0 1 T.f__law_digits T.fd__law_digits ["number", "width"] (sp__law_digits K) :=
  pa_ok 3 T.F__law_digits sc__law_digits (fun _ => rfl) rfl fun cdv A outer s H E hg hr => ⟨_, d__law_digits T cdv A outer s H E hg hr, fun B H a hP => vs__law_digits T hP⟩
theorem back_app : ∀ (l : List Nat) (d : Nat), back (l ++ [d]) = back l + d * 2 ^ l.length
  | [], d => by simp [back]
  | x :: l, d => by
    rw [List.cons_append, back, back, back_app l d, List.length_cons, Nat.pow_succ, Nat.mul_add]
    have : 2 * (d * 2 ^ l.length) = d * (2 ^ l.length * 2) := by rw [Nat.mul_left_comm, Nat.mul_comm 2]
    omega
theorem vs__law_back (T : Top K mg) {a : List Nat} (hP : P__law_back a) : VS ⟨K, B, H, none⟩ (t__law_back T) (slots (A__law_back a) 3) { nx := fun _ => R__law_back a .none, rt := R__law_back a } := by
  obtain ⟨hl, hx⟩ := hP
  refine vs_seq (Is [.dat (.list (nsD a)), .dat (.int 0), .dat (.int 1), .no]) (vs_asgG (ve_tupD (va_consD ve_int (va_consD ve_int va_nil))) fun d e => ?_) ?_
  · cases e
    exact ⟨_, _, vg_tup2 vg_name vg_name, rfl⟩
  rintro Γ rfl
  refine vs_seq (fun Γ => ∃ s2 s3, Γ = [.dat (.list (nsD a)), .dat (.int (back a : Nat)), s2, s3]) ?_ ?_
  · refine vs_for (va_listD (ds := nsD a) (ve_var rfl)) fun ds e => ?_
    cases e
    refine ⟨fun i Γ => ∃ s3, Γ = [.dat (.list (nsD a)), .dat (.int (back (a.take i) : Nat)), .dat (.int ((2 ^ i : Nat) : Int)), s3], ⟨.no, rfl⟩, ?_, fun Γ' h => ?_⟩
    · rintro i d Γ' hd ⟨s3, rfl⟩
      rw [List.getElem?_map] at hd
      obtain ⟨x, hx', rfl⟩ := Option.map_eq_some_iff.mp hd
      have hi := (List.getElem?_eq_some_iff.mp hx').1
      have x1 := hx x (List.mem_of_getElem? hx')
      refine ⟨_, _, vg_name, ?_⟩
      have pw : 2 ^ i ≤ 2 ^ 64 := Nat.pow_le_pow_right (by decide) (by omega)
      refine vs_parEE ((ve_opD (ve_var rfl).v (ve_opD (ve_var rfl).v (ve_var rfl).v (od_mul (wide_mul (a := 10) (b := 70) (by rw [Int.natAbs_natCast]; omega) (by rw [Int.natAbs_natCast]; omega) (by decide) (by decide) (by decide)))).v od_add).to (y := .int ((back (a.take i) + x * 2 ^ i : Nat) : Int)) rfl) ((ve_opD (ve_var rfl).v (ve_var rfl).v od_add).to (y := .int ((2 ^ i + 2 ^ i : Nat) : Int)) rfl) fun y z ey ez => ?_
      cases ey
      cases ez
      refine ⟨.dat (.int (x : Nat)), ?_⟩
      have e1 : back (a.take (i + 1)) = back (a.take i) + x * 2 ^ i := by
        rw [List.take_add_one, hx']
        show back (a.take i ++ [x]) = _
        rw [back_app, List.length_take, Nat.min_eq_left (by omega)]
      have e2 : 2 ^ (i + 1) = 2 ^ i + 2 ^ i := by rw [Nat.pow_succ]; omega
      rw [e1, e2]
      rfl
    · rw [List.length_map, List.take_length] at h
      obtain ⟨s3, rfl⟩ := h
      exact ⟨_, _, rfl⟩
  · rintro Γ ⟨s2, s3, rfl⟩
    exact vs_ret (ve_var rfl)
theorem ok__law_back (T : Top K mg) : GOk P0 w K mg base CX0 1 T.f__law_back T.fd__law_back ["digits"] (sp__law_back K) :=
  pa_ok 3 T.F__law_back sc__law_back (fun _ => rfl) rfl fun cdv A outer s H E hg hr => ⟨_, d__law_back T cdv A outer s H E hg hr, fun B H a hP => vs__law_back T hP⟩
abbrev pcs (m t : Nat) : List Nat := (List.range t).map fun i => m * 2 ^ i
theorem pcs_at {m t i : Nat} (h : i < t) : (nsD (pcs m t))[i]? = some (.int ((m * 2 ^ i : Nat) : Int)) := by
  rw [List.getElem?_map, List.getElem?_map, List.getElem?_range h]
  rfl
theorem vs__law_times (T : Top K mg) {a : Nat × Nat × Nat} (hP : P__law_times a) : VS ⟨K, B, H, none⟩ (t__law_times T) (slots (A__law_times a) 5) { nx := fun _ => R__law_times a .none, rt := R__law_times a } := by
  obtain ⟨n, m, v⟩ := a
  obtain ⟨h1, h2⟩ := hP
  have h1 : Wd v n m := h1
  have h2 : 0 < m := h2
  have v1 := h1.w1
  show VS ⟨K, B, H, none⟩ (t__law_times T) [.dat (.int (n : Nat)), .dat (.int (m : Nat)), .dat (.int (v : Nat)), .no, .no, .no, .no, .no] _
  refine vs_seq (Is [.dat (.int (n : Nat)), .dat (.int (m : Nat)), .dat (.int (v : Nat)), .own (nsD (pcs m 1)), .dat (.int ((0 : Nat) : Int)), .dat (.int (n : Nat)), .no, .no]) (vs_par3L ((vl_lstD (va_consD (ve_var rfl) va_nil)).to (by show _ = [PyData.int ((m * 2 ^ 0 : Nat) : Int)]; rw [Nat.pow_zero, Nat.mul_one])) ve_int (ve_var rfl) rfl) ?_
  rintro Γ rfl
  refine vs_seq (fun Γ => ∃ s6, Γ = [.dat (.int (n : Nat)), .dat (.int (m : Nat)), .dat (.int (v : Nat)), .own (nsD (pcs m (v + 1))), .dat (.int ((0 : Nat) : Int)), .dat (.int (n : Nat)), s6, .no]) ?_ ?_
  · refine vs_for (vi_rngM (n := v) (ve_var rfl) (by omega)) fun ds e => ?_
    cases e
    refine ⟨fun i Γ => ∃ s6, Γ = [.dat (.int (n : Nat)), .dat (.int (m : Nat)), .dat (.int (v : Nat)), .own (nsD (pcs m (i + 1))), .dat (.int ((0 : Nat) : Int)), .dat (.int (n : Nat)), s6, .no], ⟨_, rfl⟩, ?_, fun Γ' h => by rw [List.length_map, List.length_range] at h; exact h⟩
    rintro i d Γ' hd ⟨s6, rfl⟩
    have hi : i < v := by
      have := (List.getElem?_eq_some_iff.mp hd).1
      rw [List.length_map, List.length_range] at this
      exact this
    refine ⟨_, _, vg_name, ?_⟩
    have last : atI (nsD (pcs m (i + 1))) (-1) = some (.int ((m * 2 ^ i : Nat) : Int)) := by
      refine atI_neg1 ?_
      rw [List.getLast?_eq_getElem?, List.length_map, List.length_map, List.length_range, Nat.add_sub_cancel]
      exact pcs_at (by omega)
    refine vs_app (i := 3) rfl ((ve_opD (ve_opD (vv_own rfl) (ve_neg ve_int).v (od_ixL last)).v (ve_opD (vv_own rfl) (ve_neg ve_int).v (od_ixL last)).v od_add).to (y := .int ((m * 2 ^ i + m * 2 ^ i : Nat) : Int)) rfl) (by rw [List.length_map, List.length_map, List.length_range]; omega) fun d' ed => ?_
    cases ed
    refine ⟨d |> Sl.dat, ?_⟩
    have e : nsD (pcs m (i + 1 + 1)) = nsD (pcs m (i + 1)) ++ [.int ((m * 2 ^ i + m * 2 ^ i : Nat) : Int)] := by
      have e2 : m * 2 ^ (i + 1) = m * 2 ^ i + m * 2 ^ i := by rw [Nat.pow_succ, ← Nat.mul_assoc]; omega
      rw [pcs, List.range_succ, List.map_append, nsD, List.map_append, ← e2]
      rfl
    rw [e]
    rfl
  rintro Γ ⟨s6, rfl⟩
  refine vs_seq (fun Γ => ∃ f s3 s5 s7, Γ = [.dat (.int (n : Nat)), .dat (.int (m : Nat)), .dat (.int (v : Nat)), s3, .dat (.int (f : Nat)), s5, s6, s7] ∧ f = n / m) ?_ ?_
  · have hr : VI ⟨K, B, H, none⟩ (iAny K (tRevL K (tLstRg (tRg1 (tOp (rAddA K) (tVar 2) (tC (.int 1))))))) [.dat (.int (n : Nat)), .dat (.int (m : Nat)), .dat (.int (v : Nat)), .own (nsD (pcs m (v + 1))), .dat (.int ((0 : Nat) : Int)), .dat (.int (n : Nat)), s6, .no] (Is (nsD (List.range (v + 1))).reverse) :=
      va_listD (vl_revD ((vl_listRg ((ve_opD (ve_var rfl).v ve_int.v od_add).to (y := .int ((v + 1 : Nat) : Int)) rfl) (by omega) (by omega)).to (range_ns (v + 1))).vd).ed
    refine vs_for hr fun ds e => ?_
    cases e
    have hlen : (nsD (List.range (v + 1))).reverse.length = v + 1 := by rw [List.length_reverse, List.length_map, List.length_range]
    refine ⟨fun i Γ => ∃ f r s7, Γ = [.dat (.int (n : Nat)), .dat (.int (m : Nat)), .dat (.int (v : Nat)), .own (nsD (pcs m (v + 1))), .dat (.int (f : Nat)), .dat (.int (r : Nat)), s6, s7] ∧ f * m + r = n ∧ r < m * 2 ^ (v + 1 - i), ⟨0, n, .no, rfl, by omega, ?_⟩, ?_, fun Γ' h => ?_⟩
    · have := h1.a1
      have h3 : 2 ^ v ≤ m * 2 ^ (v + 1) := by
        rw [Nat.pow_succ]
        have : 1 * (2 ^ v * 1) ≤ m * (2 ^ v * 2) := Nat.mul_le_mul (by omega) (Nat.mul_le_mul_left _ (by decide))
        omega
      exact Nat.lt_of_lt_of_le this h3
    · rintro i d Γ' hd ⟨f, r, s7, rfl, g1, g2⟩
      have hi : i < v + 1 := by rw [← hlen]; exact (List.getElem?_eq_some_iff.mp hd).1
      have ed : d = .int ((v - i : Nat) : Int) := by
        rw [List.getElem?_reverse (by rw [List.length_map, List.length_range]; exact hi), List.length_map, List.length_range, List.getElem?_map, List.getElem?_range (by omega)] at hd
        injection hd with hd
        rw [← hd, show v + 1 - 1 - i = v - i by omega]
      subst ed
      refine ⟨_, _, vg_name, ?_⟩
      have pa : ∀ {Γ : List Sl}, Γ[3]? = some (.own (nsD (pcs m (v + 1)))) → Γ[7]? = some (.dat (.int ((v - i : Nat) : Int))) → VE ⟨K, B, H, none⟩ (tOp (rIx K) (tVar 3) (tVar 7)) Γ (Is (.int ((m * 2 ^ (v - i) : Nat) : Int))) := fun h3 h7 => ve_opD (vv_own h3) (ve_var h7).v (od_ixL (atI_pos (pcs_at (by omega))))
      have ep : m * 2 ^ (v + 1 - i) = m * 2 ^ (v - i) + m * 2 ^ (v - i) := by
        rw [show v + 1 - i = v - i + 1 by omega, Nat.pow_succ, ← Nat.mul_assoc]
        omega
      refine vs_ifD (vt_testD (ve_opD (pa rfl rfl).v (ve_var rfl).v od_le)) (fun h => ?_) fun h => ?_
      · have h : m * 2 ^ (v - i) ≤ r := by have := of_decide_eq_true h; omega
        refine vs_parEE ((ve_opD (ve_var rfl).v (pa rfl rfl).v od_sub).to (y := .int ((r - m * 2 ^ (v - i) : Nat) : Int)) (congrArg PyData.int (by omega))) ((ve_opD (ve_var rfl).v (ve_callA (v - i) (va_consD (ve_var rfl) va_nil) (by show v - i ≤ 1000; omega)).v od_add).to (y := .int ((f + 2 ^ (v - i) : Nat) : Int)) rfl) fun y z ey ez => ?_
        cases ey
        cases ez
        refine ⟨f + 2 ^ (v - i), r - m * 2 ^ (v - i), _, rfl, ?_, ?_⟩
        · have : (f + 2 ^ (v - i)) * m = f * m + m * 2 ^ (v - i) := by rw [Nat.add_mul, Nat.mul_comm (2 ^ (v - i))]
          omega
        · exact Nat.lt_of_lt_of_eq (m := m * 2 ^ (v - i)) (by omega) (by rw [show v + 1 - (i + 1) = v - i by omega])
      · have h : ¬ m * 2 ^ (v - i) ≤ r := by have := of_decide_eq_false h; omega
        exact vs_next ⟨f, r, _, rfl, g1, Nat.lt_of_lt_of_eq (m := m * 2 ^ (v - i)) (by omega) (by rw [show v + 1 - (i + 1) = v - i by omega])⟩
    · rw [hlen, Nat.sub_self, Nat.pow_zero, Nat.mul_one] at h
      obtain ⟨f, r, s7, rfl, g1, g2⟩ := h
      refine ⟨f, _, _, _, rfl, (Nat.div_eq_of_lt_le (by omega) ?_).symm⟩
      rw [Nat.add_mul]
      omega
  · rintro Γ ⟨f, s3, s5, s7, rfl, rfl⟩
    exact vs_ret (ve_var rfl)
theorem ok__law_times (T : Top K mg) : GOk P0 w K mg base CX0 2 T.f__law_times T.fd__law_times ["one", "other", "width"] (sp__law_times K) :=
  pa_ok 5 T.F__law_times sc__law_times (fun _ => rfl) rfl fun cdv A outer s H E hg hr => ⟨_, d__law_times T (ok__law_power T) cdv A outer s H E hg hr, fun B H a hP => vs__law_times T hP⟩
end
end K03
namespace K03
open PySem PySem.Spec PyProof.Rows L2 Ly
section
variable {P0 : Program} {w : World} {K : PySem.W.Frag} {mg : Str → Option Value} {base : Heap} {B H : Hp} {p q : Addr}
/-- what the law adds up for the first three ops -/
def argN (k v a b : Nat) : Nat := if k = 0 then a + b else if k = 1 then a + 2 ^ v - b else a * b
theorem wop_arg {k v a b : Nat} (hk : k < 3) (h : Wd v a b) : wop k v a b = ((argN k v a b % 2 ^ v : Nat) : Int) := by
  have hb := h.b1
  have hp : ((2 ^ v : Nat) : Int) = (2 : Int) ^ v := Int.natCast_pow 2 v
  unfold wop argN sums
  rw [if_neg (by omega), if_neg (by omega), if_pos (by omega), ← hp]
  by_cases h0 : k = 0
  · rw [if_pos h0, if_pos h0]
    rfl
  · rw [if_neg h0, if_neg h0]
    by_cases h1 : k = 1
    · rw [if_pos h1, if_pos h1, Int.natCast_emod, Int.natCast_sub (by omega), Int.natCast_add, show (a : Int) + ((2 ^ v : Nat) : Int) - (b : Int) = (a : Int) - b + ((2 ^ v : Nat) : Int) by omega, Int.add_emod_right]
    · rw [if_neg h1, if_neg h1, if_pos (by omega)]
      rfl
theorem wop_div {v a b : Nat} (h : Wd v a b) : wop 3 v a b = ((a / b : Nat) : Int) := by
  have hp : ((2 ^ v : Nat) : Int) = (2 : Int) ^ v := Int.natCast_pow 2 v
  have ha := h.a1
  have hle := Nat.div_le_self a b
  show (if (b : Int) = 0 then 0 else (a : Int) / b) % 2 ^ v = _
  rw [← hp]
  by_cases hb : b = 0
  · subst hb
    rw [if_pos (show ((0 : Nat) : Int) = 0 from rfl), Nat.div_zero]
    rfl
  · rw [if_neg (by omega)]
    show (((a / b) % 2 ^ v : Nat) : Int) = _
    rw [Nat.mod_eq_of_lt (by omega)]
theorem wop_rem {v a b : Nat} (h : Wd v a b) : wop 4 v a b = ((a - b * (a / b) : Nat) : Int) := by
  have hp : ((2 ^ v : Nat) : Int) = (2 : Int) ^ v := Int.natCast_pow 2 v
  have ha := h.a1
  have hm := Nat.mod_le a b
  have e : a - b * (a / b) = a % b := by have := Nat.div_add_mod a b; omega
  rw [e]
  show (if (b : Int) = 0 then (a : Int) else (a : Int) % b) % 2 ^ v = _
  rw [← hp]
  by_cases hb : b = 0
  · subst hb
    rw [if_pos (show ((0 : Nat) : Int) = 0 from rfl), Nat.mod_zero]
    show ((a % 2 ^ v : Nat) : Int) = _
    rw [Nat.mod_eq_of_lt ha]
  · rw [if_neg (by omega)]
    show (((a % b) % 2 ^ v : Nat) : Int) = _
    rw [Nat.mod_eq_of_lt (by omega)]
def wl (k : Nat) : List Nat := if k = 5 then [2] else if k = 6 then [1, 2] else [1]
theorem wop_bits {k v a b : Nat} (h5 : 5 ≤ k) (h8 : k < 8) : wop k v a b = (back (List.zipWith (wants (wl k)) (bits a v) (bits b v)) : Nat) := by
  have hp : ((2 ^ v : Nat) : Int) = (2 : Int) ^ v := Int.natCast_pow 2 v
  unfold wop
  rw [if_neg (by omega), if_neg (by omega), if_neg (by omega), ← hp]
  show ((bitsop k v a b % 2 ^ v : Nat) : Int) = _
  congr 1
  obtain rfl | rfl | rfl : k = 5 ∨ k = 6 ∨ k = 7 := by omega
  · exact (back_zip (wants [2]) (· &&& ·) and_two (fun a b => Nat.and_div_two) v a b).symm
  · exact (back_zip (wants [1, 2]) (· ||| ·) or_two (fun a b => Nat.or_div_two) v a b).symm
  · exact (back_zip (wants [1]) (· ^^^ ·) xor_two (fun a b => Nat.xor_div_two) v a b).symm
theorem wop_shl {v a b : Nat} (h : Wd v a b) : wop 8 v a b = (back ((List.replicate (b % v) 0 ++ bits a v).take v) : Nat) := by
  have hp : ((2 ^ v : Nat) : Int) = (2 : Int) ^ v := Int.natCast_pow 2 v
  have := Nat.mod_lt b (show v > 0 from h.w0)
  rw [back_shl a (by omega)]
  show ((a * 2 ^ (b % v) : Nat) : Int) % 2 ^ v = _
  rw [← hp]
  rfl
theorem wop_shr {v a b : Nat} (h : Wd v a b) : wop 9 v a b = (back ((bits a v ++ List.replicate (b % v) 0).drop (b % v)) : Nat) := by
  have hp : ((2 ^ v : Nat) : Int) = (2 : Int) ^ v := Int.natCast_pow 2 v
  have := Nat.mod_lt b (show v > 0 from h.w0)
  have := Nat.div_le_self a (2 ^ (b % v))
  have := h.a1
  rw [back_shr (by omega) h.a1]
  show ((a / 2 ^ (b % v) : Nat) : Int) % 2 ^ v = _
  rw [← hp]
  show ((a / 2 ^ (b % v) % 2 ^ v : Nat) : Int) = _
  rw [Nat.mod_eq_of_lt (by omega)]
theorem eqv_nums : ∀ a b : List Nat, PyData.eqvAll (nsD a) (nsD b) = (a == b)
  | [], [] => rfl
  | [], _ :: _ => rfl
  | _ :: _, [] => rfl
  | x :: a, y :: b => by
    show PyData.eqvAll (.int (x : Nat) :: nsD a) (.int (y : Nat) :: nsD b) = _
    rw [PyData.eqvAll, eqv_nums a b, PyData.eqv]
    show _ = (x == y && a == b)
    congr 1
    by_cases h : x = y
    · rw [h]; simp
    · rw [beq_eq_false_iff_ne.mpr h, beq_eq_false_iff_ne.mpr (by omega)]
theorem zip_pairs : ∀ (xs ys : List Nat), zipD (nsD xs) (nsD ys) = (List.zip xs ys).map fun z => .tuple [.int (z.1 : Nat), .int (z.2 : Nat)]
  | [], ys => by cases ys <;> rfl
  | x :: xs, [] => rfl
  | x :: xs, y :: ys => by
    show _ :: zipD (nsD xs) (nsD ys) = _ :: _
    rw [zip_pairs xs ys]
    rfl
theorem zip_with (f : Nat → Nat → Nat) : ∀ (xs ys : List Nat), (List.zip xs ys).map (fun z => PyData.int (f z.1 z.2 : Nat)) = nsD (List.zipWith f xs ys)
  | [], ys => by cases ys <;> rfl
  | x :: xs, [] => rfl
  | x :: xs, y :: ys => by
    exact congrArg (fun z => PyData.int (f x y : Nat) :: z) (zip_with f xs ys)
theorem wants_le (ws : List Nat) : ∀ (xs ys : List Nat), ∀ x ∈ List.zipWith (wants ws) xs ys, x ≤ 1
  | [], ys, x, h => by cases ys <;> cases h
  | a :: xs, [], x, h => nomatch h
  | a :: xs, b :: ys, x, h => by
    rcases List.mem_cons.mp h with rfl | h
    · unfold wants
      split <;> omega
    · exact wants_le ws xs ys x h
theorem rep_ns (n : Nat) : (List.replicate n [PyData.int 0]).flatten = nsD (List.replicate n 0) := by
  induction n with
  | zero => rfl
  | succ n ih =>
    exact (congrArg (fun z => PyData.int 0 :: z) ih : _)
theorem call_back {C : Cn} {Γ : List Sl} {te : TE} {l : List Nat} {x : Int} (h : VE C te Γ (Is (.list (nsD l)))) (h1 : l.length ≤ 64) (h2 : ∀ y ∈ l, y ≤ 1) (e : x = (back l : Nat)) : VE C (tCallK (sp__law_back C.K) (fun vs _ => vs) E0 (tCons te tNil) tNil) Γ (fun d => d = .int x) :=
  (ve_callA (g := A__law_back) (P := P__law_back) (R := R__law_back) l (va_consD h va_nil) ⟨h1, h2⟩).imp fun d ed => by
    rw [e]
    exact ed
abbrev GD (k v m n : Nat) (s7 s8 s11 : Sl) : List Sl := [.dat (.str (nm k)), .dat (.int (v : Nat)), .dat (.int (m : Nat)), .dat (.int (n : Nat)), .dat (.list (nsD (bits m v))), .dat (.list (nsD (bits n v))), .dat (.int ((2 ^ v : Nat) : Int)), s7, s8, .no, .no, s11]
set_option maxHeartbeats 1000000 in
theorem vs__law_due (T : Top K mg) {a : Ask} (hP : P__law_due a) : VS ⟨K, B, H, none⟩ (t__law_due T) (slots (A__law_due a) 8) { nx := fun _ => R__law_due a .none, rt := R__law_due a } := by
  obtain ⟨k, v, m, n⟩ := a
  obtain ⟨h1, h2⟩ := hP
  have h1 : k < 12 := h1
  have h2 : Wd v m n := h2
  have v0 := h2.w0
  have v1 := h2.w1
  obtain ⟨lm, ln⟩ := wd_lt h2
  have hp : 2 ^ v ≤ 2 ^ 32 := Nat.pow_le_pow_right (by decide) v1
  show VS ⟨K, B, H, none⟩ (t__law_due T) [.dat (.str (nm k)), .dat (.int (v : Nat)), .dat (.int (m : Nat)), .dat (.int (n : Nat)), .no, .no, .no, .no, .no, .no, .no, .no] { nx := fun _ => PyData.none = .int (wop k v m n), rt := fun d => d = .int (wop k v m n) }
  refine vs_seq (Is [.dat (.str (nm k)), .dat (.int (v : Nat)), .dat (.int (m : Nat)), .dat (.int (n : Nat)), .dat (.list (nsD (bits m v))), .dat (.list (nsD (bits n v))), .dat (.int ((2 ^ v : Nat) : Int)), .no, .no, .no, .no, .no])
    (vs_par3 (ve_callA (m, v) (va_consD (ve_var rfl) (va_consD (ve_var rfl) va_nil)) (by show v ≤ 1000; omega)) (ve_callA (n, v) (va_consD (ve_var rfl) (va_consD (ve_var rfl) va_nil)) (by show v ≤ 1000; omega)) (ve_callA v (va_consD (ve_var rfl) va_nil) (by show v ≤ 1000; omega)) rfl) ?_
  rintro Γ rfl
  -- sums
  refine vq_ifD (vt_testD (ve_inNm [0, 1, 2] (ve_var rfl) h1 (ve_lstS [nm 0, nm 1, nm 2]) (by decide))) (fun h => vq_leave ?_) fun h => vq_next ?_
  · have hk : k < 3 := by
      have h : k = 0 ∨ k = 1 ∨ k = 2 := by simpa using h
      omega
    have arg : VE ⟨K, B, H, none⟩ (tIf (tTest (tOp (rEqA K) (tVar 0) (tC (.str "add")))) (tOp (rAddA K) (tVar 2) (tVar 3)) (tIf (tTest (tOp (rEqA K) (tVar 0) (tC (.str "sub")))) (tOp (rI0 fun i j => .int (i - j)) (tOp (rAddA K) (tVar 2) (tVar 6)) (tVar 3)) (tOp (rI CMulW fun i j => .int (i * j)) (tVar 2) (tVar 3))))
        [.dat (.str (nm k)), .dat (.int (v : Nat)), .dat (.int (m : Nat)), .dat (.int (n : Nat)), .dat (.list (nsD (bits m v))), .dat (.list (nsD (bits n v))), .dat (.int ((2 ^ v : Nat) : Int)), .no, .no, .no, .no, .no] (Is (.int (argN k v m n : Nat))) := by
      refine ve_if (vt_nm 0 rfl h1) (fun h => ?_) fun h => ve_if (vt_nm 1 rfl h1) (fun h' => ?_) fun h' => ?_
      · obtain rfl : k = 0 := eq_of_beq h.symm
        exact (ve_opD (ve_var rfl).v (ve_var rfl).v od_add).to rfl
      · obtain rfl : k = 1 := eq_of_beq h'.symm
        refine (ve_opD (ve_opD (ve_var rfl).v (ve_var rfl).v od_add).v (ve_var rfl).v od_sub).to (congrArg PyData.int ?_)
        have b1 : n < 2 ^ v := h2.b1
        show ((m : Int) + ((2 ^ v : Nat) : Int) - n) = ((m + 2 ^ v - n : Nat) : Int)
        omega
      · obtain rfl : k = 2 := by
          have := ne_of_beq_false h.symm
          have := ne_of_beq_false h'.symm
          omega
        exact (ve_opD (ve_var rfl).v (ve_var rfl).v (od_mul (wide_mul (a := 40) (b := 40) (by rw [Int.natAbs_natCast]; omega) (by rw [Int.natAbs_natCast]; omega) (by decide) (by decide) (by decide)))).to rfl
    refine vs_ret ((ve_callA (bits (argN k v m n) v) (va_consD (ve_callA (argN k v m n, v) (va_consD arg (va_consD (ve_var rfl) va_nil)) (by show v ≤ 1000; omega)) va_nil) ⟨by rw [bits_len]; omega, bits_le _ _⟩).imp fun d e => ?_)
    have e : d = .int (back (bits (argN k v m n) v) : Nat) := e
    rw [e, back_bits, wop_arg hk h2]
  have k3 : 3 ≤ k := by
    have h : ¬ (k = 0 ∨ k = 1 ∨ k = 2) := by simpa using h
    omega
  refine vq_ifD (vt_testD (ve_inNm [3, 4] (ve_var rfl) h1 (ve_lstS [nm 3, nm 4]) (by decide))) (fun h => ?_) fun h => vq_next ?_
  · have hk : k = 3 ∨ k = 4 := by simpa using h
    have le := Nat.div_le_self m n
    have le2 : n * (m / n) ≤ m := Nat.mul_div_le m n
    refine vq_leave (vq_asgD (d := .int ((m / n : Nat) : Int)) (ve_if (vt_testD (ve_opD (ve_var rfl).v ve_int.v od_eqI)) (fun h => ?_) fun h => ?_) ?_)
    · have h : n = 0 := by have := of_decide_eq_true h.symm; omega
      subst h
      exact ve_int.to (by rw [Nat.div_zero]; rfl)
    · have h : n ≠ 0 := by have := of_decide_eq_false h.symm; omega
      exact ve_callA (m, n, v) (va_consD (ve_var rfl) (va_consD (ve_var rfl) (va_consD (ve_var rfl) va_nil))) ⟨h2, by show 0 < n; omega⟩
    · refine vs_ret (ve_if (vt_nm 3 rfl h1) (fun h => ?_) fun h => ?_)
      · obtain rfl : k = 3 := eq_of_beq h.symm
        exact (ve_var rfl).to (congrArg PyData.int (wop_div h2).symm)
      · obtain rfl : k = 4 := by
          have := ne_of_beq_false h.symm
          omega
        refine (ve_opD (ve_var rfl).v (ve_opD (ve_var rfl).v (ve_var rfl).v (od_mul (wide_mul (a := 40) (b := 40) (by rw [Int.natAbs_natCast]; omega) (by rw [Int.natAbs_natCast]; omega) (by decide) (by decide) (by decide)))).v od_sub).to (congrArg PyData.int ?_)
        rw [wop_rem h2, Int.natCast_sub le2, Int.natCast_mul]
  have k5 : 5 ≤ k := by
    have h : ¬ (k = 3 ∨ k = 4) := by simpa using h
    omega
  -- bits
  refine vq_ifD (vt_testD (ve_inNm [5, 6, 7] (ve_var rfl) h1 (ve_lstS [nm 5, nm 6, nm 7]) (by decide))) (fun h => ?_) fun h => vq_next ?_
  · have hk : k = 5 ∨ k = 6 ∨ k = 7 := by simpa using h
    have hd : VE ⟨K, B, H, none⟩ (tDGet (tDisp [((tC (.str "and")), (tLst (tCons (tC (.int 2)) tNil))), ((tC (.str "or")), (tLst (tCons (tC (.int 1)) (tCons (tC (.int 2)) tNil)))), ((tC (.str "xor")), (tLst (tCons (tC (.int 1)) tNil)))]) (tVar 0))
        [.dat (.str (nm k)), .dat (.int (v : Nat)), .dat (.int (m : Nat)), .dat (.int (n : Nat)), .dat (.list (nsD (bits m v))), .dat (.list (nsD (bits n v))), .dat (.int ((2 ^ v : Nat) : Int)), .no, .no, .no, .no, .no] (Is (.list (nsD (wl k)))) := by
      refine ve_dget [(nm 5, tLst (tCons (tC (.int 2)) tNil), .list (nsD [2])), (nm 6, tLst (tCons (tC (.int 1)) (tCons (tC (.int 2)) tNil)), .list (nsD [1, 2])), (nm 7, tLst (tCons (tC (.int 1)) tNil), .list (nsD [1]))] (fun e he => ?_) (by decide) (by decide +kernel) (z := nm k) (t := if k = 5 then tLst (tCons (tC (.int 2)) tNil) else if k = 6 then tLst (tCons (tC (.int 1)) (tCons (tC (.int 2)) tNil)) else tLst (tCons (tC (.int 1)) tNil)) (ve_var rfl) ?_
      · simp only [List.mem_cons, List.not_mem_nil, or_false] at he
        rcases he with rfl | rfl | rfl
        · exact (vl_lstD (va_consD ve_int va_nil)).ed
        · exact (vl_lstD (va_consD ve_int (va_consD ve_int va_nil))).ed
        · exact (vl_lstD (va_consD ve_int va_nil)).ed
      · rcases hk with rfl | rfl | rfl
        · exact .head _
        · exact .tail _ (.head _)
        · exact .tail _ (.tail _ (.head _))
    refine vq_leave (vq_asgD hd ?_)
    have hz : VI ⟨K, B, H, none⟩ (RZ.iZipA K (tCons (tVar 4) (tCons (tVar 5) tNil))) [.dat (.str (nm k)), .dat (.int (v : Nat)), .dat (.int (m : Nat)), .dat (.int (n : Nat)), .dat (.list (nsD (bits m v))), .dat (.list (nsD (bits n v))), .dat (.int ((2 ^ v : Nat) : Int)), .no, .dat (.list (nsD (wl k))), .no, .no, .no]
        (Is ((List.zip (bits m v) (bits n v)).map fun z => .tuple [.int (z.1 : Nat), .int (z.2 : Nat)])) := by
      rw [← zip_pairs]
      exact vi_zip (ve_var rfl) (ve_var rfl)
    refine vs_ret (call_back ((vl_mapM (fun z => .int (wants (wl k) z.1 z.2 : Nat)) hz (by rw [List.length_zip, bits_len, bits_len]; omega) fun z _ => ⟨_, _, vg_tup2 vg_name vg_name, fun j hj => hj, ?_⟩).to (zip_with _ _ _)).ed (by rw [List.length_zipWith, bits_len, bits_len]; omega) (wants_le _ _ _) (wop_bits k5 (by omega)))
    refine (ve_ifD (vt_testD ((ve_opD (ve_opD (ve_var rfl).v (ve_var rfl).v od_add).v (ve_var rfl).v (od_inL (x := .int ((z.1 + z.2 : Nat) : Int)) rfl (shaped_ns (wl k)))).to (congrArg PyData.bool (any_ints (wl k) (z.1 + z.2))))) (fun _ => ve_int) fun _ => ve_int).to ?_
    unfold wants
    split <;> rfl
  have k8 : 8 ≤ k := by
    have h : ¬ (k = 5 ∨ k = 6 ∨ k = 7) := by simpa using h
    omega
  have hby := Nat.mod_lt n (show v > 0 from v0)
  refine vq_asgD ((ve_opD (ve_int1 (ve_var rfl)).v (ve_var rfl).v (od_mod (by omega))).to (y := .int ((n % v : Nat) : Int)) rfl) ?_
  have zeros : ∀ {Γ : List Sl}, Γ[11]? = some (.dat (.int ((n % v : Nat) : Int))) → VL ⟨K, B, H, none⟩ (tOp rRep (tLst (tCons (tC (.int 0)) tNil)) (tVar 11)) Γ (Is (nsD (List.replicate (n % v) 0))) := fun h =>
    (vl_rep (vl_lstD (va_consD ve_int va_nil)) (ve_var h) (by omega) (by omega) (by rw [Int.toNat_natCast]; show 1 * _ ≤ _; omega)).to (by rw [Int.toNat_natCast, rep_ns])
  -- moved
  refine vq_ifD (vt_testD (ve_inNm [8, 9] (ve_var rfl) h1 (ve_lstS [nm 8, nm 9]) (by decide))) (fun h => vq_leave ?_) fun h => vq_next ?_
  · have hk : k = 8 ∨ k = 9 := by simpa using h
    have lz : (nsD (List.replicate (n % v) 0)).length + (nsD (bits m v)).length ≤ 100000 := by
      rw [List.length_map, List.length_map, List.length_replicate, bits_len]
      omega
    have c1 : cut (nsD (List.replicate (n % v) 0) ++ nsD (bits m v)) none (some (v : Int)) = nsD ((List.replicate (n % v) 0 ++ bits m v).take v) := by
      rw [cut_to, ← List.map_append, ← List.map_take]
    have c2 : cut (nsD (bits m v) ++ nsD (List.replicate (n % v) 0)) (some ((n % v : Nat) : Int)) none = nsD ((bits m v ++ List.replicate (n % v) 0).drop (n % v)) := by
      rw [cut_from, ← List.map_append, ← List.map_drop]
    have le1 : ∀ x ∈ List.replicate (n % v) 0 ++ bits m v, x ≤ 1 := fun x hx => by
      rcases List.mem_append.mp hx with hx | hx
      · rw [(List.mem_replicate.mp hx).2]
        decide
      · exact bits_le _ _ x hx
    have le2 : ∀ x ∈ bits m v ++ List.replicate (n % v) 0, x ≤ 1 := fun x hx => by
      rcases List.mem_append.mp hx with hx | hx
      · exact bits_le _ _ x hx
      · rw [(List.mem_replicate.mp hx).2]
        decide
    have hl : VE ⟨K, B, H, none⟩ (tSl (rSlany K) (tOp (rAddA K) (tOp rRep (tLst (tCons (tC (.int 0)) tNil)) (tVar 11)) (tVar 4)) tNoPart (tPart (tVar 1))) (GD k v m n .no .no (.dat (.int ((n % v : Nat) : Int)))) (Is (.list (nsD ((List.replicate (n % v) 0 ++ bits m v).take v)))) :=
      ((vl_slD (vl_opD (zeros rfl).vd (ve_var rfl).v (ol_cat lz)).vd vo_none (vo_someD (ve_var rfl))).to c1).ed
    have hr : VE ⟨K, B, H, none⟩ (tSl (rSlany K) (tOp (rAddA K) (tVar 4) (tOp rRep (tLst (tCons (tC (.int 0)) tNil)) (tVar 11))) (tPart (tVar 11)) tNoPart) (GD k v m n .no .no (.dat (.int ((n % v : Nat) : Int)))) (Is (.list (nsD ((bits m v ++ List.replicate (n % v) 0).drop (n % v))))) :=
      ((vl_slD (vl_opD (ve_var rfl).v (zeros rfl).vd (ol_cat (by omega))).vd (vo_someD (ve_var rfl)) vo_none).to c2).ed
    have ht : VT ⟨K, B, H, none⟩ (tTest (tOp (rEqA K) (tVar 0) (tC (.str (nm 8))))) (GD k v m n .no .no (.dat (.int ((n % v : Nat) : Int)))) (Is (k == 8)) := vt_nm 8 rfl h1
    by_cases e8 : k = 8
    · have sel : VE ⟨K, B, H, none⟩ _ (GD k v m n .no .no (.dat (.int ((n % v : Nat) : Int)))) (Is (.list (nsD ((List.replicate (n % v) 0 ++ bits m v).take v)))) := ve_if ht (fun _ => hl) (tb := tSl (rSlany K) (tOp (rAddA K) (tVar 4) (tOp rRep (tLst (tCons (tC (.int 0)) tNil)) (tVar 11))) (tPart (tVar 11)) tNoPart) fun h => by
        rw [e8] at h
        cases h
      refine vs_ret (call_back sel (by rw [List.length_take]; omega) (fun x hx => le1 x (List.mem_of_mem_take hx)) ?_)
      rw [e8]
      exact wop_shl h2
    · have sel : VE ⟨K, B, H, none⟩ _ (GD k v m n .no .no (.dat (.int ((n % v : Nat) : Int)))) (Is (.list (nsD ((bits m v ++ List.replicate (n % v) 0).drop (n % v))))) := ve_if ht (ta := tSl (rSlany K) (tOp (rAddA K) (tOp rRep (tLst (tCons (tC (.int 0)) tNil)) (tVar 11)) (tVar 4)) tNoPart (tPart (tVar 1))) (fun h => absurd (eq_of_beq h.symm) e8) fun _ => hr
      refine vs_ret (call_back sel (by rw [List.length_drop, List.length_append, bits_len, List.length_replicate]; omega) (fun x hx => le2 x (List.mem_of_mem_drop hx)) ?_)
      obtain rfl : k = 9 := by omega
      exact wop_shr h2
  have hk : k = 10 ∨ k = 11 := by
    have h : ¬ (k = 8 ∨ k = 9) := by simpa using h
    omega
  have a1 : m < 2 ^ v := h2.a1
  have b1 : n < 2 ^ v := h2.b1
  have rev : ∀ (j x : Nat) {Γ : List Sl}, Γ[j]? = some (.dat (.list (nsD (bits x v)))) → VE ⟨K, B, H, none⟩ (tRevL K (tVar j)) Γ (Is (.list ((revI x v).map .int))) := fun j x Γ h => ((vl_revD (ve_var h).v).to (by rw [← List.map_reverse]; exact ns_cast _)).ed
  rcases hk with rfl | rfl
  · refine vs_ret ((ve_ifD (Ly.vt_if (R := Is (decide (m = n))) (vt_nm 10 rfl (by decide)) (fun _ => (vt_testD (ve_opD (ve_var rfl).v (ve_var rfl).v (od_eq (shaped_ns _) (shaped_ns _)))).to ?_) fun h => by cases h) (fun _ => ve_int) fun _ => ve_int).to ?_)
    · show PyData.eqvAll (nsD _) (nsD _) = _
      rw [eqv_nums, bits_eq a1 b1]
    · show _ = PyData.int (if m = n then 1 else 0)
      by_cases e : m = n
      · rw [if_pos e, if_pos (decide_eq_true e)]
      · rw [if_neg e, if_neg (by rw [decide_eq_false e]; decide)]
  · refine vs_ret ((ve_ifD (Ly.vt_if (R := Is (decide (m < n))) (vt_nm 10 rfl (by decide)) (fun h => by cases h) fun _ => (vt_testD (ve_opD (rev 4 m rfl).v (rev 5 n rfl).v od_ltL)).to ?_) (fun _ => ve_int) fun _ => ve_int).to ?_)
    · have l1 : (revI m v).length = v := by rw [List.length_map, List.length_reverse, bits_len]
      have l2 : (revI n v).length = v := by rw [List.length_map, List.length_reverse, bits_len]
      rw [l1, l2, Nat.min_self, decide_eq_false (Nat.lt_irrefl v), lt_bits, Nat.mod_eq_of_lt a1, Nat.mod_eq_of_lt b1]
    · show _ = PyData.int (if m < n then 1 else 0)
      by_cases e : m < n
      · rw [if_pos e, if_pos (decide_eq_true e)]
      · rw [if_neg e, if_neg (by rw [decide_eq_false e]; decide)]
theorem ok__law_due (T : Top K mg) : GOk P0 w K mg base CX0 3 T.f__law_due T.fd__law_due ["op", "width", "one", "other"] (sp__law_due K) :=
  pa_ok 8 T.F__law_due sc__law_due (fun _ => rfl) rfl fun cdv A outer s H E hg hr => ⟨_, d__law_due T (ok__law_digits T) (ok__law_power T) (ok__law_back T) (ok__law_times T) cdv A outer s H E hg hr, fun B H a hP => vs__law_due T hP⟩
end
end K03
namespace K03
open PySem PySem.Spec PyProof.Rows L2 Ly
section
variable {P0 : Program} {w : World} {K : PySem.W.Frag} {mg : Str → Option Value} {base : Heap} {B H : Hp} {p q : Addr}
section
variable {C : Cn} {Γ : List Sl} {R : D → Prop} {A : TA} {te t2 : TE}
abbrev AllR (R : D → Prop) (n : Nat) (ds : List D) : Prop := ds.length = n ∧ ∀ d ∈ ds, R d
theorem va_all0 : VA C tNil Γ (AllR R 0) := va_nil.imp fun ds e => by
  cases e
  exact ⟨rfl, fun _ h => nomatch h⟩
theorem va_all {n : Nat} (h : VE C te Γ R) (k : VA C A Γ (AllR R n)) : VA C (tCons te A) Γ (AllR R (n + 1)) := (va_cons h k).imp fun ds ⟨d, es, e, hd, hl, hs⟩ => by
  subst e
  refine ⟨congrArg (· + 1) hl, fun x hx => ?_⟩
  rcases List.mem_cons.mp hx with rfl | hx
  · exact hd
  · exact hs x hx
/-- one of a display, all of whose elements are of a kind -/
theorem ve_ofAll {n i : Nat} {E : XK} (h0 : Γ[i]? = some .deal) (h : VA C A Γ (AllR R (n + 1))) (hn : n < 1000) : VE C (tCallK (De C.K P_of R_of) (fun vs _ => vs) E (tCons (tVar i) (tCons (tLst A) tNil)) tNil) Γ R :=
  ve_de h0 (va_cons (vl_lst (S := AllR R (n + 1)) h fun ds h => by rw [h.1]; omega).e va_nil) fun ds ⟨d, es, e, ⟨xs, ed, hx⟩, e2⟩ => by
    cases e2
    subst e ed
    refine ⟨⟨xs, Or.inl rfl, fun z => ?_, by rw [hx.1]; omega⟩, fun d hd => hx.2 d (hd xs (Or.inl rfl))⟩
    have := hx.1
    rw [z] at this
    cases this
/-- a number below m -/
abbrev Below (m : Nat) (d : D) : Prop := ∃ n : Nat, d = .int (n : Nat) ∧ n < m
theorem below_is {n m : Nat} (h : VE C te Γ (Is (.int (n : Nat)))) (hn : n < m) : VE C te Γ (Below m) := h.imp fun d e => ⟨n, e, hn⟩
/-- int(x) % m, x a number -/
theorem below_mod {m : Nat} {S : Nat → Prop} (h : VE C te Γ (fun d => ∃ n : Nat, d = .int (n : Nat) ∧ S n)) (h2 : VE C t2 Γ (Is (.int (m : Nat)))) (hm : 0 < m) : VE C (tOp (rI (fun _ j => 0 < j) fun i j => .int (i % j)) (tCB rInt1 (tCons te tNil)) t2) Γ (Below m) :=
  ve_op (ve_int1R (R := fun i => ∃ n : Nat, i = (n : Nat)) (h.imp fun d ⟨n, e, _⟩ => ⟨n, e, n, rfl⟩)).v h2.v fun x y ⟨i, ex, n, ei⟩ ey => by
    subst ex ei ey
    exact (od_mod (by omega)).imp fun d e => ⟨n % m, e, Nat.mod_lt _ hm⟩
end
theorem wop_lt {k v a b : Nat} (h : Wd v a b) : 0 ≤ wop k v a b ∧ wop k v a b < 4294967296 := by
  have hp : ((2 ^ v : Nat) : Int) = (2 : Int) ^ v := Int.natCast_pow 2 v
  have h1 : 2 ^ v ≤ 2 ^ 32 := Nat.pow_le_pow_right (by decide) h.w1
  have h0 := Nat.two_pow_pos v
  unfold wop
  split
  · split <;> omega
  · split
    · split <;> omega
    · rw [← hp]
      have g1 := Int.emod_nonneg (if k < 5 then sums k a b else (bitsop k v a b : Nat)) (show ((2 ^ v : Nat) : Int) ≠ 0 by omega)
      have g2 := Int.emod_lt_of_pos (if k < 5 then sums k a b else (bitsop k v a b : Nat)) (show (0 : Int) < ((2 ^ v : Nat) : Int) by omega)
      omega
abbrev nmsD : List D := names.map .str
theorem nms_is : nmsD = (List.range 12).map fun k => .str (nm k) := rfl
abbrev topsD : D := .tuple [.tuple nmsD, .tuple [.int 1, .int 2, .int 4, .int 8, .int 16, .int 32]]
def badW (v : Nat) (d : D) : Prop := isIdx ((2 ^ v : Nat) : Int) d = false
abbrev G3 (ns : List Int) (s3 s4 s5 s6 s7 s8 : Sl) : List Sl := [.rd (ns.map V.int), .deal, .dat (.tuple nmsD), s3, s4, s5, s6, s7, s8]
theorem vs_law (T : Top K mg) {ns : List Int} (hn : ns.length ≤ 63) : VS ⟨K, H, H, none⟩ (t_law T) (.rd (ns.map V.int) :: List.replicate 8 .no) { nx := fun _ => False, rt := Is (.bool true) } := by
  refine vs_begin (s := 3) (n := 7) hn (k := fun B H p q => ?_)
  refine vq_asgD (ve_tupS names) ?_
  have smT : Sm topsD 2 1000 := smB_is (by decide +kernel)
  refine vq_ifD (x := false) (vt_testD (ve_opD (ve_reprS (d := topsD) (ve_tupD (va_consD (ve_c T.c_OPS) (va_consD (ve_c T.c_WIDTHS) va_nil)) (by show 2 ≤ 100000; decide)).v smT).v (ve_reprS (d := topsD) (ve_tupD (va_consD (ve_var rfl) (va_consD (ve_tupD (va_consD ve_int (va_consD ve_int (va_consD ve_int (va_consD ve_int (va_consD ve_int (va_consD ve_int va_nil))))))) va_nil)) (by show 2 ≤ 100000; decide)).v smT).v (od_neSSame rfl))) (fun h => by cases h) fun _ => vq_next ?_
  refine vs_seq (fun _ => True) ?_ fun Γ _ => vs_retD ve_bl rfl
  refine vs_for (vi_rng1D (n := 5) ve_int) fun ds e => ?_
  refine ⟨fun _ Γ => ∃ s3 s4 s5 s6 s7 s8, Γ = G3 ns s3 s4 s5 s6 s7 s8, ⟨_, _, _, _, _, _, rfl⟩, ?_, fun _ _ => trivial⟩
  rintro i0 d Γ' _ ⟨s3, s4, s5, s6, s7, s8, rfl⟩
  refine ⟨_, _, vg_name, ?_⟩
  refine vq_asg (R := fun d => ∃ v : Nat, d = .int (v : Nat) ∧ 1 ≤ v ∧ v ≤ 32) (ve_ofAll (i := 1) rfl (va_all (ve_int.imp fun d e => ⟨1, e, by decide⟩) (va_all (ve_int.imp fun d e => ⟨2, e, by decide⟩) (va_all (ve_int.imp fun d e => ⟨4, e, by decide⟩) (va_all (ve_int.imp fun d e => ⟨8, e, by decide⟩) (va_all (ve_int.imp fun d e => ⟨16, e, by decide⟩) (va_all (ve_int.imp fun d e => ⟨32, e, by decide⟩) va_all0)))))) (by decide)) fun d' ⟨v, ed, v0, v1⟩ => ?_
  subst ed
  have hp0 := Nat.two_pow_pos v
  have hp1 : 2 ^ v ≤ 2 ^ 32 := Nat.pow_le_pow_right (by decide) v1
  have hp2 : 2 ^ 1 ≤ 2 ^ v := Nat.pow_le_pow_right (by decide) v0
  refine vq_asgD (d := .int ((2 ^ v : Nat) : Int)) (ve_callA v (va_consD (ve_var rfl) va_nil) (by show v ≤ 1000; omega)) ?_
  -- two words
  have sub1 : ∀ {Γ : List Sl}, Γ[5]? = some (.dat (.int ((2 ^ v : Nat) : Int))) → VE ⟨K, B, H, some (p, q)⟩ (tOp (rI0 fun i j => .int (i - j)) (tVar 5) (tC (.int 1))) Γ (Below (2 ^ v)) := fun h => below_is (n := 2 ^ v - 1) ((ve_opD (ve_var h).v ve_int.v od_sub).to (congrArg PyData.int (by omega))) (by omega)
  have any9 : ∀ {Γ : List Sl}, Γ[1]? = some .deal → Γ[5]? = some (.dat (.int ((2 ^ v : Nat) : Int))) → VE ⟨K, B, H, some (p, q)⟩ (tOp (rI (fun _ j => 0 < j) fun i j => .int (i % j)) (tCB rInt1 (tCons (tCallK (sp__law_any K) (fun vs _ => vs) E0 (tCons (tVar 1) (tCons (tC (.int 9)) tNil)) tNil) tNil)) (tVar 5)) Γ (Below (2 ^ v)) := fun h1 h5 =>
    below_mod (S := fun n => n < 9) (ve_anyN (n := 9) h1 ve_int (by decide) (by decide)) (ve_var h5) hp0
  refine vq_asg (R := Below (2 ^ v)) (ve_ofAll (i := 1) rfl (va_all (ve_anyN rfl (ve_var rfl) hp0 (by omega)) (va_all (below_is (n := 0) ve_int hp0) (va_all (sub1 rfl) (va_all (below_is (n := 2 ^ v / 2) ((ve_opD (ve_var rfl).v ve_int.v (od_fdiv (by decide) (by decide))).to rfl) (by omega)) (va_all (any9 rfl rfl) va_all0))))) (by decide)) fun d' ⟨m, ed, hm⟩ => ?_
  subst ed
  refine vq_asg (R := Below (2 ^ v)) (ve_ofAll (i := 1) rfl (va_all (ve_anyN rfl (ve_var rfl) hp0 (by omega)) (va_all (below_is (n := m) (ve_var rfl) hm) (va_all (below_is (n := 0) ve_int hp0) (va_all (sub1 rfl) (va_all (below_mod (S := fun _ => True) ((ve_opD (ve_var rfl).v ve_int.v od_add).imp fun d e => ⟨m + 1, e, trivial⟩) (ve_var rfl) hp0) (va_all (below_mod (S := fun _ => True) ((ve_var rfl).imp fun d e => ⟨v, e, trivial⟩) (ve_var rfl) hp0) (va_all (any9 rfl rfl) va_all0))))))) (by decide)) fun d' ⟨n, ed, hnn⟩ => ?_
  subst ed
  have wd : Wd v m n := ⟨v0, v1, hm, hnn⟩
  refine vq_ifD (x := false) (vt_isnt (a := true) ((ve_kwA (.int (m : Nat), v) (gD := kf_is_word_0_width_value) kd_is_word_0_width_value va_nil (va_consD (ve_var rfl) (va_consD (ve_var rfl) va_nil)) rfl (by show v ≤ 64; omega)).imp fun d e => e.trans (congrArg PyData.bool ?_))) (fun h => by cases h) fun _ => vq_next ?_
  · show (decide (0 ≤ (m : Int)) && decide ((m : Int) < ((2 ^ v : Nat) : Int))) = true
    rw [decide_eq_true (by omega), decide_eq_true (by omega)]
    rfl
  -- the ops
  refine vs_seq (fun Γ => ∃ s3 s8, Γ = G3 ns s3 (.dat (.int (v : Nat))) (.dat (.int ((2 ^ v : Nat) : Int))) (.dat (.int (m : Nat))) (.dat (.int (n : Nat))) s8) ?_ ?_
  · refine vs_for (va_tupD (ds := nmsD) (ve_var rfl)) fun ds e => ?_
    cases e
    refine ⟨fun _ Γ => ∃ s3 s8, Γ = G3 ns s3 (.dat (.int (v : Nat))) (.dat (.int ((2 ^ v : Nat) : Int))) (.dat (.int (m : Nat))) (.dat (.int (n : Nat))) s8, ⟨_, _, rfl⟩, ?_, fun _ h => h⟩
    rintro j0 d' Γ' hd ⟨s3', s8', rfl⟩
    rw [nms_is, List.getElem?_map] at hd
    obtain ⟨k, hk, rfl⟩ := Option.map_eq_some_iff.mp hd
    have hk : k < 12 := List.mem_range.mp (List.mem_of_getElem? hk)
    have ok : (Ask.mk k v m n).Ok := ⟨hk, wd⟩
    have lt := wop_lt (k := k) wd
    have smI : Sm (.int (wop k v m n)) 0 41 := sm_int (by omega)
    refine ⟨_, _, vg_name, ?_⟩
    refine vq_ifD (x := false) (vt_testD (ve_opD (ve_reprS (d := .int (wop k v m n)) (ve_kwA (Ask.mk k v m n) (gD := kf_word_op_0_other_one_width_op) kd_word_op_0_other_one_width_op va_nil (va_consD (ve_var rfl) (va_consD (ve_var rfl) (va_consD (ve_var rfl) (va_consD (ve_var rfl) va_nil)))) rfl ok).v smI).v (ve_reprS (d := .int (wop k v m n)) (ve_callA (Ask.mk k v m n) (va_consD (ve_var rfl) (va_consD (ve_var rfl) (va_consD (ve_var rfl) (va_consD (ve_var rfl) va_nil)))) ok).v smI).v (od_neSSame rfl))) (fun h => by cases h) fun _ => vq_next ?_
    have smW : Sm (.int (if k < 10 then (v : Int) else 1)) 0 41 := sm_int (by split <;> omega)
    refine vs_ifD (x := false) (vt_testD (ve_opD (ve_reprS (d := .int (if k < 10 then (v : Int) else 1)) (ve_kwA (k, v) (gD := kf_op_width_0_width_op) kd_op_width_0_width_op va_nil (va_consD (ve_var rfl) (va_consD (ve_var rfl) va_nil)) rfl hk).v smW).v (ve_reprS (d := .int (if k < 10 then (v : Int) else 1)) ((ve_ifD (vt_testD (ve_inNm [10, 11] (ve_var rfl) hk (ve_lstS [nm 10, nm 11]) (by decide))) (fun _ => ve_int) fun _ => ve_var rfl).to ?_).v smW).v (od_neSSame rfl))) (fun h => by cases h) fun _ => vs_next ⟨_, _, rfl⟩
    by_cases h : k < 10
    · rw [if_pos h, if_neg]
      simp
      omega
    · rw [if_neg h, if_pos]
      simp
      omega
  rintro Γ ⟨s3', s8', rfl⟩
  have bad : ∀ {te : TE} {Γ : List Sl} {x : D}, VE ⟨K, B, H, some (p, q)⟩ te Γ (Is x) → isIdx ((2 ^ v : Nat) : Int) x = false → VE ⟨K, B, H, some (p, q)⟩ te Γ (badW v) := fun h e => h.imp fun d ed => by
    cases ed
    exact e
  have big : ∀ z : Int, ((2 ^ v : Nat) : Int) ≤ z → isIdx ((2 ^ v : Nat) : Int) (.int z) = false := fun z h => by
    show (decide (0 ≤ z) && decide (z < _)) = false
    rw [decide_eq_false (show ¬ z < ((2 ^ v : Nat) : Int) by omega), Bool.and_false]
  have tw : ∀ {Γ : List Sl}, Γ[5]? = some (.dat (.int ((2 ^ v : Nat) : Int))) → VE ⟨K, B, H, some (p, q)⟩ (tOp (rAddA K) (tOp (rI CPow fun i j => .int (i ^ j.toNat)) (tC (.int 10)) (tC (.int 12))) (tVar 5)) Γ (badW v) := fun h =>
    bad (ve_opD (ve_opD (ve_int (i := 10)).v (ve_int (i := 12)).v (od_pow ⟨by decide, by decide, by decide⟩)).v (ve_var h).v od_add) (big _ (by
      have : (0 : Int) ≤ 10 ^ (12 : Int).toNat := by decide
      omega))
  refine vs_ifD (x := false) (vt_isnt (a := false) (ve_callAx (va_cons (ve_ofAll (R := badW v) (i := 1) rfl (va_all (bad (ve_var rfl) (big _ (Int.le_refl _))) (va_all (bad (ve_neg ve_int) rfl) (va_all (bad ve_bl rfl) (va_all (bad ve_bl rfl) (va_all (bad ve_non rfl) (va_all (bad ve_str rfl) (va_all (bad (ve_tupD (va_consD ve_int va_nil)) rfl) (va_all (tw rfl) va_all0)))))))) (by decide)) (va_consD (ve_var rfl) va_nil)) fun ds ⟨x, es, e, hx, e2⟩ => ?_)) (fun h => by cases h) fun _ => vs_next ⟨_, _, _, _, _, _, rfl⟩
  cases e2
  subst e
  exact ⟨(x, v), rfl, by show v ≤ 64; omega, fun d ed => ed.trans (congrArg PyData.bool hx)⟩
theorem ok_law (T : Top K mg) : GOk P0 w K mg base CX0 5 T.f_law T.fd_law ["script"] (sp_law K) :=
  law_ok 8 T.F_law sc_law rfl fun cdv A outer s H E hg hr => ⟨_, d_law T (ok__law_draw T) (ok__law_of T) (ok__law_power T) (ok_is_word T) (ok__law_any T) (ok_word_op T) (ok__law_due T) (ok_op_width T) cdv A outer s H E hg hr, fun H ns hn => vs_law T hn⟩
end
end K03
open PySem PySem.W PyProof.Rows
set_option maxRecDepth 100000 in
set_option maxHeartbeats 0 in
theorem PySem.Challenge.cw_lookanyhow_k03_words_and_ops_holds : PySem.Challenge.rw_lookanyhow_k03_words_and_ops.Holds := by
  w_on; o_law; k_head; (case hw => w_witness2)
  k_fill
  refine Ly.walk_g (l := PySem.Challenge.rw_lookanyhow_k03_words_and_ops) (n := 63) (k := 5) (x := "script") (sp := Ly.Lw) rfl (by decide) rfl ⟨rfl, by decide, by decide⟩ (fun w h Y => PySem.W.kIn_of Y) ?F (fun K H a ns hl hS => ⟨a, ns, rfl, hS, hl, fun _ => rfl⟩)
  case F =>
    intro w mg fa h KX G hmg
    obtain ⟨T, e, hb⟩ : ∃ T : K03.Top _ mg, T.f_law = fa ∧ ∀ (s : Shared) (u : Value), BindsTo s T.fd_law ⟨[u], []⟩ [("script", u)] := by
      refine' K03.top_mk KX G hmg ?a0 ?l0 ?c0 ?k0 ?a1 ?l1 ?c1 ?k1 ?a2 ?l2 ?c2 ?k2 ?a3 ?l3 ?c3 ?k3 ?a4 ?l4 ?c4 ?k4 ?a5 ?l5 ?c5 ?k5 ?a6 ?l6 ?c6 ?k6 ?a7 ?l7 ?c7 ?k7 ?a8 ?l8 ?c8 ?k8 ?a9 ?l9 ?c9 ?k9 ?a10 ?l10 ?c10 ?k10 ?a11 ?l11 ?c11 ?k11 ?a12 ?l12 ?c12 ?k12 ?a13 ?l13 ?c13 ?k13 ?a14 ?l14 ?c14 ?k14 ?a15 ?l15 ?c15 ?k15 ?a16 ?l16 ?c16 ?k16 ?q0 ?p0 ?q1 ?p1 ?z_isinstance ?z_bool ?z_int ?z_abs ?z_len ?z_range ?z_list ?z_zip ?z_repr
      (case a0 => k_is)
      (case l0 => k_is)
      (case c0 => k_is)
      (case k0 => k_is)
      (case a1 => k_is)
      (case l1 => k_is)
      (case c1 => k_is)
      (case k1 => k_is)
      (case a2 => k_is)
      (case l2 => k_is)
      (case c2 => k_is)
      (case k2 => k_is)
      (case a3 => k_is)
      (case l3 => k_is)
      (case c3 => k_is)
      (case k3 => k_is)
      (case a4 => k_is)
      (case l4 => k_is)
      (case c4 => k_is)
      (case k4 => k_is)
      (case a5 => k_is)
      (case l5 => k_is)
      (case c5 => k_is)
      (case k5 => k_is)
      (case a6 => k_is)
      (case l6 => k_is)
      (case c6 => k_is)
      (case k6 => k_is)
      (case a7 => k_is)
      (case l7 => k_is)
      (case c7 => k_is)
      (case k7 => k_is)
      (case a8 => k_is)
      (case l8 => k_is)
      (case c8 => k_is)
      (case k8 => k_is)
      (case a9 => k_is)
      (case l9 => k_is)
      (case c9 => k_is)
      (case k9 => k_is)
      (case a10 => k_is)
      (case l10 => k_is)
      (case c10 => k_is)
      (case k10 => k_is)
      (case a11 => k_is)
      (case l11 => k_is)
      (case c11 => k_is)
      (case k11 => k_is)
      (case a12 => k_is)
      (case l12 => k_is)
      (case c12 => k_is)
      (case k12 => k_is)
      (case a13 => k_is)
      (case l13 => k_is)
      (case c13 => k_is)
      (case k13 => k_is)
      (case a14 => k_is)
      (case l14 => k_is)
      (case c14 => k_is)
      (case k14 => k_is)
      (case a15 => k_is)
      (case l15 => k_is)
      (case c15 => k_is)
      (case k15 => k_is)
      (case a16 => k_is)
      (case l16 => k_is)
      (case c16 => k_is)
      (case k16 => k_is)
      (case q0 => k_is)
      (case p0 => k_is)
      (case q1 => k_is)
      (case p1 => k_is)
      (case z_isinstance => k_is)
      (case z_bool => k_is)
      (case z_int => k_is)
      (case z_abs => k_is)
      (case z_len => k_is)
      (case z_range => k_is)
      (case z_list => k_is)
      (case z_zip => k_is)
      (case z_repr => k_is)
    subst e
    exact ⟨T.fd_law, hb, fun base _ _ => K03.ok_law T⟩
