import PyProof.Rows.All
import Wide.All
import OpenK.AllK
import Wide.FinOn
import HandS.ForMost
import HandS.Wide
import HandS.Walk
import HandS.IsInst
import PyProof.ReprRoads
import HandS.Deep
import HandS.TupAny
import HandS.Style
import HandS.Conv
import PySem.Challenge.RW_lookanyhow_k05_tokens_and_their_places
set_option autoImplicit false
set_option Elab.async false
set_option linter.all false
set_option maxRecDepth 100000
/-! LyA: defs that are called where nothing is being shown (no repr under way): GOk, its body's rule, calls. -/
namespace Ly
open PySem PySem.Spec PyProof.Rows L2

/-- a promise of a def, for calls around which no repr is under way -/
structure GOk (P : Program) (w : World) (K : PySem.W.Frag) (mg : Str → Option Value) (base : Heap) (CX : CXT) (k : Nat) (f : Addr) (fd : FuncData) (ps : List Str) (sp : Sp) : Prop where
  size : ∀ {vs : List V} {H : Hp} {Q : VK} {E : XK}, sp vs H Q E → vs.length = ps.length
  does : ∀ {A : Around} {outer : List Env} {s : Shared} {H : Hp} {args : Args} {us : List Value} {vs : List V} {Q : VK} {E : XK}, A.guards = some [] → Room k A →
    Env0 P w K mg base A outer s H → BindsTo s fd args (ps.zip us) → Vals vs us → sp vs H Q E → codeAny (model P w) A (.call (.ref f) args) (CR CX outer P w H s Q E) s

theorem deeper_guards {A : Around} {e : Env} (h : A.guards = some []) : (A.deeper e).guards = some [] := by
  first | exact h | simpa [Around.deeper] using h

section
variable {P : Program} {w : World} {K : PySem.W.Frag} {mg : Str → Option Value} {base : Heap} {CX : CXT} {k : Nat} {f : Addr} {fd : FuncData} {ps : List Str} {sp : Sp}
theorem GOk.up {j : Nat} (F : GOk P w K mg base CX j f fd ps sp) (h : j ≤ k) : GOk P w K mg base CX k f fd ps sp :=
  ⟨F.size, fun g r => F.does g (r.mono h)⟩
theorem GOk.of (F : FnOk P w K mg base CX k f fd ps sp) : GOk P w K mg base CX k f fd ps sp :=
  ⟨fun q => F.len _ _ _ _ q, fun _ r e0 b rv q => F.run _ _ _ _ _ _ _ _ _ r e0 b rv q⟩
theorem GOk.weaker {sp' : Sp} (F : GOk P w K mg base CX k f fd ps sp) (h : ∀ vs H Q E, sp' vs H Q E → sp vs H Q E) : GOk P w K mg base CX k f fd ps sp' :=
  ⟨fun q => F.size (h _ _ _ _ q), fun g r e0 b rv q => F.does g r e0 b rv (h _ _ _ _ q)⟩

/-- the rule for a def of the text: its body as a term of rules, its reading; around it no repr is under way -/
theorem gok_of {x qual : Str} {st : Stmt} {N : List Str} (F : Fun K x qual st f fd) (S : FnScope N ps (defScope st)) (len : ∀ {vs H Q E}, sp vs H Q E → vs.length = ps.length)
    (body : ∀ (cdv : Value) (A : Around) (outer : List Env) (s : Shared) (H : Hp) (vs : List V) (Q : VK) (E : XK),
      (A.deeper (envOfC qual (defScope st) s.heap.objs.size f cdv)).guards = some [] → Room k (A.deeper (envOfC qual (defScope st) s.heap.objs.size f cdv)) → sp vs H Q E →
      ∃ t, PSs (cxOf CX P w K mg base N qual (defScope st) f cdv A outer s H E) (defBody st) t ∧ t { nx := fun _ H' => Q .non H', rt := Q } (start N vs) H) :
    GOk P w K mg base CX (k + 1) f fd ps sp := by
  obtain ⟨oc, od, kV, doc, pm, an, cdv, ct, osl, rfl, lk, hcd⟩ := F.ex
  constructor
  · exact len
  · intro A outer s H args us vs Q E hg hr e0 hb rv hq
    have n1 := len hq
    have kin : K.In s.heap := PySem.W.Frag.In.keeps e0.mod.kin fun b o e => And.left (e0.bs b o e)
    have nol : s.heap.NoLimit := Heap.NoLimit.keeps e0.mod.nolimit fun b o e => And.left (e0.bs b o e)
    have kinds : ∀ y ∈ ps.zip us, (defScope st).names.lookup y.1 = some .local ∨
        ((defScope st).names.lookup y.1 = some .cell ∧ ((cellsFrom (s.heap.objs.size + 1) (defScope st).names []).lookup y.1).isSome = true) := by
      rintro ⟨n, v⟩ hy
      have hn : n ∈ ps := (List.of_mem_zip hy).1
      cases S.par n hn with
      | inl q => exact Or.inl q
      | inr q => exact Or.inr ⟨q, PySem.W.cellsFrom_some _ _ _ (Or.inl q)⟩
    apply codeAny_call_function hr.depth (kin _ _ lk) rfl S.co S.gen rfl (PySem.W.codeRec_of kin hcd)
    apply hb
    apply wpAny_newFunctionEnv_cells S.kind kinds
    rintro env rfl s1 x
    refine ⟨Heap.NoLimit.keeps nol x.toInCall.keep, codeAny_func ?_⟩
    obtain ⟨t, ht, tq⟩ := body cdv A outer s H vs Q E (deeper_guards hg) (hr.deeper _) hq
    have J := inv_start (CX := CX) (E := E) S hr.hd e0 n1 rv x
    apply wpAny_mono (ht.run [] s1 (start N vs) H _ J tq)
    · intro fl s' hs
      cases fl with
      | ret u =>
        obtain ⟨v, σ', H', J', r', q'⟩ := hs
        exact ⟨v, H', J'.os, J'.bare, J'.base, J'.hok, r', q'⟩
      | next =>
        obtain ⟨σ', H', J', q'⟩ := hs
        exact ⟨V.non, H', J'.os, J'.bare, J'.base, J'.hok, rfl, q'⟩
      | brk =>
        obtain ⟨_, _, _, q'⟩ := hs
        exact q'.elim
      | cont =>
        obtain ⟨_, _, _, q'⟩ := hs
        exact q'.elim
    · intro e s' hs
      exact hs
end

/-! ### calls -/
section
variable {X : Cx} {CX : CXT} {k : Nat} {f : Addr} {fd : FuncData} {ps ks : List Str} {sp : Sp} {E : XK} {x : Str} {p pos : Pos} {e : Expr} {es : List Expr} {kws : List Keyword} {t tk : TA}
  {g : List Value → List Value → List Value} {gV : List V → List V → List V}
/-- the callee runs, arguments by place and by name -/
theorem run_g {pins : List (Addr × Obj)} {σ : L2.St} {H : Hp} {s : Shared} {Q : VK} {us ws : List Value} {vs zs : List V} (F : GOk X.prog X.w X.K X.mg X.base CX k f fd ps sp) (hA : X.A.guards = some []) (hr : Room k X.A)
    (hb : KBinds X.K fd ps ks g gV) (hx : Passes CX X E) (I : Inv X pins σ H s) (r : Vals vs us) (rz : Vals zs ws) (h : sp (gV vs zs) H Q E) :
    wpAny (model X.prog X.w) X.A (call (.ref f) us (ks.zip ws)) (EP X pins σ Q) X.xe s := by
  have rr := hb.rel r rz
  have n1 : (g us ws).length = ps.length := rr.length ▸ F.size h
  apply wpAny_call
  apply codeAny_mono (F.does hA hr I.env0 (hb.to s us ws I.kIn n1) rr h)
  intro o s' q
  rcases o with e | fl
  · exact hx pins σ H s e s' I q
  · cases fl with
    | ret u => exact Inv.after I q
    | next => exact q.elim
    | brk => exact q.elim
    | cont => exact q.elim
/-- f(e, ..) -/
theorem pe_g (F : GOk X.prog X.w X.K X.mg X.base CX k f fd ps sp) (hA : X.A.guards = some []) (hr : Room k X.A) (hg : Gl X x) (hm : X.mg x = some (.ref f)) (hk : PySem.W.keepIn X.K (.ref f) = true)
    (hb : KBinds X.K fd ps [] g gV) (hx : Passes CX X E) (ha : PA X (e :: es) t)
    (hdb : (x == ("__debug__" : Str)) = false := by decide) (he : starEach (e :: es) X.env = (false, eval e X.env) :: starEach es X.env := by rfl) (hpl : (backTo pos (starEach es X.env)).any (·.1) = false := by rfl) :
    PE X (.Call (.Name x p) (e :: es) [] pos) (tCallK sp gV E t tNil) := by
  constructor
  intro pins s σ H Q I h
  apply wpAny_Call_Name_kw
  refine ld_glob I hg hm ?_ hdb
  refine PySem.W.callWith_K (h₀ := X.base) I.ok.mod.kin hk ?_ he hpl
  refine thn (ha.run pos pins s σ H _ I h) ?_
  rintro us s1 ⟨vs, H1, I1, r, q⟩
  exact ⟨I1.kIn, run_g (ws := []) F hA hr hb hx I1 r .nil q⟩
/-- f() -/
theorem pe_g0 (F : GOk X.prog X.w X.K X.mg X.base CX k f fd ps sp) (hA : X.A.guards = some []) (hr : Room k X.A) (hg : Gl X x) (hm : X.mg x = some (.ref f)) (hk : PySem.W.keepIn X.K (.ref f) = true)
    (hb : KBinds X.K fd ps [] g gV) (hx : Passes CX X E) (hdb : (x == ("__debug__" : Str)) = false := by decide) :
    PE X (.Call (.Name x p) [] [] pos) (tCallK sp gV E tNil tNil) := by
  constructor
  intro pins s σ H Q I h
  apply wpAny_Call_Name_kw
  refine ld_glob I hg hm ?_ hdb
  exact PySem.W.callWith_K0 I.kIn hk (run_g (us := []) (ws := []) F hA hr hb hx I .nil .nil h)
/-- f(e, .., k = v, ..) -/
theorem pe_gk (F : GOk X.prog X.w X.K X.mg X.base CX k f fd ps sp) (hA : X.A.guards = some []) (hr : Room k X.A) (hg : Gl X x) (hm : X.mg x = some (.ref f)) (hk : PySem.W.keepIn X.K (.ref f) = true)
    (hb : KBinds X.K fd ps ks g gV) (hx : Passes CX X E) (ha : PA X (e :: es) t) (hw : PK X kws tk)
    (hall : (backToKw pos (keywordEach kws X.env)).all (·.1.isSome) = true := by rfl) (hks : (backToKw pos (keywordEach kws X.env)).filterMap (·.1) = ks := by rfl)
    (hdb : (x == ("__debug__" : Str)) = false := by decide) (he : starEach (e :: es) X.env = (false, eval e X.env) :: starEach es X.env := by rfl)
    (hpl : ((backTo pos (starEach (e :: es) X.env)).any (·.1) || (backToKw pos (keywordEach kws X.env)).any (·.1.isNone)) = false := by rfl) :
    PE X (.Call (.Name x p) (e :: es) kws pos) (tCallK sp gV E t tk) := by
  constructor
  intro pins s σ H Q I h
  apply wpAny_Call_Name_kw
  refine ld_glob I hg hm ?_ hdb
  refine PySem.W.callWith_KW (h₀ := X.base) I.ok.mod.kin hk hall ?_ hpl he
  refine thn (ha.run pos pins s σ H _ I h) ?_
  rintro us s1 ⟨vs, H1, I1, r, q⟩
  refine thn (hw.run pos pins s1 σ H1 _ I1 q) ?_
  rintro ws s2 ⟨zs, H2, I2, rz, q2⟩
  subst hks
  exact ⟨I2.kIn, run_g F hA hr hb hx I2 r rz q2⟩
/-- f(k = v, ..) -/
theorem pe_gk0 (F : GOk X.prog X.w X.K X.mg X.base CX k f fd ps sp) (hA : X.A.guards = some []) (hr : Room k X.A) (hg : Gl X x) (hm : X.mg x = some (.ref f)) (hk : PySem.W.keepIn X.K (.ref f) = true)
    (hb : KBinds X.K fd ps ks g gV) (hx : Passes CX X E) (hw : PK X kws tk)
    (hall : (backToKw pos (keywordEach kws X.env)).all (·.1.isSome) = true := by rfl) (hks : (backToKw pos (keywordEach kws X.env)).filterMap (·.1) = ks := by rfl)
    (hdb : (x == ("__debug__" : Str)) = false := by decide)
    (hpl : ((backTo pos (starEach [] X.env)).any (·.1) || (backToKw pos (keywordEach kws X.env)).any (·.1.isNone)) = false := by rfl) :
    PE X (.Call (.Name x p) [] kws pos) (tCallK sp gV E tNil tk) := by
  constructor
  intro pins s σ H Q I h
  apply wpAny_Call_Name_kw
  refine ld_glob I hg hm ?_ hdb
  refine PySem.W.callWith_KW0 (h₀ := X.base) I.ok.mod.kin hk hall ?_ hpl
  refine thn (hw.run pos pins s σ H _ I h) ?_
  rintro ws s2 ⟨zs, H2, I2, rz, q2⟩
  subst hks
  exact ⟨I2.kIn, run_g (us := []) F hA hr hb hx I2 .nil rz q2⟩
end

/-! ### how arguments bind -/
section
variable {K : PySem.W.Frag} {x qual : Str} {st : Stmt} {f : Addr} {fd : FuncData} {ps : List Str}
/-- by place alone -/
theorem binds_pos (F : Fun K x qual st f fd) (h : ∀ (kV doc pm : Value) (an : Option Addr) (cdv ct : Value) (us : List Value), us.length = ps.length →
      bindArgs (PySem.W.fnOf x qual (defArgs st) (defBody st) (defScope st) .none kV doc pm an cdv ct) ⟨us, []⟩ = pure (ps.zip us)) : KBinds K fd ps [] (fun us _ => us) (fun vs _ => vs) := by
  obtain ⟨oc, od, kV, doc, pm, an, cdv, ct, osl, rfl, lk, hcd⟩ := F.ex
  exact ⟨fun s us ws _ n => .of_eq (by simpa using h kV doc pm an cdv ct us n), fun r _ => r⟩
/-- n by place, the rest by names; g puts them in the parameters' order -/
theorem binds_kw (F : Fun K x qual st f fd) (ks : List Str) (g : {α : Type} → List α → List α → List α) (hrel : ∀ {vs zs : List V} {us ws : List Value}, Vals vs us → Vals zs ws → Vals (g vs zs) (g us ws))
    (h : ∀ (kV doc pm : Value) (an : Option Addr) (cdv ct : Value) (us ws : List Value), (g us ws).length = ps.length →
      bindArgs (PySem.W.fnOf x qual (defArgs st) (defBody st) (defScope st) .none kV doc pm an cdv ct) ⟨us, ks.zip ws⟩ = pure (ps.zip (g us ws))) : KBinds K fd ps ks (fun us ws => g us ws) (fun vs zs => g vs zs) := by
  obtain ⟨oc, od, kV, doc, pm, an, cdv, ct, osl, rfl, lk, hcd⟩ := F.ex
  exact ⟨fun s us ws _ n => .of_eq (h kV doc pm an cdv ct us ws n), hrel⟩
end
end Ly

/-! LyB: data of any depth in the heap, frames of data (Sl, Fm), what a reading gives as data (VE, VT, VA, VL, VV, VI, VG, VS). -/
namespace Ly
open PySem PySem.Spec PyProof.Rows L2

abbrev D := PyData

mutual
/-- a value stands for data in the heap: lists are tracked (or known to the object), tuples may be of the written part too -/
inductive Dq (K : PySem.W.Frag) (H : Hp) : V → D → Prop where
  | non : Dq K H .non .none
  | bl (b : Bool) : Dq K H (.bl b) (.bool b)
  | int (i : Int) : Dq K H (.int i) (.int i)
  | str (x : Str) : Dq K H (.str x) (.str x)
  | lst {a : Addr} {xs : List V} {ds : List D} (h : Rd H a (.lst xs)) (k : DqAll K H xs ds) : Dq K H (.ref a) (.list ds)
  | tup {a : Addr} {xs : List V} {ds : List D} (h : SqT K H a xs) (k : DqAll K H xs ds) : Dq K H (.ref a) (.tuple ds)
inductive DqAll (K : PySem.W.Frag) (H : Hp) : List V → List D → Prop where
  | nil : DqAll K H [] []
  | cons {v : V} {vs : List V} {d : D} {ds : List D} (h : Dq K H v d) (k : DqAll K H vs ds) : DqAll K H (v :: vs) (d :: ds)
end
mutual
theorem Dq.dp {K : PySem.W.Frag} {H : Hp} : ∀ {v : V} {d : D}, Dq K H v d → Dp K H v d
  | _, _, .non => .non
  | _, _, .bl b => .bl b
  | _, _, .int i => .int i
  | _, _, .str x => .str x
  | _, _, .lst h k => .lst (Or.inl h) (DqAll.dp k)
  | _, _, .tup h k => .tup h (DqAll.dp k)
theorem DqAll.dp {K : PySem.W.Frag} {H : Hp} : ∀ {vs : List V} {ds : List D}, DqAll K H vs ds → DpAll K H vs ds
  | _, _, .nil => .nil
  | _, _, .cons h k => .cons (Dq.dp h) (DqAll.dp k)
end

/-! ### data stays where the heap grows -/
theorem same_rd {H H' : Hp} {a : Addr} {u : HO} (e : Same H H') (h : Rd H a u) : Rd H' a u := by
  cases h with
  | inl h => exact Or.inl (e _ _ h)
  | inr h =>
    obtain ⟨o, h⟩ := h
    exact Or.inr ⟨o, e _ _ h⟩
theorem same_t {K : PySem.W.Frag} {H H' : Hp} {a : Addr} {xs : List V} (e : Same H H') (h : SqT K H a xs) : SqT K H' a xs := by
  cases h with
  | inl h => exact Or.inl (same_rd e h)
  | inr h => exact Or.inr h
theorem same_l {K : PySem.W.Frag} {H H' : Hp} {a : Addr} {xs : List V} (e : Same H H') (h : SqL K H a xs) : SqL K H' a xs := by
  cases h with
  | inl h => exact Or.inl (same_rd e h)
  | inr h => exact Or.inr h
mutual
theorem dp_mono {K : PySem.W.Frag} {H H' : Hp} (e : Same H H') : ∀ {v : V} {d : D}, Dq K H v d → Dq K H' v d
  | _, _, .non => .non
  | _, _, .bl b => .bl b
  | _, _, .int i => .int i
  | _, _, .str x => .str x
  | _, _, .lst h1 h2 => .lst (same_rd e h1) (dpall_mono e h2)
  | _, _, .tup h1 h2 => .tup (same_t e h1) (dpall_mono e h2)
theorem dpall_mono {K : PySem.W.Frag} {H H' : Hp} (e : Same H H') : ∀ {vs : List V} {ds : List D}, DqAll K H vs ds → DqAll K H' vs ds
  | _, _, .nil => .nil
  | _, _, .cons h1 h2 => .cons (dp_mono e h1) (dpall_mono e h2)
end
section
variable {K : PySem.W.Frag} {H : Hp}
theorem dpall_len : ∀ {vs : List V} {ds : List D}, DqAll K H vs ds → vs.length = ds.length
  | _, _, .nil => rfl
  | _, _, .cons _ h => congrArg (· + 1) (dpall_len h)
theorem dpall_get : ∀ {vs : List V} {ds : List D} {i : Nat} {d : D}, DqAll K H vs ds → ds[i]? = some d → ∃ v, vs[i]? = some v ∧ Dq K H v d
  | _, _, _, _, .nil, e => by simp at e
  | _, _, 0, _, .cons h _, e => by
    simp at e
    subst e
    exact ⟨_, rfl, h⟩
  | _, _, i + 1, _, .cons _ h, e => by
    obtain ⟨v, e1, e2⟩ := dpall_get (i := i) h (by simpa using e)
    exact ⟨v, by simpa using e1, e2⟩
theorem dpall_getV : ∀ {vs : List V} {ds : List D} {i : Nat} {v : V}, DqAll K H vs ds → vs[i]? = some v → ∃ d, ds[i]? = some d ∧ Dq K H v d
  | _, _, _, _, .nil, e => by simp at e
  | _, _, 0, _, .cons h _, e => by
    simp at e
    subst e
    exact ⟨_, rfl, h⟩
  | _, _, i + 1, _, .cons _ h, e => by
    obtain ⟨d, e1, e2⟩ := dpall_getV (i := i) h (by simpa using e)
    exact ⟨d, by simpa using e1, e2⟩
theorem dpall_app : ∀ {vs us : List V} {ds es : List D}, DqAll K H vs ds → DqAll K H us es → DqAll K H (vs ++ us) (ds ++ es)
  | _, _, _, _, .nil, h => h
  | _, _, _, _, .cons h1 h2, h => .cons h1 (dpall_app h2 h)
theorem dpall_take : ∀ {vs : List V} {ds : List D} (n : Nat), DqAll K H vs ds → DqAll K H (vs.take n) (ds.take n)
  | _, _, 0, _ => .nil
  | _, _, _ + 1, .nil => .nil
  | _, _, n + 1, .cons h1 h2 => .cons h1 (dpall_take n h2)
theorem dpall_drop : ∀ {vs : List V} {ds : List D} (n : Nat), DqAll K H vs ds → DqAll K H (vs.drop n) (ds.drop n)
  | _, _, 0, h => h
  | _, _, _ + 1, .nil => .nil
  | _, _, n + 1, .cons _ h2 => dpall_drop n h2
theorem dpall_rev : ∀ {vs : List V} {ds : List D}, DqAll K H vs ds → DqAll K H vs.reverse ds.reverse
  | _, _, .nil => .nil
  | _, _, .cons h1 h2 => by
    rw [List.reverse_cons, List.reverse_cons]
    exact dpall_app (dpall_rev h2) (.cons h1 .nil)
theorem dpall_set {v : V} {d : D} (h : Dq K H v d) : ∀ {vs : List V} {ds : List D} (i : Nat), DqAll K H vs ds → DqAll K H (vs.set i v) (ds.set i d)
  | _, _, _, .nil => .nil
  | _, _, 0, .cons _ h2 => .cons h h2
  | _, _, i + 1, .cons h1 h2 => .cons h1 (dpall_set h i h2)
theorem dpall_one {v : V} {d : D} (h : Dq K H v d) : DqAll K H [v] [d] := .cons h .nil
theorem dpall_map {α : Type} (f : α → V) (g : α → D) (h : ∀ x, Dq K H (f x) (g x)) : ∀ xs : List α, DqAll K H (xs.map f) (xs.map g)
  | [] => .nil
  | x :: xs => .cons (h x) (dpall_map f g h xs)
theorem dp_int {v : V} {i : Int} (h : Dq K H v (.int i)) : v = .int i := by cases h; rfl
theorem dp_bl {v : V} {b : Bool} (h : Dq K H v (.bool b)) : v = .bl b := by cases h; rfl
theorem dp_str {v : V} {x : Str} (h : Dq K H v (.str x)) : v = .str x := by cases h; rfl
theorem dp_non {v : V} (h : Dq K H v .none) : v = .non := by cases h; rfl
theorem dp_lst {v : V} {ds : List D} (h : Dq K H v (.list ds)) : ∃ a xs, v = .ref a ∧ SqL K H a xs ∧ DqAll K H xs ds := by
  cases h with
  | lst h1 h2 => exact ⟨_, _, rfl, Or.inl h1, h2⟩
theorem dp_lstR {v : V} {ds : List D} (h : Dq K H v (.list ds)) : ∃ a xs, v = .ref a ∧ Rd H a (.lst xs) ∧ DqAll K H xs ds := by
  cases h with
  | lst h1 h2 => exact ⟨_, _, rfl, h1, h2⟩
theorem dp_tup {v : V} {ds : List D} (h : Dq K H v (.tuple ds)) : ∃ a xs, v = .ref a ∧ SqT K H a xs ∧ DqAll K H xs ds := by
  cases h with
  | tup h1 h2 => exact ⟨_, _, rfl, h1, h2⟩
theorem dpall_ints : ∀ {vs : List V} {ns : List Int}, DqAll K H vs (ns.map PyData.int) → vs = ns.map V.int
  | _, [], .nil => rfl
  | _, n :: ns, .cons h1 h2 => by
    rw [dp_int h1, dpall_ints h2]
    rfl
theorem dpall_strs : ∀ {vs : List V} {ns : List Str}, DqAll K H vs (ns.map PyData.str) → vs = ns.map V.str
  | _, [], .nil => rfl
  | _, n :: ns, .cons h1 h2 => by
    rw [dp_str h1, dpall_strs h2]
    rfl
theorem dpall_bls : ∀ {vs : List V} {ns : List Bool}, DqAll K H vs (ns.map PyData.bool) → vs = ns.map V.bl
  | _, [], .nil => rfl
  | _, n :: ns, .cons h1 h2 => by
    rw [dp_bl h1, dpall_bls h2]
    rfl
end

/-! ### the source of draws: a list of a list of ints and an int -/
def DealAt (H : Hp) (p q : Addr) : Prop := p ≠ q ∧ ∃ (ns : List Int) (b : Int), H p = some (.lst [.ref q, .int b]) ∧ H q = some (.lst (ns.map V.int)) ∧ ns.length ≤ 64 ∧ 0 ≤ b ∧ b < 2147483648
def Md (dl : Option (Addr × Addr)) (a : Addr) : Prop := ∃ p q, dl = some (p, q) ∧ (a = p ∨ a = q)

/-- from one moment to a later one: B is what stands for good, H all; what is not of the source stays -/
structure Stp (dl : Option (Addr × Addr)) (B H B' H' : Hp) : Prop where
  ext : Same B B'
  sub : Same B' H'
  keep : ∀ a o, H a = some o → ¬ Md dl a → H' a = some o
  out : ∀ a, H a ≠ none → B a = none → B' a = none
  deal : ∀ p q, dl = some (p, q) → DealAt H p q → DealAt H' p q

section
variable {dl : Option (Addr × Addr)} {B H B' H' B2 H2 : Hp} {p : Addr} {o : HO}
theorem Stp.refl (s : Same B H) : Stp dl B H B H := ⟨Same.refl B, s, fun _ _ h _ => h, fun _ _ h => h, fun _ _ _ h => h⟩
theorem DealAt.there {q : Addr} (h : DealAt H p q) {a : Addr} (ha : a = p ∨ a = q) : H a ≠ none := by
  obtain ⟨_, ns, b, h1, h2, _⟩ := h
  rcases ha with rfl | rfl
  · rw [h1]
    simp
  · rw [h2]
    simp
/-- what stood still stands, changed or not -/
theorem Stp.there (s : Stp dl B H B' H') (hd : ∀ p q, dl = some (p, q) → DealAt H p q) {a : Addr} (h : H a ≠ none) : H' a ≠ none := by
  by_cases m : Md dl a
  · obtain ⟨p, q, e, m⟩ := m
    exact (s.deal p q e (hd p q e)).there m
  · cases e : H a with
    | none => exact absurd e h
    | some o =>
      rw [s.keep a o e m]
      simp
theorem Stp.trans (hd : ∀ p q, dl = some (p, q) → DealAt H p q) (s : Stp dl B H B' H') (t : Stp dl B' H' B2 H2) : Stp dl B H B2 H2 :=
  ⟨s.ext.trans t.ext, t.sub, fun a o h m => t.keep a o (s.keep a o h m) m, fun a h n => t.out a (s.there hd h) (s.out a h n), fun p q e h => t.deal p q e (s.deal p q e h)⟩
/-- nothing of the source was touched -/
theorem Stp.any (s : Stp none B H B' H') : Stp dl B H B' H' :=
  have k : ∀ a o, H a = some o → H' a = some o := fun a o h => s.keep a o h (fun ⟨_, _, e, _⟩ => nomatch e)
  ⟨s.ext, s.sub, fun a o h _ => k a o h, s.out, fun p q _ h => by
    obtain ⟨ne, ns, b, h1, h2, r⟩ := h
    exact ⟨ne, ns, b, k _ _ h1, k _ _ h2, r⟩⟩
/-- a new object, for good -/
theorem Stp.new (s : Same B H) (h : H p = none) : Stp dl B H (upd B p o) (upd H p o) := by
  have hB : B p = none := s.free h
  have k : ∀ a u, H a = some u → upd H p o a = some u := fun a u e => by
    rw [upd_ne (ne_of_none e h)]
    exact e
  refine ⟨fun a u e => ?_, fun a u e => ?_, fun a u e _ => k a u e, fun a n e => ?_, fun p q _ d => ?_⟩
  · rw [upd_ne (ne_of_none e hB)]
    exact e
  · by_cases ha : a = p
    · subst ha
      rw [upd_same] at e ⊢
      exact e
    · rw [upd_ne ha] at e ⊢
      exact s a u e
  · have ha : a ≠ p := fun z => n (z ▸ h)
    rw [upd_ne ha]
    exact e
  · obtain ⟨ne, ns, b, h1, h2, r⟩ := d
    exact ⟨ne, ns, b, k _ _ h1, k _ _ h2, r⟩
/-- a new object that may still change -/
theorem Stp.newM (s : Same B H) (h : H p = none) : Stp dl B H B (upd H p o) := by
  have k : ∀ a u, H a = some u → upd H p o a = some u := fun a u e => by
    rw [upd_ne (ne_of_none e h)]
    exact e
  refine ⟨Same.refl B, fun a u e => k a u (s a u e), fun a u e _ => k a u e, fun a _ e => e, fun p q _ d => ?_⟩
  obtain ⟨ne, ns, b, h1, h2, r⟩ := d
  exact ⟨ne, ns, b, k _ _ h1, k _ _ h2, r⟩
/-- an object that was new behind H stands for good from now on -/
theorem Stp.fix (s : Stp dl B H B' H') (h : H p = none) (hp : H' p = some o) (hB : B' p = none) : Stp dl B H (upd B' p o) H' := by
  refine ⟨fun a u e => ?_, fun a u e => ?_, s.keep, fun a n e => ?_, s.deal⟩
  · have e' := s.ext a u e
    rw [upd_ne (ne_of_none e' hB)]
    exact e'
  · by_cases ha : a = p
    · subst ha
      rw [upd_same] at e
      rw [hp]
      exact e
    · rw [upd_ne ha] at e
      exact s.sub a u e
  · have ha : a ≠ p := fun z => n (z ▸ h)
    rw [upd_ne ha]
    exact s.out a n e
end

/-! ### slots -/
/-- what a name holds: nothing told | data | a list of one's own, which may still change | the source of draws | a list that is read alone -/
inductive Sl where
  | no | dat (d : D) | own (ds : List D) | deal | rd (vs : List V)

structure Cn where
  K : PySem.W.Frag
  B : Hp
  H : Hp
  dl : Option (Addr × Addr)

def SlOk (C : Cn) (B H : Hp) (o : Option (Option V)) : Sl → Prop
  | .no => True
  | .dat d => ∃ v, o = some (some v) ∧ Dq C.K B v d
  | .own ds => ∃ p vs, o = some (some (.ref p)) ∧ C.H p = none ∧ B p = none ∧ H p = some (.lst vs) ∧ DqAll C.K B vs ds
  | .deal => ∃ p q, C.dl = some (p, q) ∧ o = some (some (.ref p))
  | .rd vs => ∃ a, o = some (some (.ref a)) ∧ SqL C.K B a vs

structure Fm (C : Cn) (B H : Hp) (σ : L2.St) (Γ : List Sl) : Prop where
  st : Stp C.dl C.B C.H B H
  dl : ∀ p q, C.dl = some (p, q) → DealAt C.H p q ∧ C.B p = none ∧ C.B q = none
  len : σ.length = Γ.length
  slot : ∀ (i : Nat) (s : Sl), Γ[i]? = some s → SlOk C B H (σ[i]?) s
  inj : ∀ (i j : Nat) (p : Addr) (ds es : List D), Γ[i]? = some (.own ds) → Γ[j]? = some (.own es) → σ[i]? = some (some (.ref p)) → σ[j]? = some (some (.ref p)) → i = j

section
variable {C : Cn} {B H B' H' : Hp} {σ σ' : L2.St} {Γ Γ' : List Sl} {p q : Addr} {i j : Nat} {d : D} {ds es : List D} {v : V}
theorem Fm.sub (F : Fm C B H σ Γ) : Same B H := F.st.sub
theorem Fm.dlNow (F : Fm C B H σ Γ) : ∀ p q, C.dl = some (p, q) → DealAt H p q := fun p q e => F.st.deal p q e (F.dl p q e).1
theorem Fm.dlOut (F : Fm C B H σ Γ) (e : C.dl = some (p, q)) : B p = none ∧ B q = none := by
  obtain ⟨h1, h2, h3⟩ := F.dl p q e
  exact ⟨F.st.out p (h1.there (Or.inl rfl)) h2, F.st.out q (h1.there (Or.inr rfl)) h3⟩
theorem Fm.newC (F : Fm C B H σ Γ) {a : Addr} (h : H a = none) : C.H a = none := by
  cases e : C.H a with
  | none => rfl
  | some o => exact absurd h (F.st.there (fun p q e => (F.dl p q e).1) (by rw [e]; simp))
theorem Fm.notMd (F : Fm C B H σ Γ) {a : Addr} (h : C.H a = none) : ¬ Md C.dl a := by
  rintro ⟨p, q, e, m⟩
  exact (F.dl p q e).1.there m h
theorem Fm.step (F : Fm C B H σ Γ) (s : Stp C.dl B H B' H') : Fm C B' H' σ Γ := by
  refine ⟨F.st.trans (fun p q e => (F.dl p q e).1) s, F.dl, F.len, fun i sl h => ?_, F.inj⟩
  have k := F.slot i sl h
  cases sl with
  | no => trivial
  | dat d =>
    obtain ⟨v, e, h1⟩ := k
    exact ⟨v, e, dp_mono s.ext h1⟩
  | own ds =>
    obtain ⟨p, vs, e, h1, h2, h3, h4⟩ := k
    exact ⟨p, vs, e, h1, s.out p (by rw [h3]; simp) h2, s.keep p _ h3 (F.notMd h1), dpall_mono s.ext h4⟩
  | deal => exact k
  | rd vs =>
    obtain ⟨a, e, h⟩ := k
    exact ⟨a, e, same_l s.ext h⟩
theorem Fm.has (F : Fm C B H σ Γ) (h : Γ[i]? = some (.dat d)) : ∃ v, σ[i]? = some (some v) ∧ Dq C.K B v d := F.slot i _ h
theorem Fm.hasOwn (F : Fm C B H σ Γ) (h : Γ[i]? = some (.own ds)) : ∃ p vs, σ[i]? = some (some (.ref p)) ∧ C.H p = none ∧ B p = none ∧ H p = some (.lst vs) ∧ DqAll C.K B vs ds := F.slot i _ h
theorem Fm.noOwn (F : Fm C B H σ Γ) (hp : H p = none) (h : Γ[i]? = some (.own ds)) : σ[i]? ≠ some (some (.ref p)) := fun e => by
  obtain ⟨p', vs, e', _, _, h3, _⟩ := F.hasOwn h
  rw [e] at e'
  injection e' with e'
  injection e' with e'
  injection e' with e'
  subst e'
  rw [hp] at h3
  cases h3
/-- a name gets data -/
theorem Fm.set (F : Fm C B H σ Γ) (h : Dq C.K B v d) : Fm C B H (σ.set i (some v)) (Γ.set i (.dat d)) := by
  refine ⟨F.st, F.dl, by rw [List.length_set, List.length_set]; exact F.len, fun j sl e => ?_, fun a b p ds es h1 h2 h3 h4 => ?_⟩
  · by_cases hj : i = j
    · subst hj
      have hl : i < Γ.length := by
        have := (List.getElem?_eq_some_iff.mp e).1
        rw [List.length_set] at this
        exact this
      rw [List.getElem?_set_self hl] at e
      cases e
      exact ⟨v, List.getElem?_set_self (by rw [F.len]; exact hl), h⟩
    · rw [List.getElem?_set_ne hj] at e
      rw [List.getElem?_set_ne hj]
      exact F.slot j sl e
  · have na : i ≠ a := fun z => by
      subst z
      have hl : i < Γ.length := by
        have := (List.getElem?_eq_some_iff.mp h1).1
        rw [List.length_set] at this
        exact this
      rw [List.getElem?_set_self hl] at h1
      cases h1
    have nb : i ≠ b := fun z => by
      subst z
      have hl : i < Γ.length := by
        have := (List.getElem?_eq_some_iff.mp h2).1
        rw [List.length_set] at this
        exact this
      rw [List.getElem?_set_self hl] at h2
      cases h2
    rw [List.getElem?_set_ne na] at h1 h3
    rw [List.getElem?_set_ne nb] at h2 h4
    exact F.inj a b p ds es h1 h2 h3 h4
/-- nothing is told of a name any longer -/
theorem Fm.drop (F : Fm C B H σ Γ) (o : Option V) : Fm C B H (σ.set i o) (Γ.set i .no) := by
  refine ⟨F.st, F.dl, by rw [List.length_set, List.length_set]; exact F.len, fun j sl e => ?_, fun a b p ds es h1 h2 h3 h4 => ?_⟩
  · by_cases hj : i = j
    · subst hj
      have hl : i < Γ.length := by
        have := (List.getElem?_eq_some_iff.mp e).1
        rw [List.length_set] at this
        exact this
      rw [List.getElem?_set_self hl] at e
      cases e
      trivial
    · rw [List.getElem?_set_ne hj] at e
      rw [List.getElem?_set_ne hj]
      exact F.slot j sl e
  · have na : i ≠ a := fun z => by
      subst z
      have hl : i < Γ.length := by
        have := (List.getElem?_eq_some_iff.mp h1).1
        rw [List.length_set] at this
        exact this
      rw [List.getElem?_set_self hl] at h1
      cases h1
    have nb : i ≠ b := fun z => by
      subst z
      have hl : i < Γ.length := by
        have := (List.getElem?_eq_some_iff.mp h2).1
        rw [List.length_set] at this
        exact this
      rw [List.getElem?_set_self hl] at h2
      cases h2
    rw [List.getElem?_set_ne na] at h1 h3
    rw [List.getElem?_set_ne nb] at h2 h4
    exact F.inj a b p ds es h1 h2 h3 h4
/-- a name gets a new list of its own -/
theorem Fm.setOwn {vs : List V} (F : Fm C B H σ Γ) (hC : C.H p = none) (hB : B p = none) (hp : H p = some (.lst vs)) (hd : DqAll C.K B vs ds) (hn : ∀ (j : Nat) es, j ≠ i → Γ[j]? = some (.own es) → σ[j]? ≠ some (some (.ref p))) :
    Fm C B H (σ.set i (some (.ref p))) (Γ.set i (.own ds)) := by
  have key : ∀ (j : Nat) es, i ≠ j → (Γ.set i (.own ds))[j]? = some (.own es) → (σ.set i (some (.ref p)))[j]? = some (some (.ref p)) → False := fun j es nj h1 h2 => by
    rw [List.getElem?_set_ne nj] at h1 h2
    exact hn j es (Ne.symm nj) h1 h2
  refine ⟨F.st, F.dl, by rw [List.length_set, List.length_set]; exact F.len, fun j sl e => ?_, fun a b r xs ys h1 h2 h3 h4 => ?_⟩
  · by_cases hj : i = j
    · subst hj
      have hl : i < Γ.length := by
        have := (List.getElem?_eq_some_iff.mp e).1
        rw [List.length_set] at this
        exact this
      rw [List.getElem?_set_self hl] at e
      cases e
      exact ⟨p, vs, List.getElem?_set_self (by rw [F.len]; exact hl), hC, hB, hp, hd⟩
    · rw [List.getElem?_set_ne hj] at e
      rw [List.getElem?_set_ne hj]
      exact F.slot j sl e
  · by_cases ha : i = a
    · by_cases hb : i = b
      · exact ha.symm.trans hb
      · subst ha
        have hl : i < σ.length := by
          have := (List.getElem?_eq_some_iff.mp h3).1
          rw [List.length_set] at this
          exact this
        rw [List.getElem?_set_self hl] at h3
        injection h3 with h3
        injection h3 with h3
        injection h3 with h3
        subst h3
        exact (key b ys hb h2 h4).elim
    · by_cases hb : i = b
      · subst hb
        have hl : i < σ.length := by
          have := (List.getElem?_eq_some_iff.mp h4).1
          rw [List.length_set] at this
          exact this
        rw [List.getElem?_set_self hl] at h4
        injection h4 with h4
        injection h4 with h4
        injection h4 with h4
        subst h4
        exact (key a xs ha h1 h3).elim
      · rw [List.getElem?_set_ne ha] at h1 h3
        rw [List.getElem?_set_ne hb] at h2 h4
        exact F.inj a b r xs ys h1 h2 h3 h4
/-- one's own list changes -/
theorem Fm.mutOwn {us : List V} (F : Fm C B H σ Γ) (hi : Γ[i]? = some (.own ds)) (hs : σ[i]? = some (some (.ref p))) (hd : DqAll C.K B us es) :
    Fm C B (upd H p (.lst us)) σ (Γ.set i (.own es)) := by
  obtain ⟨p', ws, e', hC, hB, hp, hw⟩ := F.hasOwn hi
  rw [hs] at e'
  injection e' with e'
  injection e' with e'
  injection e' with e'
  subst e'
  have hM : ¬ Md C.dl p := F.notMd hC
  have st : Stp C.dl C.B C.H B (upd H p (.lst us)) := by
    refine ⟨F.st.ext, fun a o e => ?_, fun a o e m => ?_, F.st.out, fun r q e dd => ?_⟩
    · rw [upd_ne (ne_of_none e hB)]
      exact F.st.sub a o e
    · rw [upd_ne (ne_of_none e hC)]
      exact F.st.keep a o e m
    · obtain ⟨ne, ns, b, h1, h2, rest⟩ := F.st.deal r q e dd
      have n1 : r ≠ p := fun z => hM ⟨r, q, e, Or.inl z.symm⟩
      have n2 : q ≠ p := fun z => hM ⟨r, q, e, Or.inr z.symm⟩
      exact ⟨ne, ns, b, by rw [upd_ne n1]; exact h1, by rw [upd_ne n2]; exact h2, rest⟩
  refine ⟨st, F.dl, by rw [List.length_set]; exact F.len, fun j sl e => ?_, fun a b r xs ys h1 h2 h3 h4 => ?_⟩
  · by_cases hj : i = j
    · subst hj
      have hl : i < Γ.length := (List.getElem?_eq_some_iff.mp hi).1
      rw [List.getElem?_set_self hl] at e
      cases e
      exact ⟨p, us, hs, hC, hB, upd_same, hd⟩
    · rw [List.getElem?_set_ne hj] at e
      have k := F.slot j sl e
      cases sl with
      | no => trivial
      | dat d => exact k
      | own xs =>
        obtain ⟨r, zs, k1, k2, k3, k4, k5⟩ := k
        have nr : r ≠ p := fun z => by
          subst z
          exact hj (F.inj i j r _ _ hi e hs k1)
        exact ⟨r, zs, k1, k2, k3, by rw [upd_ne nr]; exact k4, k5⟩
      | deal => exact k
      | rd vs => exact k
  · have own : ∀ (c : Nat) zs, (Γ.set i (.own es))[c]? = some (.own zs) → ∃ zs', Γ[c]? = some (.own zs') := fun c zs h => by
      by_cases hc : i = c
      · subst hc
        exact ⟨ds, hi⟩
      · rw [List.getElem?_set_ne hc] at h
        exact ⟨zs, h⟩
    obtain ⟨x1, g1⟩ := own a xs h1
    obtain ⟨x2, g2⟩ := own b ys h2
    exact F.inj a b r x1 x2 g1 g2 h3 h4
/-- one's own list stands for good from now on -/
theorem Fm.freeze (F : Fm C B H σ Γ) (hi : Γ[i]? = some (.own ds)) : ∃ B', Stp C.dl C.B C.H B' H ∧ Same B B' ∧ Fm C B' H σ (Γ.set i (.dat (.list ds))) := by
  obtain ⟨p, vs, hs, hC, hB, hp, hd⟩ := F.hasOwn hi
  have sm : Same B (upd B p (.lst vs)) := fun a o e => by
    rw [upd_ne (ne_of_none e hB)]
    exact e
  have st := F.st.fix hC hp hB
  refine ⟨upd B p (.lst vs), st, sm, st, F.dl, by rw [List.length_set]; exact F.len, fun j sl e => ?_, fun a b r xs ys h1 h2 h3 h4 => ?_⟩
  · by_cases hj : i = j
    · subst hj
      have hl : i < Γ.length := (List.getElem?_eq_some_iff.mp hi).1
      rw [List.getElem?_set_self hl] at e
      cases e
      exact ⟨.ref p, hs, .lst (Or.inl upd_same) (dpall_mono sm hd)⟩
    · rw [List.getElem?_set_ne hj] at e
      have k := F.slot j sl e
      cases sl with
      | no => trivial
      | dat d =>
        obtain ⟨v, k1, k2⟩ := k
        exact ⟨v, k1, dp_mono sm k2⟩
      | own xs =>
        obtain ⟨r, zs, k1, k2, k3, k4, k5⟩ := k
        have nr : r ≠ p := fun z => by
          subst z
          exact hj (F.inj i j r _ _ hi e hs k1)
        exact ⟨r, zs, k1, k2, by rw [upd_ne nr]; exact k3, k4, dpall_mono sm k5⟩
      | deal => exact k
      | rd vs =>
        obtain ⟨a, k1, k2⟩ := k
        exact ⟨a, k1, same_l sm k2⟩
  · have na : i ≠ a := fun z => by
      subst z
      have hl : i < Γ.length := (List.getElem?_eq_some_iff.mp hi).1
      rw [List.getElem?_set_self hl] at h1
      cases h1
    have nb : i ≠ b := fun z => by
      subst z
      have hl : i < Γ.length := (List.getElem?_eq_some_iff.mp hi).1
      rw [List.getElem?_set_self hl] at h2
      cases h2
    rw [List.getElem?_set_ne na] at h1
    rw [List.getElem?_set_ne nb] at h2
    exact F.inj a b r xs ys h1 h2 h3 h4
end
end Ly

/-! LyC: what a reading gives as data: VE, VV, VL, VA, VW, VT, VO, VI, VG, VS, and their rules. -/
namespace Ly
open PySem PySem.Spec PyProof.Rows L2

/-- just this one -/
abbrev Is {α : Type} (x : α) : α → Prop := fun y => y = x

/-- a value that stands for data: for good, or a list that may change later -/
def Vw (C : Cn) (B H : Hp) (v : V) (d : D) : Prop :=
  Dq C.K B v d ∨ ∃ p vs ds, v = .ref p ∧ d = .list ds ∧ C.H p = none ∧ H p = some (.lst vs) ∧ DqAll C.K B vs ds
inductive VwAll (C : Cn) (B H : Hp) : List V → List D → Prop where
  | nil : VwAll C B H [] []
  | cons {v : V} {d : D} {vs : List V} {ds : List D} : Vw C B H v d → VwAll C B H vs ds → VwAll C B H (v :: vs) (d :: ds)
section
variable {C : Cn} {B H B' H' : Hp} {σ : L2.St} {Γ : List Sl} {v : V} {d : D}
theorem Vw.step (F : Fm C B H σ Γ) (s : Stp C.dl B H B' H') (h : Vw C B H v d) : Vw C B' H' v d := by
  rcases h with h | ⟨p, vs, ds, rfl, rfl, h1, h2, h3⟩
  · exact Or.inl (dp_mono s.ext h)
  · exact Or.inr ⟨p, vs, ds, rfl, rfl, h1, s.keep p _ h2 (F.notMd h1), dpall_mono s.ext h3⟩
theorem VwAll.step (F : Fm C B H σ Γ) (s : Stp C.dl B H B' H') : ∀ {vs : List V} {ds : List D}, VwAll C B H vs ds → VwAll C B' H' vs ds
  | _, _, .nil => .nil
  | _, _, .cons h t => .cons (h.step F s) (VwAll.step F s t)
theorem Vw.now (e : Same B H) (h : Vw C B H v d) : Dq C.K H v d := by
  rcases h with h | ⟨p, vs, ds, rfl, rfl, h1, h2, h3⟩
  · exact dp_mono e h
  · exact .lst (Or.inl h2) (dpall_mono e h3)
theorem Vw.int {i : Int} (h : Vw C B H v (.int i)) : v = .int i := by
  rcases h with h | ⟨_, _, _, _, e, _⟩
  · exact dp_int h
  · cases e
theorem Vw.str {x : Str} (h : Vw C B H v (.str x)) : v = .str x := by
  rcases h with h | ⟨_, _, _, _, e, _⟩
  · exact dp_str h
  · cases e
theorem Vw.bl {x : Bool} (h : Vw C B H v (.bool x)) : v = .bl x := by
  rcases h with h | ⟨_, _, _, _, e, _⟩
  · exact dp_bl h
  · cases e
theorem Vw.non (h : Vw C B H v .none) : v = .non := by
  rcases h with h | ⟨_, _, _, _, e, _⟩
  · exact dp_non h
  · cases e
theorem Vw.tup {ds : List D} (e : Same B H) (h : Vw C B H v (.tuple ds)) : ∃ a xs, v = .ref a ∧ SqT C.K H a xs ∧ DqAll C.K B xs ds := by
  rcases h with h | ⟨_, _, _, _, z, _⟩
  · obtain ⟨a, xs, h1, h2, h3⟩ := dp_tup h
    exact ⟨a, xs, h1, same_t e h2, h3⟩
  · cases z
theorem Vw.lst {ds : List D} (e : Same B H) (h : Vw C B H v (.list ds)) : ∃ a xs, v = .ref a ∧ SqL C.K H a xs ∧ DqAll C.K B xs ds := by
  rcases h with h | ⟨p, vs, es, h1, z, _, h2, h3⟩
  · obtain ⟨a, xs, h1, h2, h3⟩ := dp_lst h
    exact ⟨a, xs, h1, same_l e h2, h3⟩
  · cases z
    exact ⟨p, vs, h1, Or.inl (Or.inl h2), h3⟩
end

theorem Vw.lstR {C : Cn} {B H : Hp} {v : V} {ds : List D} (e : Same B H) (h : Vw C B H v (.list ds)) : ∃ a xs, v = .ref a ∧ Rd H a (.lst xs) ∧ DqAll C.K B xs ds := by
  rcases h with h | ⟨p, vs, es, h1, z, _, h2, h3⟩
  · obtain ⟨a, xs, h1, h2, h3⟩ := dp_lstR h
    exact ⟨a, xs, h1, same_rd e h2, h3⟩
  · cases z
    exact ⟨p, vs, h1, Or.inl h2, h3⟩

/-! ### what a reading gives -/
def VE (C : Cn) (t : TE) (Γ : List Sl) (R : D → Prop) : Prop := ∀ B H σ, Fm C B H σ Γ → ∀ Q : VK, (∀ d v B' H', R d → Stp C.dl B H B' H' → Dq C.K B' v d → Q v H') → t σ H Q
def VV (C : Cn) (t : TE) (Γ : List Sl) (R : D → Prop) : Prop := ∀ B H σ, Fm C B H σ Γ → ∀ Q : VK, (∀ d v B' H', R d → Stp C.dl B H B' H' → Vw C B' H' v d → Q v H') → t σ H Q
/-- a new list -/
def VL (C : Cn) (t : TE) (Γ : List Sl) (R : List D → Prop) : Prop := ∀ B H σ, Fm C B H σ Γ → ∀ Q : VK,
  (∀ ds p vs B' H', R ds → Stp C.dl B H B' H' → H p = none → B' p = none → H' p = some (.lst vs) → DqAll C.K B' vs ds → Q (.ref p) H') → t σ H Q
def VA (C : Cn) (t : TA) (Γ : List Sl) (R : List D → Prop) : Prop := ∀ B H σ, Fm C B H σ Γ → ∀ Q : List V → Hp → Prop, (∀ ds vs B' H', R ds → Stp C.dl B H B' H' → DqAll C.K B' vs ds → Q vs H') → t σ H Q
def VW (C : Cn) (t : TA) (Γ : List Sl) (R : List D → Prop) : Prop := ∀ B H σ, Fm C B H σ Γ → ∀ Q : List V → Hp → Prop, (∀ ds vs B' H', R ds → Stp C.dl B H B' H' → VwAll C B' H' vs ds → Q vs H') → t σ H Q
def VT (C : Cn) (t : TT) (Γ : List Sl) (R : Bool → Prop) : Prop := ∀ B H σ, Fm C B H σ Γ → ∀ Q : Bool → Hp → Prop, (∀ b B' H', R b → Stp C.dl B H B' H' → Q b H') → t σ H Q
def VO (C : Cn) (t : TO) (Γ : List Sl) (R : Option Int → Prop) : Prop := ∀ B H σ, Fm C B H σ Γ → ∀ Q : Option Int → Hp → Prop, (∀ b B' H', R b → Stp C.dl B H B' H' → Q b H') → t σ H Q

section
variable {C : Cn} {t ta tb te : TE} {tt tu : TT} {A A' : TA} {Γ : List Sl} {R R' Ra Rb : D → Prop} {d x y z : D} {b c : Bool} {ds es : List D}
theorem VE.imp (h : VE C t Γ R) (i : ∀ d, R d → R' d) : VE C t Γ R' := fun B H σ F Q q => h B H σ F Q fun d v B' H' r s k => q d v B' H' (i d r) s k
theorem VE.to (h : VE C t Γ (Is x)) (e : x = y) : VE C t Γ (Is y) := e ▸ h
theorem VL.imp {S S' : List D → Prop} (h : VL C t Γ S) (i : ∀ d, S d → S' d) : VL C t Γ S' := fun B H σ F Q q => h B H σ F Q fun ds p vs B' H' r s k1 k2 k3 k4 => q ds p vs B' H' (i ds r) s k1 k2 k3 k4
theorem VL.to (h : VL C t Γ (Is ds)) (e : ds = es) : VL C t Γ (Is es) := e ▸ h
theorem VT.imp {S S' : Bool → Prop} (h : VT C tt Γ S) (i : ∀ d, S d → S' d) : VT C tt Γ S' := fun B H σ F Q q => h B H σ F Q fun b B' H' r s => q b B' H' (i b r) s
theorem VT.to (h : VT C tt Γ (Is b)) (e : b = c) : VT C tt Γ (Is c) := e ▸ h
theorem VA.imp {S S' : List D → Prop} (h : VA C A Γ S) (i : ∀ d, S d → S' d) : VA C A Γ S' := fun B H σ F Q q => h B H σ F Q fun d v B' H' r s k => q d v B' H' (i d r) s k
theorem VE.v (h : VE C t Γ R) : VV C t Γ R := fun B H σ F Q q => h B H σ F Q fun d v B' H' r s k => q d v B' H' r s (Or.inl k)
theorem VL.v {S : List D → Prop} (h : VL C t Γ S) : VV C t Γ (fun d => ∃ ds, d = .list ds ∧ S ds) := fun B H σ F Q q => h B H σ F Q fun ds p vs B' H' r s k1 k2 k3 k4 =>
  q _ _ B' H' ⟨ds, rfl, r⟩ s (Or.inr ⟨p, vs, ds, rfl, rfl, F.newC k1, k3, k4⟩)
theorem VL.vd (h : VL C t Γ (Is ds)) : VV C t Γ (Is (.list ds)) := fun B H σ F Q q => h.v B H σ F Q fun d v B' H' r s k => by
  obtain ⟨es, rfl, e⟩ := r
  cases e
  exact q _ _ _ _ rfl s k
theorem VL.e {S : List D → Prop} (h : VL C t Γ S) : VE C t Γ (fun d => ∃ ds, d = .list ds ∧ S ds) := fun B H σ F Q q => h B H σ F Q fun ds p vs B' H' r s k1 k2 k3 k4 =>
  q _ _ (upd B' p (.lst vs)) H' ⟨ds, rfl, r⟩ (s.fix k1 k3 k2) (.lst (Or.inl upd_same) (dpall_mono (fun a o e => by rw [upd_ne (ne_of_none e k2)]; exact e) k4))
theorem VL.ed (h : VL C t Γ (Is ds)) : VE C t Γ (Is (.list ds)) := h.e.imp fun d ⟨es, e1, e2⟩ => by
  cases e2
  exact e1
theorem vv_own {i : Nat} (h : Γ[i]? = some (.own ds)) : VV C (tVar i) Γ (Is (.list ds)) := fun B H σ F Q q => by
  obtain ⟨p, vs, e, h1, h2, h3, h4⟩ := F.hasOwn h
  exact ⟨_, e, q _ _ B H rfl (Stp.refl F.sub) (Or.inr ⟨p, vs, ds, rfl, rfl, h1, h3, h4⟩)⟩
theorem ve_var {i : Nat} (h : Γ[i]? = some (.dat d)) : VE C (tVar i) Γ (Is d) := fun B H σ F Q q => by
  obtain ⟨v, e, k⟩ := F.has h
  exact ⟨v, e, q d v B H rfl (Stp.refl F.sub) k⟩
theorem ve_c {v : V} (h : ∀ B, Dq C.K B v d) : VE C (tC v) Γ (Is d) := fun B H σ F Q q => q d v B H rfl (Stp.refl F.sub) (h B)
theorem ve_int {i : Int} : VE C (tC (.int i)) Γ (Is (.int i)) := ve_c fun _ => .int i
theorem ve_bl {i : Bool} : VE C (tC (.bl i)) Γ (Is (.bool i)) := ve_c fun _ => .bl i
theorem ve_str {i : Str} : VE C (tC (.str i)) Γ (Is (.str i)) := ve_c fun _ => .str i
theorem ve_non : VE C (tC .non) Γ (Is .none) := ve_c fun _ => .non
/-! arguments -/
theorem va_nil : VA C tNil Γ (Is []) := fun B H σ F Q q => q [] [] B H rfl (Stp.refl F.sub) .nil
theorem va_cons {S : List D → Prop} (h : VE C te Γ R) (k : VA C A Γ S) : VA C (tCons te A) Γ (fun l => ∃ d ds, l = d :: ds ∧ R d ∧ S ds) := fun B H σ F Q q =>
  h B H σ F _ fun d v B1 H1 r s1 k1 => k B1 H1 σ (F.step s1) _ fun ds vs B2 H2 r2 s2 k2 => q _ _ B2 H2 ⟨d, ds, rfl, r, r2⟩ (s1.trans F.dlNow s2) (.cons (dp_mono s2.ext k1) k2)
theorem va_consD (h : VE C te Γ (Is d)) (k : VA C A Γ (Is ds)) : VA C (tCons te A) Γ (Is (d :: ds)) := (va_cons h k).imp fun l ⟨d', ds', e, e1, e2⟩ => by
  cases e1
  cases e2
  exact e
theorem vw_nil : VW C tNil Γ (Is []) := fun B H σ F Q q => q [] [] B H rfl (Stp.refl F.sub) .nil
theorem vw_cons {S : List D → Prop} (h : VV C te Γ R) (k : VW C A Γ S) : VW C (tCons te A) Γ (fun l => ∃ d ds, l = d :: ds ∧ R d ∧ S ds) := fun B H σ F Q q =>
  h B H σ F _ fun d v B1 H1 r s1 k1 => k B1 H1 σ (F.step s1) _ fun ds vs B2 H2 r2 s2 k2 => q _ _ B2 H2 ⟨d, ds, rfl, r, r2⟩ (s1.trans F.dlNow s2) (.cons (k1.step (F.step s1) s2) k2)
theorem VW.imp {S S' : List D → Prop} (h : VW C A Γ S) (i : ∀ d, S d → S' d) : VW C A Γ S' := fun B H σ F Q q => h B H σ F Q fun d v B' H' r s k => q d v B' H' (i d r) s k
theorem vw_consD (h : VV C te Γ (Is d)) (k : VW C A Γ (Is ds)) : VW C (tCons te A) Γ (Is (d :: ds)) := (vw_cons h k).imp fun l ⟨d', ds', e, e1, e2⟩ => by
  cases e1
  cases e2
  exact e
/-! displays -/
theorem sz5 {n : Nat} (h : n ≤ 100000) : n ≤ sizeLine := Nat.le_trans h (by decide)
theorem ve_tup {S : List D → Prop} (h : VA C A Γ S) (k : ∀ ds, S ds → ds.length ≤ 100000 ∧ R (.tuple ds)) : VE C (tTup A) Γ R := fun B H σ F Q q => h B H σ F _ fun ds vs B1 H1 r s1 k1 =>
  ⟨by rw [dpall_len k1]; exact sz5 (k ds r).1, fun p hp => q _ _ (upd B1 p (.tup vs)) _ (k ds r).2 (s1.trans F.dlNow (Stp.new (F.step s1).sub hp))
    (.tup (Or.inl (Or.inl upd_same)) (dpall_mono (Stp.new (dl := C.dl) (F.step s1).sub hp).ext k1))⟩
theorem ve_tupD (h : VA C A Γ (Is ds)) (k : ds.length ≤ 100000 := by first | decide | exact of_decide_eq_true rfl) : VE C (tTup A) Γ (Is (.tuple ds)) := ve_tup h fun es e => by
  cases e
  exact ⟨k, rfl⟩
theorem vl_lst {S : List D → Prop} (h : VA C A Γ S) (k : ∀ ds, S ds → ds.length ≤ 100000) : VL C (tLst A) Γ S := fun B H σ F Q q => h B H σ F _ fun ds vs B1 H1 r s1 k1 =>
  ⟨by rw [dpall_len k1]; exact sz5 (k ds r), fun p hp => q ds p vs B1 _ r (s1.trans F.dlNow (Stp.newM (F.step s1).sub hp)) (by
    cases e : H p with
    | none => rfl
    | some o => exact absurd hp (s1.there F.dlNow (by rw [e]; simp))) ((F.step s1).sub.free hp) upd_same k1⟩
theorem vl_lstD (h : VA C A Γ (Is ds)) (k : ds.length ≤ 100000 := by first | decide | exact of_decide_eq_true rfl) : VL C (tLst A) Γ (Is ds) := vl_lst h fun es e => by
  cases e
  exact k
/-! choices -/
theorem ve_if {S : Bool → Prop} (h : VT C tt Γ S) (h1 : S true → VE C ta Γ R) (h2 : S false → VE C tb Γ R) : VE C (tIf tt ta tb) Γ R := fun B H σ F Q q => h B H σ F _ fun b B1 H1 r s1 => by
  cases b with
  | true => exact iteT (h1 r B1 H1 σ (F.step s1) Q fun d v B2 H2 r2 s2 k => q d v B2 H2 r2 (s1.trans F.dlNow s2) k)
  | false => exact iteF (h2 r B1 H1 σ (F.step s1) Q fun d v B2 H2 r2 s2 k => q d v B2 H2 r2 (s1.trans F.dlNow s2) k)
theorem vv_if {S : Bool → Prop} (h : VT C tt Γ S) (h1 : S true → VV C ta Γ R) (h2 : S false → VV C tb Γ R) : VV C (tIf tt ta tb) Γ R := fun B H σ F Q q => h B H σ F _ fun b B1 H1 r s1 => by
  cases b with
  | true => exact iteT (h1 r B1 H1 σ (F.step s1) Q fun d v B2 H2 r2 s2 k => q d v B2 H2 r2 (s1.trans F.dlNow s2) k)
  | false => exact iteF (h2 r B1 H1 σ (F.step s1) Q fun d v B2 H2 r2 s2 k => q d v B2 H2 r2 (s1.trans F.dlNow s2) k)
theorem ve_ifD (h : VT C tt Γ (Is b)) (h1 : b = true → VE C ta Γ (Is x)) (h2 : b = false → VE C tb Γ (Is y)) : VE C (tIf tt ta tb) Γ (Is (if b = true then x else y)) :=
  ve_if h (fun e => by subst e; exact (h1 rfl).to (if_pos rfl).symm) (fun e => by subst e; exact (h2 rfl).to (if_neg Bool.false_ne_true).symm)
theorem ve_andV {S S' : Bool → Prop} (h : VE C ta Γ (fun d => ∃ b, d = .bool b ∧ S b)) (k : S true → VE C tb Γ (fun d => ∃ b, d = .bool b ∧ S' b)) (k2 : S false → S' false) :
    VE C (tAndV ta tb) Γ (fun d => ∃ b, d = .bool b ∧ S' b) := fun B H σ F Q q => h B H σ F _ fun d v B1 H1 ⟨b, e, r⟩ s1 k1 => by
  subst e
  obtain rfl := dp_bl k1
  refine ⟨b, rfl, ?_⟩
  cases b with
  | true => exact iteT (k r B1 H1 σ (F.step s1) Q fun d v B2 H2 r2 s2 k => q d v B2 H2 r2 (s1.trans F.dlNow s2) k)
  | false => exact iteF (q _ _ B1 H1 ⟨false, rfl, k2 r⟩ s1 (.bl false))
theorem ve_orV {S S' : Bool → Prop} (h : VE C ta Γ (fun d => ∃ b, d = .bool b ∧ S b)) (k : S false → VE C tb Γ (fun d => ∃ b, d = .bool b ∧ S' b)) (k2 : S true → S' true) :
    VE C (tOrV ta tb) Γ (fun d => ∃ b, d = .bool b ∧ S' b) := fun B H σ F Q q => h B H σ F _ fun d v B1 H1 ⟨b, e, r⟩ s1 k1 => by
  subst e
  obtain rfl := dp_bl k1
  refine ⟨b, rfl, ?_⟩
  cases b with
  | true => exact iteT (q _ _ B1 H1 ⟨true, rfl, k2 r⟩ s1 (.bl true))
  | false => exact iteF (k r B1 H1 σ (F.step s1) Q fun d v B2 H2 r2 s2 k => q d v B2 H2 r2 (s1.trans F.dlNow s2) k)
theorem ve_andD (h : VE C ta Γ (Is (.bool b))) (k : b = true → VE C tb Γ (Is (.bool c))) : VE C (tAndV ta tb) Γ (Is (.bool (b && c))) :=
  (ve_andV (S := Is b) (S' := Is (b && c)) (h.imp fun d e => ⟨b, e, rfl⟩) (fun e => (k e.symm).imp fun d e2 => ⟨c, e2, by rw [← e]; rfl⟩) (fun e => by rw [← e]; rfl)).imp fun d ⟨x, e1, e2⟩ => by
    cases e2
    exact e1
theorem ve_orD (h : VE C ta Γ (Is (.bool b))) (k : b = false → VE C tb Γ (Is (.bool c))) : VE C (tOrV ta tb) Γ (Is (.bool (b || c))) :=
  (ve_orV (S := Is b) (S' := Is (b || c)) (h.imp fun d e => ⟨b, e, rfl⟩) (fun e => (k e.symm).imp fun d e2 => ⟨c, e2, by rw [← e]; rfl⟩) (fun e => by rw [← e]; rfl)).imp fun d ⟨x, e1, e2⟩ => by
    cases e2
    exact e1
theorem ve_notD (h : VE C ta Γ (Is (.bool b))) : VE C (tNotV ta) Γ (Is (.bool (!b))) := fun B H σ F Q q => h B H σ F _ fun d v B1 H1 r s1 k1 => by
  cases r
  obtain rfl := dp_bl k1
  exact ⟨b, rfl, q _ _ B1 H1 rfl s1 (.bl _)⟩
/-! tests -/
theorem vt_test {S : Bool → Prop} (h : VE C te Γ (fun d => ∃ b, d = .bool b ∧ S b)) : VT C (tTest te) Γ S := fun B H σ F Q q => h B H σ F _ fun d v B1 H1 ⟨b, e, r⟩ s1 k1 => by
  subst e
  obtain rfl := dp_bl k1
  exact ⟨b, rfl, q b B1 H1 r s1⟩
theorem vt_testD (h : VE C te Γ (Is (.bool b))) : VT C (tTest te) Γ (Is b) := vt_test (h.imp fun d e => ⟨b, e, rfl⟩)
theorem vt_B {S : Bool → Prop} (h : VE C te Γ (fun d => ∃ b, d = .bool b ∧ S b)) : VT C (tB te) Γ S := fun B H σ F Q q => h B H σ F _ fun d v B1 H1 ⟨b, e, r⟩ s1 k1 => by
  subst e
  obtain rfl := dp_bl k1
  exact ⟨b, rfl, q b B1 H1 r s1⟩
theorem vt_BD (h : VE C te Γ (Is (.bool b))) : VT C (tB te) Γ (Is b) := vt_B (h.imp fun d e => ⟨b, e, rfl⟩)
theorem vt_and {S S' : Bool → Prop} (h : VT C tt Γ S) (k : S true → VT C tu Γ S') (k2 : S false → S' false) : VT C (tAnd tt tu) Γ S' := fun B H σ F Q q => h B H σ F _ fun b B1 H1 r s1 => by
  cases b with
  | true => exact iteT (k r B1 H1 σ (F.step s1) Q fun b B2 H2 r2 s2 => q b B2 H2 r2 (s1.trans F.dlNow s2))
  | false => exact iteF (q false B1 H1 (k2 r) s1)
theorem vt_or {S S' : Bool → Prop} (h : VT C tt Γ S) (k : S false → VT C tu Γ S') (k2 : S true → S' true) : VT C (tOr tt tu) Γ S' := fun B H σ F Q q => h B H σ F _ fun b B1 H1 r s1 => by
  cases b with
  | true => exact iteT (q true B1 H1 (k2 r) s1)
  | false => exact iteF (k r B1 H1 σ (F.step s1) Q fun b B2 H2 r2 s2 => q b B2 H2 r2 (s1.trans F.dlNow s2))
theorem vt_andD (h : VT C tt Γ (Is b)) (k : b = true → VT C tu Γ (Is c)) : VT C (tAnd tt tu) Γ (Is (b && c)) :=
  vt_and h (fun e => (k e.symm).imp fun x e2 => by rw [← e, e2]; rfl) fun e => by rw [← e]; rfl
theorem vt_orD (h : VT C tt Γ (Is b)) (k : b = false → VT C tu Γ (Is c)) : VT C (tOr tt tu) Γ (Is (b || c)) :=
  vt_or h (fun e => (k e.symm).imp fun x e2 => by rw [← e, e2]; rfl) fun e => by rw [← e]; rfl
theorem vt_not {S : Bool → Prop} (h : VT C tt Γ (fun b => S (!b))) : VT C (tNot tt) Γ S := fun B H σ F Q q => h B H σ F _ fun b B1 H1 r s1 => q (!b) B1 H1 r s1
theorem vt_notD (h : VT C tt Γ (Is b)) : VT C (tNot tt) Γ (Is (!b)) := vt_not (h.imp fun x e => congrArg (!·) e)
/-! parts of slices -/
theorem vo_none : VO C tNoPart Γ (Is none) := fun B H σ F Q q => q none B H rfl (Stp.refl F.sub)
theorem vo_some {S : Int → Prop} (h : VE C te Γ (fun d => ∃ i, d = .int i ∧ S i)) : VO C (tPart te) Γ (fun o => ∃ i, o = some i ∧ S i) := fun B H σ F Q q => h B H σ F _ fun d v B1 H1 ⟨i, e, r⟩ s1 k1 => by
  subst e
  obtain rfl := dp_int k1
  exact ⟨i, rfl, q _ B1 H1 ⟨i, rfl, r⟩ s1⟩
theorem vo_someD {i : Int} (h : VE C te Γ (Is (.int i))) : VO C (tPart te) Γ (Is (some i)) := fun B H σ F Q q => vo_some (S := Is i) (h.imp fun d e => ⟨i, e, rfl⟩) B H σ F Q fun o B1 H1 ⟨j, e, r⟩ s1 => by
  cases r
  exact q o B1 H1 e s1

/-! ### operations by data -/
/-- an operation of two values gives data | a new list -/
def OD (C : Cn) (r : R2) (x y : D) (R : D → Prop) : Prop := ∀ B H v u, Same B H → Vw C B H v x → Vw C B H u y → ∀ Q : VK, (∀ d w B' H', R d → Stp C.dl B H B' H' → Dq C.K B' w d → Q w H') → r v u H Q
def OL (C : Cn) (r : R2) (x y : D) (R : List D → Prop) : Prop := ∀ B H v u, Same B H → Vw C B H v x → Vw C B H u y → ∀ Q : VK,
  (∀ ds p vs B' H', R ds → Stp C.dl B H B' H' → H p = none → B' p = none → H' p = some (.lst vs) → DqAll C.K B' vs ds → Q (.ref p) H') → r v u H Q
def UD (C : Cn) (r : V → Hp → VK → Prop) (x : D) (R : D → Prop) : Prop := ∀ B H v, Same B H → Vw C B H v x → ∀ Q : VK, (∀ d w B' H', R d → Stp C.dl B H B' H' → Dq C.K B' w d → Q w H') → r v H Q
/-- a call of a built-in gives data | a new list -/
def CD (C : Cn) (r : List V → Hp → VK → Prop) (xs : List D) (R : D → Prop) : Prop := ∀ B H vs, Same B H → VwAll C B H vs xs → ∀ Q : VK, (∀ d w B' H', R d → Stp C.dl B H B' H' → Dq C.K B' w d → Q w H') → r vs H Q
def CL (C : Cn) (r : List V → Hp → VK → Prop) (xs : List D) (R : List D → Prop) : Prop := ∀ B H vs, Same B H → VwAll C B H vs xs → ∀ Q : VK,
  (∀ ds p us B' H', R ds → Stp C.dl B H B' H' → H p = none → B' p = none → H' p = some (.lst us) → DqAll C.K B' us ds → Q (.ref p) H') → r vs H Q
variable {r : R2} {rc : List V → Hp → VK → Prop} {ru : V → Hp → VK → Prop}
theorem ve_op (h : VV C ta Γ Ra) (k : VV C tb Γ Rb) (o : ∀ x y, Ra x → Rb y → OD C r x y R) : VE C (tOp r ta tb) Γ R := fun B H σ F Q q => h B H σ F _ fun x v B1 H1 r1 s1 k1 =>
  k B1 H1 σ (F.step s1) _ fun y u B2 H2 r2 s2 k2 => o x y r1 r2 B2 H2 v u ((F.step s1).step s2).sub (k1.step (F.step s1) s2) k2 Q fun d w B3 H3 r3 s3 k3 => q d w B3 H3 r3 ((s1.trans F.dlNow s2).trans F.dlNow s3) k3
theorem ve_opD (h : VV C ta Γ (Is x)) (k : VV C tb Γ (Is y)) (o : OD C r x y R) : VE C (tOp r ta tb) Γ R := ve_op h k fun x y e1 e2 => by
  cases e1
  cases e2
  exact o
theorem back_none {B H B' H' : Hp} {σ : L2.St} {p : Addr} (F : Fm C B H σ Γ) (s : Stp C.dl B H B' H') (h : H' p = none) : H p = none := by
  cases e : H p with
  | none => rfl
  | some o => exact absurd h (s.there F.dlNow (by rw [e]; simp))
theorem vl_op {S : List D → Prop} (h : VV C ta Γ Ra) (k : VV C tb Γ Rb) (o : ∀ x y, Ra x → Rb y → OL C r x y S) : VL C (tOp r ta tb) Γ S := fun B H σ F Q q => h B H σ F _ fun x v B1 H1 r1 s1 k1 =>
  k B1 H1 σ (F.step s1) _ fun y u B2 H2 r2 s2 k2 => o x y r1 r2 B2 H2 v u ((F.step s1).step s2).sub (k1.step (F.step s1) s2) k2 Q fun ds p vs B3 H3 r3 s3 e1 e2 e3 e4 =>
    q ds p vs B3 H3 r3 ((s1.trans F.dlNow s2).trans F.dlNow s3) (back_none F (s1.trans F.dlNow s2) e1) e2 e3 e4
theorem vl_opD {S : List D → Prop} (h : VV C ta Γ (Is x)) (k : VV C tb Γ (Is y)) (o : OL C r x y S) : VL C (tOp r ta tb) Γ S := vl_op h k fun x y e1 e2 => by
  cases e1
  cases e2
  exact o
theorem ve_un (h : VV C ta Γ Ra) (o : ∀ x, Ra x → UD C ru x R) : VE C (tUn ru ta) Γ R := fun B H σ F Q q => h B H σ F _ fun x v B1 H1 r1 s1 k1 =>
  o x r1 B1 H1 v (F.step s1).sub k1 Q fun d w B3 H3 r3 s3 k3 => q d w B3 H3 r3 (s1.trans F.dlNow s3) k3
theorem ve_cb {S : List D → Prop} (h : VW C A Γ S) (o : ∀ xs, S xs → CD C rc xs R) : VE C (tCB rc A) Γ R := fun B H σ F Q q => h B H σ F _ fun xs vs B1 H1 r1 s1 k1 =>
  o xs r1 B1 H1 vs (F.step s1).sub k1 Q fun d w B3 H3 r3 s3 k3 => q d w B3 H3 r3 (s1.trans F.dlNow s3) k3
theorem ve_cbD (h : VW C A Γ (Is ds)) (o : CD C rc ds R) : VE C (tCB rc A) Γ R := ve_cb h fun xs e => by
  cases e
  exact o
theorem vl_cb {S S' : List D → Prop} (h : VW C A Γ S) (o : ∀ xs, S xs → CL C rc xs S') : VL C (tCB rc A) Γ S' := fun B H σ F Q q => h B H σ F _ fun xs vs B1 H1 r1 s1 k1 =>
  o xs r1 B1 H1 vs (F.step s1).sub k1 Q fun ds p us B3 H3 r3 s3 e1 e2 e3 e4 => q ds p us B3 H3 r3 (s1.trans F.dlNow s3) (back_none F s1 e1) e2 e3 e4
theorem vl_cbD {S' : List D → Prop} (h : VW C A Γ (Is ds)) (o : CL C rc ds S') : VL C (tCB rc A) Γ S' := vl_cb h fun xs e => by
  cases e
  exact o
end

/-! ### what a loop walks, what takes a value -/
/-- the things that come, one after another; each for good -/
def VI (C : Cn) (wi : TI) (Γ : List Sl) (R : List D → Prop) : Prop := ∀ B H σ, Fm C B H σ Γ → ∀ T : It → Hp → Prop, (∀ ds J B1 H1 G Y, R ds → Stp C.dl B H B1 H1 → Walk J ds.length G Y →
  (∀ B2 H2, Same B1 B2 → Same B2 H2 → G H2) →
  (∀ i x H2 H2', Y i H2 x H2' → ∀ B2 d, Same B1 B2 → Same B2 H2 → ds[i]? = some d → ∃ B2', Stp C.dl B2 H2 B2' H2' ∧ Dq C.K B2' x d) → T J H1) → wi σ H T
/-- a target takes data; only the slots js change -/
structure VG (C : Cn) (g : TG) (d : D) (Γ Γ' : List Sl) (js : List Nat) : Prop where
  run : ∀ {B H σ v}, Fm C B H σ Γ → Dq C.K B v d → ∀ Q : L2.St → Hp → Prop, (∀ σ', σ'.length = σ.length → (∀ i, i ∉ js → σ'[i]? = σ[i]?) → Fm C B H σ' Γ' → Q σ' H) → g v σ H Q
  own : ∀ (j : Nat) es, Γ'[j]? = some (.own es) → Γ[j]? = some (.own es) ∧ j ∉ js
structure VGs (C : Cn) (gs : TGs) (ds : List D) (Γ Γ' : List Sl) (js : List Nat) : Prop where
  run : ∀ {B H σ vs}, Fm C B H σ Γ → DqAll C.K B vs ds → ∀ Q : L2.St → Hp → Prop, (∀ σ', σ'.length = σ.length → (∀ i, i ∉ js → σ'[i]? = σ[i]?) → Fm C B H σ' Γ' → Q σ' H) → gs vs σ H Q
  own : ∀ (j : Nat) es, Γ'[j]? = some (.own es) → Γ[j]? = some (.own es) ∧ j ∉ js
section
variable {C : Cn} {Γ Γ' Γ1 : List Sl} {d e : D} {ds : List D} {i j n : Nat} {g g' : TG} {gs : TGs} {js ks : List Nat}
theorem vg_name : VG C (gName i) d Γ (Γ.set i (.dat d)) [i] := by
  refine ⟨fun F h Q q => q _ (List.length_set ..) (fun j hj => by rw [List.getElem?_set_ne (fun z => hj (by simp [z]))]) (F.set h), fun j es h => ?_⟩
  by_cases hj : i = j
  · subst hj
    have hl : i < Γ.length := by
      have := (List.getElem?_eq_some_iff.mp h).1
      rw [List.length_set] at this
      exact this
    rw [List.getElem?_set_self hl] at h
    cases h
  · rw [List.getElem?_set_ne hj] at h
    exact ⟨h, fun z => hj (List.mem_singleton.mp z).symm⟩
theorem vgs_nil : VGs C gNil [] Γ Γ [] := ⟨fun {B H σ vs} F h Q q => by
  cases h
  exact ⟨rfl, q σ rfl (fun _ _ => rfl) F⟩, fun j es h => ⟨h, fun z => nomatch z⟩⟩
theorem vgs_cons (h : VG C g d Γ Γ1 js) (k : VGs C gs ds Γ1 Γ' ks) : VGs C (gCons g gs) (d :: ds) Γ Γ' (js ++ ks) := by
  refine ⟨fun {B H σ vs} F hd Q q => ?_, fun j es hj => ?_⟩
  · cases hd with
    | cons h1 h2 =>
      refine ⟨_, _, rfl, h.run F h1 _ fun σ1 l1 e1 F1 => k.run F1 h2 _ fun σ2 l2 e2 F2 => q σ2 (l2.trans l1) (fun i hi => ?_) F2⟩
      rw [e2 i (fun z => hi (List.mem_append_right _ z)), e1 i (fun z => hi (List.mem_append_left _ z))]
  · obtain ⟨k1, k2⟩ := k.own j es hj
    obtain ⟨h1, h2⟩ := h.own j es k1
    exact ⟨h1, fun z => (List.mem_append.mp z).elim h2 k2⟩
theorem vg_tup (h : VGs C gs ds Γ Γ' js) (n1 : ds.length = n) : VG C (gTup C.K n gs) (.tuple ds) Γ Γ' js := by
  refine ⟨fun {B H σ v} F hd Q q => ?_, h.own⟩
  obtain ⟨a, xs, rfl, h1, h2⟩ := dp_tup hd
  exact ⟨a, xs, rfl, same_t F.sub h1, (dpall_len h2).trans n1, h.run F h2 Q q⟩
theorem vg_tup2 {g1 g2 : TG} {d1 d2 : D} {Γ1 Γ2 : List Sl} {j1 j2 : List Nat} (h1 : VG C g1 d1 Γ Γ1 j1) (h2 : VG C g2 d2 Γ1 Γ2 j2) : VG C (gTup C.K 2 (gCons g1 (gCons g2 gNil))) (.tuple [d1, d2]) Γ Γ2 (j1 ++ (j2 ++ [])) :=
  vg_tup (vgs_cons h1 (vgs_cons h2 vgs_nil)) rfl
end
end Ly

/-! LyD: statements (VS), loops, comprehensions, what a def promises (Pu, De). -/
namespace Ly
open PySem PySem.Spec PyProof.Rows L2

structure Po where
  nx : List Sl → Prop
  rt : D → Prop
  bk : List Sl → Prop := fun _ => False
  ct : List Sl → Prop := fun _ => False

/-- a statement, from what the names hold -/
def VS (C : Cn) (t : TS) (Γ : List Sl) (P : Po) : Prop := ∀ B H σ (E : Ends), Fm C B H σ Γ →
  (∀ Γ' B' H' σ', P.nx Γ' → Same B B' → Fm C B' H' σ' Γ' → E.nx σ' H') →
  (∀ d v B' H', P.rt d → Stp C.dl C.B C.H B' H' → Dq C.K B' v d → E.rt v H') →
  (∀ Γ' B' H' σ', P.bk Γ' → Same B B' → Fm C B' H' σ' Γ' → E.bk σ' H') →
  (∀ Γ' B' H' σ', P.ct Γ' → Same B B' → Fm C B' H' σ' Γ' → E.ct σ' H') → t E σ H

section
variable {C : Cn} {t u : TS} {te ta tb : TE} {tt : TT} {A : TA} {Γ Γ' : List Sl} {P P' : Po} {R : D → Prop} {S : List D → Prop} {i j : Nat} {d : D} {ds : List D}
theorem VS.imp (h : VS C t Γ P) (h1 : ∀ Γ, P.nx Γ → P'.nx Γ) (h2 : ∀ d, P.rt d → P'.rt d) (h3 : ∀ Γ, P.bk Γ → P'.bk Γ) (h4 : ∀ Γ, P.ct Γ → P'.ct Γ) : VS C t Γ P' := fun B H σ E F n r b c =>
  h B H σ E F (fun Γ' B' H' σ' p => n Γ' B' H' σ' (h1 _ p)) (fun d v B' H' p => r d v B' H' (h2 _ p)) (fun Γ' B' H' σ' p => b Γ' B' H' σ' (h3 _ p)) fun Γ' B' H' σ' p => c Γ' B' H' σ' (h4 _ p)
theorem vs_next (h : P.nx Γ) : VS C tNext Γ P := fun B H σ E F n r b c => n Γ B H σ h (Same.refl B) F
theorem vs_brk (h : P.bk Γ) : VS C tBreak Γ P := fun B H σ E F n r b c => b Γ B H σ h (Same.refl B) F
theorem vs_cont (h : P.ct Γ) : VS C tCont Γ P := fun B H σ E F n r b c => c Γ B H σ h (Same.refl B) F
theorem vs_seq (M : List Sl → Prop) (h : VS C t Γ { P with nx := M }) (k : ∀ Γ', M Γ' → VS C u Γ' P) : VS C (tSeq t u) Γ P := fun B H σ E F n r b c =>
  h B H σ { E with nx := u E } F (fun Γ' B' H' σ' m s F' => k Γ' m B' H' σ' E F' (fun Γ2 B2 H2 σ2 p s2 => n Γ2 B2 H2 σ2 p (s.trans s2)) r (fun Γ2 B2 H2 σ2 p s2 => b Γ2 B2 H2 σ2 p (s.trans s2)) fun Γ2 B2 H2 σ2 p s2 => c Γ2 B2 H2 σ2 p (s.trans s2)) r b c
/-- the next statement is looked at with just these slots -/
theorem vs_then (Γ' : List Sl) (h : VS C t Γ { P with nx := Is Γ' }) (k : VS C u Γ' P) : VS C (tSeq t u) Γ P := vs_seq (Is Γ') h fun _ e => by
  cases e
  exact k
theorem vs_asg (h : VE C te Γ R) (k : ∀ d, R d → P.nx (Γ.set i (.dat d))) : VS C (tAsg te (gName i)) Γ P := fun B H σ E F n r b c => h B H σ F _ fun d v B' H' rd s kd =>
  n _ B' H' _ (k d rd) s.ext ((F.step s).set kd)
theorem vq_asg (h : VE C te Γ R) (k : ∀ d, R d → VS C u (Γ.set i (.dat d)) P) : VS C (tSeq (tAsg te (gName i)) u) Γ P :=
  vs_seq (fun Γ' => ∃ d, R d ∧ Γ' = Γ.set i (.dat d)) (vs_asg h fun d r => ⟨d, r, rfl⟩) fun Γ' ⟨d, r, e⟩ => by
    subst e
    exact k d r
theorem vq_asgD (h : VE C te Γ (Is d)) (k : VS C u (Γ.set i (.dat d)) P) : VS C (tSeq (tAsg te (gName i)) u) Γ P := vq_asg h fun _ e => by
  cases e
  exact k
theorem vs_asgD (h : VE C te Γ (Is d)) (k : P.nx (Γ.set i (.dat d))) : VS C (tAsg te (gName i)) Γ P := vs_asg h fun _ e => by
  cases e
  exact k
/-- a target of any form -/
theorem vs_asgG {g : TG} (h : VE C te Γ R) (k : ∀ d, R d → ∃ Γ' js, VG C g d Γ Γ' js ∧ P.nx Γ') : VS C (tAsg te g) Γ P := fun B H σ E F n r b c => h B H σ F _ fun d v B' H' rd s kd => by
  obtain ⟨Γ', js, hg, p⟩ := k d rd
  exact hg.run (F.step s) kd _ fun σ' _ _ F' => n Γ' B' H' σ' p s.ext F'
/-- a new list of one's own -/
theorem vs_own (h : VL C te Γ S) (k : ∀ ds, S ds → P.nx (Γ.set i (.own ds))) : VS C (tAsg te (gName i)) Γ P := fun B H σ E F n r b c => h B H σ F _ fun ds p vs B' H' rd s k1 k2 k3 k4 =>
  n _ B' H' _ (k ds rd) s.ext ((F.step s).setOwn (F.newC k1) k2 k3 k4 fun j es _ hj => F.noOwn k1 hj)
theorem vq_own (h : VL C te Γ S) (k : ∀ ds, S ds → VS C u (Γ.set i (.own ds)) P) : VS C (tSeq (tAsg te (gName i)) u) Γ P :=
  vs_seq (fun Γ' => ∃ d, S d ∧ Γ' = Γ.set i (.own d)) (vs_own h fun d r => ⟨d, r, rfl⟩) fun Γ' ⟨d, r, e⟩ => by
    subst e
    exact k d r
theorem vq_ownD (h : VL C te Γ (Is ds)) (k : VS C u (Γ.set i (.own ds)) P) : VS C (tSeq (tAsg te (gName i)) u) Γ P := vq_own h fun _ e => by
  cases e
  exact k
theorem vs_ret (h : VE C te Γ P.rt) : VS C (tRet te) Γ P := fun B H σ E F n r b c => h B H σ F _ fun d v B' H' rd s kd => r d v B' H' rd (F.st.trans (fun p q e => (F.dl p q e).1) s) kd
theorem vs_retD (h : VE C te Γ (Is d)) (k : P.rt d) : VS C (tRet te) Γ P := vs_ret (h.imp fun _ e => e ▸ k)
/-- from now on one's own list stands for good -/
theorem vs_freeze (i : Nat) (hi : Γ[i]? = some (.own ds)) (k : VS C t (Γ.set i (.dat (.list ds))) P) : VS C t Γ P := fun B H σ E F n r b c => by
  obtain ⟨B', _, s2, F'⟩ := F.freeze hi
  exact k B' H σ E F' (fun Γ2 B2 H2 σ2 p s => n Γ2 B2 H2 σ2 p (s2.trans s)) r (fun Γ2 B2 H2 σ2 p s => b Γ2 B2 H2 σ2 p (s2.trans s)) fun Γ2 B2 H2 σ2 p s => c Γ2 B2 H2 σ2 p (s2.trans s)
theorem vs_retOwn (i : Nat) (hi : Γ[i]? = some (.own ds)) (k : P.rt (.list ds)) : VS C (tRet (tVar i)) Γ P :=
  vs_freeze i hi (vs_retD (ve_var (List.getElem?_set_self (List.getElem?_eq_some_iff.mp hi).1)) k)
theorem vs_if {Q : Bool → Prop} (h : VT C tt Γ Q) (h1 : Q true → VS C t Γ P) (h2 : Q false → VS C u Γ P) : VS C (tIfS tt t u) Γ P := fun B H σ E F n r b c => h B H σ F _ fun x B' H' q s => by
  cases x with
  | true => exact iteT (h1 q B' H' σ E (F.step s) (fun Γ2 B2 H2 σ2 p s2 => n Γ2 B2 H2 σ2 p (s.ext.trans s2)) r (fun Γ2 B2 H2 σ2 p s2 => b Γ2 B2 H2 σ2 p (s.ext.trans s2)) fun Γ2 B2 H2 σ2 p s2 => c Γ2 B2 H2 σ2 p (s.ext.trans s2))
  | false => exact iteF (h2 q B' H' σ E (F.step s) (fun Γ2 B2 H2 σ2 p s2 => n Γ2 B2 H2 σ2 p (s.ext.trans s2)) r (fun Γ2 B2 H2 σ2 p s2 => b Γ2 B2 H2 σ2 p (s.ext.trans s2)) fun Γ2 B2 H2 σ2 p s2 => c Γ2 B2 H2 σ2 p (s.ext.trans s2))
theorem vs_ifD {x : Bool} (h : VT C tt Γ (Is x)) (h1 : x = true → VS C t Γ P) (h2 : x = false → VS C u Γ P) : VS C (tIfS tt t u) Γ P := vs_if h (fun e => h1 e.symm) fun e => h2 e.symm
/-- an if that leaves or goes on to the rest -/
theorem vq_if {Q : Bool → Prop} {t2 : TS} (h : VT C tt Γ Q) (h1 : Q true → VS C (tSeq t u) Γ P) (h2 : Q false → VS C (tSeq t2 u) Γ P) : VS C (tSeq (tIfS tt t t2) u) Γ P := fun B H σ E F n r b c => h B H σ F _ fun x B' H' q s => by
  cases x with
  | true => exact iteT (h1 q B' H' σ E (F.step s) (fun Γ2 B2 H2 σ2 p s2 => n Γ2 B2 H2 σ2 p (s.ext.trans s2)) r (fun Γ2 B2 H2 σ2 p s2 => b Γ2 B2 H2 σ2 p (s.ext.trans s2)) fun Γ2 B2 H2 σ2 p s2 => c Γ2 B2 H2 σ2 p (s.ext.trans s2))
  | false => exact iteF (h2 q B' H' σ E (F.step s) (fun Γ2 B2 H2 σ2 p s2 => n Γ2 B2 H2 σ2 p (s.ext.trans s2)) r (fun Γ2 B2 H2 σ2 p s2 => b Γ2 B2 H2 σ2 p (s.ext.trans s2)) fun Γ2 B2 H2 σ2 p s2 => c Γ2 B2 H2 σ2 p (s.ext.trans s2))
theorem vq_ifD {x : Bool} {t2 : TS} (h : VT C tt Γ (Is x)) (h1 : x = true → VS C (tSeq t u) Γ P) (h2 : x = false → VS C (tSeq t2 u) Γ P) : VS C (tSeq (tIfS tt t t2) u) Γ P := vq_if h (fun e => h1 e.symm) fun e => h2 e.symm
/-- a statement that leaves: what stands behind it is not come to -/
theorem vq_leave (h : VS C t Γ { P with nx := fun _ => False }) : VS C (tSeq t u) Γ P := vs_seq (fun _ => False) h fun _ e => e.elim
theorem vq_next (h : VS C u Γ P) : VS C (tSeq tNext u) Γ P := vs_then Γ (vs_next rfl) h
theorem vs_drop (h : VV C te Γ R) (k : P.nx Γ) : VS C (tDrop te) Γ P := fun B H σ E F n r b c => h B H σ F _ fun d v B' H' rd s kd => n Γ B' H' σ k s.ext (F.step s)
theorem own_ty {K : PySem.W.Frag} {H : Hp} {p : Addr} {vs : List V} (h : H p = some (.lst vs)) : tyV K "list" (.ref p) H := Or.inl ⟨rfl, vs, Or.inl (Or.inl h)⟩
theorem sz6 {n : Nat} (h : n < 100000) : n < sizeLine := Nat.lt_of_lt_of_le h (by decide)
/-- xs.append(e) -/
theorem vs_app (hi : Γ[i]? = some (.own ds)) (h : VE C te Γ R) (hz : ds.length < 100000) (k : ∀ d, R d → P.nx (Γ.set i (.own (ds ++ [d])))) : VS C (tDrop (tBM C.K "list" rAppend (tVar i) (tCons te tNil))) Γ P := fun B H σ E F n r b c => by
  obtain ⟨p, vs, e, hC, hB, hp, hd⟩ := F.hasOwn hi
  refine ⟨.ref p, e, own_ty hp, h B H σ F _ fun d v B' H' rd s kd => ?_⟩
  have hp' := s.keep p _ hp (F.notMd hC)
  refine ⟨p, vs, v, rfl, rfl, hp', sz6 (by rw [dpall_len hd]; exact hz), ?_⟩
  exact n _ B' _ σ (k d rd) s.ext ((F.step s).mutOwn hi e (dpall_app (dpall_mono s.ext hd) (dpall_one kd)))
theorem vq_app (hi : Γ[i]? = some (.own ds)) (h : VE C te Γ R) (hz : ds.length < 100000) (k : ∀ d, R d → VS C u (Γ.set i (.own (ds ++ [d]))) P) : VS C (tSeq (tDrop (tBM C.K "list" rAppend (tVar i) (tCons te tNil))) u) Γ P :=
  vs_seq (fun Γ' => ∃ d, R d ∧ Γ' = Γ.set i (.own (ds ++ [d]))) (vs_app hi h hz fun d r => ⟨d, r, rfl⟩) fun Γ' ⟨d, r, e⟩ => by
    subst e
    exact k d r
/-- xs[e1] = e2 -/
theorem vs_setAt {k : Nat} {z : Int} (hi : Γ[i]? = some (.own ds)) (h : VE C te Γ R) (hx : VE C ta Γ (Is (.int z))) (hk : ixN ds.length z = some k) (q : ∀ d, R d → P.nx (Γ.set i (.own (ds.set k d)))) :
    VS C (tAsg te (gSub (tVar i) ta rSetL)) Γ P := fun B H σ E F n r b c => h B H σ F _ fun d v B1 H1 rd s kd => by
  obtain ⟨p, vs, e, hC, hB, hp, hd⟩ := F.hasOwn hi
  have F1 := F.step s
  refine ⟨.ref p, e, hx B1 H1 σ F1 _ fun x w B2 H2 ex s2 k2 => ?_⟩
  cases ex
  obtain rfl := dp_int k2
  have hp' := s2.keep p _ (s.keep p _ hp (F.notMd hC)) (F.notMd hC)
  refine ⟨p, vs, z, k, rfl, rfl, hp', by rw [dpall_len hd]; exact hk, ?_⟩
  exact n _ B2 _ σ (q d rd) (s.ext.trans s2.ext) ((F1.step s2).mutOwn hi e (dpall_set (dp_mono s2.ext kd) k (dpall_mono (s.ext.trans s2.ext) hd)))
/-- x += e, of ints -/
theorem vs_aug {ti : TIp} {a : D} (ha : Γ[i]? = some (.dat a)) (h : VE C te Γ R) (hr : ∀ d, R d → ∃ z, OD C ti a d (Is z) ∧ P.nx (Γ.set i (.dat z))) : VS C (tAug i te ti) Γ P := fun B H σ E F n r b c => by
  obtain ⟨v, e, hv⟩ := F.has ha
  refine ⟨v, e, h B H σ F _ fun d w B1 H1 rd s kd => ?_⟩
  obtain ⟨z, ho, hp⟩ := hr d rd
  exact ho B1 H1 v w (F.step s).sub (Or.inl (dp_mono s.ext hv)) (Or.inl kd) _ fun z' w' B2 H2 ez s2 k2 => by
    cases ez
    exact n _ B2 H2 _ hp (s.ext.trans s2.ext) (((F.step s).step s2).set k2)
/-! a, b = e1, e2: data or new lists -/
theorem vs_parEE {R2 : D → Prop} (h1 : VE C ta Γ R) (h2 : VE C tb Γ R2) (k : ∀ x y, R x → R2 y → P.nx ((Γ.set i (.dat x)).set j (.dat y))) : VS C (tPar i j (tCons ta (tCons tb tNil))) Γ P := fun B H σ E F n r b c =>
  h1 B H σ F _ fun x v B1 H1 r1 s1 k1 => h2 B1 H1 σ (F.step s1) _ fun y w B2 H2 r2 s2 k2 => ⟨v, w, rfl, n _ B2 H2 _ (k x y r1 r2) (s1.ext.trans s2.ext) ((((F.step s1).step s2).set (dp_mono s2.ext k1)).set k2)⟩
theorem vs_parLE {R2 : D → Prop} (h1 : VL C ta Γ S) (h2 : VE C tb Γ R2) (k : ∀ x y, S x → R2 y → P.nx ((Γ.set i (.own x)).set j (.dat y))) : VS C (tPar i j (tCons ta (tCons tb tNil))) Γ P := fun B H σ E F n r b c =>
  h1 B H σ F _ fun ds p vs B1 H1 r1 s1 e1 e2 e3 e4 => h2 B1 H1 σ (F.step s1) _ fun y w B2 H2 r2 s2 k2 => ⟨_, w, rfl, n _ B2 H2 _ (k ds y r1 r2) (s1.ext.trans s2.ext) ((((F.step s1).step s2).setOwn (F.newC e1) (s2.out p (by rw [e3]; simp) e2)
    (s2.keep p _ e3 (F.notMd (F.newC e1))) (dpall_mono s2.ext e4) fun j es _ hj => F.noOwn e1 hj).set k2)⟩
theorem vs_parEL {R2 : D → Prop} (h1 : VE C ta Γ R2) (h2 : VL C tb Γ S) (k : ∀ x y, R2 x → S y → P.nx ((Γ.set i (.dat x)).set j (.own y))) : VS C (tPar i j (tCons ta (tCons tb tNil))) Γ P := fun B H σ E F n r b c =>
  h1 B H σ F _ fun x v B1 H1 r1 s1 k1 => h2 B1 H1 σ (F.step s1) _ fun ds p vs B2 H2 r2 s2 e1 e2 e3 e4 => ⟨v, _, rfl, n _ B2 H2 _ (k x ds r1 r2) (s1.ext.trans s2.ext) ((((F.step s1).step s2).set (dp_mono s2.ext k1)).setOwn ((F.step s1).newC e1) e2 e3 e4
    fun j' es nj hj => by
      by_cases hij : i = j'
      · subst hij
        by_cases hl : i < Γ.length
        · rw [List.getElem?_set_self hl] at hj
          cases hj
        · rw [List.getElem?_eq_none_iff.mpr (by rw [List.length_set]; omega)] at hj
          cases hj
      · rw [List.getElem?_set_ne hij] at hj
        rw [List.getElem?_set_ne hij]
        exact (F.step s1).noOwn e1 hj)⟩
theorem vs_parLL {S2 : List D → Prop} (h1 : VL C ta Γ S) (h2 : VL C tb Γ S2) (k : ∀ x y, S x → S2 y → P.nx ((Γ.set i (.own x)).set j (.own y))) : VS C (tPar i j (tCons ta (tCons tb tNil))) Γ P := fun B H σ E F n r b c =>
  h1 B H σ F _ fun ds p vs B1 H1 r1 s1 e1 e2 e3 e4 => h2 B1 H1 σ (F.step s1) _ fun es q us B2 H2 r2 s2 g1 g2 g3 g4 => ⟨_, _, rfl, n _ B2 H2 _ (k ds es r1 r2) (s1.ext.trans s2.ext) ((((F.step s1).step s2).setOwn (F.newC e1) (s2.out p (by rw [e3]; simp) e2)
    (s2.keep p _ e3 (F.notMd (F.newC e1))) (dpall_mono s2.ext e4) fun j es _ hj => F.noOwn e1 hj).setOwn ((F.step s1).newC g1) g2 g3 g4 fun j' xs nj hj => by
      by_cases hij : i = j'
      · subst hij
        by_cases hl : i < σ.length
        · rw [List.getElem?_set_self hl]
          intro z
          injection z with z
          injection z with z
          injection z with z
          subst z
          rw [e3] at g1
          cases g1
        · rw [List.getElem?_eq_none_iff.mpr (by rw [List.length_set]; omega)]
          exact fun z => nomatch z
      · rw [List.getElem?_set_ne hij] at hj
        rw [List.getElem?_set_ne hij]
        exact (F.step s1).noOwn g1 hj)⟩
/-! ### loops -/
/-- while: W by a measure -/
theorem vs_while (W : Nat → List Sl → Prop) (m0 : Nat) (h0 : W m0 Γ) (hs : ∀ m Γ', W m Γ' → ∃ Q : Bool → Prop, VT C tt Γ' Q ∧
    (Q true → VS C t Γ' { nx := fun Γ2 => ∃ m', m' < m ∧ W m' Γ2, rt := P.rt, bk := P.nx, ct := fun Γ2 => ∃ m', m' < m ∧ W m' Γ2 }) ∧ (Q false → P.nx Γ')) : VS C (tWhile tt t) Γ P := fun B H σ E F n r b c => by
  refine ⟨fun m σ' H' => ∃ Γ' B', W m Γ' ∧ Same B B' ∧ Fm C B' H' σ' Γ', ⟨m0, Γ, B, h0, Same.refl B, F⟩, ?_⟩
  rintro m σ1 H1 ⟨Γ1, B1, w, s, F1⟩
  obtain ⟨Q, hq, h1, h2⟩ := hs m Γ1 w
  refine hq B1 H1 σ1 F1 _ fun x B2 H2 q s2 => ?_
  cases x with
  | true =>
    refine iteT ⟨fun σ' H' => ∃ m', m' < m ∧ ∃ Γ' B', W m' Γ' ∧ Same B B' ∧ Fm C B' H' σ' Γ', fun σ' H' h => h, ?_⟩
    have nxt : ∀ Γ' B' H' σ', (∃ m', m' < m ∧ W m' Γ') → Same B2 B' → Fm C B' H' σ' Γ' → ∃ m', m' < m ∧ ∃ Γ' B', W m' Γ' ∧ Same B B' ∧ Fm C B' H' σ' Γ' :=
      fun Γ' B' H' σ' ⟨m', l, w'⟩ s' F' => ⟨m', l, Γ', B', w', (s.trans s2.ext).trans s', F'⟩
    exact h1 q B2 H2 σ1 _ (F1.step s2) nxt r (fun Γ' B' H' σ' p s' F' => n Γ' B' H' σ' p ((s.trans s2.ext).trans s') F') nxt
  | false => exact iteF (n Γ1 B2 H2 σ1 (h2 q) (s.trans s2.ext) (F1.step s2))
/-- for: Inv by the turn -/
theorem vs_for {wi : TI} {g : TG} (h : VI C wi Γ S) (k : ∀ ds, S ds → ∃ Inv : Nat → List Sl → Prop, Inv 0 Γ ∧ (∀ (i : Nat) d Γ', ds[i]? = some d → Inv i Γ' → ∃ Γ1 js, VG C g d Γ' Γ1 js ∧
    VS C t Γ1 { nx := Inv (i + 1), rt := P.rt, bk := P.nx, ct := Inv (i + 1) }) ∧ ∀ Γ', Inv ds.length Γ' → P.nx Γ') : VS C (tFor wi g t) Γ P := fun B H σ E F n r b c =>
  h B H σ F _ fun ds J B1 H1 G Y rd s w hG hY => by
    obtain ⟨Inv, i0, turn, fin⟩ := k ds rd
    refine for_it w (fun i σ' H' => ∃ Γ' B', Inv i Γ' ∧ Same B1 B' ∧ Fm C B' H' σ' Γ') ⟨Γ, B1, i0, Same.refl B1, F.step s⟩ (fun i σ' H' _ ⟨Γ', B', _, s', F'⟩ => hG B' H' s' F'.sub) ?_ ?_
    · rintro i x σ1 H1 H1' hi ⟨Γ', B', iv, s', F'⟩ y
      have hd : ds[i]? = some ds[i] := List.getElem?_eq_getElem hi
      obtain ⟨B2, st, kd⟩ := hY i x H1 H1' y B' ds[i] s' F'.sub hd
      obtain ⟨Γ1, js, hg, hb⟩ := turn i ds[i] Γ' hd iv
      have F2 := F'.step st
      refine hg.run F2 kd _ fun σ2 _ _ F3 => ?_
      have nxt : ∀ Γ'' B'' H'' σ'', Inv (i + 1) Γ'' → Same B2 B'' → Fm C B'' H'' σ'' Γ'' → ∃ Γ' B', Inv (i + 1) Γ' ∧ Same B1 B' ∧ Fm C B' H'' σ'' Γ' := fun Γ'' B'' H'' σ'' iv' s'' F'' => ⟨Γ'', B'', iv', (s'.trans st.ext).trans s'', F''⟩
      exact hb B2 H1' σ2 _ F3 nxt r (fun Γ'' B'' H'' σ'' p s'' F'' => n Γ'' B'' H'' σ'' p (((s.ext.trans s').trans st.ext).trans s'') F'') nxt
    · rintro σ1 H1 ⟨Γ', B', iv, s', F'⟩
      exact n Γ' B' H1 σ1 (fin Γ' iv) (s.ext.trans s') F'
end
end Ly

/-! LyE: comprehensions; what loops walk (list, tuple, text, range, enumerate of a text); what a def promises (Pu, De) and its call. -/
namespace Ly
open PySem PySem.Spec PyProof.Rows L2

/-! ### an object of one's own that no name tells -/
section
variable {dl : Option (Addr × Addr)} {B H B' H' : Hp} {p : Addr} {o : HO} {C : Cn} {σ : L2.St} {Γ : List Sl} {vs : List Nat}
theorem Stp.poke (hd : ∀ p q, dl = some (p, q) → DealAt H p q) (s : Stp dl B H B' H') (h : H p = none) (hB : B' p = none) : Stp dl B H B' (upd H' p o) := by
  refine ⟨s.ext, fun a u e => ?_, fun a u e m => ?_, s.out, fun r q e d => ?_⟩
  · rw [upd_ne (ne_of_none e hB)]
    exact s.sub a u e
  · rw [upd_ne (ne_of_none e h)]
    exact s.keep a u e m
  · obtain ⟨ne, ns, b, h1, h2, rest⟩ := s.deal r q e d
    have d0 := hd r q e
    have n1 : r ≠ p := fun z => d0.there (Or.inl rfl) (z ▸ h)
    have n2 : q ≠ p := fun z => d0.there (Or.inr rfl) (z ▸ h)
    exact ⟨ne, ns, b, by rw [upd_ne n1]; exact h1, by rw [upd_ne n2]; exact h2, rest⟩
theorem Fm.poke (F : Fm C B H σ Γ) (hC : C.H p = none) (hB : B p = none) (hn : ∀ (j : Nat) es, Γ[j]? = some (.own es) → σ[j]? ≠ some (some (.ref p))) : Fm C B (upd H p o) σ Γ := by
  refine ⟨F.st.poke (fun p q e => (F.dl p q e).1) hC hB, F.dl, F.len, fun i sl e => ?_, F.inj⟩
  have k := F.slot i sl e
  cases sl with
  | no => trivial
  | dat d => exact k
  | own ds =>
    obtain ⟨r, zs, k1, k2, k3, k4, k5⟩ := k
    have nr : r ≠ p := fun z => hn i ds e (z ▸ k1)
    exact ⟨r, zs, k1, k2, k3, by rw [upd_ne nr]; exact k4, k5⟩
  | deal => exact k
  | rd vs => exact k
/-- the names of a comprehension are taken away -/
def wipeS (Γ : List Sl) : List Nat → List Sl
  | [] => Γ
  | v :: vs => (wipeS Γ vs).set v .no
theorem Fm.wipe (F : Fm C B H σ Γ) : ∀ vs : List Nat, Fm C B H (wipe σ vs) (wipeS Γ vs)
  | [] => F
  | v :: vs => (Fm.wipe F vs).drop none
theorem wipe_get {a b : L2.St} (hl : a.length = b.length) : ∀ vs : List Nat, (∀ i, i ∉ vs → a[i]? = b[i]?) → wipe a vs = wipe b vs := by
  intro vs h
  apply List.ext_getElem?
  intro i
  have key : ∀ (ws : List Nat) (x y : L2.St), x.length = y.length → (i ∈ ws ∨ x[i]? = y[i]?) → (wipe x ws)[i]? = (wipe y ws)[i]? := by
    intro ws
    induction ws with
    | nil =>
      intro x y _ k
      rcases k with k | k
      · cases k
      · exact k
    | cons w ws ih =>
      intro x y e k
      show ((wipe x ws).set w none)[i]? = ((wipe y ws).set w none)[i]?
      by_cases hw : w = i
      · subst hw
        by_cases hlt : w < x.length
        · rw [List.getElem?_set_self (by rw [wipe_length]; exact hlt), List.getElem?_set_self (by rw [wipe_length]; omega)]
        · rw [List.getElem?_eq_none_iff.mpr (by rw [List.length_set, wipe_length]; omega), List.getElem?_eq_none_iff.mpr (by rw [List.length_set, wipe_length]; omega)]
      · rw [List.getElem?_set_ne hw, List.getElem?_set_ne hw]
        refine ih x y e ?_
        rcases k with k | k
        · rcases List.mem_cons.mp k with z | z
          · exact absurd z.symm hw
          · exact Or.inl z
        · exact Or.inr k
  by_cases hi : i ∈ vs
  · exact key vs a b hl (Or.inl hi)
  · exact key vs a b hl (Or.inr (h i hi))
end

theorem wipe_ne {σ : L2.St} {i : Nat} : ∀ {vs : List Nat}, i ∉ vs → (wipe σ vs)[i]? = σ[i]?
  | [], _ => rfl
  | v :: vs, h => by
    show ((wipe σ vs).set v none)[i]? = σ[i]?
    rw [List.getElem?_set_ne (fun z => h (by simp [z])), wipe_ne fun z => h (List.mem_cons_of_mem _ z)]

/-! ### comprehensions -/
section
variable {C : Cn} {Γ : List Sl} {wi : TI} {g : TG} {tt : TT} {te : TE} {vs : List Nat} {S S' : List D → Prop}
/-- [e for x in xs if t]: Inv by the turn and what is made so far -/
theorem vl_lc (h : VI C wi Γ S) (k : ∀ ds, S ds → ds.length ≤ 100000 ∧ ∃ Inv : Nat → List D → Prop, Inv 0 [] ∧
    (∀ (i : Nat) d acc, ds[i]? = some d → Inv i acc → ∃ Γ1 js, VG C g d (wipeS Γ vs) Γ1 js ∧ (∀ j ∈ js, j ∈ vs) ∧
      ∃ T : Bool → Prop, VT C tt Γ1 T ∧ (T true → VE C te Γ1 (fun y => Inv (i + 1) (acc ++ [y]))) ∧ (T false → Inv (i + 1) acc)) ∧ ∀ acc, Inv ds.length acc → S' acc) : VL C (tLc wi g tt te vs) Γ S' := fun B H σ F Q q =>
  h B H σ F _ fun ds J B1 H1 G Y rd s w hG hY A hA => by
    obtain ⟨hz, Inv, i0, turn, fin⟩ := k ds rd
    have F1 := F.step s
    have hAC : C.H A = none := F1.newC hA
    have hAB : B1 A = none := F1.sub.free hA
    have hA0 : H A = none := back_none F s hA
    have nM : ¬ Md C.dl A := F.notMd hAC
    have own1 : ∀ (j : Nat) es, (wipeS Γ vs)[j]? = some (.own es) → (wipe σ vs)[j]? ≠ some (some (.ref A)) := fun j es hj => (F1.wipe vs).noOwn hA hj
    have own0 : ∀ (j : Nat) es, Γ[j]? = some (.own es) → σ[j]? ≠ some (some (.ref A)) := fun j es hj => F1.noOwn hA hj
    refine lc_it w (fun i H' => ∃ B' acc us, Inv i acc ∧ acc.length ≤ i ∧ Same B1 B' ∧ Stp C.dl B H B' H' ∧ Fm C B' H' σ Γ ∧ B' A = none ∧ H' A = some (.lst us) ∧ DqAll C.K B' us acc) ?_ ?_ ?_ ?_
    · exact ⟨B1, [], [], i0, Nat.le_refl _, Same.refl _, s.poke F.dlNow hA0 hAB, F1.poke hAC hAB own0, hAB, upd_same, .nil⟩
    · rintro i H' _ ⟨B', acc, us, _, _, s', _, F', _⟩
      exact hG B' H' s' F'.sub
    · rintro i x H2 H2' hi ⟨B', acc, us, iv, la, s', st', F', oB, oA, da⟩ y
      have hd : ds[i]? = some ds[i] := List.getElem?_eq_getElem hi
      obtain ⟨B2, st, kd⟩ := hY i x H2 H2' y B' ds[i] s' F'.sub hd
      obtain ⟨Γ1, js, hg, hjs, T, ht, hy, hn⟩ := turn i ds[i] acc hd iv
      have F2 : Fm C B2 H2' σ Γ := F'.step st
      have st2 : Stp C.dl B H B2 H2' := st'.trans F.dlNow st
      have oA2 : H2' A = some (.lst us) := st.keep A _ oA nM
      have oB2 : B2 A = none := st.out A (by rw [oA]; simp) oB
      refine hg.run (F2.wipe vs) kd _ fun σ2 l2 e2 F3 => ⟨?_, ?_⟩
      · refine wipe_get (l2.trans (wipe_length σ vs)) vs fun j hj => ?_
        rw [e2 j (fun z => hj (hjs j z)), wipe_ne hj]
      · refine ht B2 H2' σ2 F3 _ fun b B3 H3 rb s3 => ?_
        have oA3 : H3 A = some (.lst us) := s3.keep A _ oA2 nM
        have oB3 : B3 A = none := s3.out A (by rw [oA2]; simp) oB2
        have st3 : Stp C.dl B H B3 H3 := st2.trans F.dlNow s3
        cases b with
        | false => exact iteF ⟨B3, acc, us, hn rb, Nat.le_succ_of_le la, (s'.trans st.ext).trans s3.ext, st3, F2.step s3, oB3, oA3, dpall_mono (st.ext.trans s3.ext) da⟩
        | true =>
          refine iteT (hy rb B3 H3 σ2 (F3.step s3) _ fun d' v' B4 H4 ry s4 kd4 => ?_)
          have oA4 : H4 A = some (.lst us) := s4.keep A _ oA3 nM
          have oB4 : B4 A = none := s4.out A (by rw [oA3]; simp) oB3
          have st4 : Stp C.dl B H B4 H4 := st3.trans F.dlNow s4
          have hda : DqAll C.K B4 us acc := dpall_mono ((st.ext.trans s3.ext).trans s4.ext) da
          refine ⟨us, oA4, sz6 (by rw [dpall_len hda]; omega), B4, acc ++ [d'], us ++ [v'], ry, by rw [List.length_append]; exact Nat.succ_le_succ la, ((s'.trans st.ext).trans s3.ext).trans s4.ext, ?_, ?_, oB4, upd_same, dpall_app hda (dpall_one kd4)⟩
          · exact st4.poke F.dlNow hA0 oB4
          · exact ((F2.step s3).step s4).poke hAC oB4 own0
    · rintro H' ⟨B', acc, us, iv, _, s', st', F', oB, oA, da⟩
      exact q acc A us B' H' (fin acc iv) st' hA0 oB oA da
/-- one after another, told by functions -/
theorem vl_lcD {ds : List D} (f : D → Bool) (v : D → D) (h : VI C wi Γ (Is ds)) (hz : ds.length ≤ 100000) (k : ∀ d ∈ ds, ∃ Γ1 js, VG C g d (wipeS Γ vs) Γ1 js ∧ (∀ j ∈ js, j ∈ vs) ∧ VT C tt Γ1 (Is (f d)) ∧ (f d = true → VE C te Γ1 (Is (v d)))) :
    VL C (tLc wi g tt te vs) Γ (Is ((ds.filter f).map v)) := vl_lc h fun xs e => by
  cases e
  refine ⟨hz, fun i acc => acc = ((ds.take i).filter f).map v, rfl, fun i d acc hd iv => ?_, fun acc iv => by rw [iv, List.take_length]⟩
  obtain ⟨Γ1, js, hg, hjs, ht, he⟩ := k d (List.mem_of_getElem? hd)
  refine ⟨Γ1, js, hg, hjs, Is (f d), ht, fun e => (he e.symm).imp fun y ey => ?_, fun e => ?_⟩
  · subst ey iv
    rw [List.take_add_one, hd, List.filter_append, List.map_append]
    show _ = _ ++ List.map v (List.filter f [d])
    rw [List.filter_cons, if_pos e.symm] <;> rfl
  · subst iv
    rw [List.take_add_one, hd, List.filter_append, List.map_append]
    show _ = _ ++ List.map v (List.filter f [d])
    rw [List.filter_cons, if_neg (by rw [← e]; decide)]
    exact (List.append_nil _).symm
/-- without a test -/
theorem vl_map {ds : List D} (v : D → D) (h : VI C wi Γ (Is ds)) (hz : ds.length ≤ 100000) (k : ∀ d ∈ ds, ∃ Γ1 js, VG C g d (wipeS Γ vs) Γ1 js ∧ (∀ j ∈ js, j ∈ vs) ∧ VE C te Γ1 (Is (v d))) :
    VL C (tLc wi g tYes te vs) Γ (Is (ds.map v)) := (vl_lcD (fun _ => true) v h hz fun d hd => by
  obtain ⟨Γ1, js, hg, hjs, he⟩ := k d hd
  exact ⟨Γ1, js, hg, hjs, fun B H σ F Q q => q true B H rfl (Stp.refl F.sub), fun _ => he⟩).to (by rw [List.filter_eq_self.mpr fun _ _ => rfl])
theorem vt_yes : VT C tYes Γ (Is true) := fun B H σ F Q q => q true B H rfl (Stp.refl F.sub)
end

/-! ### what is walked -/
section
variable {C : Cn} {Γ : List Sl} {t te : TE} {ta : TA} {ds : List D} {R : D → Prop} {S : List D → Prop} {X : Cx}
theorem vi_list (h : VE C t Γ (fun d => ∃ ds, d = .list ds ∧ S ds)) : VI C (iList C.K t) Γ S := fun B H σ F T q => h B H σ F _ fun d v B1 H1 ⟨ds, e, r⟩ s k => by
  subst e
  obtain ⟨a, xs, rfl, h1, h2⟩ := dp_lst k
  refine ⟨a, rfl, ⟨xs, same_l (F.step s).sub h1⟩, q ds _ B1 H1 _ _ r s (dpall_len h2 ▸ walk_list) (fun B2 H2 e1 e2 => same_l e2 (same_l e1 h1)) ?_⟩
  rintro i x H2 H2' ⟨rfl, hx⟩ B2 d e1 e2 hd
  obtain ⟨v, hv, k2⟩ := dpall_get h2 hd
  rw [hx] at hv
  cases hv
  exact ⟨B2, Stp.refl e2, dp_mono e1 k2⟩
theorem vi_listD (h : VE C t Γ (Is (.list ds))) : VI C (iList C.K t) Γ (Is ds) := vi_list (h.imp fun d e => ⟨ds, e, rfl⟩)
theorem vi_tup (h : VE C t Γ (fun d => ∃ ds, d = .tuple ds ∧ S ds)) : VI C (iTup C.K t) Γ S := fun B H σ F T q => h B H σ F _ fun d v B1 H1 ⟨ds, e, r⟩ s k => by
  subst e
  obtain ⟨a, xs, rfl, h1, h2⟩ := dp_tup k
  refine ⟨a, rfl, ⟨xs, same_t (F.step s).sub h1⟩, q ds _ B1 H1 _ _ r s (dpall_len h2 ▸ walk_tup) (fun B2 H2 e1 e2 => same_t e2 (same_t e1 h1)) ?_⟩
  rintro i x H2 H2' ⟨rfl, hx⟩ B2 d e1 e2 hd
  obtain ⟨v, hv, k2⟩ := dpall_get h2 hd
  rw [hx] at hv
  cases hv
  exact ⟨B2, Stp.refl e2, dp_mono e1 k2⟩
theorem vi_tupD (h : VE C t Γ (Is (.tuple ds))) : VI C (iTup C.K t) Γ (Is ds) := vi_tup (h.imp fun d e => ⟨ds, e, rfl⟩)
/-- the signs of a text, each a text -/
def signs (z : Str) : List D := z.cps.toList.map fun c => .str ⟨#[c]⟩
theorem signs_len (z : Str) : (signs z).length = z.cps.size := by simp [signs]
theorem vi_str {z : Str} (h : VE C t Γ (Is (.str z))) : VI C (iStr t) Γ (Is (signs z)) := fun B H σ F T q => h B H σ F _ fun d v B1 H1 r s k => by
  cases r
  obtain rfl := dp_str k
  refine ⟨z, rfl, q _ _ B1 H1 _ _ rfl s (signs_len z ▸ walk_str) (fun _ _ _ _ => trivial) ?_⟩
  rintro i x H2 H2' ⟨rfl, c, hc, rfl⟩ B2 d e1 e2 hd
  have hd' : (signs z)[i]? = some (.str ⟨#[c]⟩) := by
    unfold signs
    rw [List.getElem?_map, Array.getElem?_toList, hc]
    rfl
  rw [hd'] at hd
  cases hd
  exact ⟨B2, Stp.refl e2, .str _⟩
/-- the ints of a range -/
def upTo (lo : Int) (n : Nat) : List D := (List.range n).map fun i => .int (lo + (i : Nat))
theorem upTo_len (lo : Int) (n : Nat) : (upTo lo n).length = n := by simp [upTo]
theorem upTo_get {lo : Int} {n i : Nat} {d : D} (h : (upTo lo n)[i]? = some d) : i < n ∧ d = .int (lo + (i : Nat)) := by
  unfold upTo at h
  rw [List.getElem?_map] at h
  by_cases hi : i < n
  · rw [List.getElem?_range hi] at h
    cases h
    exact ⟨hi, rfl⟩
  · rw [List.getElem?_eq_none_iff.mpr (by simpa using hi)] at h
    cases h
theorem upTo_mem {lo : Int} {n : Nat} {d : D} (h : d ∈ upTo lo n) : ∃ i, i < n ∧ d = .int (lo + (i : Nat)) := by
  obtain ⟨i, hi⟩ := List.getElem?_of_mem h
  exact ⟨i, upTo_get hi⟩
theorem vi_rng1 {S : List D → Prop} {R : Int → Prop} (h : VE C te Γ (fun d => ∃ n, d = .int n ∧ R n)) (k : ∀ n, R n → -(2 ^ 62) ≤ n ∧ n < 2 ^ 62 ∧ S (upTo 0 n.toNat)) : VI C (iRng1 (tCons te tNil)) Γ S := fun B H σ F T q => h B H σ F _ fun d v B1 H1 ⟨n, e, r⟩ s kd => by
  subst e
  obtain rfl := dp_int kd
  obtain ⟨h1, h2, h3⟩ := k n r
  refine ⟨n, rfl, h1, h2, q _ _ B1 H1 (fun _ => True) (YFn fun i => .int (0 + (i : Nat))) h3 s (by rw [upTo_len]; exact walk_range) (fun _ _ _ _ => trivial) ?_⟩
  rintro i x H2 H2' ⟨rfl, rfl⟩ B2 d e1 e2 hd
  obtain ⟨_, rfl⟩ := upTo_get hd
  exact ⟨B2, Stp.refl e2, .int _⟩
theorem vi_rng1D {n : Int} (h : VE C te Γ (Is (.int n))) (hn : n ≤ 1000000000000 := by omega) (hm : -1000000000000 ≤ n := by omega) : VI C (iRng1 (tCons te tNil)) Γ (Is (upTo 0 n.toNat)) := vi_rng1 (R := Is n) (h.imp fun d e => ⟨n, e, rfl⟩) fun m e => by
  cases e
  exact ⟨by omega, by omega, rfl⟩
theorem vi_rng2D {t2 : TE} {m n : Int} (h : VE C te Γ (Is (.int m))) (h2 : VE C t2 Γ (Is (.int n))) (b : -1000000000000 ≤ m ∧ m ≤ 1000000000000 ∧ -1000000000000 ≤ n ∧ n ≤ 1000000000000) : VI C (iRng2 (tCons te (tCons t2 tNil))) Γ (Is (upTo m (n - m).toNat)) := fun B H σ F T q =>
  h B H σ F _ fun d v B1 H1 e s kd => h2 B1 H1 σ (F.step s) _ fun d2 v2 B2 H2 e2 s2 kd2 => by
    cases e
    cases e2
    obtain rfl := dp_int kd
    obtain rfl := dp_int kd2
    refine ⟨m, n, rfl, ⟨by omega, by omega, by omega, by omega⟩, q _ _ B2 H2 (fun _ => True) (YFn fun i => .int (m + (i : Nat))) rfl (s.trans F.dlNow s2) (by rw [upTo_len]; exact walk_range) (fun _ _ _ _ => trivial) ?_⟩
    rintro i x H3 H3' ⟨rfl, rfl⟩ B3 d e1 e2 hd
    obtain ⟨_, rfl⟩ := upTo_get hd
    exact ⟨B3, Stp.refl e2, .int _⟩
end
end Ly

/-! LyF: what a def promises by data: Pu (data in, data out), De (a source of draws first), their bodies, their calls. -/
namespace Ly
open PySem PySem.Spec PyProof.Rows L2

/-- data in, data out; nothing that stands is changed -/
def Pu (K : PySem.W.Frag) (P : List D → Prop) (R : List D → D → Prop) : Sp := fun vs H Q _ => ∃ B ds, Same B H ∧ DqAll K B vs ds ∧ P ds ∧
  ∀ d v B' H', R ds d → Stp none B H B' H' → Dq K B' v d → Q v H'
/-- the source of draws first, then data -/
def De (K : PySem.W.Frag) (P : List D → Prop) (R : List D → D → Prop) : Sp := fun vs H Q _ => ∃ B p q us ds, vs = .ref p :: us ∧ Same B H ∧ DealAt H p q ∧ B p = none ∧ B q = none ∧ DqAll K B us ds ∧ P ds ∧
  ∀ d v B' H', R ds d → Stp (some (p, q)) B H B' H' → Dq K B' v d → Q v H'

/-- n names more, of which nothing is told -/
def slots (ds : List D) (n : Nat) : List Sl := ds.map Sl.dat ++ List.replicate n Sl.no

theorem start_len {N : List Str} {vs : List V} (h : vs.length ≤ N.length) : (start N vs).length = N.length := by
  unfold L2.start
  rw [List.length_append, List.length_map, List.length_replicate]
  omega
theorem fm_start {K : PySem.W.Frag} {B H : Hp} {vs : List V} {ds : List D} {N : List Str} {n : Nat} (s : Same B H) (hd : DqAll K B vs ds) (hn : ds.length + n = N.length) : Fm ⟨K, B, H, none⟩ B H (start N vs) (slots ds n) := by
  have hl := dpall_len hd
  refine ⟨Stp.refl s, (fun p q e => nomatch e), ?_, fun i sl h => ?_, fun i j p xs ys h => ?_⟩
  · rw [start_len (by omega)]
    simp [slots]
    omega
  · unfold slots at h
    by_cases hi : i < ds.length
    · rw [List.getElem?_append_left (by simpa using hi), List.getElem?_map, List.getElem?_eq_getElem hi] at h
      cases h
      obtain ⟨v, hv, k⟩ := dpall_get hd (List.getElem?_eq_getElem hi)
      refine ⟨v, ?_, k⟩
      unfold L2.start
      rw [List.getElem?_append_left (by simpa using (by omega : i < vs.length)), List.getElem?_map, hv]
      rfl
    · rw [List.getElem?_append_right (by simpa using Nat.le_of_not_lt hi), List.getElem?_replicate] at h
      split at h
      · cases h
        trivial
      · cases h
  · exfalso
    unfold slots at h
    by_cases hi : i < ds.length
    · rw [List.getElem?_append_left (by simpa using hi), List.getElem?_map, List.getElem?_eq_getElem hi] at h
      cases h
    · rw [List.getElem?_append_right (by simpa using Nat.le_of_not_lt hi), List.getElem?_replicate] at h
      split at h <;> cases h
theorem fm_startD {K : PySem.W.Frag} {B H : Hp} {vs : List V} {ds : List D} {N : List Str} {n : Nat} {p q : Addr} (s : Same B H) (hq : DealAt H p q) (h1 : B p = none) (h2 : B q = none) (hd : DqAll K B vs ds) (hn : ds.length + 1 + n = N.length) :
    Fm ⟨K, B, H, some (p, q)⟩ B H (start N (.ref p :: vs)) (.deal :: slots ds n) := by
  have hl := dpall_len hd
  have hst : ∀ i, (start N (.ref p :: vs))[i + 1]? = (vs.map some ++ List.replicate (N.length - (vs.length + 1)) none)[i]? := fun i => rfl
  refine ⟨Stp.refl s, fun p' q' e => ?_, ?_, fun i sl h => ?_, fun i j r xs ys h => ?_⟩
  · cases e
    exact ⟨hq, h1, h2⟩
  · rw [start_len (by rw [List.length_cons]; omega)]
    simp [slots]
    omega
  · cases i with
    | zero =>
      cases h
      exact ⟨p, q, rfl, rfl⟩
    | succ i =>
      rw [hst i]
      have h : (slots ds n)[i]? = some sl := h
      unfold slots at h
      by_cases hi : i < ds.length
      · rw [List.getElem?_append_left (by simpa using hi), List.getElem?_map, List.getElem?_eq_getElem hi] at h
        cases h
        obtain ⟨v, hv, k⟩ := dpall_get hd (List.getElem?_eq_getElem hi)
        refine ⟨v, ?_, k⟩
        rw [List.getElem?_append_left (by simpa using (by omega : i < vs.length)), List.getElem?_map, hv]
        rfl
      · rw [List.getElem?_append_right (by simpa using Nat.le_of_not_lt hi), List.getElem?_replicate] at h
        split at h
        · cases h
          trivial
        · cases h
  · exfalso
    cases i with
    | zero => cases h
    | succ i =>
      have h : (slots ds n)[i]? = some (.own xs) := h
      unfold slots at h
      by_cases hi : i < ds.length
      · rw [List.getElem?_append_left (by simpa using hi), List.getElem?_map, List.getElem?_eq_getElem hi] at h
        cases h
      · rw [List.getElem?_append_right (by simpa using Nat.le_of_not_lt hi), List.getElem?_replicate] at h
        split at h <;> cases h

section
variable {P0 : Program} {w : World} {K : PySem.W.Frag} {mg : Str → Option Value} {base : Heap} {k : Nat} {f : Addr} {fd : FuncData} {ps N : List Str} {x qual : Str} {st : Stmt} {P : List D → Prop} {R : List D → D → Prop} {n : Nat}
/-- a def of data, by its body -/
theorem pu_ok (n : Nat) (F : Fun K x qual st f fd) (S : FnScope N ps (defScope st)) (hl : ∀ ds, P ds → ds.length = ps.length) (hn : ps.length + n = N.length)
    (body : ∀ (cdv : Value) (A : Around) (outer : List Env) (s : Shared) (H : Hp) (E : XK), (cxOf CX0 P0 w K mg base N qual (defScope st) f cdv A outer s H E).A.guards = some [] → Room k (cxOf CX0 P0 w K mg base N qual (defScope st) f cdv A outer s H E).A →
      ∃ t, PSs (cxOf CX0 P0 w K mg base N qual (defScope st) f cdv A outer s H E).nox (defBody st) t ∧ ∀ B H ds, P ds → VS ⟨K, B, H, none⟩ t (slots ds n) { nx := fun _ => R ds .none, rt := R ds }) :
    GOk P0 w K mg base CX0 (k + 1) f fd ps (Pu K P R) := by
  refine gok_of F S (fun {vs H Q E} ⟨B, ds, _, h1, h2, _⟩ => (dpall_len h1).trans (hl ds h2)) fun cdv A outer s H vs Q E hg hr ⟨B, ds, hs, h1, h2, hq⟩ => ?_
  obtain ⟨t, ht, hv⟩ := body cdv A outer s H E hg hr
  refine ⟨t, ht.nox, hv B H ds h2 B H (L2.start N vs) _ (fm_start hs h1 (by rw [hl ds h2]; exact hn)) ?_ ?_ (fun _ _ _ _ e => e.elim) fun _ _ _ _ e => e.elim⟩
  · exact fun Γ' B' H' σ' r _ F' => hq _ _ B' H' r F'.st .non
  · exact fun d v B' H' r s' kd => hq d v B' H' r s' kd
/-- a def that draws, by its body -/
theorem de_ok (n : Nat) (F : Fun K x qual st f fd) (S : FnScope N ps (defScope st)) (hl : ∀ ds, P ds → ds.length + 1 = ps.length) (hn : ps.length + n = N.length)
    (body : ∀ (cdv : Value) (A : Around) (outer : List Env) (s : Shared) (H : Hp) (E : XK), (cxOf CX0 P0 w K mg base N qual (defScope st) f cdv A outer s H E).A.guards = some [] → Room k (cxOf CX0 P0 w K mg base N qual (defScope st) f cdv A outer s H E).A →
      ∃ t, PSs (cxOf CX0 P0 w K mg base N qual (defScope st) f cdv A outer s H E).nox (defBody st) t ∧ ∀ B H p q ds, P ds → VS ⟨K, B, H, some (p, q)⟩ t (.deal :: slots ds n) { nx := fun _ => R ds .none, rt := R ds }) :
    GOk P0 w K mg base CX0 (k + 1) f fd ps (De K P R) := by
  refine gok_of F S (fun {vs H Q E} ⟨B, p, q, us, ds, e, _, _, _, _, h1, h2, _⟩ => by rw [e, List.length_cons, dpall_len h1]; exact hl ds h2) fun cdv A outer s H vs Q E hg hr ⟨B, p, q, us, ds, e, hs, hd, hB1, hB2, h1, h2, hq⟩ => ?_
  subst e
  obtain ⟨t, ht, hv⟩ := body cdv A outer s H E hg hr
  refine ⟨t, ht.nox, hv B H p q ds h2 B H (L2.start N (.ref p :: us)) _ (fm_startD hs hd hB1 hB2 h1 (by rw [hl ds h2]; exact hn)) ?_ ?_ (fun _ _ _ _ e => e.elim) fun _ _ _ _ e => e.elim⟩
  · exact fun Γ' B' H' σ' r _ F' => hq _ _ B' H' r F'.st .non
  · exact fun d v B' H' r s' kd => hq d v B' H' r s' kd
end

/-! ### calls by data -/
section
variable {C : Cn} {A A' : TA} {Γ : List Sl} {S S' : List D → Prop} {R : D → Prop} {P : List D → Prop} {R' : List D → D → Prop} {E : XK} {gV : List V → List V → List V} {i : Nat} {ds es : List D} {d : D}
theorem ve_pu (gD : List D → List D → List D) (h : VA C A Γ S) (h' : VA C A' Γ S') (hg : ∀ B vs zs ds es, DqAll C.K B vs ds → DqAll C.K B zs es → DqAll C.K B (gV vs zs) (gD ds es))
    (k : ∀ ds es, S ds → S' es → P (gD ds es) ∧ ∀ d, R' (gD ds es) d → R d) : VE C (tCallK (Pu C.K P R') gV E A A') Γ R := fun B H σ F Q q =>
  h B H σ F _ fun ds vs B1 H1 r1 s1 k1 => h' B1 H1 σ (F.step s1) _ fun es zs B2 H2 r2 s2 k2 => by
    obtain ⟨hP, hR⟩ := k ds es r1 r2
    refine ⟨B2, gD ds es, ((F.step s1).step s2).sub, hg B2 vs zs ds es (dpall_mono s2.ext k1) k2, hP, fun d v B3 H3 r3 s3 k3 => ?_⟩
    exact q d v B3 H3 (hR d r3) ((s1.trans F.dlNow s2).trans F.dlNow s3.any) k3
/-- by place -/
theorem ve_call (h : VA C A Γ S) (k : ∀ ds, S ds → P ds ∧ ∀ d, R' ds d → R d) : VE C (tCallK (Pu C.K P R') (fun vs _ => vs) E A tNil) Γ R :=
  ve_pu (fun ds _ => ds) h va_nil (fun _ _ _ _ _ k1 _ => k1) fun ds es r _ => k ds r
theorem ve_callD (h : VA C A Γ (Is ds)) (hP : P ds) : VE C (tCallK (Pu C.K P R') (fun vs _ => vs) E A tNil) Γ (R' ds) := ve_call h fun xs e => by
  cases e
  exact ⟨hP, fun _ r => r⟩
theorem ve_de (hi : Γ[i]? = some .deal) (h : VA C A Γ S) (k : ∀ ds, S ds → P ds ∧ ∀ d, R' ds d → R d) : VE C (tCallK (De C.K P R') (fun vs _ => vs) E (tCons (tVar i) A) tNil) Γ R := fun B H σ F Q q => by
  obtain ⟨p, r, e, hs⟩ := F.slot i _ hi
  refine ⟨.ref p, hs, h B H σ F _ fun ds vs B1 H1 r1 s1 k1 => ?_⟩
  obtain ⟨hP, hR⟩ := k ds r1
  have F1 := F.step s1
  obtain ⟨n1, n2⟩ := F1.dlOut e
  refine ⟨B1, p, r, vs, ds, rfl, F1.sub, F1.dlNow p r e, n1, n2, k1, hP, fun d v B3 H3 r3 s3 k3 => ?_⟩
  rw [← e] at s3
  exact q d v B3 H3 (hR d r3) (s1.trans F.dlNow s3) k3
theorem ve_deD (hi : Γ[i]? = some .deal) (h : VA C A Γ (Is ds)) (hP : P ds) : VE C (tCallK (De C.K P R') (fun vs _ => vs) E (tCons (tVar i) A) tNil) Γ (R' ds) := ve_de hi h fun xs e => by
  cases e
  exact ⟨hP, fun _ r => r⟩
end
end Ly

/-! LyG: operations, subscripts, slices, built-ins by data. -/
namespace Ly
open PySem PySem.Spec PyProof.Rows L2

/-! ### rules for every kind of operand -/
section
variable {X : Cx}
/-- list + list, tracked or known to the object -/
def rCatR : R2 := fun x y H Q => ∃ l b xs zs, x = .ref l ∧ y = .ref b ∧ Rd H l (.lst xs) ∧ Rd H b (.lst zs) ∧ xs.length + zs.length ≤ sizeLine ∧ ∀ p, H p = none → Q (.ref p) (upd H p (.lst (xs ++ zs)))
theorem rd_lst {pins : List (Addr × Obj)} {s : Shared} {σ : L2.St} {H : Hp} {a : Addr} {xs : List V} (I : Inv X pins σ H s) (h : Rd H a (.lst xs)) : ∃ (its : List Value) (n : Nat), Vals xs its ∧ s.heap.get? a = some { cls := .type "list", data := .seq its.toArray n } := by
  obtain ⟨_, its, n, r, e⟩ := h.ok I.hok
  exact ⟨its, n, r, e⟩
theorem op_catR : OpR X (binaryOp .Add) rCatR := by
  intro pins s σ H x y v u Q I rx ry h
  obtain ⟨l, b, xs, zs, rfl, rfl, hl, hb, hz, q⟩ := h
  cases rx
  cases ry
  obtain ⟨its, n, r, e⟩ := rd_lst I hl
  obtain ⟨its2, n2, r2, e2⟩ := rd_lst I hb
  have l1 := r.length
  have l2 := r2.length
  apply PySem.P.add_list e e2 _ (by rw [List.size_toArray, List.size_toArray]; omega)
  have J := I.lnew (t' := s.toks) (r.append r2) (by rw [List.length_append]; omega)
  rw [show its.toArray ++ its2.toArray = (its ++ its2).toArray by simp]
  exact ⟨V.ref s.heap.objs.size, _, J, rfl, q _ I.fresh⟩
def rAddS : R2 := fun x y H Q => ∃ i j, x = .str i ∧ y = .str j ∧ i.length + j.length ≤ sizeLine ∧ Q (.str (i ++ j)) H
def rAddA (K : PySem.W.Frag) : R2 := fun x y H Q => rI0 (fun i j => .int (i + j)) x y H Q ∨ (rAddS x y H Q ∨ (rCatR x y H Q ∨ rCatA K x y H Q))
theorem oq_add : OpR X (binaryOp .Add) (rAddA X.K) := OpR.or op_add (OpR.or op_add_str (OpR.or op_catR op_catA))
def rEqA (K : PySem.W.Frag) : R2 := fun x y H Q => rEq x y H Q ∨ rEqD K x y H Q
def rNeA (K : PySem.W.Frag) : R2 := fun x y H Q => rNe x y H Q ∨ rNeD K x y H Q
theorem oq_eq {k : Nat} (hr : Room k X.A) : OpR X (compareOp .Eq) (rEqA X.K) := OpR.or op_eq (op_eqD hr.units)
theorem oq_ne {k : Nat} (hr : Room k X.A) : OpR X (compareOp .NotEq) (rNeA X.K) := OpR.or op_ne (op_neD hr.units)
def rLtS : R2 := fun x y H Q => ∃ i j, x = .str i ∧ y = .str j ∧ Q (.bl (decide (i.cps.toList < j.cps.toList))) H
def rLeS : R2 := fun x y H Q => ∃ i j, x = .str i ∧ y = .str j ∧ Q (.bl (!decide (j.cps.toList < i.cps.toList))) H
def rLtA : R2 := fun x y H Q => rI0 (fun i j => .bl (decide (i < j))) x y H Q ∨ rLtS x y H Q
def rLeA : R2 := fun x y H Q => rI0 (fun i j => .bl (decide (i ≤ j))) x y H Q ∨ rLeS x y H Q
theorem oq_lt : OpR X (compareOp .Lt) rLtA := OpR.or op_lt op_lt_str
theorem oq_le : OpR X (compareOp .LtE) rLeA := OpR.or op_le op_le_str
def rInSg : R2 := fun x y H Q => ∃ (c : Nat) (z : Str), x = .str ⟨#[c]⟩ ∧ y = .str z ∧ Q (.bl (decide (c ∈ z.cps.toList))) H
def rInA (K : PySem.W.Frag) : R2 := fun x y H Q => rInSg x y H Q ∨ (rIn K false x y H Q ∨ rInD K x y H Q)
theorem oq_in {k : Nat} (hr : Room k X.A) : OpR X (compareOp .In) (rInA X.K) := OpR.or op_in_sign (OpR.or op_in_seq (op_inD (by have := hr.un; omega)))
def rNotInSg : R2 := fun x y H Q => ∃ (c : Nat) (z : Str), x = .str ⟨#[c]⟩ ∧ y = .str z ∧ Q (.bl (!decide (c ∈ z.cps.toList))) H
def rNotInA (K : PySem.W.Frag) : R2 := fun x y H Q => rNotInSg x y H Q ∨ (rIn K true x y H Q ∨ rNotInD K x y H Q)
theorem oq_notin {k : Nat} (hr : Room k X.A) : OpR X (compareOp .NotIn) (rNotInA X.K) := OpR.or op_notIn_sign (OpR.or op_notIn_seq (op_notInD (by have := hr.un; omega)))
def rSlany (K : PySem.W.Frag) : V → Option Int → Option Int → Hp → VK → Prop := fun x lo hi H Q => rSlL K x lo hi H Q ∨ (rSlA K x lo hi H Q ∨ rSlS x lo hi H Q)
theorem sq_any : SlR X (rSlany X.K) := SlR.or sl_list (SlR.or sl_tupA sl_str)
/-- repr of data -/
def rRepr (K : PySem.W.Frag) : List V → Hp → VK → Prop := fun xs H Q => ∃ x d, xs = [x] ∧ Dp K H x d ∧ d.showable = true ∧ d.hasDict = false ∧ d.depth ≤ 100 ∧ d.shown.length ≤ sizeLine ∧ Q (.str d.shown) H
theorem cq_repr {k : Nat} (hg : X.A.guards = some []) (hr : Room k X.A) : CallR X (.builtin "repr") (rRepr X.K) := by
  intro pins s σ H xs us Q I r h
  obtain ⟨x, d, rfl, hd, h1, h2, h3, h4, q⟩ := h
  obtain ⟨u, rfl, ru⟩ := vals1 r
  obtain ⟨as, rd⟩ := Dp.reads I d x u hd ru
  have fin : ∀ (h' : Heap) (tk tk2 : Tok), (∀ b o, s.heap.get? b = some o → h'.get? b = some o) → EP X pins σ Q (.str d.shown tk) { s with heap := h', toks := tk2 } := fun h' tk tk2 hk => ⟨V.str d.shown, H, I.kept hk, ⟨tk, rfl⟩, q⟩
  cases rd with
  | none =>
    simp only [PyData.shown] at fin
    exact PySem.P.repr_of_none (fin s.heap s.toks (s.toks + 1) fun _ _ e => e)
  | bool b =>
    simp only [PyData.shown] at fin
    exact PySem.P.repr_of_bool (fin s.heap s.toks (s.toks + 1) fun _ _ e => e)
  | int i t =>
    simp only [PyData.shown] at fin
    exact PySem.P.repr_of_int (by simpa [PyData.showable] using h1) (fin s.heap s.toks (s.toks + 1) fun _ _ e => e)
  | str z t =>
    simp only [PyData.shown] at fin
    exact PySem.P.repr_of_str (fin s.heap s.toks (s.toks + 1) fun _ _ e => e) (by simpa [PyData.shown] using h4)
  | list e1 e2 e3 e4 => exact repr_of_reads' (.list e1 e2 e3 e4) h1 (fun z => by rw [h2] at z; cases z) hg (by have := hr.un; omega) (fun _ _ e => e) (fun h' tk tk2 hk => fin h' tk tk2 hk) h4
  | tuple e1 e2 e3 e4 => exact repr_of_reads' (.tuple e1 e2 e3 e4) h1 (fun z => by rw [h2] at z; cases z) hg (by have := hr.un; omega) (fun _ _ e => e) (fun h' tk tk2 hk => fin h' tk tk2 hk) h4
  | dict e1 e2 e3 e4 e5 => simp [PyData.hasDict] at h2
end

/-! ### by data -/
section
variable {C : Cn} {Γ : List Sl} {x y z : D} {ds es : List D} {i j : Int} {s t : Str} {R : D → Prop}
theorem od_I0 {g : Int → Int → V} {f : D} (h : ∀ B, Dq C.K B (g i j) f) : OD C (rI0 g) (.int i) (.int j) (Is f) := fun B H v u e k1 k2 Q q => by
  obtain rfl := k1.int
  obtain rfl := k2.int
  exact ⟨i, j, rfl, rfl, q _ _ B H rfl (Stp.refl e) (h B)⟩
theorem od_I {c : Int → Int → Prop} {g : Int → Int → V} {f : D} (hc : c i j) (h : ∀ B, Dq C.K B (g i j) f) : OD C (rI c g) (.int i) (.int j) (Is f) := fun B H v u e k1 k2 Q q => by
  obtain rfl := k1.int
  obtain rfl := k2.int
  exact ⟨i, j, rfl, rfl, hc, q _ _ B H rfl (Stp.refl e) (h B)⟩
theorem od_add : OD C (rAddA C.K) (.int i) (.int j) (Is (.int (i + j))) := fun B H v u e k1 k2 Q q => Or.inl (od_I0 (C := C) (g := fun i j => .int (i + j)) (fun _ => .int _) B H v u e k1 k2 Q q)
theorem od_sub : OD C (rI0 fun i j => .int (i - j)) (.int i) (.int j) (Is (.int (i - j))) := od_I0 fun _ => .int _
theorem od_mul (h : CMulW i j) : OD C (rI CMulW fun i j => .int (i * j)) (.int i) (.int j) (Is (.int (i * j))) := od_I h fun _ => .int _
theorem od_fdiv (h : 0 < j) (h2 : j < 2 ^ 64) : OD C (rI CDivW fun i j => .int (i / j)) (.int i) (.int j) (Is (.int (i / j))) := od_I (wide_div (b := 64) h (by omega) (by decide) (by decide)) fun _ => .int _
theorem od_mod (h : 0 < j) : OD C (rI (fun _ j => 0 < j) fun i j => .int (i % j)) (.int i) (.int j) (Is (.int (i % j))) := od_I h fun _ => .int _
theorem od_pow (h : 0 ≤ j ∧ j ≤ 1000000 ∧ i.natAbs < 2 ^ 64) : OD C (rI CPow fun i j => .int (i ^ j.toNat)) (.int i) (.int j) (Is (.int (i ^ j.toNat))) := od_I h fun _ => .int _
theorem od_shl (h : 0 ≤ j ∧ j ≤ 1000000 ∧ i.natAbs < 2 ^ 64) : OD C (rI CPow fun i j => .int (i * 2 ^ j.toNat)) (.int i) (.int j) (Is (.int (i * 2 ^ j.toNat))) := od_I h fun _ => .int _
theorem od_shr (h : 0 ≤ j) : OD C (rI (fun _ j => 0 ≤ j) fun i j => .int (i / 2 ^ j.toNat)) (.int i) (.int j) (Is (.int (i / 2 ^ j.toNat))) := od_I h fun _ => .int _
theorem od_lt : OD C rLtA (.int i) (.int j) (Is (.bool (decide (i < j)))) := fun B H v u e k1 k2 Q q => Or.inl (od_I0 (C := C) (g := fun i j => .bl (decide (i < j))) (fun _ => .bl _) B H v u e k1 k2 Q q)
theorem od_le : OD C rLeA (.int i) (.int j) (Is (.bool (decide (i ≤ j)))) := fun B H v u e k1 k2 Q q => Or.inl (od_I0 (C := C) (g := fun i j => .bl (decide (i ≤ j))) (fun _ => .bl _) B H v u e k1 k2 Q q)
theorem od_gt : OD C (rI0 fun i j => .bl (decide (j < i))) (.int i) (.int j) (Is (.bool (decide (j < i)))) := od_I0 fun _ => .bl _
theorem od_ge : OD C (rI0 fun i j => .bl (decide (j ≤ i))) (.int i) (.int j) (Is (.bool (decide (j ≤ i)))) := od_I0 fun _ => .bl _
theorem od_ltS : OD C rLtA (.str s) (.str t) (Is (.bool (decide (s.cps.toList < t.cps.toList)))) := fun B H v u e k1 k2 Q q => by
  obtain rfl := k1.str
  obtain rfl := k2.str
  exact Or.inr ⟨s, t, rfl, rfl, q _ _ B H rfl (Stp.refl e) (.bl _)⟩
theorem od_leS : OD C rLeA (.str s) (.str t) (Is (.bool (!decide (t.cps.toList < s.cps.toList)))) := fun B H v u e k1 k2 Q q => by
  obtain rfl := k1.str
  obtain rfl := k2.str
  exact Or.inr ⟨s, t, rfl, rfl, q _ _ B H rfl (Stp.refl e) (.bl _)⟩
theorem od_addS (h : s.length + t.length ≤ sizeLine) : OD C (rAddA C.K) (.str s) (.str t) (Is (.str (s ++ t))) := fun B H v u e k1 k2 Q q => by
  obtain rfl := k1.str
  obtain rfl := k2.str
  exact Or.inr (Or.inl ⟨s, t, rfl, rfl, h, q _ _ B H rfl (Stp.refl e) (.str _)⟩)
theorem od_catT (h : ds.length + es.length ≤ 100000) : OD C (rAddA C.K) (.tuple ds) (.tuple es) (Is (.tuple (ds ++ es))) := fun B H v u e k1 k2 Q q => by
  obtain ⟨a, xs, rfl, h1, h2⟩ := k1.tup e
  obtain ⟨b, ys, rfl, g1, g2⟩ := k2.tup e
  have l1 := dpall_len h2
  have l2 := dpall_len g2
  refine Or.inr (Or.inr (Or.inr ⟨a, b, xs, ys, rfl, rfl, h1, g1, by rw [l1, l2]; exact sz5 h, fun z => ?_, fun _ z => ?_, fun _ _ p hp => ?_⟩))
  · subst z
    cases h2
    rcases k2 with k2 | ⟨_, _, _, _, z, _⟩
    · exact q _ _ B H rfl (Stp.refl e) k2
    · cases z
  · subst z
    cases g2
    rcases k1 with k1 | ⟨_, _, _, _, z, _⟩
    · rw [List.append_nil] at q
      exact q _ _ B H rfl (Stp.refl e) k1
    · cases z
  · exact q _ _ _ _ rfl (Stp.new e hp) (.tup (Or.inl (Or.inl upd_same)) (dpall_mono (Stp.new (dl := C.dl) e hp).ext (dpall_app h2 g2)))
theorem ol_cat (h : ds.length + es.length ≤ 100000) : OL C (rAddA C.K) (.list ds) (.list es) (Is (ds ++ es)) := fun B H v u e k1 k2 Q q => by
  obtain ⟨a, xs, rfl, h1, h2⟩ := k1.lstR e
  obtain ⟨b, ys, rfl, g1, g2⟩ := k2.lstR e
  have l1 := dpall_len h2
  have l2 := dpall_len g2
  exact Or.inr (Or.inr (Or.inl ⟨a, b, xs, ys, rfl, rfl, h1, g1, by rw [l1, l2]; exact sz5 h, fun p hp => q _ p (xs ++ ys) B _ rfl (Stp.newM e hp) hp (e.free hp) upd_same (dpall_app h2 g2)⟩))
/-- == of any data -/
theorem od_eq (h1 : SeqAt.shaped x = true) (h2 : SeqAt.shaped y = true) : OD C (rEqA C.K) x y (Is (.bool (PyData.eqv x y))) := fun B H v u e k1 k2 Q q =>
  Or.inr ⟨x, y, (k1.now e).dp, (k2.now e).dp, h1, h2, q _ _ B H rfl (Stp.refl e) (.bl _)⟩
theorem od_ne (h1 : SeqAt.shaped x = true) (h2 : SeqAt.shaped y = true) : OD C (rNeA C.K) x y (Is (.bool (!PyData.eqv x y))) := fun B H v u e k1 k2 Q q =>
  Or.inr ⟨x, y, (k1.now e).dp, (k2.now e).dp, h1, h2, q _ _ B H rfl (Stp.refl e) (.bl _)⟩
/-- of ints, of texts -/
theorem od_eqI : OD C (rEqA C.K) (.int i) (.int j) (Is (.bool (decide (i = j)))) := fun B H v u e k1 k2 Q q => by
  obtain rfl := k1.int
  obtain rfl := k2.int
  refine Or.inl ⟨rfl, ?_⟩
  rw [show decide (V.int i = V.int j) = decide (i = j) from decide_eq_decide.mpr ⟨fun h => V.int.inj h, fun h => by rw [h]⟩]
  exact q _ _ B H rfl (Stp.refl e) (.bl _)
theorem od_neI : OD C (rNeA C.K) (.int i) (.int j) (Is (.bool (!decide (i = j)))) := fun B H v u e k1 k2 Q q => by
  obtain rfl := k1.int
  obtain rfl := k2.int
  refine Or.inl ⟨rfl, ?_⟩
  rw [show decide (V.int i = V.int j) = decide (i = j) from decide_eq_decide.mpr ⟨fun h => V.int.inj h, fun h => by rw [h]⟩]
  exact q _ _ B H rfl (Stp.refl e) (.bl _)
theorem od_eqS : OD C (rEqA C.K) (.str s) (.str t) (Is (.bool (decide (s = t)))) := fun B H v u e k1 k2 Q q => by
  obtain rfl := k1.str
  obtain rfl := k2.str
  refine Or.inl ⟨rfl, ?_⟩
  rw [show decide (V.str s = V.str t) = decide (s = t) from decide_eq_decide.mpr ⟨fun h => V.str.inj h, fun h => by rw [h]⟩]
  exact q _ _ B H rfl (Stp.refl e) (.bl _)
theorem od_neS : OD C (rNeA C.K) (.str s) (.str t) (Is (.bool (!decide (s = t)))) := fun B H v u e k1 k2 Q q => by
  obtain rfl := k1.str
  obtain rfl := k2.str
  refine Or.inl ⟨rfl, ?_⟩
  rw [show decide (V.str s = V.str t) = decide (s = t) from decide_eq_decide.mpr ⟨fun h => V.str.inj h, fun h => by rw [h]⟩]
  exact q _ _ B H rfl (Stp.refl e) (.bl _)
/-- x is None -/
def isNone : D → Bool
  | .none => true
  | _ => false
def rIsNo : R2 := fun x y H Q => y = .non ∧ Q (.bl (decide (x = .non))) H
def rNotNo : R2 := fun x y H Q => y = .non ∧ Q (.bl (!decide (x = .non))) H
theorem oq_isN {X : Cx} : OpR X (compareOp .Is) rIsNo := op_isN
theorem oq_notN {X : Cx} : OpR X (compareOp .IsNot) rNotNo := op_notN
theorem vw_none {B H : Hp} {v : V} (k : Vw C B H v x) : decide (v = .non) = isNone x := by
  rcases k with k | ⟨_, _, _, rfl, rfl, _⟩
  · cases k <;> rfl
  · rfl
theorem od_isN : OD C rIsNo x .none (Is (.bool (isNone x))) := fun B H v u e k1 k2 Q q => ⟨k2.non, by rw [vw_none k1]; exact q _ _ B H rfl (Stp.refl e) (.bl _)⟩
theorem od_notN : OD C rNotNo x .none (Is (.bool (!isNone x))) := fun B H v u e k1 k2 Q q => ⟨k2.non, by rw [vw_none k1]; exact q _ _ B H rfl (Stp.refl e) (.bl _)⟩
/-- a sign in a text -/
theorem od_inSg {c : Nat} : OD C (rInA C.K) (.str ⟨#[c]⟩) (.str s) (Is (.bool (decide (c ∈ s.cps.toList)))) := fun B H v u e k1 k2 Q q => by
  obtain rfl := k1.str
  obtain rfl := k2.str
  exact Or.inl ⟨c, s, rfl, rfl, q _ _ B H rfl (Stp.refl e) (.bl _)⟩
/-- in a list of any data -/
theorem od_inL (h1 : SeqAt.shaped x = true) (h2 : SeqAt.shaped (.list ds) = true) : OD C (rInA C.K) x (.list ds) (Is (.bool (ds.any fun z => PyData.eqv z x))) := fun B H v u e k1 k2 Q q =>
  Or.inr (Or.inr ⟨x, ds, (k1.now e).dp, (k2.now e).dp, h1, h2, q _ _ B H rfl (Stp.refl e) (.bl _)⟩)
theorem od_notinL (h1 : SeqAt.shaped x = true) (h2 : SeqAt.shaped (.list ds) = true) : OD C (rNotInA C.K) x (.list ds) (Is (.bool (!ds.any fun z => PyData.eqv z x))) := fun B H v u e k1 k2 Q q =>
  Or.inr (Or.inr ⟨x, ds, (k1.now e).dp, (k2.now e).dp, h1, h2, q _ _ B H rfl (Stp.refl e) (.bl _)⟩)
/-! flat things in a list or tuple -/
def flatD : D → Bool
  | .none | .bool _ | .int _ | .str _ => true
  | _ => false
theorem flat_v {K : PySem.W.Frag} {H : Hp} {v : V} (h : flatD x = true) (k : Dq K H v x) : flatV v = true := by
  cases k <;> first | rfl | cases h
theorem flat_all {K : PySem.W.Frag} {H : Hp} : ∀ {vs : List V} {ds : List D}, ds.all flatD = true → DqAll K H vs ds → vs.all flatV = true
  | _, _, _, .nil => rfl
  | _, _, h, .cons h1 h2 => by
    rw [List.all_cons, Bool.and_eq_true] at h
    rw [List.all_cons, flat_v h.1 h1, flat_all h.2 h2]
    rfl
theorem flat_eqv {K : PySem.W.Frag} {H : Hp} {v u : V} (hx : flatD x = true) (hy : flatD y = true) (k1 : Dq K H v x) (k2 : Dq K H u y) : eqV v u = PyData.eqv x y := by
  cases k1 <;> cases k2 <;> simp_all [flatD, eqV, PyData.eqv]
theorem flat_any {K : PySem.W.Frag} {H : Hp} {v : V} (hx : flatD x = true) (k : Dq K H v x) : ∀ {vs : List V} {ds : List D}, ds.all flatD = true → DqAll K H vs ds → inV v vs = ds.any fun z => PyData.eqv z x
  | _, _, _, .nil => rfl
  | _, _, h, .cons h1 h2 => by
    rw [List.all_cons, Bool.and_eq_true] at h
    show (eqV _ v || inV v _) = _
    rw [flat_eqv h.1 hx h1 k, flat_any hx k h.2 h2]
    rfl
theorem vw_flat {B H : Hp} {v : V} (hx : flatD x = true) (k : Vw C B H v x) : Dq C.K B v x := by
  rcases k with k | ⟨_, _, _, _, rfl, _⟩
  · exact k
  · cases hx
theorem od_inT (h1 : flatD x = true) (h2 : ds.all flatD = true) : OD C (rInA C.K) x (.tuple ds) (Is (.bool (ds.any fun z => PyData.eqv z x))) := fun B H v u e k1 k2 Q q => by
  obtain ⟨a, xs, rfl, g1, g2⟩ := k2.tup e
  have kx := vw_flat h1 k1
  refine Or.inr (Or.inl ⟨a, xs, rfl, Or.inr g1, flat_v h1 kx, flat_all h2 g2, ?_⟩)
  rw [if_neg Bool.false_ne_true, flat_any h1 kx h2 g2]
  exact q _ _ B H rfl (Stp.refl e) (.bl _)
theorem od_notinT (h1 : flatD x = true) (h2 : ds.all flatD = true) : OD C (rNotInA C.K) x (.tuple ds) (Is (.bool (!ds.any fun z => PyData.eqv z x))) := fun B H v u e k1 k2 Q q => by
  obtain ⟨a, xs, rfl, g1, g2⟩ := k2.tup e
  have kx := vw_flat h1 k1
  refine Or.inr (Or.inl ⟨a, xs, rfl, Or.inr g1, flat_v h1 kx, flat_all h2 g2, ?_⟩)
  rw [if_pos rfl, flat_any h1 kx h2 g2]
  exact q _ _ B H rfl (Stp.refl e) (.bl _)
/-! subscripts -/
theorem at_len {α β : Type} {xs : List α} {ys : List β} (h : xs.length = ys.length) {m : Nat} (e : ixN ys.length i = some m) : atI xs i = xs[m]? := by
  unfold atI
  rw [h, e]
  rfl
theorem at_get {α : Type} {xs : List α} {v : α} (h : atI xs i = some v) : ∃ m, ixN xs.length i = some m ∧ xs[m]? = some v := by
  unfold atI at h
  cases e : ixN xs.length i with
  | none =>
    rw [e] at h
    cases h
  | some m =>
    rw [e] at h
    exact ⟨m, rfl, h⟩
theorem od_ixL (h : atI ds i = some z) : OD C (rIx C.K) (.list ds) (.int i) (Is z) := fun B H v u e k1 k2 Q q => by
  obtain ⟨a, xs, rfl, h1, h2⟩ := k1.lst e
  obtain rfl := k2.int
  obtain ⟨m, hm, hz⟩ := at_get h
  obtain ⟨w, hw, kw⟩ := dpall_get h2 hz
  exact Or.inl ⟨a, xs, i, w, rfl, rfl, h1, (at_len (dpall_len h2) hm).trans hw, q _ _ B H rfl (Stp.refl e) kw⟩
theorem od_ixT (h : atI ds i = some z) : OD C (rIx C.K) (.tuple ds) (.int i) (Is z) := fun B H v u e k1 k2 Q q => by
  obtain ⟨a, xs, rfl, h1, h2⟩ := k1.tup e
  obtain rfl := k2.int
  obtain ⟨m, hm, hz⟩ := at_get h
  obtain ⟨w, hw, kw⟩ := dpall_get h2 hz
  exact Or.inr (Or.inl ⟨a, xs, i, w, rfl, rfl, h1, (at_len (dpall_len h2) hm).trans hw, q _ _ B H rfl (Stp.refl e) kw⟩)
theorem od_ixS {c : Nat} (hz : s.length ≤ 1000000) (h : atI s.cps.toList i = some c) : OD C (rIx C.K) (.str s) (.int i) (Is (.str ⟨#[c]⟩)) := fun B H v u e k1 k2 Q q => by
  obtain rfl := k1.str
  obtain rfl := k2.int
  exact Or.inr (Or.inr ⟨s, i, c, rfl, rfl, Nat.le_trans hz (by decide), h, q _ _ B H rfl (Stp.refl e) (.str _)⟩)
theorem atI_pos {α : Type} {xs : List α} {m : Nat} {v : α} (h : xs[m]? = some v) : atI xs (m : Int) = some v := by
  have hl := (List.getElem?_eq_some_iff.mp h).1
  unfold atI ixN
  rw [if_pos (by omega), if_pos (by omega)]
  exact h
theorem atI_neg1 {α : Type} {xs : List α} {v : α} (h : xs.getLast? = some v) : atI xs (-1) = some v := by
  have hl : xs ≠ [] := fun z => by
    subst z
    cases h
  have hp : 0 < xs.length := List.length_pos_iff.mpr hl
  unfold atI ixN
  rw [if_neg (by omega), if_pos (by omega)]
  show xs[((-1 : Int) + xs.length).toNat]? = some v
  rw [show ((-1 : Int) + xs.length).toNat = xs.length - 1 by omega, ← List.getLast?_eq_getElem?]
  exact h
/-! slices -/
def cut {α : Type} (xs : List α) (lo hi : Option Int) : List α := (xs.drop (HT.sIx xs.length 0 lo)).take (HT.sIx xs.length xs.length hi - HT.sIx xs.length 0 lo)
theorem cut_dq {K : PySem.W.Frag} {H : Hp} {vs : List V} (lo hi : Option Int) (h : DqAll K H vs ds) : DqAll K H (cutV vs lo hi) (cut ds lo hi) := by
  unfold cutV cut
  rw [dpall_len h]
  exact dpall_take _ (dpall_drop _ h)
variable {t1 : TE} {tl th : TO} {lo hi : Option Int}
theorem vl_sl {S : List D → Prop} (h : VV C t1 Γ (fun d => ∃ ds, d = .list ds ∧ S ds)) (h1 : VO C tl Γ (Is lo)) (h2 : VO C th Γ (Is hi)) : VL C (tSl (rSlany C.K) t1 tl th) Γ (fun es => ∃ ds, S ds ∧ es = cut ds lo hi) := fun B H σ F Q q =>
  h B H σ F _ fun d v B1 H1 ⟨ds, ed, r⟩ s1 k1 => h1 B1 H1 σ (F.step s1) _ fun o B2 H2 e2 s2 => h2 B2 H2 σ ((F.step s1).step s2) _ fun o' B3 H3 e3 s3 => by
    subst ed
    cases e2
    cases e3
    have F3 := ((F.step s1).step s2).step s3
    have k3 := (k1.step (F.step s1) s2).step ((F.step s1).step s2) s3
    obtain ⟨a, xs, rfl, g1, g2⟩ := k3.lst F3.sub
    have st := (s1.trans F.dlNow s2).trans F.dlNow s3
    exact Or.inl ⟨a, xs, rfl, g1, fun p hp => q _ p _ B3 _ ⟨ds, r, rfl⟩ (st.trans F.dlNow (Stp.newM F3.sub hp)) (back_none F st hp) (F3.sub.free hp) upd_same (cut_dq lo hi g2)⟩
theorem vl_slD (h : VV C t1 Γ (Is (.list ds))) (h1 : VO C tl Γ (Is lo)) (h2 : VO C th Γ (Is hi)) : VL C (tSl (rSlany C.K) t1 tl th) Γ (Is (cut ds lo hi)) :=
  (vl_sl (S := Is ds) (fun B H σ F Q q => h B H σ F Q fun d v B' H' e s k => q d v B' H' ⟨ds, e, rfl⟩ s k) h1 h2).imp fun es ⟨xs, e, r⟩ => by
    cases e
    exact r
theorem ve_slT (h : VE C t1 Γ (Is (.tuple ds))) (h1 : VO C tl Γ (Is lo)) (h2 : VO C th Γ (Is hi)) : VE C (tSl (rSlany C.K) t1 tl th) Γ (Is (.tuple (cut ds lo hi))) := fun B H σ F Q q =>
  h B H σ F _ fun d v B1 H1 ed s1 k1 => h1 B1 H1 σ (F.step s1) _ fun o B2 H2 e2 s2 => h2 B2 H2 σ ((F.step s1).step s2) _ fun o' B3 H3 e3 s3 => by
    cases ed
    cases e2
    cases e3
    have F3 := ((F.step s1).step s2).step s3
    have k3 := dp_mono (s2.ext.trans s3.ext) k1
    obtain ⟨a, xs, rfl, g1, g2⟩ := dp_tup k3
    have st := (s1.trans F.dlNow s2).trans F.dlNow s3
    refine Or.inr (Or.inl ⟨a, xs, rfl, same_t F3.sub g1, fun w => ?_, fun _ p hp => ?_⟩)
    · have e : cut ds lo hi = ds := by
        unfold cut
        rw [dpall_len g2] at w
        rw [w.1, w.2]
        simp
      rw [e] at q
      exact q _ _ B3 H3 rfl st k3
    · exact q _ _ _ _ rfl (st.trans F.dlNow (Stp.new F3.sub hp)) (.tup (Or.inl (Or.inl upd_same)) (dpall_mono (Stp.new (dl := C.dl) F3.sub hp).ext (cut_dq lo hi g2)))
theorem ve_slS (hz : s.length ≤ 1000000) (h : VE C t1 Γ (Is (.str s))) (h1 : VO C tl Γ (Is lo)) (h2 : VO C th Γ (Is hi)) : VE C (tSl (rSlany C.K) t1 tl th) Γ (Is (.str ⟨(cut s.cps.toList lo hi).toArray⟩)) := fun B H σ F Q q =>
  h B H σ F _ fun d v B1 H1 ed s1 k1 => h1 B1 H1 σ (F.step s1) _ fun o B2 H2 e2 s2 => h2 B2 H2 σ ((F.step s1).step s2) _ fun o' B3 H3 e3 s3 => by
    cases ed
    cases e2
    cases e3
    obtain rfl := dp_str k1
    refine Or.inr (Or.inr ⟨s, rfl, Nat.le_trans hz (by decide), ?_⟩)
    have e : cutS s lo hi = ⟨(cut s.cps.toList lo hi).toArray⟩ := by
      unfold cutS cut
      rfl
    rw [e]
    exact q _ _ B3 H3 rfl ((s1.trans F.dlNow s2).trans F.dlNow s3) (.str _)
theorem vl_rev {S : List D → Prop} (h : VV C t1 Γ (fun d => ∃ ds, d = .list ds ∧ S ds)) : VL C (tRevL C.K t1) Γ (fun es => ∃ ds, S ds ∧ es = ds.reverse) := fun B H σ F Q q =>
  h B H σ F _ fun d v B1 H1 ⟨ds, ed, r⟩ s1 k1 => by
    subst ed
    have F1 := F.step s1
    obtain ⟨a, xs, rfl, g1, g2⟩ := k1.lst F1.sub
    exact ⟨a, xs, rfl, g1, fun p hp => q _ p _ B1 _ ⟨ds, r, rfl⟩ (s1.trans F.dlNow (Stp.newM F1.sub hp)) (back_none F s1 hp) (F1.sub.free hp) upd_same (dpall_rev g2)⟩
theorem vl_revD (h : VV C t1 Γ (Is (.list ds))) : VL C (tRevL C.K t1) Γ (Is ds.reverse) :=
  (vl_rev (S := Is ds) (fun B H σ F Q q => h B H σ F Q fun d v B' H' e s k => q d v B' H' ⟨ds, e, rfl⟩ s k)).imp fun es ⟨xs, e, r⟩ => by
    cases e
    exact r
end
end Ly

/-! LyH: built-ins by data: len, tuple, list, int, abs, max, min, sum, all, any, repr, join, isinstance; enumerate of a text. -/
namespace Ly
open PySem PySem.Spec PyProof.Rows L2

section
variable {C : Cn} {Γ : List Sl} {x y z d : D} {ds es : List D} {i j : Int} {s t : Str} {R : D → Prop} {te ta tb : TE} {S : List D → Prop}
/-! ### len -/
def rLen (K : PySem.W.Frag) : List V → Hp → VK → Prop := fun xs H Q => ∃ x n, xs = [x] ∧ LenV K x H n ∧ Q (.int n) H
theorem cq_len {X : Cx} : CallR X (.builtin "len") (rLen X.K) := call_len
theorem cd_lenL : CD C (rLen C.K) [.list ds] (Is (.int ds.length)) := fun B H vs e k Q q => by
  cases k with
  | cons k k' =>
    cases k'
    obtain ⟨a, xs, rfl, h1, h2⟩ := k.lst e
    rw [← dpall_len h2] at q
    exact ⟨_, xs.length, rfl, Or.inl ⟨xs, h1, rfl⟩, q _ _ B H rfl (Stp.refl e) (.int _)⟩
theorem cd_lenT : CD C (rLen C.K) [.tuple ds] (Is (.int ds.length)) := fun B H vs e k Q q => by
  cases k with
  | cons k k' =>
    cases k'
    obtain ⟨a, xs, rfl, h1, h2⟩ := k.tup e
    rw [← dpall_len h2] at q
    exact ⟨_, xs.length, rfl, Or.inr ⟨xs, h1, rfl⟩, q _ _ B H rfl (Stp.refl e) (.int _)⟩
theorem cd_lenS (h : s.length ≤ 1000000) : CD C (rLen C.K) [.str s] (Is (.int s.length)) := fun B H vs e k Q q => by
  cases k with
  | cons k k' =>
    cases k'
    obtain rfl := k.str
    exact ⟨_, s.length, rfl, ⟨Nat.le_trans h (by decide), rfl⟩, q _ _ B H rfl (Stp.refl e) (.int _)⟩
theorem ve_lenL (h : VV C te Γ (Is (.list ds))) : VE C (tCB (rLen C.K) (tCons te tNil)) Γ (Is (.int ds.length)) := ve_cbD (vw_consD h vw_nil) cd_lenL
theorem ve_lenT (h : VE C te Γ (Is (.tuple ds))) : VE C (tCB (rLen C.K) (tCons te tNil)) Γ (Is (.int ds.length)) := ve_cbD (vw_consD h.v vw_nil) cd_lenT
theorem ve_lenS (hz : s.length ≤ 1000000) (h : VE C te Γ (Is (.str s))) : VE C (tCB (rLen C.K) (tCons te tNil)) Γ (Is (.int s.length)) := ve_cbD (vw_consD h.v vw_nil) (cd_lenS hz)
/-! ### tuple, list -/
def rTup (K : PySem.W.Frag) : List V → Hp → VK → Prop := fun xs H Q => ∃ p ys, xs = [.ref p] ∧ ((SqL K H p ys ∧ ∀ l, H l = none → Q (.ref l) (upd H l (.tup ys))) ∨ (SqT K H p ys ∧ Q (.ref p) H))
theorem cq_tup {X : Cx} : CallR X (.type "tuple") (rTup X.K) := call_tuple_of
theorem cd_tupL : CD C (rTup C.K) [.list ds] (Is (.tuple ds)) := fun B H vs e k Q q => by
  cases k with
  | cons k k' =>
    cases k'
    obtain ⟨a, xs, rfl, h1, h2⟩ := k.lst e
    exact ⟨a, xs, rfl, Or.inl ⟨h1, fun l hl => q _ _ _ _ rfl (Stp.new e hl) (.tup (Or.inl (Or.inl upd_same)) (dpall_mono (Stp.new (dl := C.dl) e hl).ext h2))⟩⟩
theorem cd_tupT : CD C (rTup C.K) [.tuple ds] (Is (.tuple ds)) := fun B H vs e k Q q => by
  cases k with
  | cons k k' =>
    cases k'
    have k0 := k
    obtain ⟨a, xs, rfl, h1, h2⟩ := k.tup e
    rcases k0 with k0 | ⟨_, _, _, _, z, _⟩
    · exact ⟨a, xs, rfl, Or.inr ⟨h1, q _ _ B H rfl (Stp.refl e) k0⟩⟩
    · cases z
theorem ve_tupL (h : VV C te Γ (Is (.list ds))) : VE C (tCB (rTup C.K) (tCons te tNil)) Γ (Is (.tuple ds)) := ve_cbD (vw_consD h vw_nil) cd_tupL
theorem ve_tupN (h : VV C te Γ (fun d => ∃ ds, d = .list ds ∧ S ds)) : VE C (tCB (rTup C.K) (tCons te tNil)) Γ (fun d => ∃ ds, d = .tuple ds ∧ S ds) := ve_cb (vw_cons h vw_nil) fun xs ⟨d, r, e, ⟨ds, e1, e2⟩, e3⟩ => by
  subst e1
  cases e3
  subst e
  intro B H vs e k Q q
  exact cd_tupL B H vs e k Q fun d w B' H' r s k => q d w B' H' ⟨ds, r, e2⟩ s k
def rList (K : PySem.W.Frag) : List V → Hp → VK → Prop := fun xs H Q => ∃ p ys, xs = [.ref p] ∧ (SqL K H p ys ∨ SqT K H p ys) ∧ ∀ l, H l = none → Q (.ref l) (upd H l (.lst ys))
theorem cq_list {X : Cx} : CallR X (.type "list") (rList X.K) := call_list_of
theorem cl_listL : CL C (rList C.K) [.list ds] (Is ds) := fun B H vs e k Q q => by
  cases k with
  | cons k k' =>
    cases k'
    obtain ⟨a, xs, rfl, h1, h2⟩ := k.lst e
    exact ⟨a, xs, rfl, Or.inl h1, fun l hl => q _ l xs B _ rfl (Stp.newM e hl) hl (e.free hl) upd_same h2⟩
theorem cl_listT : CL C (rList C.K) [.tuple ds] (Is ds) := fun B H vs e k Q q => by
  cases k with
  | cons k k' =>
    cases k'
    obtain ⟨a, xs, rfl, h1, h2⟩ := k.tup e
    exact ⟨a, xs, rfl, Or.inr h1, fun l hl => q _ l xs B _ rfl (Stp.newM e hl) hl (e.free hl) upd_same h2⟩
theorem vl_listL (h : VV C te Γ (Is (.list ds))) : VL C (tCB (rList C.K) (tCons te tNil)) Γ (Is ds) := vl_cbD (vw_consD h vw_nil) cl_listL
theorem vl_listT (h : VE C te Γ (Is (.tuple ds))) : VL C (tCB (rList C.K) (tCons te tNil)) Γ (Is ds) := vl_cbD (vw_consD h.v vw_nil) cl_listT
/-! ### ints -/
def rInt1 : List V → Hp → VK → Prop := fun xs H Q => (∃ i, xs = [.int i] ∧ Q (.int i) H) ∨ ∃ k, xs = [.bl k] ∧ Q (.int (if k then 1 else 0)) H
theorem cq_int {X : Cx} : CallR X (.type "int") rInt1 := call_int1
theorem ve_int1 (h : VE C te Γ (Is (.int i))) : VE C (tCB rInt1 (tCons te tNil)) Γ (Is (.int i)) := ve_cbD (vw_consD h.v vw_nil) fun B H vs e k Q q => by
  cases k with
  | cons k k' =>
    cases k'
    obtain rfl := k.int
    exact Or.inl ⟨i, rfl, q _ _ B H rfl (Stp.refl e) (.int _)⟩
theorem ve_int1R {R : Int → Prop} (h : VE C te Γ (fun d => ∃ i, d = .int i ∧ R i)) : VE C (tCB rInt1 (tCons te tNil)) Γ (fun d => ∃ i, d = .int i ∧ R i) := ve_cb (vw_cons h.v vw_nil) fun xs ⟨d, r, e, ⟨i, e1, e2⟩, e3⟩ => by
  subst e1
  cases e3
  subst e
  intro B H vs e k Q q
  cases k with
  | cons k k' =>
    cases k'
    obtain rfl := k.int
    exact Or.inl ⟨i, rfl, q _ _ B H ⟨i, rfl, e2⟩ (Stp.refl e) (.int _)⟩
def rAbs : List V → Hp → VK → Prop := fun xs H Q => ∃ i, xs = [.int i] ∧ Q (.int (if i < 0 then -i else i)) H
theorem cq_abs {X : Cx} : CallR X (.builtin "abs") rAbs := call_abs
theorem ve_abs (h : VE C te Γ (Is (.int i))) : VE C (tCB rAbs (tCons te tNil)) Γ (Is (.int (if i < 0 then -i else i))) := ve_cbD (vw_consD h.v vw_nil) fun B H vs e k Q q => by
  cases k with
  | cons k k' =>
    cases k'
    obtain rfl := k.int
    exact ⟨i, rfl, q _ _ B H rfl (Stp.refl e) (.int _)⟩
def rMx : List V → Hp → VK → Prop := fun xs H Q => ∃ i j, xs = [.int i, .int j] ∧ Q (.int (if j > i then j else i)) H
theorem cq_max {X : Cx} (hc : X.calm = true) : CallR X (.builtin "max") rMx := call_max2 hc
theorem ve_max (h : VE C ta Γ (Is (.int i))) (h2 : VE C tb Γ (Is (.int j))) : VE C (tCB rMx (tCons ta (tCons tb tNil))) Γ (Is (.int (if j > i then j else i))) := ve_cbD (vw_consD h.v (vw_consD h2.v vw_nil)) fun B H vs e k Q q => by
  cases k with
  | cons k k' =>
    cases k' with
    | cons k1 k2 =>
      cases k2
      obtain rfl := k.int
      obtain rfl := k1.int
      exact ⟨i, j, rfl, q _ _ B H rfl (Stp.refl e) (.int _)⟩
def rMn : List V → Hp → VK → Prop := fun xs H Q => ∃ i j, xs = [.int i, .int j] ∧ Q (.int (if j < i then j else i)) H
theorem cq_min {X : Cx} (hc : X.calm = true) : CallR X (.builtin "min") rMn := call_min2 hc
theorem ve_min (h : VE C ta Γ (Is (.int i))) (h2 : VE C tb Γ (Is (.int j))) : VE C (tCB rMn (tCons ta (tCons tb tNil))) Γ (Is (.int (if j < i then j else i))) := ve_cbD (vw_consD h.v (vw_consD h2.v vw_nil)) fun B H vs e k Q q => by
  cases k with
  | cons k k' =>
    cases k' with
    | cons k1 k2 =>
      cases k2
      obtain rfl := k.int
      obtain rfl := k1.int
      exact ⟨i, j, rfl, q _ _ B H rfl (Stp.refl e) (.int _)⟩
theorem ve_sum {ns : List Int} (h : VV C te Γ (Is (.list (ns.map .int)))) : VE C (tCB (rSum C.K) (tCons te tNil)) Γ (Is (.int ns.sum)) := ve_cbD (vw_consD h vw_nil) fun B H vs e k Q q => by
  cases k with
  | cons k k' =>
    cases k'
    obtain ⟨a, xs, rfl, h1, h2⟩ := k.lst e
    rw [dpall_ints h2] at h1
    exact ⟨a, ns, rfl, h1, q _ _ B H rfl (Stp.refl e) (.int _)⟩
theorem ve_all {ns : List Bool} (h : VV C te Γ (Is (.list (ns.map .bool)))) : VE C (tCB (rAll C.K) (tCons te tNil)) Γ (Is (.bool (ns.all id))) := ve_cbD (vw_consD h vw_nil) fun B H vs e k Q q => by
  cases k with
  | cons k k' =>
    cases k'
    obtain ⟨a, xs, rfl, h1, h2⟩ := k.lst e
    rw [dpall_bls h2] at h1
    exact ⟨a, ns, rfl, h1, q _ _ B H rfl (Stp.refl e) (.bl _)⟩
/-! ### repr -/
theorem ve_repr (h : VV C te Γ (Is d)) (h1 : d.showable = true) (h2 : d.hasDict = false) (h3 : d.depth ≤ 100) (h4 : d.shown.length ≤ sizeLine) : VE C (tCB (rRepr C.K) (tCons te tNil)) Γ (Is (.str d.shown)) := ve_cbD (vw_consD h vw_nil) fun B H vs e k Q q => by
  cases k with
  | cons k k' =>
    cases k'
    exact ⟨_, d, rfl, (k.now e).dp, h1, h2, h3, h4, q _ _ B H rfl (Stp.refl e) (.str _)⟩
/-! ### join -/
def rJoin (K : PySem.W.Frag) : V → List V → Hp → VK → Prop := fun x xs H Q => ∃ a p, ∃ ys : List Str, x = .str a ∧ xs = [.ref p] ∧ (SqL K H p (ys.map V.str) ∨ SqT K H p (ys.map V.str)) ∧
  (ys.map (·.length)).sum + ys.length * a.length ≤ 16777216 ∧ Q (.str (Txt.join a ys)) H
theorem mq_join {X : Cx} : MtR X "str.join" (rJoin X.K) := mt_join
theorem ve_joinL {ys : List Str} (h : VE C ta Γ (Is (.str s))) (h2 : VV C te Γ (Is (.list (ys.map .str)))) (hz : (ys.map (·.length)).sum + ys.length * s.length ≤ 16777216) : VE C (tM1 (rJoin C.K) ta te) Γ (Is (.str (Txt.join s ys))) := fun B H σ F Q q =>
  h B H σ F _ fun d v B1 H1 ed s1 k1 => by
    cases ed
    obtain rfl := dp_str k1
    refine ⟨⟨s, rfl⟩, h2 B1 H1 σ (F.step s1) _ fun d v B2 H2 ed s2 k2 => ?_⟩
    cases ed
    obtain ⟨a, xs, rfl, g1, g2⟩ := k2.lst ((F.step s1).step s2).sub
    rw [dpall_strs g2] at g1
    exact ⟨s, a, ys, rfl, rfl, Or.inl g1, hz, q _ _ B2 H2 rfl (s1.trans F.dlNow s2) (.str _)⟩
theorem ve_joinT {ys : List Str} (h : VE C ta Γ (Is (.str s))) (h2 : VE C te Γ (Is (.tuple (ys.map .str)))) (hz : (ys.map (·.length)).sum + ys.length * s.length ≤ 16777216) : VE C (tM1 (rJoin C.K) ta te) Γ (Is (.str (Txt.join s ys))) := fun B H σ F Q q =>
  h B H σ F _ fun d v B1 H1 ed s1 k1 => by
    cases ed
    obtain rfl := dp_str k1
    refine ⟨⟨s, rfl⟩, h2 B1 H1 σ (F.step s1) _ fun d v B2 H2 ed s2 k2 => ?_⟩
    cases ed
    obtain ⟨a, xs, rfl, g1, g2⟩ := dp_tup k2
    rw [dpall_strs g2] at g1
    exact ⟨s, a, ys, rfl, rfl, Or.inr (same_t ((F.step s1).step s2).sub g1), hz, q _ _ B2 H2 rfl (s1.trans F.dlNow s2) (.str _)⟩
/-! ### isinstance -/
def tyName : D → String
  | .none => "NoneType"
  | .bool _ => "bool"
  | .int _ => "int"
  | .str _ => "str"
  | .list _ => "list"
  | .tuple _ => "tuple"
  | .dict _ => "dict"
theorem dq_ty {K : PySem.W.Frag} {H : Hp} {v : V} (k : Dp K H v x) (hr : ∀ ds, x = .list ds → ∃ a xs, v = .ref a ∧ Rd H a (.lst xs)) : TyX K H v (.type (tyName x)) := by
  cases k with
  | non => exact .base .non
  | bl b => exact .base (.bl b)
  | int i => exact .base (.int i)
  | str z => exact .base (.str z)
  | lst h k =>
    obtain ⟨a, xs, e, h⟩ := hr _ rfl
    cases e
    rcases h with h | ⟨o, h⟩
    · exact .base (.lst h)
    · exact .base (.frz h)
  | tup h k =>
    rcases h with (h | ⟨o, h⟩) | ⟨o, its, n, h1, h2, _⟩
    · exact .base (.tup h)
    · exact .fTuple h
    · exact .kTuple h1 h2
def rIsAny (K : PySem.W.Frag) : List V → Hp → VK → Prop := fun xs H Q => rIsi K xs H Q ∨ rIsiT K xs H Q
theorem cq_isi {X : Cx} : CallR X (.builtin "isinstance") (rIsAny X.K) := CallR.or call_isi call_isiT
theorem vw_ty {B H : Hp} {v : V} (e : Same B H) (k : Vw C B H v x) : TyX C.K H v (.type (tyName x)) := dq_ty (k.now e).dp fun ds ed => by
  subst ed
  obtain ⟨a, xs, h1, h2, _⟩ := k.lstR e
  exact ⟨a, xs, h1, h2⟩
/-- isinstance(x, T) -/
theorem ve_isi {n : String} {b : Bool} (h : VV C te Γ (Is x)) (hb : kitB (tyName x) n = some b) : VE C (tCB (rIsAny C.K) (tCons te (tCons (tC (.ty n)) tNil))) Γ (Is (.bool b)) := fun B H σ F Q q =>
  h B H σ F _ fun d v B1 H1 ed s1 k1 => by
    cases ed
    exact Or.inl ⟨v, .ty n, _, _, b, rfl, .ty n, vw_ty (F.step s1).sub k1, kit_ty hb, q _ _ B1 H1 rfl s1 (.bl _)⟩
/-- isinstance(x, (T, U)) -/
theorem ve_isi2 {m n : String} {b c : Bool} (h : VV C te Γ (Is x)) (hb : kitB (tyName x) m = some b) (hc : kitB (tyName x) n = some c) :
    VE C (tCB (rIsAny C.K) (tCons te (tCons (tTup (tCons (tC (.ty m)) (tCons (tC (.ty n)) tNil))) tNil))) Γ (Is (.bool (b || c))) := fun B H σ F Q q =>
  h B H σ F _ fun d v B1 H1 ed s1 k1 => by
    cases ed
    refine ⟨by show 2 ≤ sizeLine; decide, fun p hp => ?_⟩
    have st := Stp.newM (dl := C.dl) (o := .tup [V.ty m, V.ty n]) (F.step s1).sub hp
    have k2 := k1.step (F.step s1) st
    refine Or.inr ⟨v, p, [.ty m, .ty n], _, [.type m, .type n], b || c, rfl, upd_same, .cons (.ty m) (.cons (.ty n) .nil), vw_ty ((F.step s1).step st).sub k2, ?_, q _ _ B1 _ rfl (s1.trans F.dlNow st) (.bl _)⟩
    refine kitAny_cons (kit_ty hb) (fun e => ?_) fun e => by rw [e]; rfl
    subst e
    refine kitAny_cons (r := false || c) (kit_ty hc) (fun e => ?_) fun e => by rw [e]; rfl
    subst e
    rfl
end

/-! ### enumerate of a text -/
def ItS (z : Str) : It := ⟨fun i _ => i < z.cps.size, fun i H v H' => ∃ T c, v = .ref T ∧ H T = none ∧ H' = upd H T (.tup [.int (i : Nat), .str ⟨#[c]⟩]) ∧ z.cps[i]? = some c, fun i _ => i = z.cps.size⟩
theorem walk_enumS {z : Str} : Walk (ItS z) z.cps.size (fun _ => True) (fun i H v H' => ∃ T c, v = .ref T ∧ H T = none ∧ H' = upd H T (.tup [.int (i : Nat), .str ⟨#[c]⟩]) ∧ z.cps[i]? = some c) :=
  ⟨fun _ _ h _ => h, fun _ _ => rfl, fun _ _ _ _ _ _ y => y⟩
theorem draws_str {prog : Program} {w : World} {A : Around} (hh : A.handled = none) (it : Addr) (x : Str) (t : Tok) :
    Draws prog w A it [it] x.cps.size (fun i v => ∃ c u, x.cps[i]? = some c ∧ v = .str ⟨#[c]⟩ u) (fun i h => h.IsStrIter it (strIterType x) x t i) := by
  unfold strIterType
  split
  · exact Draws.strAscii hh it x t
  · exact Draws.strWide hh it x t
theorem turn_enumS {P : Program} {w : World} {K : PySem.W.Frag} {elts : List Expr} {kk : Nat} {tpos : Pos} (z : Str) (t : Tok) (e it : Addr) :
    Turn P w K (.Tuple elts kk tpos) (ItS z) [e, it] e (fun i h => (∃ old, IsEnum h e it ((i : Nat) : Int) old) ∧ h.IsStrIter it (strIterType z) z t i ∧ e ≠ it) := by
  refine ⟨by simp, ?_, ?_, ?_, ?_, ?_⟩
  · rintro i h ⟨⟨old, he⟩, ⟨o, ho, hc, hd⟩, _⟩ b hb
    rcases List.mem_cons.mp hb with rfl | hb
    · exact ⟨_, he, fun v q => nomatch q⟩
    · rw [List.mem_singleton] at hb
      subst hb
      exact ⟨o, ho, fun v q => by rw [hd] at q; cases q⟩
  · rintro i h h' ⟨⟨old, he⟩, ⟨o, ho, r⟩, hne⟩ k
    exact ⟨⟨old, k e (by simp) _ he⟩, ⟨o, k it (by simp) o ho, r⟩, hne⟩
  · rintro X rfl rfl rfl hc i pins s σ H E I hf ⟨⟨old, he⟩, hit, hne⟩ hg
    have hel : e < s.heap.objs.size := Heap.lt_size he
    have hil : it < s.heap.objs.size := by
      obtain ⟨_, q, _⟩ := hit
      exact Heap.lt_size q
    refine wpAny_pyNext_enum_itemD (draws_str (by simpa using I.ok.hd hc) it z t) he hit hg hne (fun z => hne (List.mem_singleton.mp z)) fun x h' tk hP ho hit' hT hsz hk => ?_
    obtain ⟨c, u, hcx, rfl⟩ := hP
    refine ⟨_, rfl, wpAny_letOwnedTupleGo_enum (s := { s with heap := h', toks := tk + 1 }) ho fun h'' he' sb => ?_⟩
    have hT2 := (sb.2 s.heap.objs.size (Nat.ne_of_gt hel)).trans hT
    have new : ObjOk X.prog X.w (upd H s.heap.objs.size (.tup [.int (i : Nat), .str ⟨#[c]⟩])) h'' s.heap.objs.size (.tup [.int (i : Nat), .str ⟨#[c]⟩]) :=
      ⟨by show 2 ≤ sizeLine; decide, _, .cons ⟨_, rfl⟩ (.cons ⟨_, rfl⟩ .nil), ⟨_, hT2, rfl, _, rfl⟩⟩
    have J := I.turnedNew (ch := [e, it]) (t' := tk + 1) (fun b ob hb q => (sb.2 b (fun y => hb (by simp [y]))).trans (hk b ob (fun y => hb (by simp [y])) (fun y => hb (by simp [y])) q)) hf (Nat.le_refl _) new
    refine ⟨.ref s.heap.objs.size, _, J, rfl, ⟨_, c, rfl, I.hok.fresh (Nat.le_refl _), rfl, hcx⟩, ⟨⟨Value.str ⟨#[c]⟩ u, ?_⟩, ?_, hne⟩, fun b hb => ?_⟩
    · rw [show ((i + 1 : Nat) : Int) = (i : Int) + 1 by omega]
      exact he'
    · obtain ⟨o, ho', r⟩ := hit'
      exact ⟨o, (sb.2 it (Ne.symm hne)).trans ho', r⟩
    · have hb' : b < s.heap.objs.size := by
        rcases List.mem_cons.mp hb with y | y
        · rw [y]
          exact hel
        · rw [List.mem_singleton.mp y]
          exact hil
      rw [upd_ne (Nat.ne_of_lt hb')]
      exact (hf b hb).1
  · rintro X rfl rfl rfl hc i pins s σ H E I hf ⟨⟨old, he⟩, hit, hne⟩ hg
    obtain ⟨f0, f1, f2, f3, f4, f5⟩ := hf it (by simp)
    obtain rfl : i = z.cps.size := hg
    exact wpAny_pyNext_enum_endD (draws_str (by simpa using I.ok.hd hc) it z t) he hit fun h' eb => ⟨rfl, I.turned (t' := s.toks) (fun b o hb q => eb b o hb q) f0 f1 f3 f4 f5⟩
  · rintro A i s Q E ⟨⟨_, he⟩, _⟩ h
    exact wpAny_pyIter_enum he h
def iEnumS (ta : TA) : TI := fun σ H R => ta σ H fun vs H1 => ∃ z, vs = [.str z] ∧ R (ItS z) H1
theorem pi_enumS {X : Cx} {e : Expr} {ta : TA} {p pos tpos : Pos} {elts : List Expr} {kk : Nat} (hg : Gl X "enumerate") (hm : X.mg "enumerate" = none) (ha : PA X [e] ta) (hs : starEach [e] X.env = [(false, eval e X.env)] := by rfl) :
    PI X (.Tuple elts kk tpos) (.Call (.Name "enumerate" p) [e] [] pos) (iEnumS ta) := by
  constructor
  intro pins s σ H R I h
  refine Call_ (ld_blt I hg hm boot_enumerate ?_)
  refine PyProof.Rows.callWith_type1 ?_ hs rfl
  refine thn (ha.run pos pins s σ H _ I h) ?_
  rintro us s1 ⟨vs, H1, I1, r1, z, ex, q⟩
  subst ex
  obtain ⟨u, rfl, t, rfl⟩ := vals1 r1
  refine call_enumerate_str fun h' he hit hsz hk => wpAny_pyIter_enum he ?_
  have J : L2.Inv X pins σ H1 { s1 with heap := h' } := I1.kept (t' := s1.toks) hk
  refine ⟨_, [s1.heap.objs.size + 1, s1.heap.objs.size], _, _, H1, rfl, J, turn_enumS z t (s1.heap.objs.size + 1) s1.heap.objs.size, ⟨⟨.none, he⟩, hit, Nat.succ_ne_self _⟩, fun b hb => ?_, q⟩
  have hle : s1.heap.objs.size ≤ b := by
    rcases List.mem_cons.mp hb with y | y
    · rw [y]
      exact Nat.le_succ _
    · rw [List.mem_singleton.mp y]
      exact Nat.le_refl _
  exact I1.fpOk hle (I1.hok.fresh hle)
/-- the pairs of a place and a sign -/
def placed (z : Str) : List D := (List.range z.cps.size).map fun i => .tuple [.int (i : Nat), .str ⟨#[z.cps.getD i 0]⟩]
theorem placed_len (z : Str) : (placed z).length = z.cps.size := by simp [placed]
theorem placed_get {z : Str} {i : Nat} {d : D} (h : (placed z)[i]? = some d) : ∃ c, z.cps[i]? = some c ∧ d = .tuple [.int (i : Nat), .str ⟨#[c]⟩] := by
  unfold placed at h
  rw [List.getElem?_map] at h
  by_cases hi : i < z.cps.size
  · rw [List.getElem?_range hi] at h
    cases h
    refine ⟨z.cps[i], Array.getElem?_eq_getElem hi, ?_⟩
    show PyData.tuple [PyData.int (i : Nat), PyData.str ⟨#[z.cps.getD i 0]⟩] = _
    rw [Array.getD_eq_getD_getElem?, Array.getElem?_eq_getElem hi]
    rfl
  · rw [List.getElem?_eq_none_iff.mpr (by simpa using hi)] at h
    cases h
theorem vi_enumS {C : Cn} {Γ : List Sl} {te : TE} {z : Str} (h : VE C te Γ (Is (.str z))) : VI C (iEnumS (tCons te tNil)) Γ (Is (placed z)) := fun B H σ F T q => h B H σ F _ fun d v B1 H1 r s k => by
  cases r
  obtain rfl := dp_str k
  refine ⟨z, rfl, q _ _ B1 H1 (fun _ => True) _ rfl s (by rw [placed_len]; exact walk_enumS) (fun _ _ _ _ => trivial) ?_⟩
  rintro i x H2 H2' ⟨T, c, rfl, hT, rfl, hc⟩ B2 d e1 e2 hd
  obtain ⟨c', hc', rfl⟩ := placed_get hd
  rw [hc] at hc'
  cases hc'
  exact ⟨_, Stp.new e2 hT, .tup (Or.inl (Or.inl upd_same)) (.cons (.int _) (.cons (.str _) .nil))⟩
end Ly

/-! LyI: a loop over any list, tuple or text; signs compared; the source of draws' own shape. -/
namespace Ly
open PySem PySem.Spec PyProof.Rows L2

/-- for x in e, e a list, a tuple or a text -/
def iAny (K : PySem.W.Frag) (tl : TE) : TI := fun σ H R => tl σ H fun x H1 => (∃ a, x = .ref a ∧ (∃ xs, SqL K H1 a xs) ∧ R (Itl K a) H1) ∨ ((∃ a, x = .ref a ∧ (∃ xs, SqT K H1 a xs) ∧ R (Itt K a) H1) ∨ ∃ z, x = .str z ∧ R (Its z) H1)
theorem pi_any {X : Cx} {tg l : Expr} {tl : TE} (hl : PE X l tl) : PI X tg l (iAny X.K tl) := by
  constructor
  intro pins s σ H R I h
  refine thn (hl.run pins s σ H _ I h) ?_
  rintro v s1 ⟨x, H1, I1, r1, q⟩
  have fresh1 : ∀ b ∈ [s1.heap.objs.size], FpOk X pins H1 b := fun b hb => by
    rw [List.mem_singleton.mp hb]
    exact I1.fpOk (Nat.le_refl _) (I1.hok.fresh (Nat.le_refl _))
  rcases q with ⟨a, rfl, ⟨xs, hq⟩, q⟩ | ⟨a, rfl, ⟨xs, hq⟩, q⟩ | ⟨z, rfl, q⟩
  · obtain rfl : v = Value.ref a := r1
    obtain ⟨its, _, p, _⟩ := I1.list hq
    apply wpAny_pyIter_list p.isList
    exact ⟨_, [s1.heap.objs.size], _, _, H1, rfl, I1.kept (t' := s1.toks) fun b o e => Heap.get?_push_of_some _ e, turn_list a s1.heap.objs.size, ⟨_, Heap.get?_push_size _ rfl, rfl, rfl⟩, fresh1, q⟩
  · obtain rfl : v = Value.ref a := r1
    obtain ⟨its, _, p, _⟩ := I1.tuple hq
    apply wpAny_pyIter_tuple (show s1.heap.IsTuple a its.toArray from p)
    exact ⟨_, [s1.heap.objs.size], _, _, H1, rfl, I1.kept (t' := s1.toks) fun b o e => Heap.get?_push_of_some _ e, turn_tuple a s1.heap.objs.size, ⟨_, Heap.get?_push_size _ rfl, rfl, rfl⟩, fresh1, q⟩
  · obtain ⟨t, rfl⟩ := r1
    by_cases ha : z.cps.all (· < 128) = true
    · exact wpAny_pyIter_ascii ha (pi_one (tk := s1.toks) I1 _ (turn_str s1.heap.objs.size z t "str_ascii_iterator" (Or.inl rfl)) ⟨_, Heap.get?_push_size _ rfl, rfl, rfl⟩ q)
    · exact wpAny_pyIter_wide (by simpa using ha) (pi_one (tk := s1.toks) I1 _ (turn_str s1.heap.objs.size z t "str_iterator" (Or.inr rfl)) ⟨_, Heap.get?_push_size _ rfl, rfl, rfl⟩ q)
section
variable {C : Cn} {Γ : List Sl} {t te ta tb tc : TE} {ds : List D} {S : List D → Prop} {s z : Str}
theorem va_list (h : VE C t Γ (fun d => ∃ ds, d = .list ds ∧ S ds)) : VI C (iAny C.K t) Γ S := fun B H σ F T q => h B H σ F _ fun d v B1 H1 ⟨ds, e, r⟩ s k => by
  subst e
  obtain ⟨a, xs, rfl, h1, h2⟩ := dp_lst k
  refine Or.inl ⟨a, rfl, ⟨xs, same_l (F.step s).sub h1⟩, q ds _ B1 H1 _ _ r s (dpall_len h2 ▸ walk_list) (fun B2 H2 e1 e2 => same_l e2 (same_l e1 h1)) ?_⟩
  rintro i x H2 H2' ⟨rfl, hx⟩ B2 d e1 e2 hd
  obtain ⟨v, hv, k2⟩ := dpall_get h2 hd
  rw [hx] at hv
  cases hv
  exact ⟨B2, Stp.refl e2, dp_mono e1 k2⟩
theorem va_listD (h : VE C t Γ (Is (.list ds))) : VI C (iAny C.K t) Γ (Is ds) := va_list (h.imp fun d e => ⟨ds, e, rfl⟩)
theorem va_tup (h : VE C t Γ (fun d => ∃ ds, d = .tuple ds ∧ S ds)) : VI C (iAny C.K t) Γ S := fun B H σ F T q => h B H σ F _ fun d v B1 H1 ⟨ds, e, r⟩ s k => by
  subst e
  obtain ⟨a, xs, rfl, h1, h2⟩ := dp_tup k
  refine Or.inr (Or.inl ⟨a, rfl, ⟨xs, same_t (F.step s).sub h1⟩, q ds _ B1 H1 _ _ r s (dpall_len h2 ▸ walk_tup) (fun B2 H2 e1 e2 => same_t e2 (same_t e1 h1)) ?_⟩)
  rintro i x H2 H2' ⟨rfl, hx⟩ B2 d e1 e2 hd
  obtain ⟨v, hv, k2⟩ := dpall_get h2 hd
  rw [hx] at hv
  cases hv
  exact ⟨B2, Stp.refl e2, dp_mono e1 k2⟩
theorem va_tupD (h : VE C t Γ (Is (.tuple ds))) : VI C (iAny C.K t) Γ (Is ds) := va_tup (h.imp fun d e => ⟨ds, e, rfl⟩)
theorem va_strD (h : VE C t Γ (Is (.str z))) : VI C (iAny C.K t) Γ (Is (signs z)) := fun B H σ F T q => h B H σ F _ fun d v B1 H1 r s k => by
  cases r
  obtain rfl := dp_str k
  refine Or.inr (Or.inr ⟨z, rfl, q _ _ B1 H1 _ _ rfl s (signs_len z ▸ walk_str) (fun _ _ _ _ => trivial) ?_⟩)
  rintro i x H2 H2' ⟨rfl, c, hc, rfl⟩ B2 d e1 e2 hd
  have hd' : (signs z)[i]? = some (.str ⟨#[c]⟩) := by
    unfold signs
    rw [List.getElem?_map, Array.getElem?_toList, hc]
    rfl
  rw [hd'] at hd
  cases hd
  exact ⟨B2, Stp.refl e2, .str _⟩
/-! a < b < c -/
theorem ve_chain {r r' : R2} {x y : D} {R : D → Prop} {b : Bool} (ha : VE C ta Γ (Is x)) (hb : VE C tb Γ (Is y)) (ho : OD C r x y (Is (.bool b))) (h0 : b = false → R (.bool false)) (hc : b = true → VV C tc Γ (fun w => OD C r' y w R)) : VE C (tChain r r' ta tb tc) Γ R := fun B H σ F Q q =>
  ha B H σ F _ fun d v B1 H1 e1 s1 k1 => hb B1 H1 σ (F.step s1) _ fun d2 v2 B2 H2 e2 s2 k2 => by
    cases e1
    cases e2
    have F2 := (F.step s1).step s2
    refine ho B2 H2 v v2 F2.sub (Or.inl (dp_mono s2.ext k1)) (Or.inl k2) _ fun d3 w B3 H3 e3 s3 k3 => ?_
    cases e3
    obtain rfl := dp_bl k3
    have st := (s1.trans F.dlNow s2).trans F.dlNow s3
    refine ⟨b, rfl, ?_⟩
    cases b with
    | false => exact iteF (q _ _ B3 H3 (h0 rfl) st (.bl false))
    | true =>
      refine iteT (hc rfl B3 H3 σ (F2.step s3) _ fun d4 v4 B4 H4 e4 s4 k4 => ?_)
      exact e4 B4 H4 v2 v4 ((F2.step s3).step s4).sub (Or.inl (dp_mono (s3.ext.trans s4.ext) k2)) k4 _ fun d5 v5 B5 H5 e5 s5 k5 => q d5 v5 B5 H5 e5 ((st.trans F.dlNow s4).trans F.dlNow s5) k5
end
end Ly

/-! LyJ: the end of a law's row over GOk. -/
namespace Ly
open PySem PySem.Spec PyProof.Rows L2

/-- what is tracked at the law's own call: the script alone, if it is no object of the module -/
def H1 (K : PySem.W.Frag) (a : Addr) (o : Obj) (xs : List V) : Hp := fun b => if b = a ∧ K.lookup a = none then some (.frz o (.lst xs)) else none
theorem h1_at {K : PySem.W.Frag} {a : Addr} {o : Obj} {xs : List V} (h : K.lookup a = none) : H1 K a o xs a = some (.frz o (.lst xs)) := if_pos ⟨rfl, h⟩
theorem h1_only {K : PySem.W.Frag} {a b : Addr} {o : Obj} {xs : List V} {u : HO} (h : H1 K a o xs b = some u) : b = a ∧ K.lookup a = none ∧ u = .frz o (.lst xs) := by
  unfold H1 at h
  split at h
  · rename_i q
    cases h
    exact ⟨q.1, q.2, rfl⟩
  · cases h

section
variable {P : Program} {w : World} {K : PySem.W.Frag} {mg mb : Str → Option Value} {k : Nat} {fa a : Addr} {fd : FuncData} {x : Str} {sp : Sp} {s₁ : Shared} {vs : List Value} {ns : List Int}
theorem law_g (KX : K.In s₁.heap) (hns : s₁.heap.Ns mainGlobals mg) (hb : s₁.heap.Ns builtinsNs mb) (hbb : ∀ x : Str, x ≠ "__name__" → mb x = bootBuiltins x) (hlim : s₁.heap.NoLimit) (hg : s₁.gens = #[])
    (ha : s₁.heap.get? a = some { cls := .type "list", data := .seq vs.toArray }) (hi : IntsAre vs ns) (hl : ns.length ≤ sizeLine) (hr : Room k callerA)
    (F : ∀ base : Heap, K.In base → base.Ns mainGlobals mg → GOk P w K mg base CX0 k fa fd [x] sp) (hbind : ∀ (s : Shared) (u : Value), BindsTo s fd ⟨[u], []⟩ [(x, u)])
    (hsp : ∀ H : Hp, SqL K H a (ns.map V.int) → sp [.ref a] H (fun v _ => v = .bl true) E0) :
    codeAny (model P w) callerA (.call (.ref fa) ⟨[.ref a], []⟩) (fun r s' => r = .ok (.ret (.bool true)) ∧ OldK s₁.heap s'.heap ∧ s'.os = s₁.os ∧ AllBare s'.gens) s₁ := by
  have rv : Vals (ns.map V.int) vs := vals_ints hi
  have lv : vs.length = ns.length := by
    have := rv.length
    rw [List.length_map] at this
    exact this.symm
  let o : Obj := { cls := .type "list", data := .seq vs.toArray }
  let H : Hp := H1 K a o (ns.map V.int)
  have ok : HOk P w H s₁.heap := fun b u e => by
    obtain ⟨rfl, _, rfl⟩ := h1_only e
    exact ⟨ha, by rw [List.length_map]; exact hl, vs, _, rv, ha⟩
  have sq : SqL K H a (ns.map V.int) := by
    cases e : K.lookup a with
    | none => exact Or.inl (Or.inr ⟨o, h1_at e⟩)
    | some u =>
      have e2 := KX a u e
      rw [ha] at e2
      cases e2
      exact Or.inr ⟨_, vs.toArray, _, e, rfl, rfl, rfl, by rw [List.size_toArray, lv]; exact hl, by simpa using rv⟩
  have free : ∀ {b : Addr} {u : Obj} {es : Array DictEntry} {ep : Nat}, s₁.heap.get? b = some u → u.data = .dict es ep → H b = none := fun {b u es ep} e d => by
    cases q : H b with
    | none => rfl
    | some v =>
      obtain ⟨rfl, _, _⟩ := h1_only q
      rw [ha] at e
      cases e
      cases d
  have ns1 : ∀ {b : Addr} {m : Str → Option Value}, s₁.heap.Ns b m → (hidT s₁.heap H).Ns b m := by
    rintro b m ⟨u, es, ep, e, d, r⟩
    exact ⟨u, es, ep, hidT_get e (free e d), d, r⟩
  have kin : K.In (hidT s₁.heap H) := fun b u e => hidT_get (KX b u e) (by
    cases q : H b with
    | none => rfl
    | some v =>
      obtain ⟨rfl, z, _⟩ := h1_only q
      rw [z] at e
      cases e)
  obtain ⟨mc, hc1, hc2⟩ := hlim
  have hm : Mod K mg (hidT s₁.heap H) := ⟨kin, ns1 hns, ⟨mb, ns1 hb, hbb⟩, mc, ns1 hc1, hc2⟩
  have none_in : ∀ b : Addr, b ∉ frs ([] : List Env) := fun b hb => nomatch hb
  have e0 : Env0 P w K mg (hidT s₁.heap H) callerA [] s₁ H :=
    { frames := rfl, mod := hm, bs := fun b u e => of_hidT e, bsz := Nat.le_of_eq (hidT_size _ _), funs := trivial, frf := fun b hb => absurd hb (none_in b), hok := ok, bare := .of_eq hg }
  refine codeAny_mono ((F _ kin (ns1 hns)).does (us := [.ref a]) (vs := [.ref a]) (E := E0) rfl hr e0 (hbind s₁ (.ref a)) (.cons rfl .nil) (hsp H sq)) fun r s' h => ?_
  cases r with
  | error e => exact False.elim h
  | ok fl =>
    cases fl with
    | next => exact False.elim h
    | brk => exact False.elim h
    | cont => exact False.elim h
    | ret u =>
      obtain ⟨v, H', os, bare, un, ok', rr, q⟩ := h
      obtain rfl : v = .bl true := q
      obtain rfl : u = Value.bool true := rr
      refine ⟨rfl, OldK.of_keep fun b u e => ?_, os, bare⟩
      cases q : H b with
      | none => exact un.keep b u e q (none_in b) (fun z => nomatch z)
      | some y =>
        obtain ⟨rfl, _, rfl⟩ := h1_only q
        obtain ⟨e2, _⟩ := ok' b _ (un.frzs b _ _ q)
        rw [e2, ← e, ha]
end
/-- the goal that k_head leaves, from a law's promise over GOk -/
theorem walk_g {l : PySem.W.OpenLaw} {n k : Nat} {q : Program} {loose : List Str} {XP : (Str → Option Value) → Heap → Prop} {YP : World → Heap → Prop} {d : DefRec} {K : Params → PySem.W.Frag} {sp : PySem.W.Frag → Sp} {x : Str}
    (hn : l.most = some n) (hn2 : n ≤ sizeLine) (hdf : d.params.defaults = []) (hr : Room k callerA)
    (hY : ∀ (w : World) (h : Heap), YP w h → (K w.params).In h)
    (F : ∀ (w : World) (mg : Str → Option Value) (fa : Addr) (h : Heap), (K w.params).In h → h.Ns mainGlobals mg → mg d.name = some (.ref fa) →
      ∃ fd : FuncData, (∀ (s : Shared) (u : Value), BindsTo s fd ⟨[u], []⟩ [(x, u)]) ∧ ∀ base : Heap, (K w.params).In base → base.Ns mainGlobals mg → GOk l.prog w (K w.params) mg base CX0 k fa fd [x] (sp (K w.params)))
    (hsp : ∀ (K : PySem.W.Frag) (H : Hp) (a : Addr) (ns : List Int), ns.length ≤ n → SqL K H a (ns.map V.int) → sp K [.ref a] H (fun v _ => v = .bl true) E0) :
    PySem.W.WalkO q loose XP YP l.row.toRowW d [] (fun f vs => PySem.call f vs) := by
  apply Att.attach_call hn hdf
  intro w s₀ s₁ mg mb fa o pm cd doc a vs ns G Y ho hd hcd hmg hobj hints hlen hg
  obtain ⟨fd, hb, hF⟩ := F w mg fa _ (hY w _ Y) G.T.g hmg
  exact law_g (hY w _ Y) G.T.g G.T.b G.T.builtins G.T.nolimit hg hobj hints (Nat.le_trans hlen hn2) hr hF hb fun H hS => hsp _ H a ns hlen hS

/-- a law's own promise -/
def Lw (K : PySem.W.Frag) : Sp := fun vs H Q _ => ∃ (a : Addr) (ns : List Int), vs = [.ref a] ∧ SqL K H a (ns.map V.int) ∧ ns.length ≤ 63 ∧ ∀ H', Q (.bl true) H'
section
variable {P0 : Program} {w : World} {K : PySem.W.Frag} {mg : Str → Option Value} {base : Heap} {k : Nat} {f : Addr} {fd : FuncData} {N : List Str} {x qual : Str} {st : Stmt}
theorem fm_law {K : PySem.W.Frag} {H : Hp} {a : Addr} {xs : List V} {N : List Str} {n : Nat} (hS : SqL K H a xs) (hn : 1 + n = N.length) : Fm ⟨K, H, H, none⟩ H H (L2.start N [.ref a]) (.rd xs :: List.replicate n .no) := by
  refine ⟨Stp.refl (Same.refl H), (fun p q e => nomatch e), ?_, fun i sl h => ?_, fun i j p ds es h => ?_⟩
  · rw [start_len (by rw [List.length_singleton]; omega), List.length_cons, List.length_replicate]
    omega
  · cases i with
    | zero =>
      cases h
      exact ⟨a, rfl, hS⟩
    | succ i =>
      have h : (List.replicate n Sl.no)[i]? = some sl := h
      rw [List.getElem?_replicate] at h
      split at h
      · cases h
        trivial
      · cases h
  · exfalso
    cases i with
    | zero => cases h
    | succ i =>
      have h : (List.replicate n Sl.no)[i]? = some (.own ds) := h
      rw [List.getElem?_replicate] at h
      split at h <;> cases h
theorem law_ok (n : Nat) (F : Fun K x qual st f fd) (S : FnScope N ["script"] (defScope st)) (hn : 1 + n = N.length)
    (body : ∀ (cdv : Value) (A : Around) (outer : List Env) (s : Shared) (H : Hp) (E : XK), (cxOf CX0 P0 w K mg base N qual (defScope st) f cdv A outer s H E).A.guards = some [] → Room k (cxOf CX0 P0 w K mg base N qual (defScope st) f cdv A outer s H E).A →
      ∃ t, PSs (cxOf CX0 P0 w K mg base N qual (defScope st) f cdv A outer s H E).nox (defBody st) t ∧ ∀ H (ns : List Int), ns.length ≤ 63 → VS ⟨K, H, H, none⟩ t (.rd (ns.map V.int) :: List.replicate n .no) { nx := fun _ => False, rt := Is (.bool true) }) :
    GOk P0 w K mg base CX0 (k + 1) f fd ["script"] (Lw K) := by
  refine gok_of F S (fun {vs H Q E} ⟨a, ns, e, _⟩ => by rw [e]; rfl) fun cdv A outer s H vs Q E hg hr ⟨a, ns, e, hS, hl, hq⟩ => ?_
  subst e
  obtain ⟨t, ht, hv⟩ := body cdv A outer s H E hg hr
  refine ⟨t, ht.nox, hv H ns hl H H _ _ (fm_law hS hn) (fun _ _ _ _ e => e.elim) ?_ (fun _ _ _ _ e => e.elim) fun _ _ _ _ e => e.elim⟩
  intro d v B' H' e _ kd
  cases e
  obtain rfl := dp_bl kd
  exact hq H'
end
end Ly

/-! LyK: the laws' own draws: _law_draw, _law_any, _law_of, _law_mixed (their readings and what these give). -/
namespace Ly
open PySem PySem.Spec PyProof.Rows L2

/-- the source of draws is made from the script and a number -/
def Dr (K : PySem.W.Frag) : Sp := fun vs H Q _ => ∃ (B : Hp) (a : Addr) (ns : List Int) (salt : Int), vs = [.ref a, .int salt] ∧ Same B H ∧ SqL K B a (ns.map V.int) ∧ 0 ≤ salt ∧ salt ≤ 1000 ∧ ns.length ≤ 63 ∧
  ∀ p q B' H', Stp none B H B' H' → H p = none → H q = none → B' p = none → B' q = none → DealAt H' p q → Q (.ref p) H'
def P_any (ds : List D) : Prop := ∃ b : Int, ds = [.int b] ∧ 0 < b ∧ b < 1000000000000
def R_any (ds : List D) (d : D) : Prop := ∀ b : Int, ds = [.int b] → ∃ r, d = .int r ∧ 0 ≤ r ∧ r < b
def P_of (ds : List D) : Prop := ∃ xs, (ds = [.list xs] ∨ ds = [.tuple xs]) ∧ xs ≠ [] ∧ xs.length ≤ 100000
def R_of (ds : List D) (d : D) : Prop := ∀ xs, (ds = [.list xs] ∨ ds = [.tuple xs]) → d ∈ xs
def P_mixed (ds : List D) : Prop := ∃ xs, (ds = [.list xs] ∨ ds = [.tuple xs]) ∧ xs.length ≤ 10000
def R_mixed (ds : List D) (d : D) : Prop := ∀ xs, (ds = [.list xs] ∨ ds = [.tuple xs]) → ∃ ys, d = .list ys ∧ ys.Perm xs
end Ly

/-! LyL: what _law_any, _law_of, _law_mixed give. -/
namespace Ly
open PySem PySem.Spec PyProof.Rows L2

abbrev tIx0 (K : PySem.W.Frag) (i : Int) : TE := tOp (rIx K) (tVar 0) (tC (.int i))
abbrev rMod : R2 := rI (fun _ j => 0 < j) fun i j => .int (i % j)
abbrev rDiv : R2 := rI CDivW fun i j => .int (i / j)
abbrev rMul : R2 := rI CMulW fun i j => .int (i * j)
def t_any (K : PySem.W.Frag) : TS :=
  tSeq (tWhile (tAnd (tTest (tOp (rNeA K) (tIx0 K 0) (tLst tNil))) (tTest (tOp (rEqA K) (tOp (rIx K) (tIx0 K 0) (tUn (rU fun i => .int (-i)) (tC (.int 1)))) (tC (.int 0))))) (tDrop (tBM0 K "list" rPop (tIx0 K 0))))
  (tSeq (tIfS (tTest (tOp (rNeA K) (tIx0 K 0) (tLst tNil))) (tSeq (tAsg (tCB rInt1 (tCons (tBM0 K "list" rPop (tIx0 K 0)) tNil)) (gName 2))
      (tSeq (tDrop (tBM K "list" rAppend (tIx0 K 0) (tCons (tOp rDiv (tVar 2) (tVar 1)) tNil))) (tRet (tOp rMod (tVar 2) (tVar 1))))) tNext)
  (tSeq (tAsg (tOp rMod (tCB rInt1 (tCons (tOp (rAddA K) (tOp rMul (tIx0 K 1) (tC (.int 40693))) (tC (.int 71))) tNil)) (tC (.int 2147483647))) (gSub (tVar 0) (tC (.int 1)) rSetL))
    (tRet (tOp rMod (tCB rInt1 (tCons (tOp rDiv (tIx0 K 1) (tC (.int 64))) tNil)) (tVar 1)))))

theorem shaped_ints (ns : List Int) : SeqAt.shaped (.list (ns.map .int)) = true := by
  have h1 : ∀ ns : List Int, PyData.canLayAll0 (ns.map .int) = true := fun ns => by
    induction ns with
    | nil => simp [PyData.canLayAll0]
    | cons n ns ih => simp [PyData.canLayAll0, PyData.canLay0, ih]
  have h2 : ∀ ns : List Int, PyData.depthAll (ns.map .int) ≤ 1 := fun ns => by
    induction ns with
    | nil => simp [PyData.depthAll]
    | cons n ns ih =>
      simp only [List.map_cons, PyData.depthAll, PyData.depth]
      omega
  have h3 := h2 ns
  have h4 : PyData.depth (.list (ns.map .int)) ≤ 64 := by
    simp only [PyData.depth]
    omega
  have h5 : PyData.canLay0 (.list (ns.map .int)) = true := by
    simp only [PyData.canLay0]
    exact h1 ns
  unfold SeqAt.shaped
  rw [h5, decide_eq_true h4]
  rfl
theorem dp_ints {K : PySem.W.Frag} {H : Hp} {q : Addr} {ns : List Int} (h : H q = some (.lst (ns.map V.int))) : Dp K H (.ref q) (.list (ns.map .int)) := by
  refine .lst (Or.inl (Or.inl h)) ?_
  clear h
  induction ns with
  | nil => exact .nil
  | cons n ns ih => exact .cons (.int n) ih
theorem Stp.dealSet {p q a : Addr} {CB CH B H : Hp} {o : HO} (s : Stp (some (p, q)) CB CH B H) (ha : a = p ∨ a = q) (hB : B a = none) (hd : DealAt (upd H a o) p q) : Stp (some (p, q)) CB CH B (upd H a o) := by
  refine ⟨s.ext, fun b u e => ?_, fun b u e m => ?_, s.out, fun p' q' e _ => ?_⟩
  · rw [upd_ne (ne_of_none e hB)]
    exact s.sub b u e
  · have nb : b ≠ a := fun z => m ⟨p, q, rfl, z ▸ ha⟩
    rw [upd_ne nb]
    exact s.keep b u e m
  · cases e
    exact hd

section
variable {K : PySem.W.Frag} {σ : L2.St} {H : Hp} {p q : Addr} {ns : List Int} {c b : Int} {Q : VK}
theorem ix0_run (h0 : σ[0]? = some (some (.ref p))) (hp : H p = some (.lst [.ref q, .int c])) (k : Q (.ref q) H) : tIx0 K 0 σ H Q := ⟨.ref p, h0, Or.inl ⟨p, _, 0, .ref q, rfl, rfl, SqL.of hp, rfl, k⟩⟩
theorem ix1_run (h0 : σ[0]? = some (some (.ref p))) (hp : H p = some (.lst [.ref q, .int c])) (k : Q (.int c) H) : tIx0 K 1 σ H Q := ⟨.ref p, h0, Or.inl ⟨p, _, 1, .int c, rfl, rfl, SqL.of hp, rfl, k⟩⟩
theorem eqv_nil (ns : List Int) : PyData.eqv (.list (ns.map .int)) (.list []) = decide (ns = []) := by
  cases ns <;> simp [PyData.eqv, PyData.eqvAll]
/-- deal[0] != [] -/
theorem ne_run {Qb : Bool → Hp → Prop} (h0 : σ[0]? = some (some (.ref p))) (hp : H p = some (.lst [.ref q, .int c])) (hq : H q = some (.lst (ns.map V.int))) (k : ∀ r, H r = none → Qb (!decide (ns = [])) (upd H r (.lst []))) :
    tTest (tOp (rNeA K) (tIx0 K 0) (tLst tNil)) σ H Qb := by
  refine ix0_run h0 hp ⟨by show 0 ≤ sizeLine; decide, fun r hr => ?_⟩
  have hq' : upd H r (.lst []) q = some (.lst (ns.map V.int)) := by
    rw [upd_ne (ne_of_none hq hr)]
    exact hq
  refine Or.inr ⟨.list (ns.map .int), .list [], dp_ints hq', dp_ints (ns := []) upd_same, shaped_ints ns, shaped_ints [], _, rfl, ?_⟩
  rw [eqv_nil]
  exact k r hr
/-- all that _law_any needs to know of a moment -/
structure AnyAt (C : Cn) (p q : Addr) (B H : Hp) (σ : L2.St) (b : Int) (ns : List Int) (c : Int) : Prop where
  st : Stp (some (p, q)) C.B C.H B H
  n1 : B p = none
  n2 : B q = none
  len : σ.length = 3
  s0 : σ[0]? = some (some (.ref p))
  s1 : σ[1]? = some (some (.int b))
  ne : p ≠ q
  hp : H p = some (.lst [.ref q, .int c])
  hq : H q = some (.lst (ns.map V.int))
  sz : ns.length ≤ 64
  c0 : 0 ≤ c
  c1 : c < 2147483648
variable {C : Cn} {B : Hp}
theorem AnyAt.deal (a : AnyAt C p q B H σ b ns c) : DealAt H p q := ⟨a.ne, ns, c, a.hp, a.hq, a.sz, a.c0, a.c1⟩
theorem AnyAt.new {r : Addr} {o : HO} (a : AnyAt C p q B H σ b ns c) (hd : C.dl = some (p, q)) (h0 : DealAt C.H p q) (h : H r = none) : AnyAt C p q B (upd H r o) σ b ns c := by
  refine { a with st := ?_, hp := ?_, hq := ?_ }
  · exact a.st.trans (fun p' q' e => by cases e; exact h0) (Stp.newM a.st.sub h)
  · rw [upd_ne (ne_of_none a.hp h)]
    exact a.hp
  · rw [upd_ne (ne_of_none a.hq h)]
    exact a.hq
theorem AnyAt.setQ (a : AnyAt C p q B H σ b ns c) {ms : List Int} (hm : ms.length ≤ 64) : AnyAt C p q B (upd H q (.lst (ms.map V.int))) σ b ms c := by
  have hp : upd H q (.lst (ms.map V.int)) p = some (.lst [.ref q, .int c]) := by
    rw [upd_ne a.ne]
    exact a.hp
  exact { a with st := a.st.dealSet (Or.inr rfl) a.n2 ⟨a.ne, ms, c, hp, upd_same, hm, a.c0, a.c1⟩, hp := hp, hq := upd_same, sz := hm }
theorem AnyAt.setP (a : AnyAt C p q B H σ b ns c) {d : Int} (h0 : 0 ≤ d) (h1 : d < 2147483648) : AnyAt C p q B (upd H p (.lst [.ref q, .int d])) σ b ns d := by
  have hq : upd H p (.lst [.ref q, .int d]) q = some (.lst (ns.map V.int)) := by
    rw [upd_ne a.ne.symm]
    exact a.hq
  exact { a with st := a.st.dealSet (Or.inl rfl) a.n1 ⟨a.ne, ns, d, upd_same, hq, a.sz, h0, h1⟩, hp := upd_same, hq := hq, c0 := h0, c1 := h1 }
theorem AnyAt.slot2 (a : AnyAt C p q B H σ b ns c) (v : V) : AnyAt C p q B H (σ.set 2 (some v)) b ns c := by
  refine { a with len := by rw [List.length_set]; exact a.len, s0 := ?_, s1 := ?_ }
  · rw [List.getElem?_set_ne (by decide)]
    exact a.s0
  · rw [List.getElem?_set_ne (by decide)]
    exact a.s1
theorem last_map {ns : List Int} (h : ns ≠ []) : (ns.map V.int)[(ns.map V.int).length - 1]? = some (.int (ns.getLast h)) := by
  rw [← List.getLast?_eq_getElem?, List.getLast?_map, List.getLast?_eq_getLast h]
  rfl
theorem drop_map (ns : List Int) : (ns.map V.int).dropLast = (ns.dropLast).map V.int := by rw [List.map_dropLast]
/-- deal[0].pop() -/
theorem pop_run (a : AnyAt C p q B H σ b ns c) (h : ns ≠ []) (k : Q (.int (ns.getLast h)) (upd H q (.lst (ns.dropLast.map V.int)))) : tBM0 K "list" rPop (tIx0 K 0) σ H Q := by
  refine ix0_run a.s0 a.hp ⟨own_ty a.hq, q, _, _, rfl, rfl, a.hq, last_map h, ?_⟩
  rw [drop_map]
  exact k
theorem dropLast_len {ns : List Int} : ns.dropLast.length ≤ ns.length := by rw [List.length_dropLast]; omega

theorem vs_any {K : PySem.W.Frag} {B0 H0 : Hp} {p q : Addr} {ds : List D} (hP : P_any ds) : VS ⟨K, B0, H0, some (p, q)⟩ (t_any K) (.deal :: slots ds 1) { nx := fun _ => R_any ds .none, rt := R_any ds } := by
  obtain ⟨b, rfl, hb0, hb1⟩ := hP
  intro B H σ E F hn hr hk hc
  have hdl := F.dl p q rfl
  have hd0 : DealAt H0 p q := hdl.1
  obtain ⟨n1, n2⟩ := F.dlOut (p := p) (q := q) rfl
  obtain ⟨ne, ns, c, hp, hq, hz, hc0, hc1⟩ := F.dlNow p q rfl
  obtain ⟨p', q', e, s0⟩ := F.slot 0 .deal rfl
  cases e
  obtain ⟨v, s1, kv⟩ := F.slot 1 (.dat (.int b)) rfl
  obtain rfl := dp_int kv
  have A0 : AnyAt ⟨K, B0, H0, some (p, q)⟩ p q B H σ b ns c := ⟨F.st, n1, n2, F.len, s0, s1, ne, hp, hq, hz, hc0, hc1⟩
  have ret : ∀ {H' : Hp} {ms : List Int} {d r : Int} {σ' : L2.St}, AnyAt ⟨K, B0, H0, some (p, q)⟩ p q B H' σ' b ms d → 0 ≤ r → r < b → E.rt (.int r) H' := fun a h1 h2 =>
    hr (.int _) _ B _ (fun b' e => by cases e; exact ⟨_, rfl, h1, h2⟩) a.st (.int _)
  refine ⟨fun m σ' H' => ∃ ms d, AnyAt ⟨K, B0, H0, some (p, q)⟩ p q B H' σ' b ms d ∧ m = ms.length, ⟨_, ns, c, A0, rfl⟩, ?_⟩
  rintro m σ1 H1 ⟨ms, d, A1, rfl⟩
  -- behind the loop
  have rest : ∀ {H2 : Hp} {ms : List Int} {d : Int}, AnyAt ⟨K, B0, H0, some (p, q)⟩ p q B H2 σ1 b ms d →
      (tSeq (tIfS (tTest (tOp (rNeA K) (tIx0 K 0) (tLst tNil))) (tSeq (tAsg (tCB rInt1 (tCons (tBM0 K "list" rPop (tIx0 K 0)) tNil)) (gName 2))
        (tSeq (tDrop (tBM K "list" rAppend (tIx0 K 0) (tCons (tOp rDiv (tVar 2) (tVar 1)) tNil))) (tRet (tOp rMod (tVar 2) (tVar 1))))) tNext)
      (tSeq (tAsg (tOp rMod (tCB rInt1 (tCons (tOp (rAddA K) (tOp rMul (tIx0 K 1) (tC (.int 40693))) (tC (.int 71))) tNil)) (tC (.int 2147483647))) (gSub (tVar 0) (tC (.int 1)) rSetL))
        (tRet (tOp rMod (tCB rInt1 (tCons (tOp rDiv (tIx0 K 1) (tC (.int 64))) tNil)) (tVar 1))))) E σ1 H2 := by
    intro H2 ms d A2
    refine ne_run A2.s0 A2.hp A2.hq fun r hr1 => ?_
    have A3 := A2.new (o := .lst []) rfl hd0 hr1
    by_cases hm : ms = []
    · rw [decide_eq_true hm]
      refine iteF ?_
      -- deal[1] = int(deal[1] * 40693 + 71) % 2147483647
      refine ix1_run A3.s0 A3.hp ⟨d, 40693, rfl, rfl, wide_mul (a := 32) (b := 32) (by have := A3.c0; have := A3.c1; omega) (by decide) (by decide) (by decide) (by decide), ?_⟩
      refine Or.inl ⟨d * 40693, 71, rfl, rfl, ?_⟩
      refine Or.inl ⟨d * 40693 + 71, rfl, ?_⟩
      refine ⟨_, 2147483647, rfl, rfl, (by show (0 : Int) < 2147483647; decide), ?_⟩
      have e0 : 0 ≤ (d * 40693 + 71) % 2147483647 := Int.emod_nonneg _ (by decide)
      have e1 : (d * 40693 + 71) % 2147483647 < 2147483647 := Int.emod_lt_of_pos _ (by decide)
      have A4 := A3.setP (d := (d * 40693 + 71) % 2147483647) e0 (by omega)
      refine ⟨.ref p, A3.s0, p, _, 1, 1, rfl, rfl, A3.hp, rfl, ?_⟩
      show tRet (tOp rMod (tCB rInt1 (tCons (tOp rDiv (tIx0 K 1) (tC (.int 64))) tNil)) (tVar 1)) E σ1 _
      -- return int(deal[1] // 64) % bound
      refine ix1_run A4.s0 A4.hp ⟨_, 64, rfl, rfl, wide_div (b := 7) (by decide) (by decide) (by decide) (by decide), ?_⟩
      refine Or.inl ⟨_, rfl, ?_⟩
      refine ⟨.int b, A4.s1, _, b, rfl, rfl, hb0, ?_⟩
      exact ret A4 (Int.emod_nonneg _ (by omega)) (Int.emod_lt_of_pos _ hb0)
    · rw [decide_eq_false hm]
      refine iteT ?_
      -- rest = int(deal[0].pop())
      refine pop_run A3 hm (Or.inl ⟨_, rfl, ?_⟩)
      have A4 := (A3.setQ (ms := ms.dropLast) (Nat.le_trans dropLast_len A3.sz)).slot2 (.int (ms.getLast hm))
      have s2 : (σ1.set 2 (some (.int (ms.getLast hm))))[2]? = some (some (.int (ms.getLast hm))) := List.getElem?_set_self (by rw [A3.len]; decide)
      -- deal[0].append(rest // bound)
      refine ix0_run A4.s0 A4.hp ⟨own_ty A4.hq, ⟨_, s2, _, A4.s1, _, b, rfl, rfl, wide_div (b := 64) hb0 (by omega) (by decide) (by decide), ?_⟩⟩
      have hlen : ms.dropLast.length + 1 ≤ 64 := by
        rw [List.length_dropLast]
        have := A3.sz
        have : 0 < ms.length := List.length_pos_iff.mpr hm
        omega
      refine ⟨q, _, .int (ms.getLast hm / b), rfl, rfl, A4.hq, sz6 (by rw [List.length_map]; omega), ?_⟩
      have A5 := A4.setQ (ms := ms.dropLast ++ [ms.getLast hm / b]) (by rw [List.length_append]; exact hlen)
      rw [show ms.dropLast.map V.int ++ [V.int (ms.getLast hm / b)] = (ms.dropLast ++ [ms.getLast hm / b]).map V.int by rw [List.map_append]; rfl]
      -- return rest % bound
      refine ⟨_, s2, _, A5.s1, _, b, rfl, rfl, hb0, ?_⟩
      exact ret A5 (Int.emod_nonneg _ (by omega)) (Int.emod_lt_of_pos _ hb0)
  -- the test of the loop
  refine ne_run A1.s0 A1.hp A1.hq fun r hr1 => ?_
  have A2 := A1.new (o := .lst []) rfl hd0 hr1
  by_cases hm : ms = []
  · rw [decide_eq_true hm]
    exact iteF (iteF (rest A2))
  · rw [decide_eq_false hm]
    refine iteT ?_
    refine ix0_run A2.s0 A2.hp ⟨1, rfl, Or.inl ⟨q, _, -1, .int (ms.getLast hm), rfl, rfl, SqL.of A2.hq, ?_, ?_⟩⟩
    · exact atI_neg1 (by rw [List.getLast?_map, List.getLast?_eq_getLast hm]; rfl)
    · refine Or.inl ⟨rfl, _, rfl, ?_⟩
      by_cases hz : V.int (ms.getLast hm) = .int 0
      · rw [decide_eq_true hz]
        refine iteT ⟨_, fun σ' H' h => h, ?_⟩
        refine pop_run A2 hm ?_
        refine ⟨ms.dropLast.length, ?_, ms.dropLast, d, A2.setQ (Nat.le_trans dropLast_len A2.sz), rfl⟩
        rw [List.length_dropLast]
        have : 0 < ms.length := List.length_pos_iff.mpr hm
        omega
      · rw [decide_eq_false hz]
        exact iteF (rest A2)
end
end Ly

/-! LyM: what _law_draw, _law_of, _law_mixed give. -/
namespace Ly
open PySem PySem.Spec PyProof.Rows L2

section
variable {C : Cn} {Γ : List Sl} {tl th : TO} {lo hi : Option Int} {i : Nat} {ns : List Int}
theorem ints_dq {K : PySem.W.Frag} {H : Hp} : ∀ ns : List Int, DqAll K H (ns.map V.int) (ns.map PyData.int)
  | [] => .nil
  | n :: ns => .cons (.int n) (ints_dq ns)
theorem cut_map {α β : Type} (f : α → β) (xs : List α) : cut (xs.map f) lo hi = (cut xs lo hi).map f := by
  unfold cut
  rw [List.length_map, List.map_take, List.map_drop]
theorem cut_sub {α : Type} (xs : List α) : ∀ x ∈ cut xs lo hi, x ∈ xs := fun x h => List.mem_of_mem_drop (List.mem_of_mem_take h)
theorem cut_len {α : Type} (xs : List α) : (cut xs lo hi).length ≤ xs.length := by
  unfold cut
  rw [List.length_take, List.length_drop]
  omega
/-- a slice of a list that is read alone -/
theorem vl_slRd (h : Γ[i]? = some (.rd (ns.map V.int))) (h1 : VO C tl Γ (Is lo)) (h2 : VO C th Γ (Is hi)) : VL C (tSl (rSlany C.K) (tVar i) tl th) Γ (Is ((cut ns lo hi).map .int)) := fun B H σ F Q q => by
  obtain ⟨a, e, hs⟩ := F.slot i _ h
  refine ⟨.ref a, e, h1 B H σ F _ fun o B2 H2 e2 s2 => h2 B2 H2 σ (F.step s2) _ fun o' B3 H3 e3 s3 => ?_⟩
  cases e2
  cases e3
  have F3 := (F.step s2).step s3
  have st := s2.trans F.dlNow s3
  refine Or.inl ⟨a, _, rfl, same_l F3.sub (same_l st.ext hs), fun p hp => ?_⟩
  refine q _ p ((cut ns lo hi).map V.int) B3 _ rfl (st.trans F.dlNow (Stp.newM F3.sub hp)) (back_none F st hp) (F3.sub.free hp) ?_ (ints_dq _)
  rw [upd_same]
  show some (HO.lst (cutV (ns.map V.int) lo hi)) = _
  rw [show cutV (ns.map V.int) lo hi = cut (ns.map V.int) lo hi from rfl, cut_map]
end

def t_draw (K : PySem.W.Frag) : TS :=
  tSeq (tAsg (tLc (iAny K (tSl (rSlany K) (tVar 0) tNoPart (tPart (tC (.int 48))))) (gName 3) tYes (tCB rAbs (tCons (tCB rInt1 (tCons (tVar 3) tNil)) tNil)) [3]) (gName 2))
  (tSeq (tAsg (tOp (rAddA K) (tC (.int 7919)) (tOp rMul (tC (.int 104729)) (tVar 1))) (gName 4))
  (tSeq (tFor (iAny K (tVar 2)) (gName 3) (tAsg (tOp rMod (tCB rInt1 (tCons (tOp (rAddA K) (tOp (rAddA K) (tOp rMul (tVar 4) (tC (.int 48271))) (tOp rMod (tVar 3) (tC (.int 2147483549)))) (tC (.int 11))) tNil)) (tC (.int 2147483647))) (gName 4)))
  (tRet (tLst (tCons (tRevL K (tLc (iAny K (tVar 2)) (gName 3) (tTest (tOp (rI0 fun i j => .bl (decide (j ≤ i))) (tVar 3) (tOp (rI CPow fun i j => .int (i ^ j.toNat)) (tC (.int 10)) (tC (.int 18))))) (tVar 3) [3])) (tCons (tVar 4) tNil))))))
/-- what its names hold behind the first statements -/
def DrawAt (ns : List Int) (salt : Int) (Γ : List Sl) : Prop := ∃ (cs : List Int) (c : Int) (s3 : Sl), Γ = [.rd (ns.map V.int), .dat (.int salt), .dat (.list (cs.map .int)), s3, .dat (.int c)] ∧ cs.length ≤ 63 ∧ 0 ≤ c ∧ c < 2147483648 ∧ (s3 = .no ∨ ∃ d, s3 = .dat d)

section
variable {P0 : Program} {w : World} {K : PySem.W.Frag} {mg : Str → Option Value} {base : Heap} {k : Nat} {f : Addr} {fd : FuncData} {x qual : Str} {st : Stmt}
theorem len_of {α : Type} {xs : List α} {n : Nat} (h : xs.length ≤ n) {m : Nat} (hm : n ≤ m := by decide) : xs.length ≤ m := Nat.le_trans h hm
theorem ret_two {tr te : TE} {E : Ends} {σ : L2.St} {H : Hp} (h : tr σ H fun v H1 => te σ H1 fun w H2 => 2 ≤ sizeLine ∧ ∀ p, H2 p = none → E.rt (.ref p) (upd H2 p (.lst [v, w]))) : tRet (tLst (tCons tr (tCons te tNil))) E σ H := h
theorem vs_draw {B H : Hp} {ns : List Int} {salt : Int} (h0 : 0 ≤ salt) (h1 : salt ≤ 1000) (hn : ns.length ≤ 63) (E : Ends) (σ : L2.St) (F : Fm ⟨K, B, H, none⟩ B H σ [.rd (ns.map V.int), .dat (.int salt), .no, .no, .no])
    (q : ∀ p q B' H', Stp none B H B' H' → H p = none → H q = none → B' p = none → B' q = none → DealAt H' p q → E.rt (.ref p) H') : t_draw K E σ H := by
  -- cells
  have hc : VL ⟨K, B, H, none⟩ (tLc (iAny K (tSl (rSlany K) (tVar 0) tNoPart (tPart (tC (.int 48))))) (gName 3) tYes (tCB rAbs (tCons (tCB rInt1 (tCons (tVar 3) tNil)) tNil)) [3]) [.rd (ns.map V.int), .dat (.int salt), .no, .no, .no]
      (fun es => ∃ cs : List Int, es = cs.map .int ∧ cs.length ≤ 63) := by
    refine vl_lc (va_listD (vl_slRd (i := 0) (ns := ns) (lo := none) (hi := some 48) rfl vo_none (vo_someD ve_int)).ed) fun ds e => ?_
    cases e
    have hl : ((cut ns none (some 48)).map PyData.int).length ≤ 63 := by
      rw [List.length_map]
      exact Nat.le_trans (cut_len ns) hn
    refine ⟨len_of hl, fun i acc => ∃ cs : List Int, acc = cs.map .int ∧ cs.length ≤ i, ⟨[], rfl, Nat.le_refl _⟩, fun i d acc hd ⟨cs, e, hi⟩ => ?_, fun acc ⟨cs, e, hi⟩ => ⟨cs, e, Nat.le_trans hi hl⟩⟩
    rw [List.getElem?_map] at hd
    obtain ⟨m, _, rfl⟩ := Option.map_eq_some_iff.mp hd
    refine ⟨_, _, vg_name, fun j hj => hj, Is true, vt_yes, fun _ => ?_, fun e => by cases e⟩
    refine (ve_abs (ve_int1 (i := m) (ve_var rfl))).imp fun y ey => ?_
    subst ey e
    exact ⟨cs ++ [if m < 0 then -m else m], by rw [List.map_append]; rfl, by rw [List.length_append]; exact Nat.succ_le_succ hi⟩
  refine vs_asg (P := ⟨fun Γ => ∃ cs : List Int, Γ = [.rd (ns.map V.int), .dat (.int salt), .dat (.list (cs.map .int)), .no, .no] ∧ cs.length ≤ 63, fun _ => False, fun _ => False, fun _ => False⟩) hc.e
    (fun d ⟨es, e, cs, e2, hl⟩ => ⟨cs, by subst e e2; rfl, hl⟩) B H σ _ F (fun Γ1 B1 H1 σ1 ⟨cs, e, hl⟩ sB1 F1 => ?_) (fun _ _ _ _ e => e.elim) (fun _ _ _ _ e => e.elim) (fun _ _ _ _ e => e.elim)
  subst e
  -- blend
  refine vs_asg (P := ⟨DrawAt ns salt, fun _ => False, fun _ => False, fun _ => False⟩) (ve_opD ve_int.v (ve_opD ve_int.v (ve_var rfl).v (od_mul (wide_mul (a := 20) (b := 20) (by decide) (by omega) (by decide) (by decide) (by decide)))).v od_add)
    (fun d e => ⟨cs, 7919 + 104729 * salt, .no, by cases e; rfl, hl, by omega, by omega, Or.inl rfl⟩) B1 H1 σ1 _ F1 (fun Γ2 B2 H2 σ2 hd2 sB2 F2 => ?_) (fun _ _ _ _ e => e.elim) (fun _ _ _ _ e => e.elim) (fun _ _ _ _ e => e.elim)
  obtain ⟨cs2, c2, s3, e, hl2, hc0, hc1, hs3⟩ := hd2
  subst e
  -- the loop
  refine vs_for (P := ⟨DrawAt ns salt, fun _ => False, fun _ => False, fun _ => False⟩) (va_listD (ve_var rfl)) (fun ds e => ?_) B2 H2 σ2 _ F2 (fun Γ3 B3 H3 σ3 hd3 sB3 F3 => ?_) (fun _ _ _ _ e => e.elim) (fun _ _ _ _ e => e.elim) (fun _ _ _ _ e => e.elim)
  · cases e
    refine ⟨fun _ Γ => ∃ (c : Int) (s3 : Sl), Γ = [.rd (ns.map V.int), .dat (.int salt), .dat (.list (cs2.map .int)), s3, .dat (.int c)] ∧ 0 ≤ c ∧ c < 2147483648 ∧ (s3 = .no ∨ ∃ d, s3 = .dat d), ⟨c2, s3, rfl, hc0, hc1, hs3⟩, fun i d Γ' hd ⟨c, s3, e, h0, h1, _⟩ => ?_, fun Γ' ⟨c, s3, e, h0, h1, h2⟩ => ⟨cs2, c, s3, e, hl2, h0, h1, h2⟩⟩
    subst e
    rw [List.getElem?_map] at hd
    obtain ⟨m, _, rfl⟩ := Option.map_eq_some_iff.mp hd
    refine ⟨_, _, vg_name, vs_asg (ve_opD (ve_int1 (ve_opD (ve_opD (ve_opD (ve_var rfl).v ve_int.v (od_mul (wide_mul (a := 32) (b := 32) (by omega) (by decide) (by decide) (by decide) (by decide)))).v (ve_opD (ve_var rfl).v ve_int.v (od_mod (by decide))).v od_add).v ve_int.v od_add)).v ve_int.v (od_mod (by decide))) fun d e => ?_⟩
    cases e
    refine ⟨_, _, rfl, Int.emod_nonneg _ (by decide), ?_, Or.inr ⟨_, rfl⟩⟩
    have := Int.emod_lt_of_pos (c * 48271 + m % 2147483549 + 11) (show (0 : Int) < 2147483647 by decide)
    omega
  -- the end
  obtain ⟨cs3, c3, s3', e, hl3, hc0', hc1', _⟩ := hd3
  subst e
  have hr : VL ⟨K, B, H, none⟩ (tRevL K (tLc (iAny K (tVar 2)) (gName 3) (tTest (tOp (rI0 fun i j => .bl (decide (j ≤ i))) (tVar 3) (tOp (rI CPow fun i j => .int (i ^ j.toNat)) (tC (.int 10)) (tC (.int 18))))) (tVar 3) [3]))
      [.rd (ns.map V.int), .dat (.int salt), .dat (.list (cs3.map .int)), s3', .dat (.int c3)] (fun es => ∃ cs : List Int, es = cs.map .int ∧ cs.length ≤ 64) := by
    refine (vl_rev (S := fun es => ∃ cs : List Int, es = cs.map .int ∧ cs.length ≤ 64) (VL.v ?_)).imp fun es ⟨ds, ⟨cs, e1, e2⟩, e3⟩ => ⟨cs.reverse, by rw [e3, e1, List.map_reverse], by rw [List.length_reverse]; exact e2⟩
    refine vl_lc (va_listD (ve_var rfl)) fun ds e => ?_
    cases e
    have hl : (cs3.map PyData.int).length ≤ 63 := by
      rw [List.length_map]
      exact hl3
    refine ⟨len_of hl, fun i acc => ∃ cs : List Int, acc = cs.map .int ∧ cs.length ≤ i, ⟨[], rfl, Nat.le_refl _⟩, fun i d acc hd ⟨cs, e, hi⟩ => ?_, fun acc ⟨cs, e, hi⟩ => ⟨cs, e, by omega⟩⟩
    rw [List.getElem?_map] at hd
    obtain ⟨m, _, rfl⟩ := Option.map_eq_some_iff.mp hd
    refine ⟨_, _, vg_name, fun j hj => hj, fun _ => True, (vt_testD (ve_opD (ve_var rfl).v (ve_opD ve_int.v ve_int.v (od_pow ⟨by decide, by decide, by decide⟩)).v od_ge)).imp fun _ _ => trivial, fun _ => ?_, fun _ => ⟨cs, e, Nat.le_succ_of_le hi⟩⟩
    refine (ve_var (i := 3) (d := .int m) rfl).imp fun y ey => ?_
    subst ey e
    exact ⟨cs ++ [m], by rw [List.map_append]; rfl, by rw [List.length_append]; exact Nat.succ_le_succ hi⟩
  refine ret_two (hr B3 H3 σ3 F3 _ fun es r vs B4 H4 ⟨cs, e, hcs⟩ s4 g1 g2 g3 g4 => ?_)
  subst e
  obtain ⟨v, hv, kv⟩ := F3.slot 4 _ rfl
  obtain rfl := dp_int kv
  refine ⟨.int c3, hv, by show 2 ≤ sizeLine; decide, fun p hp => ?_⟩
  have F4 := F3.step s4
  have st : Stp none B H B4 (upd H4 p (.lst [.ref r, .int c3])) := F4.st.trans (fun p q e => by cases e) (Stp.newM F4.sub hp)
  have nr : r ≠ p := fun z => by
    subst z
    rw [g3] at hp
    cases hp
  refine q p r B4 _ st (F4.newC hp) (F3.newC g1) (F4.sub.free hp) g2 ⟨nr.symm, cs, c3, upd_same, ?_, hcs, hc0', hc1'⟩
  rw [upd_ne nr, g3, dpall_ints g4]
theorem draw_ok {N : List Str} (F : Fun K x qual st f fd) (S : FnScope N ["script", "salt"] (defScope st)) (hN : N.length = 5)
    (body : ∀ (cdv : Value) (A : Around) (outer : List Env) (s : Shared) (H : Hp) (E : XK), (cxOf CX0 P0 w K mg base N qual (defScope st) f cdv A outer s H E).A.guards = some [] → Room k (cxOf CX0 P0 w K mg base N qual (defScope st) f cdv A outer s H E).A →
      PSs (cxOf CX0 P0 w K mg base N qual (defScope st) f cdv A outer s H E).nox (defBody st) (t_draw K)) : GOk P0 w K mg base CX0 (k + 1) f fd ["script", "salt"] (Dr K) := by
  refine gok_of F S (fun {vs H Q E} ⟨_, a, ns, salt, e, _⟩ => by rw [e]; rfl) fun cdv A outer s H vs Q E hg hr ⟨B, a, ns, salt, e, hs, hS, h0, h1, hn, hq⟩ => ?_
  subst e
  refine ⟨_, (body cdv A outer s H E hg hr).nox, vs_draw h0 h1 hn _ _ ?_ hq⟩
  refine ⟨Stp.refl hs, (fun p q e => nomatch e), ?_, fun i sl h => ?_, fun i j p ds es h => ?_⟩
  · rw [start_len (by rw [hN]; exact (by decide : 2 ≤ 5)), hN]
    rfl
  · match i, h with
    | 0, h => cases h; exact ⟨a, rfl, hS⟩
    | 1, h => cases h; exact ⟨_, rfl, .int _⟩
    | 2, h => cases h; trivial
    | 3, h => cases h; trivial
    | 4, h => cases h; trivial
    | n + 5, h => cases h
  · exfalso
    match i, h with
    | 0, h => cases h
    | 1, h => cases h
    | 2, h => cases h
    | 3, h => cases h
    | 4, h => cases h
    | n + 5, h => cases h
end

/-! ### one of some things -/
abbrev tAny (K : PySem.W.Frag) (e : TE) : TE := tCallK (De K P_any R_any) (fun vs _ => vs) E0 (tCons (tVar 0) (tCons e tNil)) tNil
section
variable {C : Cn} {Γ : List Sl} {te : TE} {n : Int}
theorem ve_any (h0 : Γ[0]? = some .deal) (h : VE C te Γ (Is (.int n))) (hn : 0 < n) (hm : n < 1000000000000) : VE C (tAny C.K te) Γ (fun d => ∃ r, d = .int r ∧ 0 ≤ r ∧ r < n) :=
  (ve_deD h0 (va_consD h va_nil) ⟨n, rfl, hn, hm⟩).imp fun d r => r n rfl
end
def t_of (K : PySem.W.Frag) : TS := tRet (tOp (rIx K) (tVar 1) (tAny K (tCB (rLen K) (tCons (tVar 1) tNil))))
theorem vs_of {C : Cn} {ds : List D} (hP : P_of ds) : VS C (t_of C.K) (.deal :: slots ds 0) { nx := fun _ => R_of ds .none, rt := R_of ds } := by
  obtain ⟨xs, e, hne, hl⟩ := hP
  have hp : 0 < xs.length := List.length_pos_iff.mpr hne
  rcases e with rfl | rfl
  · refine vs_ret (ve_op (Ra := Is (.list xs)) (ve_var rfl).v (ve_any rfl (ve_lenL (ve_var rfl).v) (by omega) (by omega)).v fun x y ex ⟨r, ey, h0, h1⟩ => ?_)
    subst ex ey
    obtain ⟨m, rfl⟩ := Int.eq_ofNat_of_zero_le h0
    have hm : m < xs.length := by omega
    intro B H v u e k1 k2 Q q
    refine od_ixL (z := xs[m]) (atI_pos (List.getElem?_eq_getElem hm)) B H v u e k1 k2 Q fun d w B' H' ed s k => q d w B' H' (fun ys ey => ?_) s k
    subst ed
    rcases ey with ey | ey
    · cases ey
      exact List.getElem_mem hm
    · cases ey
  · refine vs_ret (ve_op (Ra := Is (.tuple xs)) (ve_var rfl).v (ve_any rfl (ve_lenT (ve_var rfl)) (by omega) (by omega)).v fun x y ex ⟨r, ey, h0, h1⟩ => ?_)
    subst ex ey
    obtain ⟨m, rfl⟩ := Int.eq_ofNat_of_zero_le h0
    have hm : m < xs.length := by omega
    intro B H v u e k1 k2 Q q
    refine od_ixT (z := xs[m]) (atI_pos (List.getElem?_eq_getElem hm)) B H v u e k1 k2 Q fun d w B' H' ed s k => q d w B' H' (fun ys ey => ?_) s k
    subst ed
    rcases ey with ey | ey
    · cases ey
    · cases ey
      exact List.getElem_mem hm
end Ly
namespace Ly
open PySem PySem.Spec PyProof.Rows L2
/-! slices by numbers -/
section
variable {α : Type} (xs : List α)
theorem cut_nat (a b : Nat) (h : a ≤ b) : cut xs (some (a : Int)) (some (b : Int)) = (xs.drop a).take (b - a) := by
  unfold cut
  rw [HT.sIx_nat, HT.sIx_nat]
  by_cases ha : a ≤ xs.length
  · rw [Nat.min_eq_left ha]
    by_cases hb : b ≤ xs.length
    · rw [Nat.min_eq_left hb]
    · rw [Nat.min_eq_right (by omega)]
      rw [List.take_of_length_le (by rw [List.length_drop]; omega), List.take_of_length_le (by rw [List.length_drop]; omega)]
  · rw [show min a xs.length = xs.length by omega, List.drop_length, List.drop_eq_nil_of_le (show xs.length ≤ a by omega)]
    simp
theorem cut_to (b : Nat) : cut xs none (some (b : Int)) = xs.take b := by
  unfold cut
  rw [HT.sIx_none, HT.sIx_nat, List.drop_zero, Nat.sub_zero]
  by_cases hb : b ≤ xs.length
  · rw [Nat.min_eq_left hb]
  · rw [show min b xs.length = xs.length by omega, List.take_of_length_le (Nat.le_refl _), List.take_of_length_le (show xs.length ≤ b by omega)]
theorem cut_from (a : Nat) : cut xs (some (a : Int)) none = xs.drop a := by
  unfold cut
  rw [HT.sIx_nat, HT.sIx_none]
  by_cases ha : a ≤ xs.length
  · rw [Nat.min_eq_left ha, List.take_of_length_le (by rw [List.length_drop]; omega)]
  · rw [show min a xs.length = xs.length by omega, List.drop_length, List.drop_eq_nil_of_le (show xs.length ≤ a by omega)]
    simp
end
end Ly

/-! LyN: the law's first statement (a source of draws is made), displays of literals, small data (Sm), joins. -/
namespace Ly
open PySem PySem.Spec PyProof.Rows L2

/-! ### small data -/
structure Sm (d : D) (k n : Nat) : Prop where
  ly : d.canLay0 = true
  sh : d.showable = true
  lv : d.leavesShort 13 = true
  dp : d.depth ≤ k
  wt : d.weight ≤ n
structure SmA (ds : List D) (k n : Nat) : Prop where
  ly : PyData.canLayAll0 ds = true
  sh : PyData.showableAll ds = true
  lv : PyData.leavesShortAll 13 ds = true
  dp : PyData.depthAll ds ≤ k
  wt : PyData.weightAll ds ≤ n
section
variable {d x y : D} {ds : List D} {k k' n n' m : Nat}
theorem Sm.mono (h : Sm d k n) (hk : k ≤ k' := by omega) (hn : n ≤ n' := by omega) : Sm d k' n' := ⟨h.ly, h.sh, h.lv, Nat.le_trans h.dp hk, Nat.le_trans h.wt hn⟩
theorem SmA.nil : SmA [] k n := ⟨rfl, rfl, rfl, Nat.zero_le _, Nat.zero_le _⟩
theorem SmA.cons (h : Sm d k n) (t : SmA ds k m) : SmA (d :: ds) k (n + 1 + m) := by
  refine ⟨?_, ?_, ?_, ?_, ?_⟩
  · rw [PyData.canLayAll0, h.ly, t.ly]; rfl
  · rw [PyData.showableAll, h.sh, t.sh]; rfl
  · rw [PyData.leavesShortAll, h.lv, t.lv]; rfl
  · rw [PyData.depthAll]; exact Nat.max_le.mpr ⟨h.dp, t.dp⟩
  · rw [PyData.weightAll]
    have := h.wt
    have := t.wt
    omega
theorem SmA.of : ∀ {ds : List D}, (∀ d ∈ ds, Sm d k n) → SmA ds k (ds.length * (n + 1))
  | [], _ => .nil
  | d :: ds, h => by
    have e : (d :: ds).length * (n + 1) = n + 1 + ds.length * (n + 1) := by rw [List.length_cons, Nat.succ_mul]; omega
    rw [e]
    exact SmA.cons (h d (List.mem_cons_self ..)) (SmA.of fun x hx => h x (List.mem_cons_of_mem _ hx))
theorem SmA.monoW (h : SmA ds k n) (hn : n ≤ n') : SmA ds k n' := ⟨h.ly, h.sh, h.lv, h.dp, Nat.le_trans h.wt hn⟩
theorem Sm.list (h : SmA ds k n) : Sm (.list ds) (k + 1) n := ⟨h.ly, h.sh, h.lv, Nat.succ_le_succ h.dp, h.wt⟩
theorem Sm.tup (h : SmA ds k n) : Sm (.tuple ds) (k + 1) n := ⟨h.ly, h.sh, h.lv, Nat.succ_le_succ h.dp, h.wt⟩
theorem sm_non : Sm .none k n := ⟨rfl, rfl, rfl, Nat.zero_le _, Nat.zero_le _⟩
theorem sm_bool {b : Bool} : Sm (.bool b) k n := ⟨rfl, rfl, rfl, Nat.zero_le _, Nat.zero_le _⟩
theorem sm_int {i : Int} (h : i.natAbs < 10 ^ 12) : Sm (.int i) k 41 := by
  have hl : i.natAbs.log2 < 40 := by
    by_cases h0 : i.natAbs = 0
    · rw [h0]; decide
    · rw [Nat.log2_lt h0]
      exact Nat.lt_of_lt_of_le h (by decide)
  refine ⟨rfl, ?_, ?_, Nat.zero_le _, ?_⟩
  · rw [PyData.showable]
    exact decide_eq_true (by omega)
  · rw [PyData.leavesShort]
    refine decide_eq_true ?_
    rw [PyData.shown]
    have := int_text_length_le10 (a := i) (k := 12) (by decide) h
    refine Nat.le_trans (Nat.le_of_eq ?_) this
    exact PySem.ofString_length _
  · rw [PyData.weight]
    split <;> omega
theorem sm_str {s : Str} (h : ∀ c ∈ s.cps.toList, c < 0x110000) (hn : s.length ≤ n) : Sm (.str s) k n := by
  refine ⟨?_, rfl, ?_, Nat.zero_le _, hn⟩
  · rw [PyData.canLay0]
    unfold PyData.strOk
    rw [Array.all_eq_true]
    intro i hi
    exact decide_eq_true (h _ (Array.getElem_mem_toList hi))
  · rw [PyData.leavesShort, List.all_eq_true]
    intro c hc
    exact decide_eq_true (Nat.lt_of_lt_of_le (h c hc) (by decide))
theorem Sm.shaped (h : Sm d k n) (hk : k ≤ 64 := by decide) : SeqAt.shaped d = true := by
  unfold SeqAt.shaped
  rw [h.ly, Bool.true_and]
  exact decide_eq_true (Nat.le_trans h.dp hk)
theorem Sm.eqv (h : Sm d k n) : PyData.eqv d d = true := SeqAt.eqv_refl d h.ly
end
section
variable {C : Cn} {te ta tb tc : TE} {Γ : List Sl} {d x y z : D} {k k' n n' : Nat}
theorem ve_reprS (h : VV C te Γ (Is d)) (s : Sm d k n) (hk : k ≤ 64 := by decide) (hn : n ≤ 1048576 := by omega) : VE C (tCB (rRepr C.K) (tCons te tNil)) Γ (Is (.str d.shown)) :=
  ve_repr h s.sh (PyData.hasDict_of_canLay d s.ly) (Nat.le_trans s.dp (by omega)) (PyData.shown_fits (B := 13) (by decide) (by decide) s.lv (Nat.le_trans s.wt hn))
theorem od_neD (hx : SeqAt.shaped x = true) (hy : SeqAt.shaped y = true) {b : Bool} (e : PyData.eqv x y = b) : OD C (rNeA C.K) x y (Is (.bool (!b))) := e ▸ od_ne hx hy
theorem od_neSame (h : Sm x k n) (e : x = y) (hk : k ≤ 64 := by decide) : OD C (rNeA C.K) x y (Is (.bool false)) := e ▸ od_neD (h.shaped hk) (h.shaped hk) h.eqv
theorem od_eqSame (h : Sm x k n) (e : x = y) (hk : k ≤ 64 := by decide) : OD C (rEqA C.K) x y (Is (.bool true)) := by
  subst e
  have := od_eq (C := C) (h.shaped hk) (h.shaped hk)
  rw [h.eqv] at this
  exact this
theorem od_neSSame {s t : Str} (e : s = t) : OD C (rNeA C.K) (.str s) (.str t) (Is (.bool false)) := by
  have := od_neS (C := C) (s := s) (t := t)
  rw [decide_eq_true e] at this
  exact this
theorem ve_chainD {r r' : R2} {b c : Bool} (ha : VE C ta Γ (Is x)) (hb : VE C tb Γ (Is y)) (ho : OD C r x y (Is (.bool b))) (hc : VV C tc Γ (Is z)) (ho2 : OD C r' y z (Is (.bool c))) : VE C (tChain r r' ta tb tc) Γ (Is (.bool (b && c))) :=
  ve_chain ha hb ho (fun e => by rw [e]; rfl) fun e => by
    subst e
    intro B H σ F Q q
    refine hc B H σ F Q fun d v B' H' ed s k => q d v B' H' ?_ s k
    cases ed
    exact ho2
/-! displays of literals -/
theorem va_strs : ∀ ss : List Str, VA C (ss.foldr (fun s A => tCons (tC (.str s)) A) tNil) Γ (Is (ss.map .str))
  | [] => va_nil
  | s :: ss => va_consD ve_str (va_strs ss)
theorem va_ints : ∀ ss : List Int, VA C (ss.foldr (fun s A => tCons (tC (.int s)) A) tNil) Γ (Is (ss.map .int))
  | [] => va_nil
  | s :: ss => va_consD ve_int (va_ints ss)
theorem ve_lstS (ss : List Str) (h : ss.length ≤ 1000 := by decide) : VE C (tLst (ss.foldr (fun s A => tCons (tC (.str s)) A) tNil)) Γ (Is (.list (ss.map .str))) := (vl_lstD (va_strs ss) (by rw [List.length_map]; omega)).ed
theorem ve_tupS (ss : List Str) (h : ss.length ≤ 1000 := by decide) : VE C (tTup (ss.foldr (fun s A => tCons (tC (.str s)) A) tNil)) Γ (Is (.tuple (ss.map .str))) := ve_tupD (va_strs ss) (by rw [List.length_map]; omega)
end

section
variable {C : Cn} {te ta : TE} {Γ : List Sl} {s : Str}
/-- a join of strings of which only something is known -/
theorem ve_joinLR {S : List Str → Prop} (h : VE C ta Γ (Is (.str s))) (h2 : VV C te Γ (fun d => ∃ es, d = .list es ∧ ∃ ys : List Str, es = ys.map .str ∧ S ys)) (hz : ∀ ys, S ys → (ys.map (·.length)).sum + ys.length * s.length ≤ 16777216) :
    VE C (tM1 (rJoin C.K) ta te) Γ (fun d => ∃ ys, S ys ∧ d = .str (Txt.join s ys)) := fun B H σ F Q q =>
  h B H σ F _ fun d v B1 H1 ed s1 k1 => by
    cases ed
    obtain rfl := dp_str k1
    refine ⟨⟨s, rfl⟩, h2 B1 H1 σ (F.step s1) _ fun d v B2 H2 ⟨es, ed, ys, ee, hy⟩ s2 k2 => ?_⟩
    subst ed ee
    obtain ⟨a, xs, rfl, g1, g2⟩ := k2.lst ((F.step s1).step s2).sub
    rw [dpall_strs g2] at g1
    exact ⟨s, a, ys, rfl, rfl, Or.inl g1, hz ys hy, q _ _ B2 H2 ⟨ys, hy, rfl⟩ (s1.trans F.dlNow s2) (.str _)⟩
theorem sum_len : ∀ (ys : List Str) (n : Nat), (∀ s ∈ ys, s.length ≤ n) → (ys.map (·.length)).sum ≤ n * ys.length
  | [], n, _ => Nat.le_refl _
  | y :: ys, n, h => by
    have h1 := h y (List.mem_cons_self ..)
    have h2 := sum_len ys n fun s hs => h s (List.mem_cons_of_mem _ hs)
    rw [List.map_cons, List.sum_cons, List.length_cons, Nat.mul_succ]
    omega
end
section
variable {C : Cn} {te : TE} {Γ : List Sl} {i : Int}
theorem ve_neg (h : VE C te Γ (Is (.int i))) : VE C (tUn (rU fun i => .int (-i)) te) Γ (Is (.int (-i))) := ve_un (Ra := Is (.int i)) h.v fun x ex B H v e k Q q => by
  subst ex
  obtain rfl := k.int
  exact ⟨i, rfl, q _ _ B H rfl (Stp.refl e) (.int _)⟩
end
section
variable {C : Cn} {A A' : TA} {Γ : List Sl} {ds es : List D} {P : List D → Prop} {R' : List D → D → Prop} {E : XK} {gV : List V → List V → List V} {te : TE} {i : Nat} {n : Int}
/-- with names -/
theorem ve_kwD {gD : List D → List D → List D} (hg : ∀ {H : Hp} {vs zs : List V} {us ws : List D}, DqAll C.K H vs us → DqAll C.K H zs ws → DqAll C.K H (gV vs zs) (gD us ws)) (h : VA C A Γ (Is ds)) (h' : VA C A' Γ (Is es)) (hP : P (gD ds es)) :
    VE C (tCallK (Pu C.K P R') gV E A A') Γ (R' (gD ds es)) := ve_pu gD h h' (fun B vs zs ds es h1 h2 => hg h1 h2) fun xs ys e1 e2 => by
  cases e1
  cases e2
  exact ⟨hP, fun _ r => r⟩
/-- a draw, wherever the source lies -/
theorem ve_anyI (h0 : Γ[i]? = some .deal) (h : VE C te Γ (Is (.int n))) (hn : 0 < n) (hm : n < 1000000000000) : VE C (tCallK (De C.K P_any R_any) (fun vs _ => vs) E (tCons (tVar i) (tCons te tNil)) tNil) Γ (fun d => ∃ r, d = .int r ∧ 0 ≤ r ∧ r < n) :=
  (ve_deD h0 (va_consD h va_nil) ⟨n, rfl, hn, hm⟩).imp fun d r => r n rfl
end
/-! ### the law's first statement -/
theorem vs_begin {K : PySem.W.Frag} {H : Hp} {ns : List Int} {n : Nat} {t : TS} {R : D → Prop} {s : Int} (hn : ns.length ≤ 63) (h0 : 0 ≤ s := by decide) (h1 : s ≤ 1000 := by decide)
    (k : ∀ B H p q, VS ⟨K, B, H, some (p, q)⟩ t (.rd (ns.map V.int) :: .deal :: List.replicate n .no) { nx := fun _ => False, rt := R }) :
    VS ⟨K, H, H, none⟩ (tSeq (tAsg (tCallK (Dr K) (fun vs _ => vs) E0 (tCons (tVar 0) (tCons (tC (.int s)) tNil)) tNil) (gName 1)) t) (.rd (ns.map V.int) :: .no :: List.replicate n .no) { nx := fun _ => False, rt := R } := fun B H1 σ E F n' r b c => by
  obtain ⟨a, ea, hS⟩ := F.slot 0 _ rfl
  refine ⟨.ref a, ea, B, a, ns, s, rfl, F.sub, hS, h0, h1, hn, fun p q B' H' st hp hq hBp hBq hd => ?_⟩
  refine k B' H' p q B' H' _ E ⟨Stp.refl st.sub, fun p' q' e => ?_, ?_, fun i sl h => ?_, fun i j x ds es h => ?_⟩ (fun _ _ _ _ e => e.elim) (fun d v B2 H2 rd s2 kd => ?_) (fun _ _ _ _ e => e.elim) fun _ _ _ _ e => e.elim
  · cases e
    exact ⟨hd, hBp, hBq⟩
  · rw [List.length_set]
    exact F.len
  · match i, h with
    | 0, h =>
      cases h
      refine ⟨a, ?_, same_l st.ext hS⟩
      rw [List.getElem?_set_ne (by decide)]
      exact ea
    | 1, h =>
      cases h
      refine ⟨p, q, rfl, ?_⟩
      rw [List.getElem?_set_self (by rw [F.len]; exact Nat.succ_lt_succ (Nat.succ_pos _))]
    | i + 2, h =>
      have h : (List.replicate n Sl.no)[i]? = some sl := h
      rw [List.getElem?_replicate] at h
      split at h
      · cases h
        trivial
      · cases h
  · exfalso
    match i, h with
    | 0, h => cases h
    | 1, h => cases h
    | i + 2, h =>
      have h : (List.replicate n Sl.no)[i]? = some (.own ds) := h
      rw [List.getElem?_replicate] at h
      split at h <;> cases h
  · refine r d v B2 H2 rd ?_ kd
    have keep : ∀ a o, H1 a = some o → H2 a = some o := fun a o e => s2.keep a o (st.keep a o e fun ⟨_, _, z, _⟩ => nomatch z) fun ⟨p', q', e1, e2⟩ => by
      cases e1
      rcases e2 with e2 | e2
      · subst e2
        rw [hp] at e
        cases e
      · subst e2
        rw [hq] at e
        cases e
    have s0 : Stp none B H1 B2 H2 := ⟨st.ext.trans s2.ext, s2.sub, fun a o e _ => keep a o e, fun a ha hb => s2.out a (st.there (fun _ _ e => nomatch e) ha) (st.out a ha hb), fun _ _ e => nomatch e⟩
    exact F.st.trans (fun _ _ e => nomatch e) s0
end Ly

namespace K05
open PySem PySem.Spec PyProof.Rows L2 Ly
abbrev P__law_any := Ly.P_any
abbrev R__law_any := Ly.R_any
abbrev P__law_of := Ly.P_of
abbrev R__law_of := Ly.R_of
/-! ### tokens, as lists of codes -/
/-- how many signs are skipped; b: within a remark -/
def skipN : Bool → List Nat → Nat
  | _, [] => 0
  | b, c :: cs => if b || (c == 32 || c == 10 || c == 35) then 1 + skipN ((c != 10) && (b || c == 35)) cs else 0
def isW (c : Nat) : Bool := c == 95 || (97 ≤ c && c ≤ 122) || (65 ≤ c && c ≤ 90) || (48 ≤ c && c ≤ 57)
def wordN : List Nat → Nat
  | [] => 0
  | c :: cs => if isW c then 1 + wordN cs else 0
def tokN (l : List Nat) : Nat := if l.take 2 = [45, 62] then 2 else max 1 (wordN l)
theorem tokN_pos (l : List Nat) : 1 ≤ tokN l := by unfold tokN; split <;> omega
/-- the tokens from a place on, with their places -/
def toks (i : Nat) (l : List Nat) : List (Nat × List Nat) :=
  if h : l.drop (skipN false l) = [] then [] else
    (i + skipN false l, (l.drop (skipN false l)).take (tokN (l.drop (skipN false l)))) :: toks (i + skipN false l + tokN (l.drop (skipN false l))) ((l.drop (skipN false l)).drop (tokN (l.drop (skipN false l))))
termination_by l.length
decreasing_by
  have h1 := tokN_pos (l.drop (skipN false l))
  have h2 : 0 < (l.drop (skipN false l)).length := List.length_pos_iff.mpr h
  rw [List.length_drop] at h2
  rw [List.length_drop, List.length_drop]
  omega
abbrev Tx (cs : List Nat) : Str := ⟨cs.toArray⟩
def P_skipped (ds : List D) : Prop := ∃ (l : List Nat) (i : Nat), ds = [.str (Tx l), .int (i : Nat)] ∧ l.length ≤ 100000 ∧ i ≤ l.length
def R_skipped (ds : List D) (d : D) : Prop := ∀ (l : List Nat) (i : Nat), ds = [.str (Tx l), .int (i : Nat)] → d = .int ((i + skipN false (l.drop i) : Nat) : Int)
def P_token_end (ds : List D) : Prop := ∃ (l : List Nat) (i : Nat), ds = [.str (Tx l), .int (i : Nat)] ∧ l.length ≤ 100000 ∧ i ≤ l.length
def R_token_end (ds : List D) (d : D) : Prop := ∀ (l : List Nat) (i : Nat), ds = [.str (Tx l), .int (i : Nat)] → d = .int ((i + tokN (l.drop i) : Nat) : Int)
def P_token_places (ds : List D) : Prop := ∃ l : List Nat, ds = [.str (Tx l)] ∧ l.length ≤ 90000
def R_token_places (ds : List D) (d : D) : Prop := ∀ l : List Nat, ds = [.str (Tx l)] → d = .tuple ((toks 0 l).map fun p => .int (p.1 : Nat))
def P_tokens_of (ds : List D) : Prop := ∃ l : List Nat, ds = [.str (Tx l)] ∧ l.length ≤ 90000
def R_tokens_of (ds : List D) (d : D) : Prop := ∀ l : List Nat, ds = [.str (Tx l)] → d = .tuple ((toks 0 l).map fun p => .str (Tx p.2))
def P__law_text (ds : List D) : Prop := ds = []
def R__law_text (ds : List D) (d : D) : Prop := ∃ l : List Nat, d = .str (Tx l) ∧ l.length ≤ 1000 ∧ ∀ c ∈ l, c < 128
def P__law_is_letter (ds : List D) : Prop := ∃ c : Nat, ds = [.str (Tx [c])]
def R__law_is_letter (ds : List D) (d : D) : Prop := ∀ c : Nat, ds = [.str (Tx [c])] → d = .bool (isW c)
/-- the law's own walk, sign by sign: what is found (the last token first, its signs backwards), what the sign ahead was: 0 gap, 1 remark, 2 word, 3 dash, 4 sign -/
def stepW (p : List (Nat × List Nat) × Nat) (i c : Nat) : List (Nat × List Nat) × Nat :=
  if p.2 = 1 then (p.1, if c = 10 then 0 else 1)
  else if c = 35 then (p.1, 1)
  else if c = 32 ∨ c = 10 then (p.1, 0)
  else if (isW c = true ∧ p.2 = 2) ∨ (c = 62 ∧ p.2 = 3) then
    (match p.1 with | [] => [] | (j, t) :: r => (j, t ++ [c]) :: r, if p.2 = 2 then 2 else 4)
  else ((i, [c]) :: p.1, if isW c then 2 else if c = 45 then 3 else 4)
def walkW : Nat → List Nat → List (Nat × List Nat) × Nat → List (Nat × List Nat) × Nat
  | _, [], p => p
  | i, c :: cs, p => walkW (i + 1) cs (stepW p i c)
def walk (l : List Nat) : List (Nat × List Nat) := (walkW 0 l ([], 0)).1.reverse
def P__law_walk (ds : List D) : Prop := ∃ l : List Nat, ds = [.str (Tx l)] ∧ l.length ≤ 90000 ∧ ∀ c ∈ l, c < 128
def pairD (p : Nat × List Nat) : D := .tuple [.int (p.1 : Nat), .str (Tx p.2)]
def R__law_walk (ds : List D) (d : D) : Prop := ∀ l : List Nat, ds = [.str (Tx l)] → d = .list ((walk l).map pairD)
end K05
namespace K05
open PySem PySem.Spec PyProof.Rows L2 Ly
/-! ### the text -/
def topS (i : Nat) : Stmt := PySem.Challenge.pw_lookanyhow_k05_tokens_and_their_places.main.body.getD i (.Pass ⟨0, 0, 0, 0⟩)
abbrev s_skipped : Stmt := topS 2
theorem sc_skipped : FnScope ["text", "at", "is_remark"] ["text", "at"] (defScope s_skipped) := ⟨rfl, rfl, rfl, by decide +kernel, rfl, by decide +kernel, by decide +kernel⟩
abbrev s_token_end : Stmt := topS 3
theorem sc_token_end : FnScope ["text", "at", "end"] ["text", "at"] (defScope s_token_end) := ⟨rfl, rfl, rfl, by decide +kernel, rfl, by decide +kernel, by decide +kernel⟩
abbrev s_token_places : Stmt := topS 4
theorem sc_token_places : FnScope ["text", "found", "at"] ["text"] (defScope s_token_places) := ⟨rfl, rfl, rfl, by decide +kernel, rfl, by decide +kernel, by decide +kernel⟩
abbrev s_tokens_of : Stmt := topS 5
theorem sc_tokens_of : FnScope ["text", "at"] ["text"] (defScope s_tokens_of) := ⟨rfl, rfl, rfl, by decide +kernel, rfl, by decide +kernel, by decide +kernel⟩
abbrev s__law_draw : Stmt := topS 7
theorem sc__law_draw : FnScope ["script", "salt", "cells", "cell", "blend"] ["script", "salt"] (defScope s__law_draw) := ⟨rfl, rfl, rfl, by decide +kernel, rfl, by decide +kernel, by decide +kernel⟩
abbrev s__law_any : Stmt := topS 8
theorem sc__law_any : FnScope ["deal", "bound", "rest"] ["deal", "bound"] (defScope s__law_any) := ⟨rfl, rfl, rfl, by decide +kernel, rfl, by decide +kernel, by decide +kernel⟩
abbrev s__law_of : Stmt := topS 9
theorem sc__law_of : FnScope ["deal", "some"] ["deal", "some"] (defScope s__law_of) := ⟨rfl, rfl, rfl, by decide +kernel, rfl, by decide +kernel, by decide +kernel⟩
abbrev s__law_text : Stmt := topS 10
theorem sc__law_text : FnScope ["deal", "some", "turn"] ["deal"] (defScope s__law_text) := ⟨rfl, rfl, rfl, by decide +kernel, rfl, by decide +kernel, by decide +kernel⟩
abbrev s__law_is_letter : Stmt := topS 11
theorem sc__law_is_letter : FnScope ["sign"] ["sign"] (defScope s__law_is_letter) := ⟨rfl, rfl, rfl, by decide +kernel, rfl, by decide +kernel, by decide +kernel⟩
abbrev s__law_walk : Stmt := topS 12
theorem sc__law_walk : FnScope ["text", "found", "state", "at", "sign"] ["text"] (defScope s__law_walk) := ⟨rfl, rfl, rfl, by decide +kernel, rfl, by decide +kernel, by decide +kernel⟩
abbrev s_law : Stmt := topS 13
theorem sc_law : FnScope ["script", "deal", "text", "due", "tokens", "places", "at", "token", "turn", "end", "more", "place"] ["script"] (defScope s_law) := ⟨rfl, rfl, rfl, by decide +kernel, rfl, by decide +kernel, by decide +kernel⟩
/-! ### what stands behind the top -/
structure Top (K : PySem.W.Frag) (mg : Str → Option Value) where
  f_skipped : Addr
  fd_skipped : FuncData
  F_skipped : Fun K "skipped" "skipped" s_skipped f_skipped fd_skipped
  g_skipped : mg "skipped" = some (.ref f_skipped)
  f_token_end : Addr
  fd_token_end : FuncData
  F_token_end : Fun K "token_end" "token_end" s_token_end f_token_end fd_token_end
  g_token_end : mg "token_end" = some (.ref f_token_end)
  f_token_places : Addr
  fd_token_places : FuncData
  F_token_places : Fun K "token_places" "token_places" s_token_places f_token_places fd_token_places
  g_token_places : mg "token_places" = some (.ref f_token_places)
  f_tokens_of : Addr
  fd_tokens_of : FuncData
  F_tokens_of : Fun K "tokens_of" "tokens_of" s_tokens_of f_tokens_of fd_tokens_of
  g_tokens_of : mg "tokens_of" = some (.ref f_tokens_of)
  f__law_draw : Addr
  fd__law_draw : FuncData
  F__law_draw : Fun K "_law_draw" "_law_draw" s__law_draw f__law_draw fd__law_draw
  g__law_draw : mg "_law_draw" = some (.ref f__law_draw)
  f__law_any : Addr
  fd__law_any : FuncData
  F__law_any : Fun K "_law_any" "_law_any" s__law_any f__law_any fd__law_any
  g__law_any : mg "_law_any" = some (.ref f__law_any)
  f__law_of : Addr
  fd__law_of : FuncData
  F__law_of : Fun K "_law_of" "_law_of" s__law_of f__law_of fd__law_of
  g__law_of : mg "_law_of" = some (.ref f__law_of)
  f__law_text : Addr
  fd__law_text : FuncData
  F__law_text : Fun K "_law_text" "_law_text" s__law_text f__law_text fd__law_text
  g__law_text : mg "_law_text" = some (.ref f__law_text)
  f__law_is_letter : Addr
  fd__law_is_letter : FuncData
  F__law_is_letter : Fun K "_law_is_letter" "_law_is_letter" s__law_is_letter f__law_is_letter fd__law_is_letter
  g__law_is_letter : mg "_law_is_letter" = some (.ref f__law_is_letter)
  f__law_walk : Addr
  fd__law_walk : FuncData
  F__law_walk : Fun K "_law_walk" "_law_walk" s__law_walk f__law_walk fd__law_walk
  g__law_walk : mg "_law_walk" = some (.ref f__law_walk)
  f_law : Addr
  fd_law : FuncData
  F_law : Fun K "law" "law" s_law f_law fd_law
  g_law : mg "law" = some (.ref f_law)
  v_WORD_SIGNS : V
  u_WORD_SIGNS : Value
  m_WORD_SIGNS : mg "WORD_SIGNS" = some u_WORD_SIGNS
  r_WORD_SIGNS : L2.RelV v_WORD_SIGNS u_WORD_SIGNS
  c_WORD_SIGNS : v_WORD_SIGNS = .str "abcdefghijklmnopqrstuvwxyzABCDEFGHIJKLMNOPQRSTUVWXYZ0123456789_"
  n_len : mg "len" = none
  n_max : mg "max" = none
  n_tuple : mg "tuple" = none
  n_int : mg "int" = none
  n_abs : mg "abs" = none
  n_range : mg "range" = none
  n_enumerate : mg "enumerate" = none
  n_sum : mg "sum" = none
  n_repr : mg "repr" = none
section
variable {K : PySem.W.Frag} {f : Addr} {fd : FuncData}
theorem b_skipped (F : Fun K "skipped" "skipped" s_skipped f fd) : KBinds K fd ["text", "at"] [] (fun us _ => us) (fun vs _ => vs) := binds_pos F fun _ _ _ _ _ _ us hl => match us, hl with | [_, _], _ => rfl
theorem b_token_end (F : Fun K "token_end" "token_end" s_token_end f fd) : KBinds K fd ["text", "at"] [] (fun us _ => us) (fun vs _ => vs) := binds_pos F fun _ _ _ _ _ _ us hl => match us, hl with | [_, _], _ => rfl
theorem b_token_places (F : Fun K "token_places" "token_places" s_token_places f fd) : KBinds K fd ["text"] [] (fun us _ => us) (fun vs _ => vs) := binds_pos F fun _ _ _ _ _ _ us hl => match us, hl with | [_], _ => rfl
theorem b_tokens_of (F : Fun K "tokens_of" "tokens_of" s_tokens_of f fd) : KBinds K fd ["text"] [] (fun us _ => us) (fun vs _ => vs) := binds_pos F fun _ _ _ _ _ _ us hl => match us, hl with | [_], _ => rfl
theorem b__law_draw (F : Fun K "_law_draw" "_law_draw" s__law_draw f fd) : KBinds K fd ["script", "salt"] [] (fun us _ => us) (fun vs _ => vs) := binds_pos F fun _ _ _ _ _ _ us hl => match us, hl with | [_, _], _ => rfl
theorem b__law_any (F : Fun K "_law_any" "_law_any" s__law_any f fd) : KBinds K fd ["deal", "bound"] [] (fun us _ => us) (fun vs _ => vs) := binds_pos F fun _ _ _ _ _ _ us hl => match us, hl with | [_, _], _ => rfl
theorem b__law_of (F : Fun K "_law_of" "_law_of" s__law_of f fd) : KBinds K fd ["deal", "some"] [] (fun us _ => us) (fun vs _ => vs) := binds_pos F fun _ _ _ _ _ _ us hl => match us, hl with | [_, _], _ => rfl
theorem b__law_text (F : Fun K "_law_text" "_law_text" s__law_text f fd) : KBinds K fd ["deal"] [] (fun us _ => us) (fun vs _ => vs) := binds_pos F fun _ _ _ _ _ _ us hl => match us, hl with | [_], _ => rfl
theorem b__law_is_letter (F : Fun K "_law_is_letter" "_law_is_letter" s__law_is_letter f fd) : KBinds K fd ["sign"] [] (fun us _ => us) (fun vs _ => vs) := binds_pos F fun _ _ _ _ _ _ us hl => match us, hl with | [_], _ => rfl
theorem b__law_walk (F : Fun K "_law_walk" "_law_walk" s__law_walk f fd) : KBinds K fd ["text"] [] (fun us _ => us) (fun vs _ => vs) := binds_pos F fun _ _ _ _ _ _ us hl => match us, hl with | [_], _ => rfl
theorem b_law (F : Fun K "law" "law" s_law f fd) : KBinds K fd ["script"] [] (fun us _ => us) (fun vs _ => vs) := binds_pos F fun _ _ _ _ _ _ us hl => match us, hl with | [_], _ => rfl
def kf_token_places_0_text {α : Type} (us ws : List α) : List α := match us, ws with | [], [k0] => [k0] | _, _ => []
theorem kr_token_places_0_text {vs zs : List V} {us ws : List Value} (h1 : Vals vs us) (h2 : Vals zs ws) : Vals (kf_token_places_0_text vs zs) (kf_token_places_0_text us ws) := by
  cases h1 with
  | nil =>
    cases h2 with
    | nil => first | exact .nil | (cases h2 <;> exact .nil)
    | cons r_text h2 =>
      cases h2 with
      | nil =>
        exact (.cons r_text .nil)
      | cons _ _ => first | exact .nil | (cases h2 <;> exact .nil)
  | cons _ _ => first | exact .nil | (cases h2 <;> exact .nil)
theorem kd_token_places_0_text {H : Hp} {vs zs : List V} {us ws : List D} (h1 : DqAll K H vs us) (h2 : DqAll K H zs ws) : DqAll K H (kf_token_places_0_text vs zs) (kf_token_places_0_text us ws) := by
  cases h1 with
  | nil =>
    cases h2 with
    | nil => first | exact .nil | (cases h2 <;> exact .nil)
    | cons r_text h2 =>
      cases h2 with
      | nil =>
        exact (.cons r_text .nil)
      | cons _ _ => first | exact .nil | (cases h2 <;> exact .nil)
  | cons _ _ => first | exact .nil | (cases h2 <;> exact .nil)
theorem kb_token_places_0_text (F : Fun K "token_places" "token_places" s_token_places f fd) : KBinds K fd ["text"] ["text"] (fun us ws => kf_token_places_0_text us ws) (fun vs zs => kf_token_places_0_text vs zs) := by
  refine binds_kw F ["text"] kf_token_places_0_text kr_token_places_0_text fun _ _ _ _ _ _ us ws hl => ?_
  rcases us with _ | ⟨_, us⟩ <;> rcases ws with _ | ⟨x0, _ | ⟨_, ws⟩⟩ <;> first | rfl | (cases hl; done)
def kf_tokens_of_0_text {α : Type} (us ws : List α) : List α := match us, ws with | [], [k0] => [k0] | _, _ => []
theorem kr_tokens_of_0_text {vs zs : List V} {us ws : List Value} (h1 : Vals vs us) (h2 : Vals zs ws) : Vals (kf_tokens_of_0_text vs zs) (kf_tokens_of_0_text us ws) := by
  cases h1 with
  | nil =>
    cases h2 with
    | nil => first | exact .nil | (cases h2 <;> exact .nil)
    | cons r_text h2 =>
      cases h2 with
      | nil =>
        exact (.cons r_text .nil)
      | cons _ _ => first | exact .nil | (cases h2 <;> exact .nil)
  | cons _ _ => first | exact .nil | (cases h2 <;> exact .nil)
theorem kd_tokens_of_0_text {H : Hp} {vs zs : List V} {us ws : List D} (h1 : DqAll K H vs us) (h2 : DqAll K H zs ws) : DqAll K H (kf_tokens_of_0_text vs zs) (kf_tokens_of_0_text us ws) := by
  cases h1 with
  | nil =>
    cases h2 with
    | nil => first | exact .nil | (cases h2 <;> exact .nil)
    | cons r_text h2 =>
      cases h2 with
      | nil =>
        exact (.cons r_text .nil)
      | cons _ _ => first | exact .nil | (cases h2 <;> exact .nil)
  | cons _ _ => first | exact .nil | (cases h2 <;> exact .nil)
theorem kb_tokens_of_0_text (F : Fun K "tokens_of" "tokens_of" s_tokens_of f fd) : KBinds K fd ["text"] ["text"] (fun us ws => kf_tokens_of_0_text us ws) (fun vs zs => kf_tokens_of_0_text vs zs) := by
  refine binds_kw F ["text"] kf_tokens_of_0_text kr_tokens_of_0_text fun _ _ _ _ _ _ us ws hl => ?_
  rcases us with _ | ⟨_, us⟩ <;> rcases ws with _ | ⟨x0, _ | ⟨_, ws⟩⟩ <;> first | rfl | (cases hl; done)
end
/-! ### promises -/
abbrev sp_skipped (K : PySem.W.Frag) : Sp := Pu K P_skipped R_skipped
abbrev sp_token_end (K : PySem.W.Frag) : Sp := Pu K P_token_end R_token_end
abbrev sp_token_places (K : PySem.W.Frag) : Sp := Pu K P_token_places R_token_places
abbrev sp_tokens_of (K : PySem.W.Frag) : Sp := Pu K P_tokens_of R_tokens_of
abbrev sp__law_draw (K : PySem.W.Frag) : Sp := Dr K
abbrev sp__law_any (K : PySem.W.Frag) : Sp := De K P__law_any R__law_any
abbrev sp__law_of (K : PySem.W.Frag) : Sp := De K P__law_of R__law_of
abbrev sp__law_text (K : PySem.W.Frag) : Sp := De K P__law_text R__law_text
abbrev sp__law_is_letter (K : PySem.W.Frag) : Sp := Pu K P__law_is_letter R__law_is_letter
abbrev sp__law_walk (K : PySem.W.Frag) : Sp := Pu K P__law_walk R__law_walk
abbrev sp_law (K : PySem.W.Frag) : Sp := Lw K
/-! ### readings and derivations -/
section
variable {P0 : Program} {w : World} {K : PySem.W.Frag} {mg : Str → Option Value} {base : Heap}
def t_skipped (T : Top K mg) : TS :=
      (tSeq (tAsg (tC (.bl false)) (gName 2))
      (tSeq (tWhile (tAnd (tTest (tOp rLtA (tVar 1) (tCB (rLen K) (tCons (tVar 0) tNil)))) (tOr (tB (tVar 2)) (tTest (tOp (rInA K) (tOp (rIx K) (tVar 0) (tVar 1)) (tC (.str " \n#")))))) (tSeq (tAsg (tAndV (tOp (rNeA K) (tOp (rIx K) (tVar 0) (tVar 1)) (tC (.str "\n"))) (tOrV (tVar 2) (tOp (rEqA K) (tOp (rIx K) (tVar 0) (tVar 1)) (tC (.str "#"))))) (gName 2))
        (tAsg (tOp (rAddA K) (tVar 1) (tC (.int 1))) (gName 1))))
      (tRet (tVar 1))))
theorem d_skipped (T : Top K mg)  (cdv : Value) (A : Around) (outer : List Env) (s : Shared) (H : Hp) (E : XK) (hg : (cxOf CX0 P0 w K mg base ["text", "at", "is_remark"] "skipped" (defScope s_skipped) T.f_skipped cdv A outer s H E).A.guards = some []) (hr : Room 0 (cxOf CX0 P0 w K mg base ["text", "at", "is_remark"] "skipped" (defScope s_skipped) T.f_skipped cdv A outer s H E).A) :
    PSs (cxOf CX0 P0 w K mg base ["text", "at", "is_remark"] "skipped" (defScope s_skipped) T.f_skipped cdv A outer s H E).nox (defBody s_skipped) (t_skipped T) :=
      (pss_cons (ps_set (i := 2) sc_skipped.nd rfl (.inl rfl) pe_bl)
      (pss_cons (ps_while PassesOwn.never (PW.pt (pw_and (pt_cmpR oq_lt (pv 1) (pe_callB cq_len (by rfl) T.n_len (by decide +kernel) (pa_cons (pv 0) pa_nil)) (nomark _)) (pw_and1 (PW.pt (pw_or (pt_val (pv 2)) (pw_or1 (pt_cmpR (oq_in hr) (pe_ix ix_seq (pv 0) (pv 1) (fun _ _ => rfl)) pe_str (by rfl)))))))) (pss_cons (ps_set (i := 2) sc_skipped.nd rfl (.inl rfl) (pe_and (pe_cmpR (oq_ne hr) (pe_ix ix_seq (pv 0) (pv 1) (fun _ _ => rfl)) pe_str (nomark _)) (pe_one (pe_or (pv 2) (pe_one (pe_cmpR (oq_eq hr) (pe_ix ix_seq (pv 0) (pv 1) (fun _ _ => rfl)) pe_str (nomark _)))))))
        (pss_one (ps_set (i := 1) sc_skipped.nd rfl (.inl rfl) (pe_op oq_add (pv 1) pe_int)))))
      (pss_one (ps_ret (pv 1)))))
def t_token_end (T : Top K mg) : TS :=
      (tSeq (tIfS (tTest (tOp (rEqA K) (tSl (rSlany K) (tVar 0) (tPart (tVar 1)) (tPart (tOp (rAddA K) (tVar 1) (tC (.int 2))))) (tC (.str "->")))) (tRet (tOp (rAddA K) (tVar 1) (tC (.int 2)))) tNext)
      (tSeq (tAsg (tVar 1) (gName 2))
      (tSeq (tWhile (tAnd (tTest (tOp rLtA (tVar 2) (tCB (rLen K) (tCons (tVar 0) tNil)))) (tTest (tOp (rInA K) (tOp (rIx K) (tVar 0) (tVar 2)) (tC T.v_WORD_SIGNS)))) (tAsg (tOp (rAddA K) (tVar 2) (tC (.int 1))) (gName 2)))
      (tRet (tCB rMx (tCons (tVar 2) (tCons (tOp (rAddA K) (tVar 1) (tC (.int 1))) tNil)))))))
theorem d_token_end (T : Top K mg)  (cdv : Value) (A : Around) (outer : List Env) (s : Shared) (H : Hp) (E : XK) (hg : (cxOf CX0 P0 w K mg base ["text", "at", "end"] "token_end" (defScope s_token_end) T.f_token_end cdv A outer s H E).A.guards = some []) (hr : Room 0 (cxOf CX0 P0 w K mg base ["text", "at", "end"] "token_end" (defScope s_token_end) T.f_token_end cdv A outer s H E).A) :
    PSs (cxOf CX0 P0 w K mg base ["text", "at", "end"] "token_end" (defScope s_token_end) T.f_token_end cdv A outer s H E).nox (defBody s_token_end) (t_token_end T) :=
      (pss_cons (ps_if (pt_cmpR (oq_eq hr) (pe_slice sq_any (pv 0) (po_some (pv 1)) (po_some (pe_op oq_add (pv 1) pe_int))) pe_str (nomark _)) (pss_one (ps_ret (pe_op oq_add (pv 1) pe_int))) pss_nil)
      (pss_cons (ps_set (i := 2) sc_token_end.nd rfl (.inl rfl) (pv 1))
      (pss_cons (ps_while PassesOwn.never (PW.pt (pw_and (pt_cmpR oq_lt (pv 2) (pe_callB cq_len (by rfl) T.n_len (by decide +kernel) (pa_cons (pv 0) pa_nil)) (nomark _)) (pw_and1 (pt_cmpR (oq_in hr) (pe_ix ix_seq (pv 0) (pv 2) (fun _ _ => rfl)) (pe_glob (by rfl) T.m_WORD_SIGNS T.r_WORD_SIGNS) (by rfl))))) (pss_one (ps_set (i := 2) sc_token_end.nd rfl (.inl rfl) (pe_op oq_add (pv 2) pe_int))))
      (pss_one (ps_ret (pe_callB (cq_max rfl) (by rfl) T.n_max (by decide +kernel) (pa_cons (pv 2) (pa_cons (pe_op oq_add (pv 1) pe_int) pa_nil))))))))
def t_token_places (T : Top K mg) : TS :=
      (tSeq (tPar 1 2 (tCons (tLst tNil) (tCons (tCallK (sp_skipped K) (fun vs _ => vs) E0 (tCons (tVar 0) (tCons (tC (.int 0)) tNil)) tNil) tNil)))
      (tSeq (tWhile (tTest (tOp rLtA (tVar 2) (tCB (rLen K) (tCons (tVar 0) tNil)))) (tSeq (tDrop (tBM K "list" rAppend (tVar 1) (tCons (tVar 2) tNil)))
        (tAsg (tCallK (sp_skipped K) (fun vs _ => vs) E0 (tCons (tVar 0) (tCons (tCallK (sp_token_end K) (fun vs _ => vs) E0 (tCons (tVar 0) (tCons (tVar 2) tNil)) tNil) tNil)) tNil) (gName 2))))
      (tRet (tCB (rTup K) (tCons (tVar 1) tNil)))))
theorem d_token_places (T : Top K mg) (G_skipped : GOk P0 w K mg base CX0 1 T.f_skipped T.fd_skipped ["text", "at"] (sp_skipped K)) (G_token_end : GOk P0 w K mg base CX0 1 T.f_token_end T.fd_token_end ["text", "at"] (sp_token_end K)) (cdv : Value) (A : Around) (outer : List Env) (s : Shared) (H : Hp) (E : XK) (hg : (cxOf CX0 P0 w K mg base ["text", "found", "at"] "token_places" (defScope s_token_places) T.f_token_places cdv A outer s H E).A.guards = some []) (hr : Room 1 (cxOf CX0 P0 w K mg base ["text", "found", "at"] "token_places" (defScope s_token_places) T.f_token_places cdv A outer s H E).A) :
    PSs (cxOf CX0 P0 w K mg base ["text", "found", "at"] "token_places" (defScope s_token_places) T.f_token_places cdv A outer s H E).nox (defBody s_token_places) (t_token_places T) :=
      (pss_cons (ps_par (i := 1) (j := 2) (by rfl) sc_token_places.nd rfl rfl (by decide) rfl rfl (pa_cons (pe_lst pa_nil) (pa_cons (pe_g G_skipped hg hr (by rfl) T.g_skipped T.F_skipped.kp (b_skipped T.F_skipped) pass0 (pa_cons (pv 0) (pa_cons pe_int pa_nil))) pa_nil)) (by rfl))
      (pss_cons (ps_while PassesOwn.never (pt_cmpR oq_lt (pv 2) (pe_callB cq_len (by rfl) T.n_len (by decide +kernel) (pa_cons (pv 0) pa_nil)) (nomark _)) (pss_cons (ps_expr (pe_bm PySem.F.plainAttrs_list PySem.F.slot_list_append PySem.F.type_list_append mt_append (pv 1) (pa_cons (pv 2) pa_nil)))
        (pss_one (ps_set (i := 2) sc_token_places.nd rfl (.inl rfl) (pe_g G_skipped hg hr (by rfl) T.g_skipped T.F_skipped.kp (b_skipped T.F_skipped) pass0 (pa_cons (pv 0) (pa_cons (pe_g G_token_end hg hr (by rfl) T.g_token_end T.F_token_end.kp (b_token_end T.F_token_end) pass0 (pa_cons (pv 0) (pa_cons (pv 2) pa_nil))) pa_nil)))))))
      (pss_one (ps_ret (pe_callTy cq_tup (by rfl) T.n_tuple (by decide +kernel) (pa_cons (pv 1) pa_nil))))))
def t_tokens_of (T : Top K mg) : TS :=
      (tRet (tCB (rTup K) (tCons (tLc (iAny K (tCallK (sp_token_places K) (fun vs _ => vs) E0 (tCons (tVar 0) tNil) tNil)) (gName 1) tYes (tSl (rSlany K) (tVar 0) (tPart (tVar 1)) (tPart (tCallK (sp_token_end K) (fun vs _ => vs) E0 (tCons (tVar 0) (tCons (tVar 1) tNil)) tNil))) [1]) tNil)))
theorem d_tokens_of (T : Top K mg) (G_token_places : GOk P0 w K mg base CX0 2 T.f_token_places T.fd_token_places ["text"] (sp_token_places K)) (G_token_end : GOk P0 w K mg base CX0 1 T.f_token_end T.fd_token_end ["text", "at"] (sp_token_end K)) (cdv : Value) (A : Around) (outer : List Env) (s : Shared) (H : Hp) (E : XK) (hg : (cxOf CX0 P0 w K mg base ["text", "at"] "tokens_of" (defScope s_tokens_of) T.f_tokens_of cdv A outer s H E).A.guards = some []) (hr : Room 2 (cxOf CX0 P0 w K mg base ["text", "at"] "tokens_of" (defScope s_tokens_of) T.f_tokens_of cdv A outer s H E).A) :
    PSs (cxOf CX0 P0 w K mg base ["text", "at"] "tokens_of" (defScope s_tokens_of) T.f_tokens_of cdv A outer s H E).nox (defBody s_tokens_of) (t_tokens_of T) :=
      (pss_one (ps_ret (pe_callTy cq_tup (by rfl) T.n_tuple (by decide +kernel) (pa_cons (pe_lc (own := [("at", 1)]) (by rfl) sc_tokens_of.nd (pi_any (pe_g G_token_places hg hr (by rfl) T.g_token_places T.F_token_places.kp (b_token_places T.F_token_places) pass0 (pa_cons (pv 0) pa_nil))) (blkOk_by (own := [("at", 1)]) (N := ["text", "at"]) (sc := defScope s_tokens_of) (by decide +kernel)) (fun _ _ _ _ _ => (pg_name (i := 1) sc_tokens_of.nd rfl (.inl rfl))) (fun _ _ _ _ _ => pts_nil) (fun _ _ _ _ _ => (pe_slice sq_any (pv 0) (po_some (pv 1)) (po_some (pe_g G_token_end hg (hr.mono (by decide)) (by rfl) T.g_token_end T.F_token_end.kp (b_token_end T.F_token_end) pass0 (pa_cons (pv 0) (pa_cons (pv 1) pa_nil))))))) pa_nil))))
def t__law_draw (T : Top K mg) : TS :=
      (tSeq (tAsg (tLc (iAny K (tSl (rSlany K) (tVar 0) tNoPart (tPart (tC (.int 48))))) (gName 3) tYes (tCB rAbs (tCons (tCB rInt1 (tCons (tVar 3) tNil)) tNil)) [3]) (gName 2))
      (tSeq (tAsg (tOp (rAddA K) (tC (.int 7919)) (tOp (rI CMulW fun i j => .int (i * j)) (tC (.int 104729)) (tVar 1))) (gName 4))
      (tSeq (tFor (iAny K (tVar 2)) (gName 3) (tAsg (tOp (rI (fun _ j => 0 < j) fun i j => .int (i % j)) (tCB rInt1 (tCons (tOp (rAddA K) (tOp (rAddA K) (tOp (rI CMulW fun i j => .int (i * j)) (tVar 4) (tC (.int 48271))) (tOp (rI (fun _ j => 0 < j) fun i j => .int (i % j)) (tVar 3) (tC (.int 2147483549)))) (tC (.int 11))) tNil)) (tC (.int 2147483647))) (gName 4)))
      (tRet (tLst (tCons (tRevL K (tLc (iAny K (tVar 2)) (gName 3) (tTest (tOp (rI0 fun i j => .bl (decide (j ≤ i))) (tVar 3) (tOp (rI CPow fun i j => .int (i ^ j.toNat)) (tC (.int 10)) (tC (.int 18))))) (tVar 3) [3])) (tCons (tVar 4) tNil)))))))
theorem d__law_draw (T : Top K mg)  (cdv : Value) (A : Around) (outer : List Env) (s : Shared) (H : Hp) (E : XK) (hg : (cxOf CX0 P0 w K mg base ["script", "salt", "cells", "cell", "blend"] "_law_draw" (defScope s__law_draw) T.f__law_draw cdv A outer s H E).A.guards = some []) (hr : Room 0 (cxOf CX0 P0 w K mg base ["script", "salt", "cells", "cell", "blend"] "_law_draw" (defScope s__law_draw) T.f__law_draw cdv A outer s H E).A) :
    PSs (cxOf CX0 P0 w K mg base ["script", "salt", "cells", "cell", "blend"] "_law_draw" (defScope s__law_draw) T.f__law_draw cdv A outer s H E).nox (defBody s__law_draw) (t__law_draw T) :=
      (pss_cons (ps_setLc (i := 2) (own := [("cell", 3)]) (by rfl) sc__law_draw.nd rfl rfl (sw_true rfl rfl rfl (by decide +kernel)) (pi_any (pe_slice sq_any (pv 0) po_none (po_some pe_int))) (blkOk_by (own := [("cell", 3)]) (N := ["script", "salt", "cells", "cell", "blend"]) (sc := defScope s__law_draw) (by decide +kernel)) (fun _ _ _ _ _ => (pg_name (i := 3) sc__law_draw.nd rfl (.inl rfl))) (fun _ _ _ _ _ => pts_nil) (fun _ _ _ _ _ => (pe_callB cq_abs (by rfl) T.n_abs (by decide +kernel) (pa_cons (pe_callTy cq_int (by rfl) T.n_int (by decide +kernel) (pa_cons (pv 3) pa_nil)) pa_nil))))
      (pss_cons (ps_set (i := 4) sc__law_draw.nd rfl (.inl rfl) (pe_op oq_add pe_int (pe_op op_mulW pe_int (pv 1))))
      (pss_cons (ps_for PassesOwn.never rfl (pi_any (pv 2)) (pg_name (i := 3) sc__law_draw.nd rfl (.inl rfl)) (pss_one (ps_set (i := 4) sc__law_draw.nd rfl (.inl rfl) (pe_op op_mod (pe_callTy cq_int (by rfl) T.n_int (by decide +kernel) (pa_cons (pe_op oq_add (pe_op oq_add (pe_op op_mulW (pv 4) pe_int) (pe_op op_mod (pv 3) pe_int)) pe_int) pa_nil)) pe_int))))
      (pss_one (ps_ret (pe_lst (pa_cons (pe_revL (pe_lc (own := [("cell", 3)]) (by rfl) sc__law_draw.nd (pi_any (pv 2)) (blkOk_by (own := [("cell", 3)]) (N := ["script", "salt", "cells", "cell", "blend"]) (sc := defScope s__law_draw) (by decide +kernel)) (fun _ _ _ _ _ => (pg_name (i := 3) sc__law_draw.nd rfl (.inl rfl))) (fun _ _ _ _ _ => (pts_one (pt_cmpR op_ge (pv 3) (pe_op op_pow pe_int pe_int) (nomark _)))) (fun _ _ _ _ _ => (pv 3)))) (pa_cons (pv 4) pa_nil))))))))
def t__law_any (T : Top K mg) : TS :=
      (tSeq (tWhile (tAnd (tTest (tOp (rNeA K) (tOp (rIx K) (tVar 0) (tC (.int 0))) (tLst tNil))) (tTest (tOp (rEqA K) (tOp (rIx K) (tOp (rIx K) (tVar 0) (tC (.int 0))) (tUn (rU fun i => .int (-i)) (tC (.int 1)))) (tC (.int 0))))) (tDrop (tBM0 K "list" rPop (tOp (rIx K) (tVar 0) (tC (.int 0))))))
      (tSeq (tIfS (tTest (tOp (rNeA K) (tOp (rIx K) (tVar 0) (tC (.int 0))) (tLst tNil))) (tSeq (tAsg (tCB rInt1 (tCons (tBM0 K "list" rPop (tOp (rIx K) (tVar 0) (tC (.int 0)))) tNil)) (gName 2))
        (tSeq (tDrop (tBM K "list" rAppend (tOp (rIx K) (tVar 0) (tC (.int 0))) (tCons (tOp (rI CDivW fun i j => .int (i / j)) (tVar 2) (tVar 1)) tNil)))
        (tRet (tOp (rI (fun _ j => 0 < j) fun i j => .int (i % j)) (tVar 2) (tVar 1))))) tNext)
      (tSeq (tAsg (tOp (rI (fun _ j => 0 < j) fun i j => .int (i % j)) (tCB rInt1 (tCons (tOp (rAddA K) (tOp (rI CMulW fun i j => .int (i * j)) (tOp (rIx K) (tVar 0) (tC (.int 1))) (tC (.int 40693))) (tC (.int 71))) tNil)) (tC (.int 2147483647))) (gSub (tVar 0) (tC (.int 1)) rSetL))
      (tRet (tOp (rI (fun _ j => 0 < j) fun i j => .int (i % j)) (tCB rInt1 (tCons (tOp (rI CDivW fun i j => .int (i / j)) (tOp (rIx K) (tVar 0) (tC (.int 1))) (tC (.int 64))) tNil)) (tVar 1))))))
theorem d__law_any (T : Top K mg)  (cdv : Value) (A : Around) (outer : List Env) (s : Shared) (H : Hp) (E : XK) (hg : (cxOf CX0 P0 w K mg base ["deal", "bound", "rest"] "_law_any" (defScope s__law_any) T.f__law_any cdv A outer s H E).A.guards = some []) (hr : Room 0 (cxOf CX0 P0 w K mg base ["deal", "bound", "rest"] "_law_any" (defScope s__law_any) T.f__law_any cdv A outer s H E).A) :
    PSs (cxOf CX0 P0 w K mg base ["deal", "bound", "rest"] "_law_any" (defScope s__law_any) T.f__law_any cdv A outer s H E).nox (defBody s__law_any) (t__law_any T) :=
      (pss_cons (ps_while PassesOwn.never (PW.pt (pw_and (pt_cmpR (oq_ne hr) (pe_ix ix_seq (pv 0) pe_int (fun _ _ => rfl)) (pe_lst pa_nil) (nomark _)) (pw_and1 (pt_cmpR (oq_eq hr) (pe_ix ix_seq (pe_ix ix_seq (pv 0) pe_int (fun _ _ => rfl)) (pe_un un_neg pe_int) (fun _ _ => rfl)) pe_int (nomark _))))) (pss_one (ps_expr (pe_bm0 PySem.F.plainAttrs_list PySem.F.slot_list_pop PySem.F.type_list_pop mt_pop (pe_ix ix_seq (pv 0) pe_int (fun _ _ => rfl))))))
      (pss_cons (ps_if (pt_cmpR (oq_ne hr) (pe_ix ix_seq (pv 0) pe_int (fun _ _ => rfl)) (pe_lst pa_nil) (nomark _)) (pss_cons (ps_set (i := 2) sc__law_any.nd rfl (.inl rfl) (pe_callTy cq_int (by rfl) T.n_int (by decide +kernel) (pa_cons (pe_bm0 PySem.F.plainAttrs_list PySem.F.slot_list_pop PySem.F.type_list_pop mt_pop (pe_ix ix_seq (pv 0) pe_int (fun _ _ => rfl))) pa_nil)))
        (pss_cons (ps_expr (pe_bm PySem.F.plainAttrs_list PySem.F.slot_list_append PySem.F.type_list_append mt_append (pe_ix ix_seq (pv 0) pe_int (fun _ _ => rfl)) (pa_cons (pe_op op_fdivW (pv 2) (pv 1)) pa_nil)))
        (pss_one (ps_ret (pe_op op_mod (pv 2) (pv 1)))))) pss_nil)
      (pss_cons (ps_asg (pe_op op_mod (pe_callTy cq_int (by rfl) T.n_int (by decide +kernel) (pa_cons (pe_op oq_add (pe_op op_mulW (pe_ix ix_seq (pv 0) pe_int (fun _ _ => rfl)) pe_int) pe_int) pa_nil)) pe_int) (pg_sub (pv 0) pe_int set_list))
      (pss_one (ps_ret (pe_op op_mod (pe_callTy cq_int (by rfl) T.n_int (by decide +kernel) (pa_cons (pe_op op_fdivW (pe_ix ix_seq (pv 0) pe_int (fun _ _ => rfl)) pe_int) pa_nil)) (pv 1)))))))
def t__law_of (T : Top K mg) : TS :=
      (tRet (tOp (rIx K) (tVar 1) (tCallK (sp__law_any K) (fun vs _ => vs) E0 (tCons (tVar 0) (tCons (tCB (rLen K) (tCons (tVar 1) tNil)) tNil)) tNil)))
theorem d__law_of (T : Top K mg) (G__law_any : GOk P0 w K mg base CX0 1 T.f__law_any T.fd__law_any ["deal", "bound"] (sp__law_any K)) (cdv : Value) (A : Around) (outer : List Env) (s : Shared) (H : Hp) (E : XK) (hg : (cxOf CX0 P0 w K mg base ["deal", "some"] "_law_of" (defScope s__law_of) T.f__law_of cdv A outer s H E).A.guards = some []) (hr : Room 1 (cxOf CX0 P0 w K mg base ["deal", "some"] "_law_of" (defScope s__law_of) T.f__law_of cdv A outer s H E).A) :
    PSs (cxOf CX0 P0 w K mg base ["deal", "some"] "_law_of" (defScope s__law_of) T.f__law_of cdv A outer s H E).nox (defBody s__law_of) (t__law_of T) :=
      (pss_one (ps_ret (pe_ix ix_seq (pv 1) (pe_g G__law_any hg hr (by rfl) T.g__law_any T.F__law_any.kp (b__law_any T.F__law_any) pass0 (pa_cons (pv 0) (pa_cons (pe_callB cq_len (by rfl) T.n_len (by decide +kernel) (pa_cons (pv 1) pa_nil)) pa_nil))) (fun _ _ => rfl))))
def t__law_text (T : Top K mg) : TS :=
      (tSeq (tAsg (tLst (tCons (tC (.str "a")) (tCons (tC (.str "B_7")) (tCons (tC (.str "while")) (tCons (tC (.str "0")) (tCons (tC (.str "12")) (tCons (tC (.str "007")) (tCons (tC (.str "9x")) (tCons (tC (.str "_")) (tCons (tC (.str "->")) (tCons (tC (.str "-")) (tCons (tC (.str ">")) (tCons (tC (.str "=")) (tCons (tC (.str ";")) (tCons (tC (.str ":")) (tCons (tC (.str "{")) (tCons (tC (.str "}")) (tCons (tC (.str "[")) (tCons (tC (.str "]")) (tCons (tC (.str "(")) (tCons (tC (.str ")")) tNil))))))))))))))))))))) (gName 1))
      (tSeq (tAsg (tOp (rAddA K) (tVar 1) (tLst (tCons (tC (.str ",")) (tCons (tC (.str "?")) (tCons (tC (.str "*")) (tCons (tC (.str "$")) (tCons (tC (.str "~")) (tCons (tC (.str "!")) (tCons (tC (.str "\t")) (tCons (tC (.str "\\")) (tCons (tC (.str "'")) (tCons (tC (.str "@")) (tCons (tC (.str "^")) tNil))))))))))))) (gName 1))
      (tSeq (tAsg (tOp (rAddA K) (tVar 1) (tLst (tCons (tC (.str " ")) (tCons (tC (.str " ")) (tCons (tC (.str "  ")) (tCons (tC (.str "\n")) (tCons (tC (.str "\n ")) (tCons (tC (.str "# so -> it is")) (tCons (tC (.str "#")) (tCons (tC (.str "##\n")) (tCons (tC (.str " # a = 3;\n")) (tCons (tC (.str "->->")) (tCons (tC (.str "--")) (tCons (tC (.str ">-")) (tCons (tC (.str "zZ09")) tNil))))))))))))))) (gName 1))
      (tRet (tM1 (rJoin K) (tC (.str "")) (tLc (iRng1 (tCons (tCallK (sp__law_any K) (fun vs _ => vs) E0 (tCons (tVar 0) (tCons (tC (.int 24)) tNil)) tNil) tNil)) (gName 2) tYes (tCallK (sp__law_of K) (fun vs _ => vs) E0 (tCons (tVar 0) (tCons (tVar 1) tNil)) tNil) [2]))))))
theorem d__law_text (T : Top K mg) (G__law_of : GOk P0 w K mg base CX0 2 T.f__law_of T.fd__law_of ["deal", "some"] (sp__law_of K)) (G__law_any : GOk P0 w K mg base CX0 1 T.f__law_any T.fd__law_any ["deal", "bound"] (sp__law_any K)) (cdv : Value) (A : Around) (outer : List Env) (s : Shared) (H : Hp) (E : XK) (hg : (cxOf CX0 P0 w K mg base ["deal", "some", "turn"] "_law_text" (defScope s__law_text) T.f__law_text cdv A outer s H E).A.guards = some []) (hr : Room 2 (cxOf CX0 P0 w K mg base ["deal", "some", "turn"] "_law_text" (defScope s__law_text) T.f__law_text cdv A outer s H E).A) :
    PSs (cxOf CX0 P0 w K mg base ["deal", "some", "turn"] "_law_text" (defScope s__law_text) T.f__law_text cdv A outer s H E).nox (defBody s__law_text) (t__law_text T) :=
      (pss_cons (ps_set (i := 1) sc__law_text.nd rfl (.inr rfl) (pe_lst (pa_cons pe_str (pa_cons pe_str (pa_cons pe_str (pa_cons pe_str (pa_cons pe_str (pa_cons pe_str (pa_cons pe_str (pa_cons pe_str (pa_cons pe_str (pa_cons pe_str (pa_cons pe_str (pa_cons pe_str (pa_cons pe_str (pa_cons pe_str (pa_cons pe_str (pa_cons pe_str (pa_cons pe_str (pa_cons pe_str (pa_cons pe_str (pa_cons pe_str pa_nil))))))))))))))))))))))
      (pss_cons (ps_set (i := 1) sc__law_text.nd rfl (.inr rfl) (pe_op oq_add (pv 1) (pe_lst (pa_cons pe_str (pa_cons pe_str (pa_cons pe_str (pa_cons pe_str (pa_cons pe_str (pa_cons pe_str (pa_cons pe_str (pa_cons pe_str (pa_cons pe_str (pa_cons pe_str (pa_cons pe_str pa_nil))))))))))))))
      (pss_cons (ps_set (i := 1) sc__law_text.nd rfl (.inr rfl) (pe_op oq_add (pv 1) (pe_lst (pa_cons pe_str (pa_cons pe_str (pa_cons pe_str (pa_cons pe_str (pa_cons pe_str (pa_cons pe_str (pa_cons pe_str (pa_cons pe_str (pa_cons pe_str (pa_cons pe_str (pa_cons pe_str (pa_cons pe_str (pa_cons pe_str pa_nil))))))))))))))))
      (pss_one (ps_ret (pe_m1 PySem.F.slot_str_join PySem.F.type_str_join mq_join pe_str (pe_lc (own := [("turn", 2)]) (by rfl) sc__law_text.nd (pi_range1 (by rfl) T.n_range (pa_cons (pe_g G__law_any hg (hr.mono (by decide)) (by rfl) T.g__law_any T.F__law_any.kp (b__law_any T.F__law_any) pass0 (pa_cons (pv 0) (pa_cons pe_int pa_nil))) pa_nil)) (blkOk_by (own := [("turn", 2)]) (N := ["deal", "some", "turn"]) (sc := defScope s__law_text) (by decide +kernel)) (fun _ _ _ _ _ => (pg_name (i := 2) sc__law_text.nd rfl (.inl rfl))) (fun _ _ _ _ _ => pts_nil) (fun _ _ _ _ _ => (pe_g G__law_of hg hr (by rfl) T.g__law_of T.F__law_of.kp (b__law_of T.F__law_of) pass0 (pa_cons (pv 0) (pa_cons (pv 1) pa_nil)))))))))))
def t__law_is_letter (T : Top K mg) : TS :=
      (tRet (tOrV (tOp (rEqA K) (tVar 0) (tC (.str "_"))) (tOrV (tChain rLeA rLeA (tC (.str "a")) (tVar 0) (tC (.str "z"))) (tOrV (tChain rLeA rLeA (tC (.str "A")) (tVar 0) (tC (.str "Z"))) (tChain rLeA rLeA (tC (.str "0")) (tVar 0) (tC (.str "9")))))))
theorem d__law_is_letter (T : Top K mg)  (cdv : Value) (A : Around) (outer : List Env) (s : Shared) (H : Hp) (E : XK) (hg : (cxOf CX0 P0 w K mg base ["sign"] "_law_is_letter" (defScope s__law_is_letter) T.f__law_is_letter cdv A outer s H E).A.guards = some []) (hr : Room 0 (cxOf CX0 P0 w K mg base ["sign"] "_law_is_letter" (defScope s__law_is_letter) T.f__law_is_letter cdv A outer s H E).A) :
    PSs (cxOf CX0 P0 w K mg base ["sign"] "_law_is_letter" (defScope s__law_is_letter) T.f__law_is_letter cdv A outer s H E).nox (defBody s__law_is_letter) (t__law_is_letter T) :=
      (pss_one (ps_ret (pe_or (pe_cmpR (oq_eq hr) (pv 0) pe_str (nomark _)) (pe_or (pe_chain oq_le oq_le pe_str (pv 0) pe_str) (pe_or (pe_chain oq_le oq_le pe_str (pv 0) pe_str) (pe_one (pe_chain oq_le oq_le pe_str (pv 0) pe_str)))))))
def t__law_walk (T : Top K mg) : TS :=
      (tSeq (tPar 1 2 (tCons (tLst tNil) (tCons (tC (.str "gap")) tNil)))
      (tSeq (tFor (iEnumS (tCons (tVar 0) tNil)) (gTup K 2 (gCons (gName 3) (gCons (gName 4) gNil))) (tIfS (tTest (tOp (rEqA K) (tVar 2) (tC (.str "remark")))) (tAsg (tIf (tTest (tOp (rEqA K) (tVar 4) (tC (.str "\n")))) (tC (.str "gap")) (tC (.str "remark"))) (gName 2)) (tIfS (tTest (tOp (rEqA K) (tVar 4) (tC (.str "#")))) (tAsg (tC (.str "remark")) (gName 2)) (tIfS (tTest (tOp (rInA K) (tVar 4) (tLst (tCons (tC (.str " ")) (tCons (tC (.str "\n")) tNil))))) (tAsg (tC (.str "gap")) (gName 2)) (tIfS (tOr (tAnd (tB (tCallK (sp__law_is_letter K) (fun vs _ => vs) E0 (tCons (tVar 4) tNil) tNil)) (tTest (tOp (rEqA K) (tVar 2) (tC (.str "word"))))) (tAnd (tTest (tOp (rEqA K) (tVar 4) (tC (.str ">")))) (tTest (tOp (rEqA K) (tVar 2) (tC (.str "dash")))))) (tSeq (tAsg (tTup (tCons (tOp (rIx K) (tOp (rIx K) (tVar 1) (tUn (rU fun i => .int (-i)) (tC (.int 1)))) (tC (.int 0))) (tCons (tOp (rAddA K) (tOp (rIx K) (tOp (rIx K) (tVar 1) (tUn (rU fun i => .int (-i)) (tC (.int 1)))) (tC (.int 1))) (tVar 4)) tNil))) (gSub (tVar 1) (tUn (rU fun i => .int (-i)) (tC (.int 1))) rSetL))
                (tAsg (tIf (tTest (tOp (rEqA K) (tVar 2) (tC (.str "word")))) (tC (.str "word")) (tC (.str "sign"))) (gName 2))) (tSeq (tDrop (tBM K "list" rAppend (tVar 1) (tCons (tTup (tCons (tVar 3) (tCons (tVar 4) tNil))) tNil)))
                (tAsg (tIf (tB (tCallK (sp__law_is_letter K) (fun vs _ => vs) E0 (tCons (tVar 4) tNil) tNil)) (tC (.str "word")) (tIf (tTest (tOp (rEqA K) (tVar 4) (tC (.str "-")))) (tC (.str "dash")) (tC (.str "sign")))) (gName 2))))))))
      (tRet (tVar 1))))
theorem d__law_walk (T : Top K mg) (G__law_is_letter : GOk P0 w K mg base CX0 1 T.f__law_is_letter T.fd__law_is_letter ["sign"] (sp__law_is_letter K)) (cdv : Value) (A : Around) (outer : List Env) (s : Shared) (H : Hp) (E : XK) (hg : (cxOf CX0 P0 w K mg base ["text", "found", "state", "at", "sign"] "_law_walk" (defScope s__law_walk) T.f__law_walk cdv A outer s H E).A.guards = some []) (hr : Room 1 (cxOf CX0 P0 w K mg base ["text", "found", "state", "at", "sign"] "_law_walk" (defScope s__law_walk) T.f__law_walk cdv A outer s H E).A) :
    PSs (cxOf CX0 P0 w K mg base ["text", "found", "state", "at", "sign"] "_law_walk" (defScope s__law_walk) T.f__law_walk cdv A outer s H E).nox (defBody s__law_walk) (t__law_walk T) :=
      (pss_cons (ps_par (i := 1) (j := 2) (by rfl) sc__law_walk.nd rfl rfl (by decide) rfl rfl (pa_cons (pe_lst pa_nil) (pa_cons pe_str pa_nil)) (by rfl))
      (pss_cons (ps_for PassesOwn.never rfl (pi_enumS (by rfl) T.n_enumerate (pa_cons (pv 0) pa_nil)) (pg_tup (by rfl) (pgs_cons (pg_name (i := 3) sc__law_walk.nd rfl (.inl rfl)) (pgs_cons (pg_name (i := 4) sc__law_walk.nd rfl (.inl rfl)) pgs_nil))) (pss_one (ps_if (pt_cmpR (oq_eq hr) (pv 2) pe_str (nomark _)) (pss_one (ps_set (i := 2) sc__law_walk.nd rfl (.inl rfl) (pe_ifExp (pt_cmpR (oq_eq hr) (pv 4) pe_str (nomark _)) pe_str pe_str))) (pss_one (ps_if (pt_cmpR (oq_eq hr) (pv 4) pe_str (nomark _)) (pss_one (ps_set (i := 2) sc__law_walk.nd rfl (.inl rfl) pe_str)) (pss_one (ps_if (pt_cmpR (oq_in hr) (pv 4) (pe_lst (pa_cons pe_str (pa_cons pe_str pa_nil))) (by rfl)) (pss_one (ps_set (i := 2) sc__law_walk.nd rfl (.inl rfl) pe_str)) (pss_one (ps_if (PW.pt (pw_or (PW.pt (pw_and (pt_val (pe_g G__law_is_letter hg hr (by rfl) T.g__law_is_letter T.F__law_is_letter.kp (b__law_is_letter T.F__law_is_letter) pass0 (pa_cons (pv 4) pa_nil))) (pw_and1 (pt_cmpR (oq_eq hr) (pv 2) pe_str (nomark _))))) (pw_or1 (PW.pt (pw_and (pt_cmpR (oq_eq hr) (pv 4) pe_str (nomark _)) (pw_and1 (pt_cmpR (oq_eq hr) (pv 2) pe_str (nomark _)))))))) (pss_cons (ps_asg (pe_tup (pa_cons (pe_ix ix_seq (pe_ix ix_seq (pv 1) (pe_un un_neg pe_int) (fun _ _ => rfl)) pe_int (fun _ _ => rfl)) (pa_cons (pe_op oq_add (pe_ix ix_seq (pe_ix ix_seq (pv 1) (pe_un un_neg pe_int) (fun _ _ => rfl)) pe_int (fun _ _ => rfl)) (pv 4)) pa_nil))) (pg_sub (pv 1) (pe_un un_neg pe_int) set_list))
                (pss_one (ps_set (i := 2) sc__law_walk.nd rfl (.inl rfl) (pe_ifExp (pt_cmpR (oq_eq hr) (pv 2) pe_str (nomark _)) pe_str pe_str)))) (pss_cons (ps_expr (pe_bm PySem.F.plainAttrs_list PySem.F.slot_list_append PySem.F.type_list_append mt_append (pv 1) (pa_cons (pe_tup (pa_cons (pv 3) (pa_cons (pv 4) pa_nil))) pa_nil)))
                (pss_one (ps_set (i := 2) sc__law_walk.nd rfl (.inl rfl) (pe_ifExp (pt_val (pe_g G__law_is_letter hg hr (by rfl) T.g__law_is_letter T.F__law_is_letter.kp (b__law_is_letter T.F__law_is_letter) pass0 (pa_cons (pv 4) pa_nil))) pe_str (pe_ifExp (pt_cmpR (oq_eq hr) (pv 4) pe_str (nomark _)) pe_str pe_str))))))))))))))
      (pss_one (ps_ret (pv 1)))))
def t_law (T : Top K mg) : TS :=
      (tSeq (tAsg (tCallK (sp__law_draw K) (fun vs _ => vs) E0 (tCons (tVar 0) (tCons (tC (.int 5)) tNil)) tNil) (gName 1))
      (tSeq (tAsg (tCallK (sp__law_text K) (fun vs _ => vs) E0 (tCons (tVar 1) tNil) tNil) (gName 2))
      (tSeq (tAsg (tCallK (sp__law_walk K) (fun vs _ => vs) E0 (tCons (tVar 2) tNil) tNil) (gName 3))
      (tSeq (tAsg (tTup (tCons (tCB (rTup K) (tCons (tLc (iAny K (tVar 3)) (gTup K 2 (gCons (gName 6) (gCons (gName 7) gNil))) tYes (tVar 7) [6, 7]) tNil)) (tCons (tCB (rTup K) (tCons (tLc (iAny K (tVar 3)) (gTup K 2 (gCons (gName 6) (gCons (gName 7) gNil))) tYes (tVar 6) [6, 7]) tNil)) tNil))) (gTup K 2 (gCons (gName 4) (gCons (gName 5) gNil))))
      (tSeq (tFor (iRng1 (tCons (tC (.int 2)) tNil)) (gName 8) (tIfS (tOr (tTest (tOp (rNeA K) (tCB (rRepr K) (tCons (tCallK (sp_tokens_of K) (fun vs zs => kf_tokens_of_0_text vs zs) E0 tNil (tCons (tVar 2) tNil)) tNil)) (tCB (rRepr K) (tCons (tVar 4) tNil)))) (tTest (tOp (rNeA K) (tCB (rRepr K) (tCons (tCallK (sp_token_places K) (fun vs zs => kf_token_places_0_text vs zs) E0 tNil (tCons (tVar 2) tNil)) tNil)) (tCB (rRepr K) (tCons (tVar 5) tNil))))) (tRet (tC (.bl false))) tNext))
      (tSeq (tIfS (tOr (tTest (tOp (rNeA K) (tCallK (sp_tokens_of K) (fun vs _ => vs) E0 (tCons (tM1 (rJoin K) (tC (.str " ")) (tVar 4)) tNil) tNil) (tVar 4))) (tTest (tOp (rNeA K) (tCallK (sp_tokens_of K) (fun vs _ => vs) E0 (tCons (tM1 (rJoin K) (tC (.str "\n")) (tVar 4)) tNil) tNil) (tVar 4)))) (tRet (tC (.bl false))) tNext)
      (tSeq (tIfS (tTest (tOp (rNeA K) (tCallK (sp_token_places K) (fun vs _ => vs) E0 (tCons (tM1 (rJoin K) (tC (.str " ")) (tVar 4)) tNil) tNil) (tCB (rTup K) (tCons (tLc (iRng1 (tCons (tCB (rLen K) (tCons (tVar 4) tNil)) tNil)) (gName 6) tYes (tCB (rSum K) (tCons (tLc (iAny K (tSl (rSlany K) (tVar 4) tNoPart (tPart (tVar 6)))) (gName 7) tYes (tOp (rAddA K) (tCB (rLen K) (tCons (tVar 7) tNil)) (tC (.int 1))) [7]) tNil)) [6]) tNil)))) (tRet (tC (.bl false))) tNext)
      (tSeq (tIfS (tTest (tOp (rNeA K) (tVar 3) (tLst tNil))) (tSeq (tAsg (tCallK (sp__law_any K) (fun vs _ => vs) E0 (tCons (tVar 1) (tCons (tCB (rLen K) (tCons (tVar 3) tNil)) tNil)) tNil) (gName 6))
        (tSeq (tAsg (tOp (rAddA K) (tOp (rIx K) (tOp (rIx K) (tVar 3) (tVar 6)) (tC (.int 0))) (tCB (rLen K) (tCons (tOp (rIx K) (tOp (rIx K) (tVar 3) (tVar 6)) (tC (.int 1))) tNil))) (gName 9))
        (tSeq (tAsg (tOp (rAddA K) (tOp (rAddA K) (tSl (rSlany K) (tVar 2) tNoPart (tPart (tVar 9))) (tC (.str "# -> 3 ; x\n"))) (tSl (rSlany K) (tVar 2) (tPart (tVar 9)) tNoPart)) (gName 10))
        (tIfS (tOr (tTest (tOp (rNeA K) (tCallK (sp_tokens_of K) (fun vs _ => vs) E0 (tCons (tVar 10) tNil) tNil) (tVar 4))) (tTest (tOp (rNeA K) (tSl (rSlany K) (tCallK (sp_token_places K) (fun vs _ => vs) E0 (tCons (tVar 10) tNil) tNil) (tPart (tOp (rAddA K) (tVar 6) (tC (.int 1)))) tNoPart) (tCB (rTup K) (tCons (tLc (iAny K (tSl (rSlany K) (tVar 5) (tPart (tOp (rAddA K) (tVar 6) (tC (.int 1)))) tNoPart)) (gName 11) tYes (tOp (rAddA K) (tVar 11) (tC (.int 11))) [11]) tNil))))) (tRet (tC (.bl false))) tNext)))) tNext)
      (tRet (tAndV (tOp (rEqA K) (tCallK (sp_tokens_of K) (fun vs _ => vs) E0 (tCons (tC (.str "")) tNil) tNil) (tTup tNil)) (tOp (rEqA K) (tCallK (sp_token_places K) (fun vs _ => vs) E0 (tCons (tC (.str "# a")) tNil) tNil) (tTup tNil))))))))))))
theorem d_law (T : Top K mg) (G__law_draw : GOk P0 w K mg base CX0 1 T.f__law_draw T.fd__law_draw ["script", "salt"] (sp__law_draw K)) (G__law_text : GOk P0 w K mg base CX0 3 T.f__law_text T.fd__law_text ["deal"] (sp__law_text K)) (G__law_walk : GOk P0 w K mg base CX0 2 T.f__law_walk T.fd__law_walk ["text"] (sp__law_walk K)) (G_token_places : GOk P0 w K mg base CX0 2 T.f_token_places T.fd_token_places ["text"] (sp_token_places K)) (G__law_any : GOk P0 w K mg base CX0 1 T.f__law_any T.fd__law_any ["deal", "bound"] (sp__law_any K)) (G_tokens_of : GOk P0 w K mg base CX0 3 T.f_tokens_of T.fd_tokens_of ["text"] (sp_tokens_of K)) (cdv : Value) (A : Around) (outer : List Env) (s : Shared) (H : Hp) (E : XK) (hg : (cxOf CX0 P0 w K mg base ["script", "deal", "text", "due", "tokens", "places", "at", "token", "turn", "end", "more", "place"] "law" (defScope s_law) T.f_law cdv A outer s H E).A.guards = some []) (hr : Room 3 (cxOf CX0 P0 w K mg base ["script", "deal", "text", "due", "tokens", "places", "at", "token", "turn", "end", "more", "place"] "law" (defScope s_law) T.f_law cdv A outer s H E).A) :
    PSs (cxOf CX0 P0 w K mg base ["script", "deal", "text", "due", "tokens", "places", "at", "token", "turn", "end", "more", "place"] "law" (defScope s_law) T.f_law cdv A outer s H E).nox (defBody s_law) (t_law T) :=
      (pss_cons (ps_set (i := 1) sc_law.nd rfl (.inl rfl) (pe_g G__law_draw hg (hr.mono (by decide)) (by rfl) T.g__law_draw T.F__law_draw.kp (b__law_draw T.F__law_draw) pass0 (pa_cons (pv 0) (pa_cons pe_int pa_nil))))
      (pss_cons (ps_set (i := 2) sc_law.nd rfl (.inl rfl) (pe_g G__law_text hg hr (by rfl) T.g__law_text T.F__law_text.kp (b__law_text T.F__law_text) pass0 (pa_cons (pv 1) pa_nil)))
      (pss_cons (ps_set (i := 3) sc_law.nd rfl (.inl rfl) (pe_g G__law_walk hg (hr.mono (by decide)) (by rfl) T.g__law_walk T.F__law_walk.kp (b__law_walk T.F__law_walk) pass0 (pa_cons (pv 2) pa_nil)))
      (pss_cons (ps_asg (pe_tup (pa_cons (pe_callTy cq_tup (by rfl) T.n_tuple (by decide +kernel) (pa_cons (pe_lc (own := [("at", 6), ("token", 7)]) (by rfl) sc_law.nd (pi_any (pv 3)) (blkOk_by (own := [("at", 6), ("token", 7)]) (N := ["script", "deal", "text", "due", "tokens", "places", "at", "token", "turn", "end", "more", "place"]) (sc := defScope s_law) (by decide +kernel)) (fun _ _ _ _ _ => (pg_tup (by rfl) (pgs_cons (pg_name (i := 6) sc_law.nd rfl (.inl rfl)) (pgs_cons (pg_name (i := 7) sc_law.nd rfl (.inl rfl)) pgs_nil)))) (fun _ _ _ _ _ => pts_nil) (fun _ _ _ _ _ => (pv 7))) pa_nil)) (pa_cons (pe_callTy cq_tup (by rfl) T.n_tuple (by decide +kernel) (pa_cons (pe_lc (own := [("at", 6), ("token", 7)]) (by rfl) sc_law.nd (pi_any (pv 3)) (blkOk_by (own := [("at", 6), ("token", 7)]) (N := ["script", "deal", "text", "due", "tokens", "places", "at", "token", "turn", "end", "more", "place"]) (sc := defScope s_law) (by decide +kernel)) (fun _ _ _ _ _ => (pg_tup (by rfl) (pgs_cons (pg_name (i := 6) sc_law.nd rfl (.inl rfl)) (pgs_cons (pg_name (i := 7) sc_law.nd rfl (.inl rfl)) pgs_nil)))) (fun _ _ _ _ _ => pts_nil) (fun _ _ _ _ _ => (pv 6))) pa_nil)) pa_nil))) (pg_tup (by rfl) (pgs_cons (pg_name (i := 4) sc_law.nd rfl (.inr rfl)) (pgs_cons (pg_name (i := 5) sc_law.nd rfl (.inl rfl)) pgs_nil))))
      (pss_cons (ps_for PassesOwn.never rfl (pi_range1 (by rfl) T.n_range (pa_cons pe_int pa_nil)) (pg_name (i := 8) sc_law.nd rfl (.inl rfl)) (pss_one (ps_if (PW.pt (pw_or (pt_cmpR (oq_ne hr) (pe_callB (cq_repr hg hr) (by rfl) T.n_repr (by decide +kernel) (pa_cons (pe_gk0 G_tokens_of hg hr (by rfl) T.g_tokens_of T.F_tokens_of.kp (kb_tokens_of_0_text T.F_tokens_of) pass0 (pk_cons (pv 2) pk_nil)) pa_nil)) (pe_callB (cq_repr hg hr) (by rfl) T.n_repr (by decide +kernel) (pa_cons (pv 4) pa_nil)) (nomark _)) (pw_or1 (pt_cmpR (oq_ne hr) (pe_callB (cq_repr hg hr) (by rfl) T.n_repr (by decide +kernel) (pa_cons (pe_gk0 G_token_places hg (hr.mono (by decide)) (by rfl) T.g_token_places T.F_token_places.kp (kb_token_places_0_text T.F_token_places) pass0 (pk_cons (pv 2) pk_nil)) pa_nil)) (pe_callB (cq_repr hg hr) (by rfl) T.n_repr (by decide +kernel) (pa_cons (pv 5) pa_nil)) (nomark _))))) (pss_one (ps_ret pe_bl)) pss_nil)))
      (pss_cons (ps_if (PW.pt (pw_or (pt_cmpR (oq_ne hr) (pe_g G_tokens_of hg hr (by rfl) T.g_tokens_of T.F_tokens_of.kp (b_tokens_of T.F_tokens_of) pass0 (pa_cons (pe_m1 PySem.F.slot_str_join PySem.F.type_str_join mq_join pe_str (pv 4)) pa_nil)) (pv 4) (nomark _)) (pw_or1 (pt_cmpR (oq_ne hr) (pe_g G_tokens_of hg hr (by rfl) T.g_tokens_of T.F_tokens_of.kp (b_tokens_of T.F_tokens_of) pass0 (pa_cons (pe_m1 PySem.F.slot_str_join PySem.F.type_str_join mq_join pe_str (pv 4)) pa_nil)) (pv 4) (nomark _))))) (pss_one (ps_ret pe_bl)) pss_nil)
      (pss_cons (ps_if (pt_cmpR (oq_ne hr) (pe_g G_token_places hg (hr.mono (by decide)) (by rfl) T.g_token_places T.F_token_places.kp (b_token_places T.F_token_places) pass0 (pa_cons (pe_m1 PySem.F.slot_str_join PySem.F.type_str_join mq_join pe_str (pv 4)) pa_nil)) (pe_callTy cq_tup (by rfl) T.n_tuple (by decide +kernel) (pa_cons (pe_lc (own := [("at", 6)]) (by rfl) sc_law.nd (pi_range1 (by rfl) T.n_range (pa_cons (pe_callB cq_len (by rfl) T.n_len (by decide +kernel) (pa_cons (pv 4) pa_nil)) pa_nil)) (blkOk_by (own := [("at", 6)]) (N := ["script", "deal", "text", "due", "tokens", "places", "at", "token", "turn", "end", "more", "place"]) (sc := defScope s_law) (by decide +kernel)) (fun _ _ _ _ _ => (pg_name (i := 6) sc_law.nd rfl (.inl rfl))) (fun _ _ _ _ _ => pts_nil) (fun _ _ _ _ _ => (pe_callB (cr_sum rfl) (by rfl) T.n_sum (by decide +kernel) (pa_cons (pe_lc (own := [("token", 7)]) (by rfl) sc_law.nd (pi_any (pe_slice sq_any (pv 4) po_none (po_some (pv 6)))) (blkOk_by (own := [("token", 7)]) (by kernel_rfl)) (fun _ _ _ _ _ => (pg_name (i := 7) sc_law.nd rfl (.inl rfl))) (fun _ _ _ _ _ => pts_nil) (fun _ _ _ _ _ => (pe_op oq_add (pe_callB cq_len (by rfl) T.n_len (by decide +kernel) (pa_cons (pv 7) pa_nil)) pe_int))) pa_nil)))) pa_nil)) (nomark _)) (pss_one (ps_ret pe_bl)) pss_nil)
      (pss_cons (ps_if (pt_cmpR (oq_ne hr) (pv 3) (pe_lst pa_nil) (nomark _)) (pss_cons (ps_set (i := 6) sc_law.nd rfl (.inl rfl) (pe_g G__law_any hg (hr.mono (by decide)) (by rfl) T.g__law_any T.F__law_any.kp (b__law_any T.F__law_any) pass0 (pa_cons (pv 1) (pa_cons (pe_callB cq_len (by rfl) T.n_len (by decide +kernel) (pa_cons (pv 3) pa_nil)) pa_nil))))
        (pss_cons (ps_set (i := 9) sc_law.nd rfl (.inl rfl) (pe_op oq_add (pe_ix ix_seq (pe_ix ix_seq (pv 3) (pv 6) (fun _ _ => rfl)) pe_int (fun _ _ => rfl)) (pe_callB cq_len (by rfl) T.n_len (by decide +kernel) (pa_cons (pe_ix ix_seq (pe_ix ix_seq (pv 3) (pv 6) (fun _ _ => rfl)) pe_int (fun _ _ => rfl)) pa_nil))))
        (pss_cons (ps_set (i := 10) sc_law.nd rfl (.inl rfl) (pe_op oq_add (pe_op oq_add (pe_slice sq_any (pv 2) po_none (po_some (pv 9))) pe_str) (pe_slice sq_any (pv 2) (po_some (pv 9)) po_none)))
        (pss_one (ps_if (PW.pt (pw_or (pt_cmpR (oq_ne hr) (pe_g G_tokens_of hg hr (by rfl) T.g_tokens_of T.F_tokens_of.kp (b_tokens_of T.F_tokens_of) pass0 (pa_cons (pv 10) pa_nil)) (pv 4) (nomark _)) (pw_or1 (pt_cmpR (oq_ne hr) (pe_slice sq_any (pe_g G_token_places hg (hr.mono (by decide)) (by rfl) T.g_token_places T.F_token_places.kp (b_token_places T.F_token_places) pass0 (pa_cons (pv 10) pa_nil)) (po_some (pe_op oq_add (pv 6) pe_int)) po_none) (pe_callTy cq_tup (by rfl) T.n_tuple (by decide +kernel) (pa_cons (pe_lc (own := [("place", 11)]) (by rfl) sc_law.nd (pi_any (pe_slice sq_any (pv 5) (po_some (pe_op oq_add (pv 6) pe_int)) po_none)) (blkOk_by (own := [("place", 11)]) (N := ["script", "deal", "text", "due", "tokens", "places", "at", "token", "turn", "end", "more", "place"]) (sc := defScope s_law) (by decide +kernel)) (fun _ _ _ _ _ => (pg_name (i := 11) sc_law.nd rfl (.inl rfl))) (fun _ _ _ _ _ => pts_nil) (fun _ _ _ _ _ => (pe_op oq_add (pv 11) pe_int))) pa_nil)) (nomark _))))) (pss_one (ps_ret pe_bl)) pss_nil))))) pss_nil)
      (pss_one (ps_ret (pe_and (pe_cmpR (oq_eq hr) (pe_g G_tokens_of hg hr (by rfl) T.g_tokens_of T.F_tokens_of.kp (b_tokens_of T.F_tokens_of) pass0 (pa_cons pe_str pa_nil)) (pe_tup pa_nil) (nomark _)) (pe_one (pe_cmpR (oq_eq hr) (pe_g G_token_places hg (hr.mono (by decide)) (by rfl) T.g_token_places T.F_token_places.kp (b_token_places T.F_token_places) pass0 (pa_cons pe_str pa_nil)) (pe_tup pa_nil) (nomark _))))))))))))))
end
/-! ### the top -/
theorem top_mk {K : PySem.W.Frag} {h : Heap} {mg : Str → Option Value} {fa : Addr} (X : K.In h) (G : h.Ns mainGlobals mg) (hfa : mg "law" = some (.ref fa))
    {f0 : Addr} {od0 an0 : Option Addr} {sl0 : Array (Option Value)} {oc0 kV0 dc0 pm0 cd0 ct0 : Value}
    {f1 : Addr} {od1 an1 : Option Addr} {sl1 : Array (Option Value)} {oc1 kV1 dc1 pm1 cd1 ct1 : Value}
    {f2 : Addr} {od2 an2 : Option Addr} {sl2 : Array (Option Value)} {oc2 kV2 dc2 pm2 cd2 ct2 : Value}
    {f3 : Addr} {od3 an3 : Option Addr} {sl3 : Array (Option Value)} {oc3 kV3 dc3 pm3 cd3 ct3 : Value}
    {f4 : Addr} {od4 an4 : Option Addr} {sl4 : Array (Option Value)} {oc4 kV4 dc4 pm4 cd4 ct4 : Value}
    {f5 : Addr} {od5 an5 : Option Addr} {sl5 : Array (Option Value)} {oc5 kV5 dc5 pm5 cd5 ct5 : Value}
    {f6 : Addr} {od6 an6 : Option Addr} {sl6 : Array (Option Value)} {oc6 kV6 dc6 pm6 cd6 ct6 : Value}
    {f7 : Addr} {od7 an7 : Option Addr} {sl7 : Array (Option Value)} {oc7 kV7 dc7 pm7 cd7 ct7 : Value}
    {f8 : Addr} {od8 an8 : Option Addr} {sl8 : Array (Option Value)} {oc8 kV8 dc8 pm8 cd8 ct8 : Value}
    {f9 : Addr} {od9 an9 : Option Addr} {sl9 : Array (Option Value)} {oc9 kV9 dc9 pm9 cd9 ct9 : Value}
    {f10 : Addr} {od10 an10 : Option Addr} {sl10 : Array (Option Value)} {oc10 kV10 dc10 pm10 cd10 ct10 : Value}
    {tk0 : Tok}
    (a0 : PySem.W.nsIn K mainGlobals "skipped" = some (some (.ref f0))) (l0 : K.lookup f0 = some ⟨oc0, od0, .func (PySem.W.fnOf "skipped" "skipped" (defArgs s_skipped) (defBody s_skipped) (defScope s_skipped) .none kV0 dc0 pm0 an0 cd0 ct0), sl0⟩) (c0 : PySem.W.codeIn K cd0 "skipped" = true) (k0 : PySem.W.keepIn K (.ref f0) = true)
    (a1 : PySem.W.nsIn K mainGlobals "token_end" = some (some (.ref f1))) (l1 : K.lookup f1 = some ⟨oc1, od1, .func (PySem.W.fnOf "token_end" "token_end" (defArgs s_token_end) (defBody s_token_end) (defScope s_token_end) .none kV1 dc1 pm1 an1 cd1 ct1), sl1⟩) (c1 : PySem.W.codeIn K cd1 "token_end" = true) (k1 : PySem.W.keepIn K (.ref f1) = true)
    (a2 : PySem.W.nsIn K mainGlobals "token_places" = some (some (.ref f2))) (l2 : K.lookup f2 = some ⟨oc2, od2, .func (PySem.W.fnOf "token_places" "token_places" (defArgs s_token_places) (defBody s_token_places) (defScope s_token_places) .none kV2 dc2 pm2 an2 cd2 ct2), sl2⟩) (c2 : PySem.W.codeIn K cd2 "token_places" = true) (k2 : PySem.W.keepIn K (.ref f2) = true)
    (a3 : PySem.W.nsIn K mainGlobals "tokens_of" = some (some (.ref f3))) (l3 : K.lookup f3 = some ⟨oc3, od3, .func (PySem.W.fnOf "tokens_of" "tokens_of" (defArgs s_tokens_of) (defBody s_tokens_of) (defScope s_tokens_of) .none kV3 dc3 pm3 an3 cd3 ct3), sl3⟩) (c3 : PySem.W.codeIn K cd3 "tokens_of" = true) (k3 : PySem.W.keepIn K (.ref f3) = true)
    (a4 : PySem.W.nsIn K mainGlobals "_law_draw" = some (some (.ref f4))) (l4 : K.lookup f4 = some ⟨oc4, od4, .func (PySem.W.fnOf "_law_draw" "_law_draw" (defArgs s__law_draw) (defBody s__law_draw) (defScope s__law_draw) .none kV4 dc4 pm4 an4 cd4 ct4), sl4⟩) (c4 : PySem.W.codeIn K cd4 "_law_draw" = true) (k4 : PySem.W.keepIn K (.ref f4) = true)
    (a5 : PySem.W.nsIn K mainGlobals "_law_any" = some (some (.ref f5))) (l5 : K.lookup f5 = some ⟨oc5, od5, .func (PySem.W.fnOf "_law_any" "_law_any" (defArgs s__law_any) (defBody s__law_any) (defScope s__law_any) .none kV5 dc5 pm5 an5 cd5 ct5), sl5⟩) (c5 : PySem.W.codeIn K cd5 "_law_any" = true) (k5 : PySem.W.keepIn K (.ref f5) = true)
    (a6 : PySem.W.nsIn K mainGlobals "_law_of" = some (some (.ref f6))) (l6 : K.lookup f6 = some ⟨oc6, od6, .func (PySem.W.fnOf "_law_of" "_law_of" (defArgs s__law_of) (defBody s__law_of) (defScope s__law_of) .none kV6 dc6 pm6 an6 cd6 ct6), sl6⟩) (c6 : PySem.W.codeIn K cd6 "_law_of" = true) (k6 : PySem.W.keepIn K (.ref f6) = true)
    (a7 : PySem.W.nsIn K mainGlobals "_law_text" = some (some (.ref f7))) (l7 : K.lookup f7 = some ⟨oc7, od7, .func (PySem.W.fnOf "_law_text" "_law_text" (defArgs s__law_text) (defBody s__law_text) (defScope s__law_text) .none kV7 dc7 pm7 an7 cd7 ct7), sl7⟩) (c7 : PySem.W.codeIn K cd7 "_law_text" = true) (k7 : PySem.W.keepIn K (.ref f7) = true)
    (a8 : PySem.W.nsIn K mainGlobals "_law_is_letter" = some (some (.ref f8))) (l8 : K.lookup f8 = some ⟨oc8, od8, .func (PySem.W.fnOf "_law_is_letter" "_law_is_letter" (defArgs s__law_is_letter) (defBody s__law_is_letter) (defScope s__law_is_letter) .none kV8 dc8 pm8 an8 cd8 ct8), sl8⟩) (c8 : PySem.W.codeIn K cd8 "_law_is_letter" = true) (k8 : PySem.W.keepIn K (.ref f8) = true)
    (a9 : PySem.W.nsIn K mainGlobals "_law_walk" = some (some (.ref f9))) (l9 : K.lookup f9 = some ⟨oc9, od9, .func (PySem.W.fnOf "_law_walk" "_law_walk" (defArgs s__law_walk) (defBody s__law_walk) (defScope s__law_walk) .none kV9 dc9 pm9 an9 cd9 ct9), sl9⟩) (c9 : PySem.W.codeIn K cd9 "_law_walk" = true) (k9 : PySem.W.keepIn K (.ref f9) = true)
    (a10 : PySem.W.nsIn K mainGlobals "law" = some (some (.ref f10))) (l10 : K.lookup f10 = some ⟨oc10, od10, .func (PySem.W.fnOf "law" "law" (defArgs s_law) (defBody s_law) (defScope s_law) .none kV10 dc10 pm10 an10 cd10 ct10), sl10⟩) (c10 : PySem.W.codeIn K cd10 "law" = true) (k10 : PySem.W.keepIn K (.ref f10) = true)
    (q0 : PySem.W.nsIn K mainGlobals "WORD_SIGNS" = some (some (.str "abcdefghijklmnopqrstuvwxyzABCDEFGHIJKLMNOPQRSTUVWXYZ0123456789_" tk0)))
    (z_len : PySem.W.nsIn K mainGlobals "len" = some none)
    (z_max : PySem.W.nsIn K mainGlobals "max" = some none)
    (z_tuple : PySem.W.nsIn K mainGlobals "tuple" = some none)
    (z_int : PySem.W.nsIn K mainGlobals "int" = some none)
    (z_abs : PySem.W.nsIn K mainGlobals "abs" = some none)
    (z_range : PySem.W.nsIn K mainGlobals "range" = some none)
    (z_enumerate : PySem.W.nsIn K mainGlobals "enumerate" = some none)
    (z_sum : PySem.W.nsIn K mainGlobals "sum" = some none)
    (z_repr : PySem.W.nsIn K mainGlobals "repr" = some none) :
    ∃ T : Top K mg, T.f_law = fa ∧ ∀ (s : Shared) (u : Value), BindsTo s T.fd_law ⟨[u], []⟩ [("script", u)] := by
  have e := hfa.symm.trans (PySem.W.mg_of X G a10)
  cases e
  exact ⟨{ f_skipped := f0, fd_skipped := _, F_skipped := fun_mk l0 c0 k0, g_skipped := PySem.W.mg_of X G a0, f_token_end := f1, fd_token_end := _, F_token_end := fun_mk l1 c1 k1, g_token_end := PySem.W.mg_of X G a1, f_token_places := f2, fd_token_places := _, F_token_places := fun_mk l2 c2 k2, g_token_places := PySem.W.mg_of X G a2, f_tokens_of := f3, fd_tokens_of := _, F_tokens_of := fun_mk l3 c3 k3, g_tokens_of := PySem.W.mg_of X G a3, f__law_draw := f4, fd__law_draw := _, F__law_draw := fun_mk l4 c4 k4, g__law_draw := PySem.W.mg_of X G a4, f__law_any := f5, fd__law_any := _, F__law_any := fun_mk l5 c5 k5, g__law_any := PySem.W.mg_of X G a5, f__law_of := f6, fd__law_of := _, F__law_of := fun_mk l6 c6 k6, g__law_of := PySem.W.mg_of X G a6, f__law_text := f7, fd__law_text := _, F__law_text := fun_mk l7 c7 k7, g__law_text := PySem.W.mg_of X G a7, f__law_is_letter := f8, fd__law_is_letter := _, F__law_is_letter := fun_mk l8 c8 k8, g__law_is_letter := PySem.W.mg_of X G a8, f__law_walk := f9, fd__law_walk := _, F__law_walk := fun_mk l9 c9 k9, g__law_walk := PySem.W.mg_of X G a9, f_law := _, fd_law := _, F_law := fun_mk l10 c10 k10, g_law := PySem.W.mg_of X G a10, v_WORD_SIGNS := .str "abcdefghijklmnopqrstuvwxyzABCDEFGHIJKLMNOPQRSTUVWXYZ0123456789_", u_WORD_SIGNS := .str "abcdefghijklmnopqrstuvwxyzABCDEFGHIJKLMNOPQRSTUVWXYZ0123456789_" tk0, m_WORD_SIGNS := PySem.W.mg_of X G q0, r_WORD_SIGNS := ⟨_, rfl⟩, c_WORD_SIGNS := rfl, n_len := PySem.W.mg_none_of X G z_len, n_max := PySem.W.mg_none_of X G z_max, n_tuple := PySem.W.mg_none_of X G z_tuple, n_int := PySem.W.mg_none_of X G z_int, n_abs := PySem.W.mg_none_of X G z_abs, n_range := PySem.W.mg_none_of X G z_range, n_enumerate := PySem.W.mg_none_of X G z_enumerate, n_sum := PySem.W.mg_none_of X G z_sum, n_repr := PySem.W.mg_none_of X G z_repr }, rfl, fun s u => .of_eq rfl⟩
end K05
namespace K05
open PySem PySem.Spec PyProof.Rows L2 Ly
section
variable {P0 : Program} {w : World} {K : PySem.W.Frag} {mg : Str → Option Value} {base : Heap} {B H : Hp}
theorem tx_len (l : List Nat) : (Tx l).length = l.length := by simp [Tx, Str.length]
theorem tx_list (l : List Nat) : (Tx l).cps.toList = l := by simp [Tx]
theorem lit_gap : (" \n#" : Str).cps.toList = [32, 10, 35] := by decide +kernel
theorem drop_cons {l : List Nat} {j : Nat} (h : j < l.length) : l.drop j = l[j] :: l.drop (j + 1) := List.drop_eq_getElem_cons h
theorem one_str (c d : Nat) : decide ((⟨#[c]⟩ : Str) = ⟨#[d]⟩) = (c == d) := by
  by_cases h : c = d
  · subst h
    simp
  · have h2 : ¬ ((⟨#[c]⟩ : Str) = ⟨#[d]⟩) := fun e => h (by injection e with e; injection e with e; injection e)
    rw [decide_eq_false h2]
    exact (beq_eq_false_iff_ne.mpr h).symm
theorem skipN_eq (b : Bool) {l : List Nat} {j : Nat} (h : j < l.length) : skipN b (l.drop j) = if b || (l[j] == 32 || l[j] == 10 || l[j] == 35) then 1 + skipN ((l[j] != 10) && (b || l[j] == 35)) (l.drop (j + 1)) else 0 := by
  rw [drop_cons h]
  rfl
theorem skipN_end (b : Bool) {l : List Nat} {j : Nat} (h : l.length ≤ j) : skipN b (l.drop j) = 0 := by
  rw [List.drop_eq_nil_of_le h]
  cases b <;> rfl
theorem vs_skipped (T : Top K mg) {ds : List D} (hP : P_skipped ds) : VS ⟨K, B, H, none⟩ (t_skipped T) (slots ds 1) { nx := fun _ => R_skipped ds .none, rt := R_skipped ds } := by
  obtain ⟨l, i, rfl, hl, hi⟩ := hP
  have hz : (Tx l).length ≤ 1000000 := by rw [tx_len]; omega
  refine vq_asgD ve_bl ?_
  refine vs_seq (fun Γ => ∃ (j : Nat) (b : Bool), Γ = [.dat (.str (Tx l)), .dat (.int (j : Nat)), .dat (.bool b)] ∧ j = i + skipN false (l.drop i)) ?_ ?_
  · refine vs_while (fun m Γ => ∃ (j : Nat) (b : Bool), Γ = [.dat (.str (Tx l)), .dat (.int (j : Nat)), .dat (.bool b)] ∧ j ≤ l.length ∧ m = l.length - j ∧ j + skipN b (l.drop j) = i + skipN false (l.drop i)) _ ⟨i, false, rfl, hi, rfl, rfl⟩ ?_
    rintro m Γ ⟨j, b, rfl, hj, rfl, e⟩
    by_cases hlt : j < l.length
    · have hc : (Tx l).cps.toList[j]? = some l[j] := by rw [tx_list]; exact List.getElem?_eq_getElem hlt
      have ix : VE ⟨K, B, H, none⟩ (tOp (rIx K) (tVar 0) (tVar 1)) [.dat (.str (Tx l)), .dat (.int (j : Nat)), .dat (.bool b)] (Is (.str ⟨#[l[j]]⟩)) := ve_opD (ve_var rfl).v (ve_var rfl).v (od_ixS hz (atI_pos hc))
      refine ⟨Is (b || (l[j] == 32 || l[j] == 10 || l[j] == 35)), (vt_andD (vt_testD (ve_opD (ve_var rfl).v (ve_lenS hz (ve_var rfl)).v od_lt)) fun _ => vt_orD (vt_BD (ve_var rfl)) fun _ => vt_testD (ve_opD ix.v ve_str.v od_inSg)).to ?_, ?_, ?_⟩
      · rw [tx_len, decide_eq_true (by omega : (j : Int) < (l.length : Int)), lit_gap]
        simp [Bool.or_assoc]
        rfl
      · intro h
        have h : (b || (l[j] == 32 || l[j] == 10 || l[j] == 35)) = true := h.symm
        rw [skipN_eq b hlt, if_pos h] at e
        refine vq_asgD (ve_andD (ve_opD ix.v ve_str.v od_neS) fun _ => ve_orD (ve_var rfl) fun _ => ve_opD ix.v ve_str.v od_eqS) (vs_asgD (ve_opD (ve_var rfl).v ve_int.v od_add) ?_)
        refine ⟨l.length - (j + 1), by omega, j + 1, (l[j] != 10) && (b || l[j] == 35), ?_, hlt, rfl, by omega⟩
        have e1 : decide ((⟨#[l[j]]⟩ : Str) = "\n") = (l[j] == 10) := one_str _ 10
        have e2 : decide ((⟨#[l[j]]⟩ : Str) = "#") = (l[j] == 35) := one_str _ 35
        rw [e1, e2]
        rfl
      · intro h
        have h : (b || (l[j] == 32 || l[j] == 10 || l[j] == 35)) = false := h.symm
        rw [skipN_eq b hlt, if_neg (by rw [h]; decide)] at e
        exact ⟨j, b, rfl, by omega⟩
    · refine ⟨Is false, (vt_andD (c := false) (vt_testD (ve_opD (ve_var rfl).v (ve_lenS hz (ve_var rfl)).v od_lt)) fun h => ?_).to (Bool.and_false _), ?_, fun _ => ?_⟩
      · rw [tx_len] at h
        exact absurd (of_decide_eq_true h) (by omega)
      · intro h
        cases h
      · rw [skipN_end b (by omega)] at e
        exact ⟨j, b, rfl, by omega⟩
  · rintro Γ ⟨j, b, rfl, e⟩
    refine vs_retD (ve_var rfl) fun l' i' ed => ?_
    injection ed with e1 e2
    injection e2 with e2 _
    injection e1 with e1
    injection e2 with e2
    have el : l' = l := by
      have := congrArg (fun z : Str => z.cps.toList) e1
      simpa [Tx] using this.symm
    have ei : i' = i := by omega
    subst el ei
    rw [e]
theorem ok_skipped (T : Top K mg) : GOk P0 w K mg base CX0 1 T.f_skipped T.fd_skipped ["text", "at"] (sp_skipped K) :=
  pu_ok 1 T.F_skipped sc_skipped (fun ds ⟨l, i, e, _⟩ => by rw [e]; rfl) rfl fun cdv A outer s H E hg hr => ⟨_, d_skipped T cdv A outer s H E hg hr, fun B H ds hP => vs_skipped T hP⟩
end
end K05
namespace K05
open PySem PySem.Spec PyProof.Rows L2 Ly
section
variable {P0 : Program} {w : World} {K : PySem.W.Frag} {mg : Str → Option Value} {base : Heap} {B H : Hp}
theorem tx_inj {l l' : List Nat} (h : PyData.str (Tx l) = .str (Tx l')) : l = l' := by
  injection h with h
  have := congrArg (fun z : Str => z.cps.toList) h
  simpa [Tx] using this
theorem two_inj {l l' : List Nat} {i i' : Nat} (h : ([.str (Tx l), .int (i : Nat)] : List D) = [.str (Tx l'), .int (i' : Nat)]) : l = l' ∧ i = i' := by
  injection h with h1 h2
  injection h2 with h2 _
  injection h2 with h2
  exact ⟨tx_inj h1, by omega⟩
theorem one_inj {l l' : List Nat} (h : ([.str (Tx l)] : List D) = [.str (Tx l')]) : l = l' := by
  injection h with h1 _
  exact tx_inj h1
abbrev wordSigns : Str := "abcdefghijklmnopqrstuvwxyzABCDEFGHIJKLMNOPQRSTUVWXYZ0123456789_"
theorem ws_small : ∀ c ∈ wordSigns.cps.toList, c < 128 := by decide +kernel
theorem ws_tab : ∀ c : Fin 128, decide (c.val ∈ wordSigns.cps.toList) = isW c.val := by decide +kernel
theorem ws_is (c : Nat) : decide (c ∈ wordSigns.cps.toList) = isW c := by
  by_cases h : c < 128
  · exact ws_tab ⟨c, h⟩
  · rw [decide_eq_false fun z => h (ws_small c z)]
    unfold isW
    simp only [Bool.eq_false_iff, ne_eq, Bool.or_eq_true, Bool.and_eq_true, beq_iff_eq, decide_eq_true_eq, not_or, Bool.false_eq]
    symm
    simp
    omega
theorem arrow_is (l : List Nat) : decide ((Tx l) = ("->" : Str)) = decide (l = [45, 62]) := by
  apply decide_eq_decide.mpr
  have e : ("->" : Str) = Tx [45, 62] := by decide +kernel
  rw [e]
  constructor
  · intro h
    have := congrArg (fun z : Str => z.cps.toList) h
    simpa [Tx] using this
  · intro h
    rw [h]
theorem wordN_eq {l : List Nat} {j : Nat} (h : j < l.length) : wordN (l.drop j) = if isW l[j] then 1 + wordN (l.drop (j + 1)) else 0 := by
  rw [drop_cons h]
  rfl
theorem wordN_end {l : List Nat} {j : Nat} (h : l.length ≤ j) : wordN (l.drop j) = 0 := by
  rw [List.drop_eq_nil_of_le h]
  rfl
theorem wordN_le : ∀ l : List Nat, wordN l ≤ l.length
  | [] => Nat.le_refl _
  | c :: cs => by
    have := wordN_le cs
    unfold wordN
    split
    · rw [List.length_cons]; omega
    · exact Nat.zero_le _
theorem skipN_le : ∀ (b : Bool) (l : List Nat), skipN b l ≤ l.length
  | _, [] => by simp [skipN]
  | b, c :: cs => by
    have := skipN_le ((c != 10) && (b || c == 35)) cs
    unfold skipN
    split
    · rw [List.length_cons]; omega
    · exact Nat.zero_le _
theorem tokN_le {l : List Nat} (h : l ≠ []) : tokN l ≤ l.length := by
  have h1 : 0 < l.length := List.length_pos_iff.mpr h
  have h2 := wordN_le l
  unfold tokN
  split
  · rename_i e
    have := congrArg List.length e
    rw [List.length_take] at this
    simp at this
    omega
  · omega
theorem vs_token_end (T : Top K mg) {ds : List D} (hP : P_token_end ds) : VS ⟨K, B, H, none⟩ (t_token_end T) (slots ds 1) { nx := fun _ => R_token_end ds .none, rt := R_token_end ds } := by
  obtain ⟨l, i, rfl, hl, hi⟩ := hP
  have hz : (Tx l).length ≤ 1000000 := by rw [tx_len]; omega
  have rt : ∀ {d : D}, d = .int ((i + tokN (l.drop i) : Nat) : Int) → R_token_end [.str (Tx l), .int (i : Nat)] d := fun e l' i' ed => by
    obtain ⟨rfl, rfl⟩ := two_inj ed
    exact e
  refine vq_ifD (vt_testD (ve_opD (ve_slS hz (ve_var rfl) (vo_someD (ve_var rfl)) (vo_someD (ve_opD (ve_var rfl).v ve_int.v od_add))).v ve_str.v od_eqS)) (fun h => ?_) (fun h => ?_)
  · have h : decide ((Tx (cut (Tx l).cps.toList (some (i : Int)) (some ((i : Int) + 2)))) = ("->" : Str)) = true := h
    rw [arrow_is, tx_list, show (i : Int) + 2 = ((i + 2 : Nat) : Int) by omega, cut_nat l i (i + 2) (by omega), Nat.add_sub_cancel_left] at h
    refine vq_leave (vs_retD (ve_opD (ve_var rfl).v ve_int.v od_add) (rt ?_))
    unfold tokN
    rw [if_pos (of_decide_eq_true h)]
    rfl
  · have h : decide ((Tx (cut (Tx l).cps.toList (some (i : Int)) (some ((i : Int) + 2)))) = ("->" : Str)) = false := h
    rw [arrow_is, tx_list, show (i : Int) + 2 = ((i + 2 : Nat) : Int) by omega, cut_nat l i (i + 2) (by omega), Nat.add_sub_cancel_left] at h
    refine vq_next (vq_asgD (ve_var rfl) ?_)
    refine vs_seq (fun Γ => Γ = [.dat (.str (Tx l)), .dat (.int (i : Nat)), .dat (.int ((i + wordN (l.drop i) : Nat) : Int))]) ?_ ?_
    · refine vs_while (fun m Γ => ∃ j : Nat, Γ = [.dat (.str (Tx l)), .dat (.int (i : Nat)), .dat (.int (j : Nat))] ∧ j ≤ l.length ∧ m = l.length - j ∧ j + wordN (l.drop j) = i + wordN (l.drop i)) _ ⟨i, rfl, hi, rfl, rfl⟩ ?_
      rintro m Γ ⟨j, rfl, hj, rfl, e⟩
      by_cases hlt : j < l.length
      · have hc : (Tx l).cps.toList[j]? = some l[j] := by rw [tx_list]; exact List.getElem?_eq_getElem hlt
        refine ⟨Is (isW l[j]), (vt_andD (vt_testD (ve_opD (ve_var rfl).v (ve_lenS hz (ve_var rfl)).v od_lt)) fun _ => vt_testD (ve_opD (ve_opD (ve_var rfl).v (ve_var rfl).v (od_ixS hz (atI_pos hc))).v (ve_c (fun _ => by rw [T.c_WORD_SIGNS]; exact .str _)).v od_inSg)).to ?_, fun h => ?_, fun h => ?_⟩
        · rw [tx_len, decide_eq_true (by omega : (j : Int) < (l.length : Int)), ws_is]
          rfl
        · rw [wordN_eq hlt, if_pos h.symm] at e
          refine vs_asgD (ve_opD (ve_var rfl).v ve_int.v od_add) ⟨l.length - (j + 1), by omega, j + 1, ?_, hlt, rfl, by omega⟩
          rfl
        · rw [wordN_eq hlt, if_neg (by rw [← h]; decide)] at e
          show _ = _
          rw [← e]
          rfl
      · refine ⟨Is false, (vt_andD (c := false) (vt_testD (ve_opD (ve_var rfl).v (ve_lenS hz (ve_var rfl)).v od_lt)) fun h => ?_).to (Bool.and_false _), ?_, fun _ => ?_⟩
        · rw [tx_len] at h
          exact absurd (of_decide_eq_true h) (by omega)
        · intro h
          cases h
        · rw [wordN_end (by omega)] at e
          show _ = _
          rw [← e]
          rfl
    · rintro Γ rfl
      refine vs_retD (ve_max (ve_var rfl) (ve_opD (ve_var rfl).v ve_int.v od_add)) (rt ?_)
      unfold tokN
      rw [if_neg (of_decide_eq_false h)]
      congr 1
      split <;> omega
theorem ok_token_end (T : Top K mg) : GOk P0 w K mg base CX0 1 T.f_token_end T.fd_token_end ["text", "at"] (sp_token_end K) :=
  pu_ok 1 T.F_token_end sc_token_end (fun ds ⟨l, i, e, _⟩ => by rw [e]; rfl) rfl fun cdv A outer s H E hg hr => ⟨_, d_token_end T cdv A outer s H E hg hr, fun B H ds hP => vs_token_end T hP⟩

theorem toks_end {i : Nat} {l : List Nat} (h : l.drop (skipN false l) = []) : toks i l = [] := by
  rw [toks, dif_pos h]
theorem toks_more {i : Nat} {l : List Nat} (h : l.drop (skipN false l) ≠ []) : toks i l = (i + skipN false l, (l.drop (skipN false l)).take (tokN (l.drop (skipN false l)))) ::
    toks (i + skipN false l + tokN (l.drop (skipN false l))) ((l.drop (skipN false l)).drop (tokN (l.drop (skipN false l)))) := by
  rw [toks, dif_neg h]
theorem vs_token_places (T : Top K mg) {ds : List D} (hP : P_token_places ds) : VS ⟨K, B, H, none⟩ (t_token_places T) (slots ds 2) { nx := fun _ => R_token_places ds .none, rt := R_token_places ds } := by
  obtain ⟨l, rfl, hl⟩ := hP
  have hz : (Tx l).length ≤ 1000000 := by rw [tx_len]; omega
  have call1 : ∀ {Γ : List Sl} {te : TE} {i : Nat}, Γ[0]? = some (.dat (.str (Tx l))) → VE ⟨K, B, H, none⟩ te Γ (Is (.int (i : Nat))) → i ≤ l.length → VE ⟨K, B, H, none⟩ (tCallK (sp_skipped K) (fun vs _ => vs) E0 (tCons (tVar 0) (tCons te tNil)) tNil) Γ (Is (.int ((i + skipN false (l.drop i) : Nat) : Int))) := fun h0 h1 hi =>
    (ve_callD (va_consD (ve_var h0) (va_consD h1 va_nil)) ⟨l, _, rfl, by omega, hi⟩).imp fun d r => r l _ rfl
  have call2 : ∀ {Γ : List Sl} {te : TE} {i : Nat}, Γ[0]? = some (.dat (.str (Tx l))) → VE ⟨K, B, H, none⟩ te Γ (Is (.int (i : Nat))) → i ≤ l.length → VE ⟨K, B, H, none⟩ (tCallK (sp_token_end K) (fun vs _ => vs) E0 (tCons (tVar 0) (tCons te tNil)) tNil) Γ (Is (.int ((i + tokN (l.drop i) : Nat) : Int))) := fun h0 h1 hi =>
    (ve_callD (va_consD (ve_var h0) (va_consD h1 va_nil)) ⟨l, _, rfl, by omega, hi⟩).imp fun d r => r l _ rfl
  refine vs_seq (fun Γ => Γ = [.dat (.str (Tx l)), .own [], .dat (.int ((0 + skipN false (l.drop 0) : Nat) : Int))]) (vs_parLE (vl_lstD va_nil) (call1 (i := 0) rfl ve_int (Nat.zero_le _)) fun x y ex ey => ?_) ?_
  · cases ex
    cases ey
    rfl
  rintro Γ rfl
  refine vs_seq (fun Γ => ∃ s, Γ = [.dat (.str (Tx l)), .own ((toks 0 l).map fun p => .int (p.1 : Nat)), s]) ?_ ?_
  · refine vs_while (fun m Γ => ∃ (pre : List (Nat × List Nat)) (j : Nat), Γ = [.dat (.str (Tx l)), .own (pre.map fun p => .int (p.1 : Nat)), .dat (.int ((j + skipN false (l.drop j) : Nat) : Int))] ∧ j ≤ l.length ∧ m = l.length - j ∧ pre.length ≤ j ∧ toks 0 l = pre ++ toks j (l.drop j))
      _ ⟨[], 0, rfl, Nat.zero_le _, rfl, Nat.le_refl _, rfl⟩ ?_
    rintro m Γ ⟨pre, j, rfl, hj, rfl, hp, e⟩
    have hs := skipN_le false (l.drop j)
    rw [List.length_drop] at hs
    have hdd : (l.drop j).drop (skipN false (l.drop j)) = l.drop (j + skipN false (l.drop j)) := List.drop_drop
    refine ⟨_, vt_testD (ve_opD (ve_var rfl).v (ve_lenS hz (ve_var rfl)).v od_lt), fun h => ?_, fun h => ?_⟩
    · rw [tx_len] at h
      have hlt : j + skipN false (l.drop j) < l.length := by have := of_decide_eq_true h.symm; omega
      have hne : (l.drop j).drop (skipN false (l.drop j)) ≠ [] := by
        rw [hdd]
        intro z
        have := congrArg List.length z
        rw [List.length_drop] at this
        simp at this
        omega
      have ht := tokN_le hne
      have ht1 := tokN_pos ((l.drop j).drop (skipN false (l.drop j)))
      rw [hdd, List.length_drop] at ht
      rw [hdd] at ht1
      refine vq_app rfl (ve_var rfl) (by rw [List.length_map]; omega) fun d ed => ?_
      cases ed
      refine vs_asgD (call1 (i := j + skipN false (l.drop j) + tokN (l.drop (j + skipN false (l.drop j)))) rfl (call2 rfl (ve_var rfl) (by omega)) (by omega)) ?_
      refine ⟨_, ?_, pre ++ [(j + skipN false (l.drop j), (l.drop (j + skipN false (l.drop j))).take (tokN (l.drop (j + skipN false (l.drop j)))))], j + skipN false (l.drop j) + tokN (l.drop (j + skipN false (l.drop j))), ?_, by omega, rfl, ?_, ?_⟩
      · omega
      · rw [List.map_append]
        rfl
      · rw [List.length_append, List.length_singleton]
        omega
      · rw [e, toks_more hne, hdd, List.drop_drop, List.append_assoc]
        rfl
    · rw [tx_len] at h
      have hlt : ¬ j + skipN false (l.drop j) < l.length := by have := of_decide_eq_false h.symm; omega
      have hnil : (l.drop j).drop (skipN false (l.drop j)) = [] := by
        rw [hdd]
        exact List.drop_eq_nil_of_le (by omega)
      rw [toks_end hnil, List.append_nil] at e
      exact ⟨_, by rw [e]⟩
  · rintro Γ ⟨s, rfl⟩
    refine vs_retD (ve_tupL (vv_own rfl)) fun l' ed => ?_
    obtain rfl := one_inj ed
    rfl
theorem ok_token_places (T : Top K mg) : GOk P0 w K mg base CX0 2 T.f_token_places T.fd_token_places ["text"] (sp_token_places K) :=
  pu_ok 2 T.F_token_places sc_token_places (fun ds ⟨l, e, _⟩ => by rw [e]; rfl) rfl fun cdv A outer s H E hg hr => ⟨_, d_token_places T (ok_skipped T) (ok_token_end T) cdv A outer s H E hg hr, fun B H ds hP => vs_token_places T hP⟩
/-- what is known of each token -/
theorem toks_mem : ∀ (n : Nat) (l : List Nat) (i : Nat), l.length ≤ n → ∀ p ∈ toks i l, i ≤ p.1 ∧ p.1 < i + l.length ∧ p.2 = (l.drop (p.1 - i)).take (tokN (l.drop (p.1 - i)))
  | 0, l, i, hn, p, hp => by
    obtain rfl := List.length_eq_zero_iff.mp (Nat.le_zero.mp hn)
    rw [toks_end rfl] at hp
    cases hp
  | n + 1, l, i, hn, p, hp => by
    by_cases hd : l.drop (skipN false l) = []
    · rw [toks_end hd] at hp
      cases hp
    · rw [toks_more hd] at hp
      have h1 : 0 < (l.drop (skipN false l)).length := List.length_pos_iff.mpr hd
      have h2 := tokN_pos (l.drop (skipN false l))
      have h3 := tokN_le hd
      rw [List.length_drop] at h1 h3
      rcases List.mem_cons.mp hp with e | hp
      · subst e
        refine ⟨Nat.le_add_right _ _, by omega, ?_⟩
        show _ = (l.drop (i + skipN false l - i)).take _
        rw [Nat.add_sub_cancel_left]
      · obtain ⟨g1, g2, g3⟩ := toks_mem n _ _ (by rw [List.length_drop, List.length_drop]; omega) p hp
        rw [List.length_drop, List.length_drop] at g2
        refine ⟨by omega, by omega, ?_⟩
        rw [List.drop_drop, List.drop_drop, show skipN false l + (tokN (l.drop (skipN false l)) + (p.1 - (i + skipN false l + tokN (l.drop (skipN false l))))) = p.1 - i by omega] at g3
        exact g3
theorem toks_len : ∀ (n : Nat) (l : List Nat) (i : Nat), l.length ≤ n → (toks i l).length ≤ l.length
  | 0, l, i, hn => by
    obtain rfl := List.length_eq_zero_iff.mp (Nat.le_zero.mp hn)
    rw [toks_end rfl]
    exact Nat.le_refl _
  | n + 1, l, i, hn => by
    by_cases hd : l.drop (skipN false l) = []
    · rw [toks_end hd]
      exact Nat.zero_le _
    · rw [toks_more hd, List.length_cons]
      have h1 : 0 < (l.drop (skipN false l)).length := List.length_pos_iff.mpr hd
      have h2 := tokN_pos (l.drop (skipN false l))
      rw [List.length_drop] at h1
      have := toks_len n ((l.drop (skipN false l)).drop (tokN (l.drop (skipN false l)))) (i + skipN false l + tokN (l.drop (skipN false l))) (by rw [List.length_drop, List.length_drop]; omega)
      rw [List.length_drop, List.length_drop] at this
      omega
def tokAt (l : List Nat) : D → D
  | .int k => .str (Tx ((l.drop k.toNat).take (tokN (l.drop k.toNat))))
  | d => d
theorem tokAt_toks (l : List Nat) : ((toks 0 l).map fun p => .int (p.1 : Nat)).map (tokAt l) = (toks 0 l).map fun p => .str (Tx p.2) := by
  rw [List.map_map]
  apply List.map_congr_left
  intro p hp
  obtain ⟨_, _, h⟩ := toks_mem _ l 0 (Nat.le_refl _) p hp
  rw [Nat.sub_zero] at h
  show PyData.str (Tx ((l.drop ((p.1 : Nat) : Int).toNat).take (tokN (l.drop ((p.1 : Nat) : Int).toNat)))) = .str (Tx p.2)
  rw [Int.toNat_natCast, ← h]
theorem vs_tokens_of (T : Top K mg) {ds : List D} (hP : P_tokens_of ds) : VS ⟨K, B, H, none⟩ (t_tokens_of T) (slots ds 1) { nx := fun _ => R_tokens_of ds .none, rt := R_tokens_of ds } := by
  obtain ⟨l, rfl, hl⟩ := hP
  have hz : (Tx l).length ≤ 1000000 := by rw [tx_len]; omega
  have tl := toks_len _ l 0 (Nat.le_refl _)
  refine vs_retD (ve_tupL ((vl_map (tokAt l) (va_tupD (ds := (toks 0 l).map fun p => .int (p.1 : Nat)) ((ve_callD (va_consD (ve_var rfl) va_nil) ⟨l, rfl, hl⟩).imp fun d r => r l rfl)) (by rw [List.length_map]; omega) fun d hd => ?_).to (tokAt_toks l)).vd) fun l' ed => ?_
  · obtain ⟨p, hp, rfl⟩ := List.mem_map.mp hd
    obtain ⟨_, h2, _⟩ := toks_mem _ l 0 (Nat.le_refl _) p hp
    rw [Nat.zero_add] at h2
    refine ⟨_, _, vg_name, fun j hj => hj, (ve_slS hz (ve_var rfl) (vo_someD (ve_var rfl)) (vo_someD ((ve_callD (va_consD (ve_var rfl) (va_consD (ve_var rfl) va_nil)) ⟨l, p.1, rfl, by omega, by omega⟩).imp fun d r => r l p.1 rfl))).to ?_⟩
    show PyData.str (Tx (cut (Tx l).cps.toList (some (p.1 : Int)) (some ((p.1 + tokN (l.drop p.1) : Nat) : Int)))) = .str (Tx ((l.drop ((p.1 : Nat) : Int).toNat).take (tokN (l.drop ((p.1 : Nat) : Int).toNat))))
    rw [Int.toNat_natCast, tx_list, cut_nat l _ _ (by omega), Nat.add_sub_cancel_left]
  · obtain rfl := one_inj ed
    rfl
theorem ok_tokens_of (T : Top K mg) : GOk P0 w K mg base CX0 3 T.f_tokens_of T.fd_tokens_of ["text"] (sp_tokens_of K) :=
  pu_ok 1 T.F_tokens_of sc_tokens_of (fun ds ⟨l, e, _⟩ => by rw [e]; rfl) rfl fun cdv A outer s H E hg hr => ⟨_, d_tokens_of T (ok_token_places T) ((ok_token_end T)) cdv A outer s H E hg hr, fun B H ds hP => vs_tokens_of T hP⟩
end
end K05
namespace K05
open PySem PySem.Spec PyProof.Rows L2 Ly
section
variable {P0 : Program} {w : World} {K : PySem.W.Frag} {mg : Str → Option Value} {base : Heap} {B H : Hp}
theorem ok__law_draw (T : Top K mg) : GOk P0 w K mg base CX0 1 T.f__law_draw T.fd__law_draw ["script", "salt"] (sp__law_draw K) :=
  draw_ok T.F__law_draw sc__law_draw rfl fun cdv A outer s H E hg hr => d__law_draw T cdv A outer s H E hg hr
theorem ok__law_any (T : Top K mg) : GOk P0 w K mg base CX0 1 T.f__law_any T.fd__law_any ["deal", "bound"] (sp__law_any K) :=
  de_ok 1 T.F__law_any sc__law_any (fun ds ⟨b, e, _⟩ => by rw [e]; rfl) rfl fun cdv A outer s H E hg hr => ⟨_, d__law_any T cdv A outer s H E hg hr, fun B H p q ds hP => vs_any hP⟩
theorem ok__law_of (T : Top K mg) : GOk P0 w K mg base CX0 2 T.f__law_of T.fd__law_of ["deal", "some"] (sp__law_of K) :=
  de_ok 0 T.F__law_of sc__law_of (fun ds ⟨xs, e, _⟩ => by rcases e with rfl | rfl <;> rfl) rfl fun cdv A outer s H E hg hr => ⟨_, d__law_of T (ok__law_any T) cdv A outer s H E hg hr, fun B H p q ds hP => vs_of hP⟩
abbrev l1 : List Str := ["a", "B_7", "while", "0", "12", "007", "9x", "_", "->", "-", ">", "=", ";", ":", "{", "}", "[", "]", "(", ")"]
abbrev l2 : List Str := [",", "?", "*", "$", "~", "!", "\t", "\\", "'", "@", "^"]
abbrev l3 : List Str := [" ", " ", "  ", "\n", "\n ", "# so -> it is", "#", "##\n", " # a = 3;\n", "->->", "--", ">-", "zZ09"]
def lits : List Str := l1 ++ l2 ++ l3
theorem lits_ok : ∀ s ∈ lits, s.length ≤ 20 ∧ ∀ c ∈ s.cps.toList, c < 128 := by decide +kernel
theorem tx_of (s : Str) : Tx s.cps.toList = s := by simp [Tx]
theorem join_empty : ∀ ys : List Str, Txt.join ("" : Str) ys = Tx (ys.flatMap fun s => s.cps.toList) := fun ys => by
  rw [TL.join_eq]
  induction ys with
  | nil => rfl
  | cons x r ih =>
    cases r with
    | nil =>
      rw [List.flatMap_cons, List.flatMap_nil, List.append_nil]
      exact (tx_of x).symm
    | cons y r =>
      show x ++ "" ++ Str.join "" (y :: r) = _
      rw [ih, List.flatMap_cons]
      show (⟨x.cps ++ #[] ++ _⟩ : Str) = ⟨_⟩
      congr 1
      apply Array.toList_inj.mp
      simp
theorem flat_len : ∀ (ys : List Str) (n : Nat), (∀ s ∈ ys, s.length ≤ n) → (ys.flatMap fun s => s.cps.toList).length ≤ n * ys.length
  | [], n, _ => Nat.le_refl _
  | y :: ys, n, h => by
    have h1 := h y (List.mem_cons_self ..)
    have h2 := flat_len ys n fun s hs => h s (List.mem_cons_of_mem _ hs)
    rw [List.flatMap_cons, List.length_append, List.length_cons, Nat.mul_succ]
    have : y.cps.toList.length = y.length := rfl
    omega
theorem vs__law_text (T : Top K mg) {p q : Addr} : VS ⟨K, B, H, some (p, q)⟩ (t__law_text T) [.deal, .no, .no] { nx := fun _ => R__law_text [] .none, rt := R__law_text [] } := by
  refine vq_asgD (ve_lstS l1) ?_
  refine vq_asgD (vl_opD (ve_var rfl).v (ve_lstS l2).v (ol_cat (by decide))).ed ?_
  refine vq_asgD (vl_opD (ve_var rfl).v (ve_lstS l3).v (ol_cat (by decide))).ed ?_
  have hl : VL ⟨K, B, H, some (p, q)⟩ (tLc (iRng1 (tCons (tCallK (sp__law_any K) (fun vs _ => vs) E0 (tCons (tVar 0) (tCons (tC (.int 24)) tNil)) tNil) tNil)) (gName 2) tYes (tCallK (sp__law_of K) (fun vs _ => vs) E0 (tCons (tVar 0) (tCons (tVar 1) tNil)) tNil) [2])
      [.deal, .dat (.list (l1.map .str ++ l2.map .str ++ l3.map .str)), .no] (fun es => ∃ ys : List Str, es = ys.map .str ∧ ys.length ≤ 24 ∧ ∀ y ∈ ys, y ∈ lits) := by
    refine vl_lc (vi_rng1 (S := fun es => es.length ≤ 24) (ve_any rfl ve_int (by decide) (by decide)) fun n ⟨h0, h1⟩ => ⟨by omega, by omega, by rw [upTo_len]; omega⟩) fun ds hds => ?_
    refine ⟨by omega, fun i acc => i ≤ 24 → ∃ ys : List Str, acc = ys.map .str ∧ ys.length ≤ i ∧ ∀ y ∈ ys, y ∈ lits, fun _ => ⟨[], rfl, Nat.le_refl _, fun _ h => nomatch h⟩, fun i d acc hd iv => ?_, fun acc iv => ?_⟩
    · refine ⟨_, _, vg_name, fun j hj => hj, Is true, vt_yes, fun _ => ?_, fun e => by cases e⟩
      refine (ve_deD (i := 0) rfl (va_consD (ve_var rfl) va_nil) ⟨l1.map .str ++ l2.map .str ++ l3.map .str, Or.inl rfl, by decide, by decide⟩).imp fun d r hi => ?_
      have hm := r _ (Or.inl rfl)
      rw [← List.map_append, ← List.map_append] at hm
      obtain ⟨y, hy, rfl⟩ := List.mem_map.mp hm
      obtain ⟨ys, e, hl, hy2⟩ := iv (by omega)
      refine ⟨ys ++ [y], by rw [e, List.map_append]; rfl, by rw [List.length_append]; exact Nat.succ_le_succ hl, fun z hz => ?_⟩
      rcases List.mem_append.mp hz with hz | hz
      · exact hy2 z hz
      · rw [List.mem_singleton.mp hz]
        exact hy
    · obtain ⟨ys, e, hl, hy⟩ := iv hds
      exact ⟨ys, e, by omega, hy⟩
  refine vs_ret ((ve_joinLR (S := fun ys => ys.length ≤ 24 ∧ ∀ y ∈ ys, y ∈ lits) ve_str hl.v fun ys ⟨hn, hy⟩ => ?_).imp fun d ⟨ys, ⟨hn, hy⟩, e⟩ => ⟨ys.flatMap fun s => s.cps.toList, by rw [e, join_empty], ?_, fun c hc => ?_⟩)
  · have hsum := sum_len ys 20 fun s hs => (lits_ok s (hy s hs)).1
    have e0 : ("" : Str).length = 0 := rfl
    rw [e0]
    omega
  · have := flat_len ys 20 fun s hs => (lits_ok s (hy s hs)).1
    omega
  · obtain ⟨s, hs, hc⟩ := List.mem_flatMap.mp hc
    exact (lits_ok s (hy s hs)).2 c hc
theorem ok__law_text (T : Top K mg) : GOk P0 w K mg base CX0 3 T.f__law_text T.fd__law_text ["deal"] (sp__law_text K) :=
  de_ok 2 T.F__law_text sc__law_text (fun ds e => by rw [e]; rfl) rfl fun cdv A outer s H E hg hr => ⟨_, d__law_text T (ok__law_of T) (ok__law_any T) cdv A outer s H E hg hr, fun B H p q ds hP => by
    obtain rfl : ds = [] := hP
    exact vs__law_text T⟩
theorem cmp_one (a b : Nat) : (!decide ((⟨#[b]⟩ : Str).cps.toList < (⟨#[a]⟩ : Str).cps.toList)) = decide (a ≤ b) := by
  have e : ((⟨#[b]⟩ : Str).cps.toList < (⟨#[a]⟩ : Str).cps.toList) ↔ b < a := by
    show ([b] < [a]) ↔ _
    constructor
    · intro h
      cases h with
      | rel h => exact h
      | cons h => cases h
    · exact fun h => List.Lex.rel h
  by_cases h : b < a
  · rw [decide_eq_true (e.mpr h), decide_eq_false (by omega)]
    rfl
  · rw [decide_eq_false (fun z => h (e.mp z)), decide_eq_true (by omega)]
    rfl
theorem vs__law_is_letter (T : Top K mg) {ds : List D} (hP : P__law_is_letter ds) : VS ⟨K, B, H, none⟩ (t__law_is_letter T) (slots ds 0) { nx := fun _ => R__law_is_letter ds .none, rt := R__law_is_letter ds } := by
  obtain ⟨c, rfl⟩ := hP
  have ch : ∀ (a b : Nat) , VE ⟨K, B, H, none⟩ (tChain rLeA rLeA (tC (.str ⟨#[a]⟩)) (tVar 0) (tC (.str ⟨#[b]⟩))) (slots [.str (Tx [c])] 0) (Is (.bool (decide (a ≤ c) && decide (c ≤ b)))) := fun a b =>
    (ve_chainD ve_str (ve_var rfl) od_leS ve_str.v od_leS).to (by
      rw [cmp_one a c]
      exact congrArg (fun z => PyData.bool (decide (a ≤ c) && z)) (cmp_one c b))
  refine vs_retD (ve_orD (ve_opD (ve_var rfl).v ve_str.v od_eqS) fun _ => ve_orD (ch 97 122) fun _ => ve_orD (ch 65 90) fun _ => ch 48 57) fun c' ed => ?_
  obtain rfl : c = c' := by
    have := one_inj ed
    injection this
  have e1 : decide ((⟨#[c]⟩ : Str) = "_") = (c == 95) := one_str _ 95
  show PyData.bool (decide ((⟨#[c]⟩ : Str) = "_") || _) = _
  rw [e1]
  unfold isW
  simp only [Bool.or_assoc]
theorem ok__law_is_letter (T : Top K mg) : GOk P0 w K mg base CX0 1 T.f__law_is_letter T.fd__law_is_letter ["sign"] (sp__law_is_letter K) :=
  pu_ok 0 T.F__law_is_letter sc__law_is_letter (fun ds ⟨c, e⟩ => by rw [e]; rfl) rfl fun cdv A outer s H E hg hr => ⟨_, d__law_is_letter T cdv A outer s H E hg hr, fun B H ds hP => vs__law_is_letter T hP⟩
end
end K05
namespace K05
open PySem PySem.Spec PyProof.Rows L2 Ly
section
variable {P0 : Program} {w : World} {K : PySem.W.Frag} {mg : Str → Option Value} {base : Heap} {B H : Hp}
def stS : Nat → Str
  | 0 => "gap"
  | 1 => "remark"
  | 2 => "word"
  | 3 => "dash"
  | _ => "sign"
theorem stS_eq {a b : Nat} (ha : a ≤ 4) (hb : b ≤ 4) : decide (stS a = stS b) = (a == b) := by
  have h : ∀ x y : Fin 5, decide (stS x.val = stS y.val) = (x.val == y.val) := by decide +kernel
  exact h ⟨a, by omega⟩ ⟨b, by omega⟩
def WalkAt (l : List Nat) (i : Nat) (Γ : List Sl) : Prop := ∃ (f : List (Nat × List Nat)) (st : Nat) (s3 s4 : Sl), Γ = [.dat (.str (Tx l)), .own (f.reverse.map pairD), .dat (.str (stS st)), s3, s4] ∧ st ≤ 4 ∧ (st = 2 ∨ st = 3 → f ≠ []) ∧
  f.length ≤ i ∧ (∀ q ∈ f, q.2.length ≤ i) ∧ walkW 0 l ([], 0) = walkW i (l.drop i) (f, st)
theorem set_last {α : Type} (r : List α) (x y : α) : (r ++ [x]).set r.length y = r ++ [y] := by
  rw [List.set_append_right _ _ (Nat.le_refl _), Nat.sub_self]
  rfl
theorem vs__law_walk (T : Top K mg) {ds : List D} (hP : P__law_walk ds) : VS ⟨K, B, H, none⟩ (t__law_walk T) (slots ds 4) { nx := fun _ => R__law_walk ds .none, rt := R__law_walk ds } := by
  obtain ⟨l, rfl, hl, hcs⟩ := hP
  refine vs_seq (WalkAt l 0) (vs_parLE (vl_lstD va_nil) ve_str fun x y ex ey => ?_) fun Γ0 hΓ0 => ?_
  · cases ex
    cases ey
    exact ⟨[], 0, .no, .no, rfl, by decide, fun h => by omega, Nat.le_refl _, fun _ h => (nomatch h), rfl⟩
  refine vs_seq (WalkAt l l.length) ?_ ?_
  · have hen : VI ⟨K, B, H, none⟩ (iEnumS (tCons (tVar 0) tNil)) Γ0 (Is (Ly.placed (Tx l))) := by
      obtain ⟨f, st, s3, s4, rfl, _⟩ := hΓ0
      exact vi_enumS (ve_var rfl)
    refine vs_for hen fun ds e => ?_
    cases e
    have hpl : (Ly.placed (Tx l)).length = l.length := by rw [placed_len]; simp [Tx]
    refine ⟨WalkAt l, hΓ0, ?_, fun Γ' h => by rw [hpl] at h; exact h⟩
    rintro i d Γ' hd ⟨f, st, s3, s4, rfl, hst, hne, hf, hq, he⟩
    obtain ⟨c, hc, rfl⟩ := placed_get hd
    have hc : l[i]? = some c := by rw [← hc]; simp [Tx]
    have hc128 : c < 128 := hcs c (List.mem_of_getElem? hc)
    obtain ⟨hi, hc⟩ := List.getElem?_eq_some_iff.mp hc
    rw [drop_cons hi, hc] at he
    have hstep : walkW 0 l ([], 0) = walkW (i + 1) (l.drop (i + 1)) (stepW (f, st) i c) := he
    have fin : ∀ {f' : List (Nat × List Nat)} {st' : Nat} {Γ2 : List Sl}, Γ2 = [.dat (.str (Tx l)), .own (f'.reverse.map pairD), .dat (.str (stS st')), .dat (.int (i : Nat)), .dat (.str ⟨#[c]⟩)] → stepW (f, st) i c = (f', st') → st' ≤ 4 → (st' = 2 ∨ st' = 3 → f' ≠ []) → f'.length ≤ i + 1 → (∀ q ∈ f', q.2.length ≤ i + 1) → WalkAt l (i + 1) Γ2 :=
      fun {f' st' Γ2} e1 e2 e3 e4 e5 e6 => ⟨f', st', _, _, e1, e3, e4, e5, e6, by rw [hstep, e2]⟩
    have hq' : ∀ q ∈ f, q.2.length ≤ i + 1 := fun q hm => Nat.le_succ_of_le (hq q hm)
    have cs : ∀ n : Nat, decide ((⟨#[c]⟩ : Str) = ⟨#[n]⟩) = (c == n) := fun n => one_str c n
    have sign : ∀ {Γ : List Sl} {n : Nat}, Γ[4]? = some (.dat (.str ⟨#[c]⟩)) → VT ⟨K, B, H, none⟩ (tTest (tOp (rEqA K) (tVar 4) (tC (.str ⟨#[n]⟩)))) Γ (Is (c == n)) := fun h => (vt_testD (ve_opD (ve_var h).v ve_str.v od_eqS)).to (cs _)
    have state : ∀ {Γ : List Sl} {n : Nat}, n ≤ 4 → Γ[2]? = some (.dat (.str (stS st))) → VT ⟨K, B, H, none⟩ (tTest (tOp (rEqA K) (tVar 2) (tC (.str (stS n))))) Γ (Is (st == n)) := fun hn h => (vt_testD (ve_opD (ve_var h).v ve_str.v od_eqS)).to (stS_eq hst hn)
    have letter : ∀ {Γ : List Sl}, Γ[4]? = some (.dat (.str ⟨#[c]⟩)) → VE ⟨K, B, H, none⟩ (tCallK (sp__law_is_letter K) (fun vs _ => vs) E0 (tCons (tVar 4) tNil) tNil) Γ (Is (.bool (isW c))) := fun h =>
      (ve_callD (va_consD (ve_var h) va_nil) ⟨c, rfl⟩).imp fun d r => r c rfl
    refine ⟨_, _, vg_tup2 vg_name vg_name, ?_⟩
    refine vs_ifD (state (n := 1) (by decide) rfl) (fun h1 => ?_) fun h1 => ?_
    · have h1 : st = 1 := eq_of_beq h1
      refine vs_asgD (ve_ifD (sign (n := 10) rfl) (fun _ => ve_str (i := stS 0)) fun _ => ve_str (i := stS 1)) ?_
      by_cases hcc : c = 10
      · refine fin (f' := f) (st' := 0) ?_ ?_ (by decide) (fun h => by omega) (by omega) hq'
        · rw [if_pos (by rw [hcc]; rfl)]; rfl
        · unfold stepW; rw [if_pos h1, if_pos hcc]
      · refine fin (f' := f) (st' := 1) ?_ ?_ (by decide) (fun h => by omega) (by omega) hq'
        · rw [if_neg (fun z => hcc (eq_of_beq z))]; rfl
        · unfold stepW; rw [if_pos h1, if_neg hcc]
    have h1 : st ≠ 1 := ne_of_beq_false h1
    refine vs_ifD (sign (n := 35) rfl) (fun h2 => ?_) fun h2 => ?_
    · refine vs_asgD (ve_str (i := stS 1)) (fin (f' := f) (st' := 1) rfl ?_ (by decide) (fun h => by omega) (by omega) hq')
      unfold stepW
      rw [if_neg h1, if_pos (eq_of_beq h2)]
    have h2 : c ≠ 35 := ne_of_beq_false h2
    have hin : VT ⟨K, B, H, none⟩ (tTest (tOp (rInA K) (tVar 4) (tLst (tCons (tC (.str " ")) (tCons (tC (.str "\n")) tNil))))) [.dat (.str (Tx l)), .own (f.reverse.map pairD), .dat (.str (stS st)), .dat (.int (i : Nat)), .dat (.str ⟨#[c]⟩)] (Is (c == 32 || c == 10)) := by
      refine (vt_testD (ve_opD (ve_var rfl).v (ve_lstS [" ", "\n"]).v (od_inL ?_ (by decide +kernel)))).to ?_
      · exact (sm_str (k := 0) (n := 1) (fun c' hc' => by
          have : c' = c := by simpa using hc'
          omega) (Nat.le_refl _)).shaped
      · show (PyData.eqv (.str " ") (.str ⟨#[c]⟩) || (PyData.eqv (.str "\n") (.str ⟨#[c]⟩) || false)) = _
        rw [PyData.eqv, PyData.eqv, ← cs 32, ← cs 10, Bool.or_false]
        have e : ∀ a b : Str, (a == b) = decide (b = a) := fun a b => by
          by_cases h : a = b
          · rw [h]; simp
          · rw [beq_eq_false_iff_ne.mpr h, decide_eq_false fun z => h z.symm]
        rw [e, e]
        rfl
    refine vs_ifD hin (fun h3 => ?_) fun h3 => ?_
    · refine vs_asgD (ve_str (i := stS 0)) (fin (f' := f) (st' := 0) rfl ?_ (by decide) (fun h => by omega) (by omega) hq')
      unfold stepW
      rw [if_neg h1, if_neg h2, if_pos (by simpa using h3)]
    have h3 : ¬ (c = 32 ∨ c = 10) := fun z => by
      have : (c == 32 || c == 10) = true := by simpa using z
      rw [this] at h3
      cases h3
    refine vs_ifD (vt_orD (vt_andD (vt_BD (letter rfl)) fun _ => state (n := 2) (by decide) rfl) fun _ => vt_andD (sign (n := 62) rfl) fun _ => state (n := 3) (by decide) rfl) (fun h4 => ?_) fun h4 => ?_
    · have h4 : (isW c = true ∧ st = 2) ∨ (c = 62 ∧ st = 3) := by simpa using h4
      have hst2 : st = 2 ∨ st = 3 := by omega
      have hfn := hne hst2
      obtain ⟨⟨j, t⟩, r, rfl⟩ := List.exists_cons_of_ne_nil hfn
      have hfd : ((j, t) :: r).reverse.map pairD = r.reverse.map pairD ++ [pairD (j, t)] := by rw [List.reverse_cons, List.map_append]; rfl
      have hla : atI (((j, t) :: r).reverse.map pairD) (-1) = some (pairD (j, t)) := atI_neg1 (by rw [hfd]; exact List.getLast?_concat ..)
      have lst : ∀ {Γ : List Sl}, Γ[1]? = some (.own (((j, t) :: r).reverse.map pairD)) → VE ⟨K, B, H, none⟩ (tOp (rIx K) (tVar 1) (tUn (rU fun i => .int (-i)) (tC (.int 1)))) Γ (Is (pairD (j, t))) := fun h =>
        ve_opD (vv_own h) (ve_neg ve_int).v (od_ixL hla)
      have htl := hq (j, t) (List.mem_cons_self ..)
      have hset : ixN (((j, t) :: r).reverse.map pairD).length (-1) = some r.length := by
        rw [List.length_map, List.length_reverse, List.length_cons]
        unfold ixN
        rw [if_neg (by omega), if_pos (by omega)]
        congr 1
        omega
      refine vs_seq (Is [.dat (.str (Tx l)), .own (((j, t ++ [c]) :: r).reverse.map pairD), .dat (.str (stS st)), .dat (.int (i : Nat)), .dat (.str ⟨#[c]⟩)]) ?_ ?_
      · refine vs_setAt (k := r.length) (z := -1) rfl (ve_tupD (va_consD (ve_opD (lst rfl).v ve_int.v (od_ixT (z := .int (j : Nat)) rfl)) (va_consD (ve_opD (ve_opD (lst rfl).v ve_int.v (od_ixT (z := .str (Tx t)) rfl)).v (ve_var rfl).v (od_addS ?_)) va_nil))) (ve_neg ve_int) hset fun d ed => ?_
        · rw [tx_len, sizeLine_eq]
          have : (⟨#[c]⟩ : Str).length = 1 := rfl
          have htl : t.length ≤ i := htl
          omega
        · cases ed
          have e1 : Tx t ++ (⟨#[c]⟩ : Str) = Tx (t ++ [c]) := by
            show (⟨t.toArray ++ #[c]⟩ : Str) = ⟨_⟩
            simp
          show [_, _, _, _, _] = _
          rw [hfd, ← List.length_reverse, ← List.length_map (f := pairD), set_last, e1, List.reverse_cons, List.map_append]
          rfl
      · rintro Γ2 rfl
        refine vs_asgD (ve_ifD (state (n := 2) (by decide) rfl) (fun _ => ve_str (i := stS 2)) fun _ => ve_str (i := stS 4)) ?_
        refine fin (f' := (j, t ++ [c]) :: r) (st' := if st = 2 then 2 else 4) ?_ ?_ (by split <;> decide) (fun _ => by simp) (Nat.le_succ_of_le hf) (fun q hm => ?_)
        · by_cases h : st = 2
          · rw [if_pos h, if_pos (by rw [h]; rfl)]; rfl
          · rw [if_neg h, if_neg (fun z => h (eq_of_beq z))]; rfl
        · unfold stepW
          rw [if_neg h1, if_neg h2, if_neg h3, if_pos h4]
        · rcases List.mem_cons.mp hm with e | hm
          · subst e
            show (t ++ [c]).length ≤ i + 1
            rw [List.length_append]
            exact Nat.succ_le_succ htl
          · exact Nat.le_succ_of_le (hq q (List.mem_cons_of_mem _ hm))
    · have h4 : ¬ ((isW c = true ∧ st = 2) ∨ (c = 62 ∧ st = 3)) := fun z => by
        have : (isW c && st == 2 || c == 62 && st == 3) = true := by simpa using z
        rw [this] at h4
        cases h4
      refine vq_app rfl (ve_tupD (va_consD (ve_var rfl) (va_consD (ve_var rfl) va_nil)) (by show 2 ≤ 100000; decide)) (by rw [List.length_map, List.length_reverse]; omega) fun d ed => ?_
      cases ed
      refine vs_asgD (ve_ifD (vt_BD (letter rfl)) (fun _ => ve_str (i := stS 2)) fun _ => ve_ifD (sign (n := 45) rfl) (fun _ => ve_str (i := stS 3)) fun _ => ve_str (i := stS 4)) ?_
      refine fin (f' := (i, [c]) :: f) (st' := if isW c then 2 else if c = 45 then 3 else 4) ?_ ?_ (by split <;> (try split) <;> decide) (fun _ => by simp) (by simpa using hf) (fun q hm => ?_)
      · show [_, _, _, _, _] = _
        have e : f.reverse.map pairD ++ [.tuple [.int (i : Nat), .str ⟨#[c]⟩]] = ((i, [c]) :: f).reverse.map pairD := by rw [List.reverse_cons, List.map_append]; rfl
        rw [e]
        by_cases h : isW c = true
        · rw [if_pos h, if_pos h]
        · rw [if_neg h, if_neg h]
          by_cases h' : c = 45
          · rw [if_pos h', if_pos (by rw [h']; rfl)]
          · rw [if_neg h', if_neg (fun z => h' (eq_of_beq z))]
      · unfold stepW
        rw [if_neg h1, if_neg h2, if_neg h3, if_neg h4]
      · rcases List.mem_cons.mp hm with e | hm
        · subst e
          show 1 ≤ i + 1
          omega
        · exact hq' q hm
  · rintro Γ ⟨f, st, s3, s4, rfl, _, _, _, _, he⟩
    refine vs_retOwn 1 rfl fun l' ed => ?_
    obtain rfl := one_inj ed
    rw [List.drop_length] at he
    unfold walk
    rw [he]
    rfl
theorem ok__law_walk (T : Top K mg) : GOk P0 w K mg base CX0 2 T.f__law_walk T.fd__law_walk ["text"] (sp__law_walk K) :=
  pu_ok 4 T.F__law_walk sc__law_walk (fun ds ⟨l, e, _⟩ => by rw [e]; rfl) rfl fun cdv A outer s H E hg hr => ⟨_, d__law_walk T (ok__law_is_letter T) cdv A outer s H E hg hr, fun B H ds hP => vs__law_walk T hP⟩
end
end K05
namespace K05
open PySem PySem.Spec PyProof.Rows L2 Ly
/-! ### the plain law -/
/-- the tokens from a place on, from within a remark or not -/
def toksB (b : Bool) (i : Nat) (l : List Nat) : List (Nat × List Nat) :=
  if l.drop (skipN b l) = [] then [] else
    (i + skipN b l, (l.drop (skipN b l)).take (tokN (l.drop (skipN b l)))) :: toks (i + skipN b l + tokN (l.drop (skipN b l))) ((l.drop (skipN b l)).drop (tokN (l.drop (skipN b l))))
theorem toksB_false (i : Nat) (l : List Nat) : toksB false i l = toks i l := by
  unfold toksB
  by_cases h : l.drop (skipN false l) = []
  · rw [if_pos h, toks_end h]
  · rw [if_neg h, toks_more h]
theorem toksB_nil (b : Bool) (i : Nat) : toksB b i [] = [] := by cases b <;> rfl
theorem toksB_skip (b : Bool) (i c : Nat) (cs : List Nat) (h : b = true ∨ c = 32 ∨ c = 10 ∨ c = 35) : toksB b i (c :: cs) = toksB ((c != 10) && (b || c == 35)) (i + 1) cs := by
  have e : skipN b (c :: cs) = 1 + skipN ((c != 10) && (b || c == 35)) cs := by
    rw [skipN, if_pos]
    simp
    rcases h with h | h | h | h
    · exact Or.inl h
    · exact Or.inr (Or.inl (Or.inl h))
    · exact Or.inr (Or.inl (Or.inr h))
    · exact Or.inr (Or.inr h)
  unfold toksB
  rw [e, Nat.add_comm 1 (skipN _ cs), List.drop_succ_cons, show i + (skipN ((c != 10) && (b || c == 35)) cs + 1) = i + 1 + skipN ((c != 10) && (b || c == 35)) cs by omega]
theorem skipN_no (c : Nat) (cs : List Nat) (h : ¬ (c = 32 ∨ c = 10 ∨ c = 35)) : skipN false (c :: cs) = 0 := by
  rw [skipN, if_neg]
  simp
  omega
theorem toksB_tok (i c : Nat) (cs : List Nat) (h : ¬ (c = 32 ∨ c = 10 ∨ c = 35)) : toksB false i (c :: cs) = (i, (c :: cs).take (tokN (c :: cs))) :: toks (i + tokN (c :: cs)) ((c :: cs).drop (tokN (c :: cs))) := by
  unfold toksB
  rw [skipN_no c cs h, List.drop_zero, if_neg (by simp), Nat.add_zero]
theorem wordN_stop : ∀ l : List Nat, ∀ c r, l.drop (wordN l) = c :: r → isW c = false
  | [], c, r, h => by cases h
  | d :: l, c, r, h => by
    by_cases hd : isW d = true
    · rw [wordN, if_pos hd, Nat.add_comm, List.drop_succ_cons] at h
      exact wordN_stop l c r h
    · rw [wordN, if_neg hd, List.drop_zero] at h
      injection h with h1 h2
      rw [← h1]
      exact Bool.eq_false_iff.mpr hd
theorem wordN_app : ∀ (l r : List Nat), (∀ c z, r = c :: z → isW c = false) → wordN (l.take (wordN l) ++ r) = wordN l
  | [], r, h => by
    cases r with
    | nil => rfl
    | cons c z =>
      show wordN (c :: z) = 0
      rw [wordN, if_neg (by rw [h c z rfl]; decide)]
  | d :: l, r, h => by
    by_cases hd : isW d = true
    · rw [wordN, if_pos hd, Nat.add_comm, List.take_succ_cons, List.cons_append, wordN, if_pos hd, wordN_app l r h, Nat.add_comm]
    · rw [wordN, if_neg hd]
      cases r with
      | nil => rfl
      | cons c z =>
        show wordN (c :: z) = 0
        rw [wordN, if_neg (by rw [h c z rfl]; decide)]
theorem w_no {c : Nat} (h : c = 32 ∨ c = 10 ∨ c = 35 ∨ c = 45 ∨ c = 62) : isW c = false := by
  rcases h with rfl | rfl | rfl | rfl | rfl <;> rfl
/-- a token, cut out and followed by something else that ends it -/
theorem tokN_cut (l r : List Nat) (hl : l ≠ []) (h : r.head? = (l.drop (tokN l)).head? ∨ r = [] ∨ ∃ c z, r = c :: z ∧ (c = 32 ∨ c = 10 ∨ c = 35)) : tokN (l.take (tokN l) ++ r) = tokN l := by
  by_cases ha : l.take 2 = [45, 62]
  · have e : tokN l = 2 := by unfold tokN; rw [if_pos ha]
    rw [e, ha]
    unfold tokN
    rw [if_pos (show List.take 2 ([45, 62] ++ r) = [45, 62] from rfl)]
  · have e : tokN l = max 1 (wordN l) := by unfold tokN; rw [if_neg ha]
    obtain ⟨c, z, rfl⟩ := List.exists_cons_of_ne_nil hl
    by_cases hc : isW c = true
    · have hw : wordN (c :: z) = 1 + wordN z := by rw [wordN, if_pos hc]
      have e2 : tokN (c :: z) = wordN (c :: z) := by omega
      rw [e2] at h ⊢
      have hstop : ∀ c' z', r = c' :: z' → isW c' = false := by
        intro c' z' er
        subst er
        rcases h with h | h | ⟨c2, z2, h, h2⟩
        · cases hd : (c :: z).drop (wordN (c :: z)) with
          | nil => rw [hd] at h; cases h
          | cons c2 z2 =>
            rw [hd] at h
            injection h with h
            rw [h]
            exact wordN_stop _ _ _ hd
        · cases h
        · injection h with h _
          rw [h]
          exact w_no (by omega)
      have ew := wordN_app (c :: z) r hstop
      unfold tokN
      rw [if_neg, ew]
      · omega
      · rw [hw, Nat.add_comm, List.take_succ_cons, List.cons_append]
        intro q
        rw [show (2 : Nat) = 1 + 1 from rfl, List.take_succ_cons] at q
        injection q with q _
        rw [q] at hc
        cases hc
    · have hw : wordN (c :: z) = 0 := by rw [wordN, if_neg hc]
      have e2 : tokN (c :: z) = 1 := by omega
      rw [e2] at h ⊢
      show tokN (c :: r) = 1
      unfold tokN
      rw [if_neg, wordN, if_neg hc]
      · rfl
      · intro q
        cases r with
        | nil => cases q
        | cons c' z' =>
          have q : [c, c'] = [45, 62] := q
          injection q with q1 q2
          injection q2 with q2
          rcases h with h | h | ⟨c2, z2, h, h2⟩
          · cases z with
            | nil => cases h
            | cons c2 z2 =>
              have h : some c' = some c2 := h
              injection h with h
              apply ha
              rw [q1, ← h, q2]
              rfl
          · cases h
          · injection h with h _
            omega
/-! the walk -/
theorem noW (c : Nat) : ¬ ((isW c = true ∧ 0 = 2) ∨ (c = 62 ∧ 0 = 3)) := by
  rintro (⟨_, h⟩ | ⟨_, h⟩) <;> cases h
theorem stepW_0 (f : List (Nat × List Nat)) (st i c : Nat) (h1 : st ≠ 1) (h2 : ¬ ((isW c = true ∧ st = 2) ∨ (c = 62 ∧ st = 3))) : stepW (f, st) i c = stepW (f, 0) i c := by
  unfold stepW
  dsimp only
  rw [if_neg h1, if_neg (show ¬ (0 = 1) by decide)]
  by_cases a : c = 35
  · rw [if_pos a, if_pos a]
  · rw [if_neg a, if_neg a]
    by_cases b : c = 32 ∨ c = 10
    · rw [if_pos b, if_pos b]
    · rw [if_neg b, if_neg b, if_neg h2, if_neg (noW c)]
theorem walk_all : ∀ (n : Nat) (l : List Nat), l.length ≤ n → ∀ (i : Nat) (f : List (Nat × List Nat)),
    (walkW i l (f, 1)).1.reverse = f.reverse ++ toksB true i l ∧ (walkW i l (f, 0)).1.reverse = f.reverse ++ toks i l ∧ (walkW i l (f, 4)).1.reverse = f.reverse ++ toks i l ∧
    (∀ j t, (walkW i l ((j, t) :: f, 2)).1.reverse = ((j, t ++ l.take (wordN l)) :: f).reverse ++ toks (i + wordN l) (l.drop (wordN l))) ∧
    (∀ j t, (walkW i l ((j, t) :: f, 3)).1.reverse = if l.head? = some 62 then ((j, t ++ [62]) :: f).reverse ++ toks (i + 1) l.tail else ((j, t) :: f).reverse ++ toks i l)
  | _, [], _, i, f => by
    have e : toks i [] = [] := toks_end rfl
    have e2 : toksB true i [] = [] := rfl
    refine ⟨?_, ?_, ?_, fun j t => ?_, fun j t => ?_⟩ <;> simp [walkW, e, e2, wordN]
  | 0, c :: l, h, _, _ => by cases h
  | n + 1, c :: l, h, i, f => by
    have hl : l.length ≤ n := Nat.le_of_succ_le_succ h
    have r := walk_all n l hl (i + 1)
    -- from a gap
    have g0 : ∀ f : List (Nat × List Nat), (walkW (i + 1) l (stepW (f, 0) i c)).1.reverse = f.reverse ++ toks i (c :: l) := by
      intro f
      rw [← toksB_false]
      unfold stepW
      dsimp only
      rw [if_neg (show ¬ (0 = 1) by decide)]
      by_cases a : c = 35
      · rw [if_pos a, toksB_skip false i c l (by omega), (r f).1, a]
        rfl
      rw [if_neg a]
      by_cases b : c = 32 ∨ c = 10
      · rw [if_pos b, toksB_skip false i c l (by omega), (r f).2.1]
        rcases b with rfl | rfl
        · rw [← toksB_false]; rfl
        · rw [← toksB_false]; rfl
      rw [if_neg b, if_neg (noW c), toksB_tok i c l (by omega)]
      by_cases w : isW c = true
      · have hw : wordN (c :: l) = 1 + wordN l := by rw [wordN, if_pos w]
        have ha : ¬ (c :: l).take 2 = [45, 62] := by
          intro q
          rw [show (2 : Nat) = 1 + 1 from rfl, List.take_succ_cons] at q
          injection q with q _
          rw [q] at w
          cases w
        have e2 : tokN (c :: l) = wordN l + 1 := by unfold tokN; rw [if_neg ha]; omega
        rw [if_pos w, (r f).2.2.2.1 i [c], e2, List.take_succ_cons, List.drop_succ_cons, List.reverse_cons, List.append_assoc, show i + 1 + wordN l = i + (wordN l + 1) by omega]
        rfl
      · have hw : wordN (c :: l) = 0 := by rw [wordN, if_neg w]
        rw [if_neg w]
        by_cases d : c = 45
        · rw [if_pos d, (r f).2.2.2.2 i [c]]
          by_cases q : l.head? = some 62
          · obtain ⟨l', rfl⟩ : ∃ l', l = 62 :: l' := by
              cases l with
              | nil => cases q
              | cons x y =>
                injection q with q
                exact ⟨y, by rw [q]⟩
            have e2 : tokN (c :: 62 :: l') = 2 := by unfold tokN; rw [if_pos (by rw [d]; rfl)]
            rw [if_pos (show (62 :: l').head? = some 62 from rfl), e2, List.reverse_cons, List.append_assoc, d]
            rfl
          · have ha : ¬ (c :: l).take 2 = [45, 62] := by
              intro z
              cases l with
              | nil => cases z
              | cons x y =>
                have z : [c, x] = [45, 62] := z
                injection z with _ z
                injection z with z
                exact q (by rw [z]; rfl)
            have e2 : tokN (c :: l) = 1 := by unfold tokN; rw [if_neg ha]; omega
            rw [if_neg q, e2, List.reverse_cons, List.append_assoc]
            rfl
        · have ha : ¬ (c :: l).take 2 = [45, 62] := by
            intro q
            rw [show (2 : Nat) = 1 + 1 from rfl, List.take_succ_cons] at q
            injection q with q _
            exact d q
          have e2 : tokN (c :: l) = 1 := by unfold tokN; rw [if_neg ha]; omega
          rw [if_neg d, (r ((i, [c]) :: f)).2.2.1, e2, List.reverse_cons, List.append_assoc]
          rfl
    refine ⟨?_, g0 f, ?_, fun j t => ?_, fun j t => ?_⟩
    · rw [toksB_skip true i c l (Or.inl rfl)]
      show (walkW (i + 1) l (stepW (f, 1) i c)).1.reverse = _
      unfold stepW
      dsimp only
      rw [if_pos rfl]
      by_cases a : c = 10
      · rw [if_pos a, (r f).2.1, a, ← toksB_false]
        rfl
      · rw [if_neg a, (r f).1]
        have : ((c != 10) && (true || c == 35)) = true := by simpa using a
        rw [this]
    · show (walkW (i + 1) l (stepW (f, 4) i c)).1.reverse = _
      rw [stepW_0 f 4 i c (by decide) (by omega)]
      exact g0 f
    · show (walkW (i + 1) l (stepW ((j, t) :: f, 2) i c)).1.reverse = _
      by_cases w : isW c = true
      · have hno : ¬ (c = 32 ∨ c = 10 ∨ c = 35) := fun z => by
          rw [w_no (by omega)] at w
          cases w
        unfold stepW
        dsimp only
        rw [if_neg (by decide), if_neg (by omega), if_neg (by omega), if_pos (Or.inl ⟨w, rfl⟩), if_pos rfl, (r f).2.2.2.1 j (t ++ [c])]
        have hw : wordN (c :: l) = wordN l + 1 := by rw [wordN, if_pos w, Nat.add_comm]
        rw [hw, List.take_succ_cons, List.drop_succ_cons, List.append_assoc, show i + 1 + wordN l = i + (wordN l + 1) by omega]
        rfl
      · rw [stepW_0 _ 2 i c (by decide) (by rintro (⟨z, _⟩ | ⟨_, z⟩); exact w z; cases z), g0]
        have hw : wordN (c :: l) = 0 := by rw [wordN, if_neg w]
        rw [hw, List.take_zero, List.append_nil, List.drop_zero, Nat.add_zero]
    · show (walkW (i + 1) l (stepW ((j, t) :: f, 3) i c)).1.reverse = _
      by_cases w : c = 62
      · subst w
        unfold stepW
        dsimp only
        rw [if_neg (by decide), if_neg (by decide), if_neg (by decide), if_pos (Or.inr ⟨rfl, rfl⟩), if_neg (by decide), (r ((j, t ++ [62]) :: f)).2.2.1, if_pos (show (62 :: l).head? = some 62 from rfl)]
        rfl
      · rw [stepW_0 _ 3 i c (by decide) (by omega), g0, if_neg]
        intro z
        injection z with z
        exact w z
theorem walk_toks (l : List Nat) : walk l = toks 0 l := by
  unfold walk
  rw [(walk_all _ l (Nat.le_refl _) 0 []).2.1]
  rfl
end K05
namespace K05
open PySem PySem.Spec PyProof.Rows L2 Ly
def Tok (t : List Nat) : Prop := ∃ l, l ≠ [] ∧ skipN false l = 0 ∧ t = l.take (tokN l)
abbrev EndsTok (r : List Nat) : Prop := r = [] ∨ ∃ c z, r = c :: z ∧ (c = 32 ∨ c = 10 ∨ c = 35)
theorem skip_skip : ∀ (b : Bool) (l : List Nat), skipN false (l.drop (skipN b l)) = 0
  | _, [] => by simp [skipN]
  | b, c :: l => by
    by_cases h : (b || (c == 32 || c == 10 || c == 35)) = true
    · rw [skipN, if_pos h, Nat.add_comm, List.drop_succ_cons]
      exact skip_skip _ l
    · rw [skipN, if_neg h, List.drop_zero, skipN, if_neg]
      intro z
      apply h
      rw [Bool.false_or] at z
      rw [z, Bool.or_true]
theorem skip0 {l : List Nat} {c : Nat} {z : List Nat} (e : l = c :: z) (h : skipN false l = 0) : ¬ (c = 32 ∨ c = 10 ∨ c = 35) := by
  intro q
  subst e
  rw [skipN, if_pos (by simpa using or_assoc.mpr q)] at h
  omega
theorem tok_len {l : List Nat} (h : l ≠ []) : (l.take (tokN l)).length = tokN l := by
  rw [List.length_take]
  have := tokN_le h
  omega
theorem skip_same : ∀ (b : Bool) (l : List Nat) {c : Nat} {z : List Nat} (z' : List Nat), l.drop (skipN b l) = c :: z → skipN b (l.take (skipN b l) ++ c :: z') = skipN b l
  | b, [], c, z, z', h => by simp at h
  | b, d :: l, c, z, z', h => by
    by_cases hd : (b || (d == 32 || d == 10 || d == 35)) = true
    · rw [skipN, if_pos hd, Nat.add_comm, List.drop_succ_cons] at h
      rw [skipN, if_pos hd, Nat.add_comm, List.take_succ_cons, List.cons_append, skipN, if_pos hd, skip_same _ l z' h, Nat.add_comm]
    · rw [skipN, if_neg hd, List.drop_zero] at h
      injection h with h1 h2
      subst h1
      rw [skipN, if_neg hd, List.take_zero, List.nil_append, skipN, if_neg hd]
/-- a token behind a gap, and something that ends it -/
theorem toks_head (i : Nat) (l r : List Nat) (hd : l.drop (skipN false l) ≠ []) (h : r.head? = ((l.drop (skipN false l)).drop (tokN (l.drop (skipN false l)))).head? ∨ EndsTok r) :
    toks i (l.take (skipN false l) ++ ((l.drop (skipN false l)).take (tokN (l.drop (skipN false l))) ++ r)) = (i + skipN false l, (l.drop (skipN false l)).take (tokN (l.drop (skipN false l)))) :: toks (i + skipN false l + tokN (l.drop (skipN false l))) r := by
  have hl := tok_len hd
  have hc := tokN_cut (l.drop (skipN false l)) r hd h
  have hp := tokN_pos (l.drop (skipN false l))
  obtain ⟨c, z, e⟩ := List.exists_cons_of_ne_nil hd
  generalize hm : l.drop (skipN false l) = m at *
  have es : skipN false (l.take (skipN false l) ++ (m.take (tokN m) ++ r)) = skipN false l := by
    have hl1 : m.take (tokN m) ++ r = c :: (z.take (tokN m - 1) ++ r) := by
      rw [e]
      obtain ⟨n, hn⟩ : ∃ n, tokN (c :: z) = n + 1 := ⟨tokN (c :: z) - 1, by rw [← e]; omega⟩
      rw [hn, List.take_succ_cons, List.cons_append, Nat.add_sub_cancel]
    rw [hl1]
    exact skip_same false l _ (hm.trans e)
  have hlen : (l.take (skipN false l)).length = skipN false l := by
    rw [List.length_take]
    have := skipN_le false l
    omega
  have ed : (l.take (skipN false l) ++ (m.take (tokN m) ++ r)).drop (skipN false l) = m.take (tokN m) ++ r := by
    rw [List.drop_append_of_le_length (by omega), List.drop_of_length_le (by omega), List.nil_append]
  have hne : m.take (tokN m) ++ r ≠ [] := by
    intro q
    have := congrArg List.length q
    rw [List.length_append, hl] at this
    simp at this
    omega
  rw [toks_more (by rw [es, ed]; exact hne), es, ed, hc]
  have e1 : (m.take (tokN m) ++ r).take (tokN m) = m.take (tokN m) := by
    rw [List.take_append_of_le_length (by omega), List.take_take, Nat.min_self]
  have e2 : (m.take (tokN m) ++ r).drop (tokN m) = r := by
    rw [List.drop_append_of_le_length (by omega), List.drop_of_length_le (by omega), List.nil_append]
  rw [e1, e2]
theorem toks_tok (i : Nat) (t r : List Nat) (ht : Tok t) (h : EndsTok r) : toks i (t ++ r) = (i, t) :: toks (i + t.length) r := by
  obtain ⟨l, hl, hs, rfl⟩ := ht
  have := toks_head i l r (by rw [hs, List.drop_zero]; exact hl) (Or.inr h)
  rw [hs, List.drop_zero, List.take_zero, List.nil_append, Nat.add_zero] at this
  rw [this, tok_len hl]
theorem toks_are : ∀ (n : Nat) (l : List Nat) (i : Nat), l.length ≤ n → ∀ p ∈ toks i l, Tok p.2
  | 0, l, i, hn, p, hp => by
    obtain rfl := List.length_eq_zero_iff.mp (Nat.le_zero.mp hn)
    rw [toks_end rfl] at hp
    cases hp
  | n + 1, l, i, hn, p, hp => by
    by_cases hd : l.drop (skipN false l) = []
    · rw [toks_end hd] at hp
      cases hp
    · rw [toks_more hd] at hp
      rcases List.mem_cons.mp hp with e | hp
      · subst e
        exact ⟨_, hd, skip_skip false l, rfl⟩
      · have h1 : 0 < (l.drop (skipN false l)).length := List.length_pos_iff.mpr hd
        have h2 := tokN_pos (l.drop (skipN false l))
        rw [List.length_drop] at h1
        exact toks_are n _ _ (by rw [List.length_drop, List.length_drop]; omega) p hp
/-- joined by a sign -/
def joinN (s : Nat) : List (List Nat) → List Nat
  | [] => []
  | [t] => t
  | t :: u :: r => t ++ s :: joinN s (u :: r)
def laid (i : Nat) : List (List Nat) → List (Nat × List Nat)
  | [] => []
  | t :: r => (i, t) :: laid (i + t.length + 1) r
theorem toks_sep (i s : Nat) (hs : s = 32 ∨ s = 10) (l : List Nat) : toks i (s :: l) = toks (i + 1) l := by
  rw [← toksB_false, ← toksB_false, toksB_skip false i s l (by omega)]
  rcases hs with rfl | rfl <;> rfl
theorem toks_join (s : Nat) (hs : s = 32 ∨ s = 10) : ∀ (ts : List (List Nat)) (i : Nat), (∀ t ∈ ts, Tok t) → toks i (joinN s ts) = laid i ts
  | [], i, _ => toks_end rfl
  | [t], i, h => by
    have := toks_tok i t [] (h t (List.mem_singleton.mpr rfl)) (Or.inl rfl)
    rw [List.append_nil] at this
    show toks i t = _
    rw [this, toks_end rfl]
    rfl
  | t :: u :: r, i, h => by
    show toks i (t ++ s :: joinN s (u :: r)) = _
    rw [toks_tok i t _ (h t (List.mem_cons_self ..)) (Or.inr ⟨s, _, rfl, by omega⟩), toks_sep _ s hs, toks_join s hs (u :: r) _ fun x hx => h x (List.mem_cons_of_mem _ hx)]
    rfl
theorem laid_snd : ∀ (ts : List (List Nat)) (i : Nat), (laid i ts).map (·.2) = ts
  | [], _ => rfl
  | t :: r, i => by
    show t :: (laid _ r).map (·.2) = _
    rw [laid_snd r]
theorem laid_fst : ∀ (ts : List (List Nat)) (i : Nat), (laid i ts).map (·.1) = (List.range ts.length).map fun k => i + ((ts.take k).map fun t => t.length + 1).sum
  | [], _ => rfl
  | t :: r, i => by
    show i :: (laid _ r).map (·.1) = _
    rw [laid_fst r, List.length_cons, List.range_succ_eq_map, List.map_cons, List.map_map]
    congr 1
    apply List.map_congr_left
    intro k _
    show i + t.length + 1 + _ = i + (((t :: r).take (k + 1)).map fun t => t.length + 1).sum
    rw [List.take_succ_cons, List.map_cons, List.sum_cons]
    omega
theorem join_tx (s : Nat) : ∀ ts : List (List Nat), Txt.join (Tx [s]) (ts.map Tx) = Tx (joinN s ts) := fun ts => by
  rw [TL.join_eq]
  induction ts with
  | nil => rfl
  | cons t r ih =>
    cases r with
    | nil => rfl
    | cons u r =>
      show Tx t ++ Tx [s] ++ Str.join (Tx [s]) (List.map Tx (u :: r)) = Tx (t ++ s :: joinN s (u :: r))
      rw [ih]
      show (⟨t.toArray ++ #[s] ++ (joinN s (u :: r)).toArray⟩ : Str) = ⟨_⟩
      simp
theorem joinN_len (s : Nat) : ∀ ts : List (List Nat), (joinN s ts).length ≤ (ts.map fun t => t.length + 1).sum
  | [] => Nat.le_refl _
  | [t] => by simp [joinN]
  | t :: u :: r => by
    have := joinN_len s (u :: r)
    show (t ++ s :: joinN s (u :: r)).length ≤ _
    rw [List.length_append, List.length_cons, List.map_cons, List.sum_cons]
    omega
theorem toks_weight : ∀ (n : Nat) (l : List Nat) (i : Nat), l.length ≤ n → (((toks i l).map (·.2)).map fun t => t.length + 1).sum ≤ 2 * l.length
  | 0, l, i, hn => by
    obtain rfl := List.length_eq_zero_iff.mp (Nat.le_zero.mp hn)
    rw [toks_end rfl]
    exact Nat.le_refl _
  | n + 1, l, i, hn => by
    by_cases hd : l.drop (skipN false l) = []
    · rw [toks_end hd]
      exact Nat.zero_le _
    · have h1 : 0 < (l.drop (skipN false l)).length := List.length_pos_iff.mpr hd
      have h2 := tokN_pos (l.drop (skipN false l))
      have h3 := tokN_le hd
      rw [List.length_drop] at h1 h3
      have := toks_weight n ((l.drop (skipN false l)).drop (tokN (l.drop (skipN false l)))) (i + skipN false l + tokN (l.drop (skipN false l))) (by rw [List.length_drop, List.length_drop]; omega)
      rw [List.length_drop, List.length_drop] at this
      rw [toks_more hd, List.map_cons, List.map_cons, List.sum_cons]
      show (List.take _ _).length + 1 + _ ≤ _
      rw [tok_len hd]
      omega
/-! a remark behind a token -/
theorem toks_shift : ∀ (n : Nat) (l : List Nat) (i d : Nat), l.length ≤ n → toks (i + d) l = (toks i l).map fun p => (p.1 + d, p.2)
  | 0, l, i, d, hn => by
    obtain rfl := List.length_eq_zero_iff.mp (Nat.le_zero.mp hn)
    rw [toks_end rfl, toks_end rfl]
    rfl
  | n + 1, l, i, d, hn => by
    by_cases hd : l.drop (skipN false l) = []
    · rw [toks_end hd, toks_end hd]
      rfl
    · have h1 : 0 < (l.drop (skipN false l)).length := List.length_pos_iff.mpr hd
      have h2 := tokN_pos (l.drop (skipN false l))
      rw [List.length_drop] at h1
      have := toks_shift n ((l.drop (skipN false l)).drop (tokN (l.drop (skipN false l)))) (i + skipN false l + tokN (l.drop (skipN false l))) d (by rw [List.length_drop, List.length_drop]; omega)
      rw [toks_more hd, toks_more hd, List.map_cons, ← this]
      congr 2
      · omega
      · omega
theorem toksB_remark (r : List Nat) : ∀ (w : List Nat) (i : Nat), 10 ∉ w → toksB true i (w ++ 10 :: r) = toks (i + w.length + 1) r
  | [], i, _ => by
    rw [List.nil_append, toksB_skip true i 10 r (Or.inl rfl), ← toksB_false]
    rfl
  | c :: w, i, h => by
    rw [List.cons_append, toksB_skip true i c _ (Or.inl rfl)]
    have : ((c != 10) && (true || c == 35)) = true := by
      have : c ≠ 10 := fun z => h (by rw [z]; exact List.mem_cons_self ..)
      simpa using this
    rw [this, toksB_remark r w _ fun z => h (List.mem_cons_of_mem _ z), List.length_cons]
    congr 1
    omega
abbrev rem : List Nat := [32, 45, 62, 32, 51, 32, 59, 32, 120]
theorem toks_remark (i : Nat) (r : List Nat) : toks i (35 :: (rem ++ 10 :: r)) = toks (i + 11) r := by
  rw [← toksB_false, toksB_skip false i 35 _ (by omega)]
  show toksB true (i + 1) (rem ++ 10 :: r) = _
  rw [toksB_remark r rem (i + 1) (by decide)]
  exact congrArg (fun x => toks x r) (show i + 1 + 9 + 1 = i + 11 by omega)
theorem toks_at : ∀ (n : Nat) (l : List Nat) (i k : Nat) (p : Nat × List Nat), l.length ≤ n → (toks i l)[k]? = some p →
    ∃ e, i + e = p.1 + p.2.length ∧ 1 ≤ e ∧ e ≤ l.length ∧ toks i l = (toks i l).take (k + 1) ++ toks (i + e) (l.drop e) ∧ ∀ z, toks i (l.take e ++ 35 :: z) = (toks i l).take (k + 1) ++ toks (i + e) (35 :: z)
  | 0, l, i, k, p, hn, h => by
    obtain rfl := List.length_eq_zero_iff.mp (Nat.le_zero.mp hn)
    rw [toks_end rfl] at h
    cases h
  | n + 1, l, i, k, p, hn, h => by
    by_cases hd : l.drop (skipN false l) = []
    · rw [toks_end hd] at h
      cases h
    · have h1 : 0 < (l.drop (skipN false l)).length := List.length_pos_iff.mpr hd
      have h2 := tokN_pos (l.drop (skipN false l))
      have h3 := tokN_le hd
      have h4 := skipN_le false l
      have hl := tok_len hd
      have ht := toks_head i l
      rw [List.length_drop] at h1 h3
      have hcut : ∀ x, l.take (skipN false l + tokN (l.drop (skipN false l)) + x) = l.take (skipN false l) ++ ((l.drop (skipN false l)).take (tokN (l.drop (skipN false l))) ++ ((l.drop (skipN false l)).drop (tokN (l.drop (skipN false l)))).take x) := fun x => by
        rw [Nat.add_assoc, List.take_add, List.take_add]
      rw [toks_more hd] at h ⊢
      cases k with
      | zero =>
        injection h with h
        subst h
        refine ⟨skipN false l + tokN (l.drop (skipN false l)), ?_, by omega, by omega, ?_, fun z => ?_⟩
        · show _ = i + skipN false l + (List.take _ _).length
          rw [hl]
          omega
        · rw [List.take_succ_cons, List.take_zero, List.drop_drop, ← Nat.add_assoc]
          rfl
        · have := hcut 0
          rw [Nat.add_zero, List.take_zero, List.append_nil] at this
          rw [this, List.append_assoc, ht (35 :: z) hd (Or.inr (Or.inr ⟨35, z, rfl, by omega⟩)), List.take_succ_cons, List.take_zero, ← Nat.add_assoc]
          rfl
      | succ k =>
        have h : (toks (i + skipN false l + tokN (l.drop (skipN false l))) ((l.drop (skipN false l)).drop (tokN (l.drop (skipN false l)))))[k]? = some p := h
        obtain ⟨e, g1, g2, g3, g4, g5⟩ := toks_at n _ _ k p (by rw [List.length_drop, List.length_drop]; omega) h
        rw [List.length_drop, List.length_drop] at g3
        refine ⟨skipN false l + tokN (l.drop (skipN false l)) + e, by omega, by omega, by omega, ?_, fun z => ?_⟩
        · rw [List.take_succ_cons, List.cons_append, ← Nat.add_assoc, ← Nat.add_assoc]
          congr 1
          rw [List.drop_drop, List.drop_drop] at g4
          rw [List.drop_drop]
          exact g4.trans (by rw [Nat.add_assoc (skipN false l)])
        · rw [hcut e, List.append_assoc, List.append_assoc, ht _ hd, g5 z, List.take_succ_cons, ← Nat.add_assoc, ← Nat.add_assoc]
          · rfl
          · left
            cases hm : (l.drop (skipN false l)).drop (tokN (l.drop (skipN false l))) with
            | nil =>
              have := congrArg List.length hm
              rw [List.length_drop, List.length_drop] at this
              simp at this
              omega
            | cons x y =>
              cases e with
              | zero => omega
              | succ e => rfl
theorem toks_more_remark (l : List Nat) (k : Nat) (p : Nat × List Nat) (h : (toks 0 l)[k]? = some p) :
    toks 0 (l.take (p.1 + p.2.length) ++ (35 :: rem ++ [10]) ++ l.drop (p.1 + p.2.length)) = (toks 0 l).take (k + 1) ++ ((toks 0 l).drop (k + 1)).map fun p => (p.1 + 11, p.2) := by
  obtain ⟨e, g1, g2, g3, g4, g5⟩ := toks_at _ l 0 k p (Nat.le_refl _) h
  have ee : p.1 + p.2.length = e := by omega
  have hk : k < (toks 0 l).length := (List.getElem?_eq_some_iff.mp h).1
  have hd : (toks 0 l).drop (k + 1) = toks e (l.drop e) := by
    have key : ∀ A B : List (Nat × List Nat), A.length = k + 1 → (A ++ B).drop (k + 1) = B := fun A B hA => by rw [List.drop_append_of_le_length (by omega), List.drop_of_length_le (by omega), List.nil_append]
    refine (congrArg (List.drop (k + 1)) g4).trans ((key _ _ (by rw [List.length_take]; omega)).trans ?_)
    rw [Nat.zero_add]
  rw [ee, List.append_assoc, hd]
  have := g5 (rem ++ 10 :: l.drop e)
  rw [Nat.zero_add, toks_remark, toks_shift _ (l.drop e) e 11 (Nat.le_refl _)] at this
  exact this
end K05
namespace K05
open PySem PySem.Spec PyProof.Rows L2 Ly
section
variable {P0 : Program} {w : World} {K : PySem.W.Frag} {mg : Str → Option Value} {base : Heap} {B H : Hp}
def sndD : D → D
  | .tuple [_, b] => b
  | d => d
def fstD : D → D
  | .tuple [a, _] => a
  | d => d
abbrev tksD (l : List Nat) : List D := (toks 0 l).map fun p => .str (Tx p.2)
abbrev plsD (l : List Nat) : List D := (toks 0 l).map fun p => .int (p.1 : Nat)
abbrev dueD (l : List Nat) : List D := (toks 0 l).map pairD
/-- what the names hold -/
abbrev G5 (ns : List Int) (l : List Nat) (s6 s7 s8 s9 s10 s11 : Sl) : List Sl := [.rd (ns.map V.int), .deal, .dat (.str (Tx l)), .dat (.list (dueD l)), .dat (.tuple (tksD l)), .dat (.tuple (plsD l)), s6, s7, s8, s9, s10, s11]
section
variable {l : List Nat} (hl : l.length ≤ 1000) (hc : ∀ c ∈ l, c < 128)
include hl
theorem tl5 : (toks 0 l).length ≤ 1000 := Nat.le_trans (toks_len _ l 0 (Nat.le_refl _)) hl
theorem tk_le {p : Nat × List Nat} (h : p ∈ toks 0 l) : p.1 ≤ 1000 ∧ p.2.length ≤ 1000 ∧ ∀ c ∈ p.2, c ∈ l := by
  obtain ⟨h1, h2, h3⟩ := toks_mem _ l 0 (Nat.le_refl _) p h
  refine ⟨by omega, ?_, fun c hc => ?_⟩
  · rw [h3, List.length_take, List.length_drop]
    omega
  · rw [h3] at hc
    exact List.mem_of_mem_drop (List.mem_of_mem_take hc)
include hc
theorem smS5 {p : Nat × List Nat} (h : p ∈ toks 0 l) : Sm (.str (Tx p.2)) 0 1000 := by
  obtain ⟨h1, h2, h3⟩ := tk_le hl h
  refine sm_str (fun c hc' => ?_) (by rw [tx_len]; exact h2)
  rw [tx_list] at hc'
  have := hc c (h3 c hc')
  omega
theorem sm_tks : Sm (.tuple (tksD l)) 1 1048576 := by
  refine (Sm.tup (SmA.of (k := 0) (n := 1000) fun d hd => ?_)).mono (Nat.le_refl _) ?_
  · obtain ⟨p, hp, rfl⟩ := List.mem_map.mp hd
    exact smS5 hl hc hp
  · rw [List.length_map]
    have := tl5 hl
    omega
theorem sm_pls : Sm (.tuple (plsD l)) 1 1048576 := by
  refine (Sm.tup (SmA.of (k := 0) (n := 41) fun d hd => ?_)).mono (Nat.le_refl _) ?_
  · obtain ⟨p, hp, rfl⟩ := List.mem_map.mp hd
    have := (tk_le hl hp).1
    refine sm_int ?_
    rw [Int.natAbs_natCast]
    omega
  · rw [List.length_map]
    have := tl5 hl
    omega
theorem sh_due : SeqAt.shaped (.list (dueD l)) = true := by
  refine (Sm.list (k := 1) (SmA.of (n := 41 + 1 + (1000 + 1 + 0)) fun d hd => ?_)).shaped
  obtain ⟨p, hp, rfl⟩ := List.mem_map.mp hd
  refine Sm.tup (SmA.cons (k := 0) (n := 41) (sm_int ?_) (SmA.cons (n := 1000) (smS5 hl hc hp) (SmA.nil (n := 0))))
  have := (tk_le hl hp).1
  rw [Int.natAbs_natCast]
  omega
end
section
variable {C : Cn} {Γ : List Sl} {te : TE} {l : List Nat}
theorem call_tks (h : VE C te Γ (Is (.str (Tx l)))) (hl : l.length ≤ 90000) : VE C (tCallK (sp_tokens_of C.K) (fun vs _ => vs) E0 (tCons te tNil) tNil) Γ (Is (.tuple (tksD l))) := (ve_callD (va_consD h va_nil) ⟨l, rfl, hl⟩).imp fun d r => r l rfl
theorem call_pls (h : VE C te Γ (Is (.str (Tx l)))) (hl : l.length ≤ 90000) : VE C (tCallK (sp_token_places C.K) (fun vs _ => vs) E0 (tCons te tNil) tNil) Γ (Is (.tuple (plsD l))) := (ve_callD (va_consD h va_nil) ⟨l, rfl, hl⟩).imp fun d r => r l rfl
end
theorem vs_law (T : Top K mg) {ns : List Int} (hn : ns.length ≤ 63) : VS ⟨K, H, H, none⟩ (t_law T) (.rd (ns.map V.int) :: List.replicate 11 .no) { nx := fun _ => False, rt := Is (.bool true) } := by
  refine vs_begin (s := 5) (n := 10) hn (k := fun B H p q => ?_)
  refine vq_asg (ve_deD (i := 1) rfl va_nil rfl) fun d ⟨l, ed, hl, hc⟩ => ?_
  subst ed
  have hz : (Tx l).length ≤ 1000000 := by rw [tx_len]; omega
  refine vq_asgD (((ve_callD (va_consD (ve_var rfl) va_nil) ⟨l, rfl, by omega, hc⟩).imp fun d r => r l rfl).to (y := .list (dueD l)) (by rw [walk_toks])) ?_
  have hD := tl5 hl
  have mT := sm_tks hl hc
  have mP := sm_pls hl hc
  have due : ∀ (f : D → D) (g : Nat × List Nat → D), (∀ p, f (pairD p) = g p) → (dueD l).map f = (toks 0 l).map g := fun f g h => by
    rw [List.map_map]
    exact List.map_congr_left fun p _ => h p
  refine vs_seq (Is (G5 ns l .no .no .no .no .no .no)) (vs_asgG (ve_tupD (va_consD (ve_tupL ((vl_map sndD (va_listD (ve_var rfl)) (by rw [List.length_map]; omega) fun d hd => ?_).to (due sndD (fun p => .str (Tx p.2)) fun _ => rfl)).vd) (va_consD (ve_tupL ((vl_map fstD (va_listD (ve_var rfl)) (by rw [List.length_map]; omega) fun d hd => ?_).to (due fstD (fun p => .int (p.1 : Nat)) fun _ => rfl)).vd) va_nil))) fun d e => ?_) ?_
  · obtain ⟨p, _, rfl⟩ := List.mem_map.mp hd
    exact ⟨_, _, vg_tup2 vg_name vg_name, fun j hj => hj, ve_var rfl⟩
  · obtain ⟨p, _, rfl⟩ := List.mem_map.mp hd
    exact ⟨_, _, vg_tup2 vg_name vg_name, fun j hj => hj, ve_var rfl⟩
  · cases e
    exact ⟨_, _, vg_tup2 vg_name vg_name, rfl⟩
  rintro Γ rfl
  -- the two looks
  refine vs_seq (fun Γ => ∃ s8, Γ = G5 ns l .no .no s8 .no .no .no) (vs_for (vi_rng1D (n := 2) ve_int) fun ds _ => ⟨fun _ Γ => ∃ s8, Γ = G5 ns l .no .no s8 .no .no .no, ⟨_, rfl⟩, ?_, fun Γ' h => h⟩) ?_
  · rintro i d Γ' _ ⟨s8, rfl⟩
    refine ⟨_, _, vg_name, ?_⟩
    refine vs_ifD (x := false) ((vt_orD (b := false) (c := false) (vt_testD (ve_opD (ve_reprS ((ve_kwD (gD := kf_tokens_of_0_text) kd_tokens_of_0_text va_nil (va_consD (ve_var rfl) va_nil) ⟨l, rfl, by omega⟩).imp fun d r => r l rfl).v mT).v (ve_reprS (ve_var rfl).v mT).v (od_neSSame rfl)))
      fun _ => vt_testD (ve_opD (ve_reprS ((ve_kwD (gD := kf_token_places_0_text) kd_token_places_0_text va_nil (va_consD (ve_var rfl) va_nil) ⟨l, rfl, by omega⟩).imp fun d r => r l rfl).v mP).v (ve_reprS (ve_var rfl).v mP).v (od_neSSame rfl))).to rfl) (fun h => by cases h) fun _ => vs_next ⟨_, rfl⟩
  rintro Γ ⟨s8, rfl⟩
  -- joined
  have hTok : ∀ t ∈ (toks 0 l).map (·.2), Tok t := fun t ht => by
    obtain ⟨p, hp, rfl⟩ := List.mem_map.mp ht
    exact toks_are _ l 0 (Nat.le_refl _) p hp
  have hw := toks_weight _ l 0 (Nat.le_refl _)
  have jn : ∀ (s : Nat) {Γ : List Sl}, Γ[4]? = some (.dat (.tuple (tksD l))) → VE ⟨K, B, H, some (p, q)⟩ (tM1 (rJoin K) (tC (.str (Tx [s]))) (tVar 4)) Γ (Is (.str (Tx (joinN s ((toks 0 l).map (·.2)))))) := fun s Γ h => by
    have e : tksD l = (((toks 0 l).map (·.2)).map Tx).map .str := by rw [List.map_map, List.map_map]; rfl
    refine (ve_joinT (s := Tx [s]) (ys := ((toks 0 l).map (·.2)).map Tx) ve_str ((ve_var h).to (congrArg PyData.tuple e)) ?_).to (by rw [join_tx])
    have h1 : (((toks 0 l).map (·.2)).map Tx).length ≤ 1000 := by rw [List.length_map, List.length_map]; exact hD
    have h2 := sum_len (((toks 0 l).map (·.2)).map Tx) 1000 fun s hs => by
      obtain ⟨t, ht, rfl⟩ := List.mem_map.mp hs
      obtain ⟨p, hp, rfl⟩ := List.mem_map.mp ht
      rw [tx_len]
      exact (tk_le hl hp).2.1
    have h3 : (Tx [s]).length = 1 := rfl
    rw [h3]
    omega
  have hj : ∀ s, (joinN s ((toks 0 l).map (·.2))).length ≤ 2000 := fun s => by
    have := joinN_len s ((toks 0 l).map (·.2))
    omega
  have ej : ∀ s, s = 32 ∨ s = 10 → toks 0 (joinN s ((toks 0 l).map (·.2))) = laid 0 ((toks 0 l).map (·.2)) := fun s hs => toks_join s hs _ 0 hTok
  have et : ∀ s, s = 32 ∨ s = 10 → tksD (joinN s ((toks 0 l).map (·.2))) = tksD l := fun s hs => by
    have e : ∀ xs : List (Nat × List Nat), (xs.map fun p => PyData.str (Tx p.2)) = (xs.map (·.2)).map fun t => .str (Tx t) := fun xs => by rw [List.map_map]; rfl
    show (List.map _ (toks 0 _)) = _
    rw [ej s hs, e, laid_snd, ← e]
  refine vq_ifD (x := false) ((vt_orD (b := false) (c := false) (vt_testD (ve_opD (call_tks (jn 32 rfl) (by have := hj 32; omega)).v (ve_var rfl).v (by rw [et 32 (Or.inl rfl)]; exact od_neSame mT rfl)))
    fun _ => vt_testD (ve_opD (call_tks (jn 10 rfl) (by have := hj 10; omega)).v (ve_var rfl).v (by rw [et 10 (Or.inr rfl)]; exact od_neSame mT rfl))).to rfl) (fun h => by cases h) fun _ => vq_next ?_
  -- the places of the joined
  have ep : plsD (joinN 32 ((toks 0 l).map (·.2))) = (upTo 0 (toks 0 l).length).map fun d => match d with
      | .int k => .int ((((((toks 0 l).map (·.2)).take k.toNat).map fun t => t.length + 1).sum : Nat) : Int)
      | d => d := by
    have e : plsD (joinN 32 ((toks 0 l).map (·.2))) = ((laid 0 ((toks 0 l).map (·.2))).map (·.1)).map fun (n : Nat) => .int n := by
      show List.map _ (toks 0 _) = _
      rw [ej 32 (Or.inl rfl), List.map_map]
      rfl
    rw [e, laid_fst, List.length_map, Ly.upTo, List.map_map, List.map_map]
    refine List.map_congr_left fun k _ => ?_
    show PyData.int ((0 + _ : Nat) : Int) = .int (((((((toks 0 l).map (·.2)).take ((0 : Int) + (k : Nat)).toNat).map fun t => t.length + 1).sum : Nat)) : Int)
    rw [Nat.zero_add, Int.zero_add, Int.toNat_natCast]
  have smJ : Sm (.tuple (plsD (joinN 32 ((toks 0 l).map (·.2))))) 1 1048576 := by
    have ht := toks_len _ (joinN 32 ((toks 0 l).map (·.2))) 0 (Nat.le_refl _)
    have hj := hj 32
    refine (Sm.tup (SmA.of (k := 0) (n := 41) fun d hd => ?_)).mono (Nat.le_refl _) ?_
    · obtain ⟨p, hp, rfl⟩ := List.mem_map.mp hd
      have := (toks_mem _ _ 0 (Nat.le_refl _) p hp).2.1
      refine sm_int ?_
      rw [Int.natAbs_natCast]
      omega
    · rw [List.length_map]
      omega
  refine vq_ifD (x := false) (vt_testD (ve_opD (call_pls (jn 32 rfl) (by have := hj 32; omega)).v (ve_tupL (vl_map _ (vi_rng1D (n := ((toks 0 l).length : Int)) ((ve_lenT (ve_var rfl)).to (by rw [List.length_map])) (by omega)) (by rw [upTo_len]; omega) fun d hd => ?_).vd).v (od_neSame smJ (congrArg PyData.tuple ep)))) (fun h => by cases h) fun _ => vq_next ?_
  · obtain ⟨k, hk, rfl⟩ := upTo_mem hd
    refine ⟨_, _, vg_name, fun j hj => hj, ?_⟩
    have ec : cut (tksD l) none (some ((0 : Int) + (k : Nat))) = (((toks 0 l).map (·.2)).take k).map fun t => .str (Tx t) := by
      rw [Int.zero_add, cut_to, List.map_take, List.map_map]
      rfl
    refine (ve_sum (ns := (((toks 0 l).map (·.2)).take k).map fun t => ((t.length + 1 : Nat) : Int)) ((vl_map (fun d => match d with
      | .str s => .int (s.length + 1 : Nat)
      | d => d) (va_tupD ((ve_slT (ve_var rfl) vo_none (vo_someD (ve_var rfl))).to (congrArg PyData.tuple ec))) (by rw [List.length_map, List.length_take, List.length_map]; omega) fun d hd => ?_).to ?_).vd).to ?_
    · obtain ⟨t, ht, rfl⟩ := List.mem_map.mp hd
      obtain ⟨p, hp, rfl⟩ := List.mem_map.mp (List.mem_of_mem_take ht)
      refine ⟨_, _, vg_name, fun j hj => hj, ?_⟩
      exact (ve_opD (ve_lenS (by rw [tx_len]; have := (tk_le hl hp).2.1; omega) (ve_var rfl)).v ve_int.v od_add).to rfl
    · rw [List.map_map, List.map_map]
      refine List.map_congr_left fun t _ => ?_
      show PyData.int (((Tx t).length + 1 : Nat) : Int) = .int ((t.length + 1 : Nat) : Int)
      rw [tx_len]
    · show PyData.int _ = .int (((((((toks 0 l).map (·.2)).take ((0 : Int) + (k : Nat)).toNat).map fun t => t.length + 1).sum : Nat)) : Int)
      rw [Int.zero_add, Int.toNat_natCast]
      congr 1
      generalize ((toks 0 l).map (·.2)).take k = xs
      induction xs with
      | nil => rfl
      | cons x xs ih => rw [List.map_cons, List.map_cons, List.sum_cons, List.sum_cons, ih]; omega
  -- a remark
  refine vs_seq (fun _ => True) ?_ fun Γ _ => ?_
  · have hne : VT ⟨K, B, H, some (p, q)⟩ (tTest (tOp (rNeA K) (tVar 3) (tLst tNil))) (G5 ns l .no .no s8 .no .no .no) (Is (!(toks 0 l).isEmpty)) := by
      refine vt_testD (ve_opD (ve_var rfl).v (vl_lstD va_nil).vd (od_neD (sh_due hl hc) rfl ?_))
      show PyData.eqvAll ((toks 0 l).map pairD) [] = _
      cases toks 0 l <;> rfl
    refine vs_ifD hne (fun h => ?_) fun _ => vs_next trivial
    have hp : 0 < (toks 0 l).length := by
      cases e : toks 0 l with
      | nil => rw [e] at h; cases h
      | cons _ _ => exact Nat.succ_pos _
    refine vq_asg (ve_anyI (i := 1) rfl ((ve_lenL (ve_var rfl).v).to (y := .int ((toks 0 l).length : Nat)) (by rw [List.length_map])) (by omega) (by omega)) fun d ⟨r, ed, h0, h1⟩ => ?_
    subst ed
    obtain ⟨k, rfl⟩ := Int.eq_ofNat_of_zero_le h0
    have hk : k < (toks 0 l).length := by omega
    obtain ⟨⟨j, t⟩, hg⟩ : ∃ p, (toks 0 l)[k]? = some p := ⟨_, List.getElem?_eq_getElem hk⟩
    have hmem := List.mem_of_getElem? hg
    obtain ⟨b1, b2, b3⟩ := tk_le hl hmem
    have b1 : j ≤ 1000 := b1
    have b2 : t.length ≤ 1000 := b2
    have at3 : ∀ {Γ : List Sl}, Γ[3]? = some (.dat (.list (dueD l))) → Γ[6]? = some (.dat (.int (k : Nat))) → VE ⟨K, B, H, some (p, q)⟩ (tOp (rIx K) (tVar 3) (tVar 6)) Γ (Is (pairD (j, t))) := fun h3 h6 =>
      ve_opD (ve_var h3).v (ve_var h6).v (od_ixL (atI_pos (by rw [List.getElem?_map, hg]; rfl)))
    refine vq_asgD ((ve_opD (ve_opD (at3 rfl rfl).v ve_int.v (od_ixT (z := .int (j : Nat)) rfl)).v (ve_lenS (s := Tx t) (by rw [tx_len]; omega) (ve_opD (at3 rfl rfl).v ve_int.v (od_ixT (z := .str (Tx t)) rfl))).v od_add).to (y := .int ((j + t.length : Nat) : Int)) (by rw [tx_len]; rfl)) ?_
    have cutT : Tx (l.take (j + t.length)) ++ ("# -> 3 ; x\n" : Str) ++ Tx (l.drop (j + t.length)) = Tx (l.take (j + t.length) ++ (35 :: rem ++ [10]) ++ l.drop (j + t.length)) := by
      have e : ("# -> 3 ; x\n" : Str) = Tx (35 :: rem ++ [10]) := by decide +kernel
      rw [e]
      show (⟨(l.take (j + t.length)).toArray ++ (35 :: rem ++ [10]).toArray ++ (l.drop (j + t.length)).toArray⟩ : Str) = ⟨_⟩
      simp
    have l1 : (l.take (j + t.length)).length ≤ 1000 := by rw [List.length_take]; omega
    have l2 : (l.drop (j + t.length)).length ≤ 1000 := by rw [List.length_drop]; omega
    have l3 : ("# -> 3 ; x\n" : Str).length = 11 := by decide +kernel
    refine vq_asgD ((ve_opD (ve_opD ((ve_slS hz (ve_var rfl) vo_none (vo_someD (ve_var rfl))).to (y := .str (Tx (l.take (j + t.length)))) (by rw [tx_list, cut_to])).v ve_str.v (od_addS (by rw [tx_len, l3, sizeLine_eq]; omega))).v
      ((ve_slS hz (ve_var rfl) (vo_someD (ve_var rfl)) vo_none).to (y := .str (Tx (l.drop (j + t.length)))) (by rw [tx_list, cut_from])).v (od_addS ?_)).to (congrArg PyData.str cutT)) ?_
    · show (⟨(l.take (j + t.length)).toArray ++ ("# -> 3 ; x\n" : Str).cps⟩ : Str).length + _ ≤ _
      have : (⟨(l.take (j + t.length)).toArray ++ ("# -> 3 ; x\n" : Str).cps⟩ : Str).length = (l.take (j + t.length)).length + ("# -> 3 ; x\n" : Str).length := by simp [Str.length]
      rw [this, l3, tx_len, sizeLine_eq]
      omega
    have hmore := toks_more_remark l k (j, t) hg
    have hml : (l.take (j + t.length) ++ (35 :: rem ++ [10]) ++ l.drop (j + t.length)).length ≤ 90000 := by
      rw [List.length_append, List.length_append]
      have : (35 :: rem ++ [10]).length = 11 := rfl
      omega
    generalize hM : l.take (j + t.length) ++ (35 :: rem ++ [10]) ++ l.drop (j + t.length) = M at hml
    rw [hM] at hmore
    have e1 : tksD M = tksD l := by
      show List.map _ (toks 0 M) = _
      rw [hmore, List.map_append, List.map_map]
      show List.map _ (List.take (k + 1) (toks 0 l)) ++ List.map (fun p => PyData.str (Tx p.2)) (List.drop (k + 1) (toks 0 l)) = _
      rw [← List.map_append, List.take_append_drop]
    have e2 : cut (plsD M) (some ((k + 1 : Nat) : Int)) none = ((toks 0 l).drop (k + 1)).map fun p => .int ((p.1 + 11 : Nat) : Int) := by
      rw [cut_from]
      show List.drop (k + 1) (List.map _ (toks 0 M)) = _
      rw [hmore, ← List.map_drop, List.drop_append_of_le_length (by rw [List.length_take]; omega), List.drop_of_length_le (by rw [List.length_take]; omega), List.nil_append, List.map_map]
      rfl
    have e3 : cut (plsD l) (some ((k + 1 : Nat) : Int)) none = ((toks 0 l).drop (k + 1)).map fun p => .int (p.1 : Nat) := by
      rw [cut_from, List.map_drop]
    have sm2 : Sm (.tuple (((toks 0 l).drop (k + 1)).map fun p => .int ((p.1 + 11 : Nat) : Int))) 1 1048576 := by
      refine (Sm.tup (SmA.of (k := 0) (n := 41) fun d hd => ?_)).mono (Nat.le_refl _) ?_
      · obtain ⟨p, hp, rfl⟩ := List.mem_map.mp hd
        have := (tk_le hl (List.mem_of_mem_drop hp)).1
        refine sm_int ?_
        rw [Int.natAbs_natCast]
        omega
      · rw [List.length_map, List.length_drop]
        omega
    refine vs_ifD (x := false) ((vt_orD (b := false) (c := false) (vt_testD (ve_opD (call_tks (ve_var rfl) hml).v (ve_var rfl).v (by rw [e1]; exact od_neSame mT rfl)))
      fun _ => vt_testD (ve_opD ((ve_slT (call_pls (ve_var rfl) hml) (vo_someD (ve_opD (ve_var rfl).v ve_int.v od_add)) vo_none).to (congrArg PyData.tuple e2)).v (ve_tupL (vl_map (fun d => match d with
        | .int z => .int (z + 11)
        | d => d) (va_tupD ((ve_slT (ve_var rfl) (vo_someD (ve_opD (ve_var rfl).v ve_int.v od_add)) vo_none).to (congrArg PyData.tuple e3))) (by rw [List.length_map, List.length_drop]; omega) fun d hd => ?_).vd).v (od_neSame sm2 ?_))).to rfl) (fun h => by cases h) fun _ => vs_next trivial
    · obtain ⟨p, hp, rfl⟩ := List.mem_map.mp hd
      exact ⟨_, _, vg_name, fun j hj => hj, ve_opD (ve_var rfl).v ve_int.v od_add⟩
    · rw [List.map_map]
      refine congrArg PyData.tuple (List.map_congr_left fun p _ => ?_)
      rfl
  · have t1 : tksD [] = [] := by show List.map _ (toks 0 []) = _; rw [toks_end rfl]; rfl
    have t2 : plsD [35, 32, 97] = [] := by show List.map _ (toks 0 [35, 32, 97]) = _; rw [toks_end rfl]; rfl
    have c1 : ("" : Str) = Tx [] := by decide +kernel
    have c2 : ("# a" : Str) = Tx [35, 32, 97] := by decide +kernel
    refine vs_retD (ve_andD (b := true) (c := true) (ve_opD ((call_tks (l := []) (ve_str.to (congrArg PyData.str c1)) (by decide)).to (congrArg PyData.tuple t1)).v (ve_tupD va_nil).v (od_eqSame (k := 1) (n := 0) (Sm.tup .nil) rfl))
      fun _ => ve_opD ((call_pls (l := [35, 32, 97]) (ve_str.to (congrArg PyData.str c2)) (by decide)).to (congrArg PyData.tuple t2)).v (ve_tupD va_nil).v (od_eqSame (k := 1) (n := 0) (Sm.tup .nil) rfl)) rfl
theorem ok_law (T : Top K mg) : GOk P0 w K mg base CX0 4 T.f_law T.fd_law ["script"] (sp_law K) :=
  law_ok 11 T.F_law sc_law rfl fun cdv A outer s H E hg hr => ⟨_, d_law T (ok__law_draw T) (ok__law_text T) (ok__law_walk T) (ok_token_places T) (ok__law_any T) (ok_tokens_of T) cdv A outer s H E hg hr, fun H ns hn => vs_law T hn⟩
end
end K05
open PySem PySem.W PyProof.Rows
set_option maxRecDepth 100000 in
set_option maxHeartbeats 0 in
theorem PySem.Challenge.cw_lookanyhow_k05_tokens_and_their_places_holds : PySem.Challenge.rw_lookanyhow_k05_tokens_and_their_places.Holds := by
  w_on; o_law; k_head; (case hw => w_witness2)
  k_fill
  refine Ly.walk_g (l := PySem.Challenge.rw_lookanyhow_k05_tokens_and_their_places) (n := 63) (k := 4) (x := "script") (sp := Ly.Lw) rfl (by decide) rfl ⟨rfl, by decide, by decide⟩ (fun w h Y => PySem.W.kIn_of Y) ?F (fun K H a ns hl hS => ⟨a, ns, rfl, hS, hl, fun _ => rfl⟩)
  case F =>
    intro w mg fa h KX G hmg
    obtain ⟨T, e, hb⟩ : ∃ T : K05.Top _ mg, T.f_law = fa ∧ ∀ (s : Shared) (u : Value), BindsTo s T.fd_law ⟨[u], []⟩ [("script", u)] := by
      refine' K05.top_mk KX G hmg ?a0 ?l0 ?c0 ?k0 ?a1 ?l1 ?c1 ?k1 ?a2 ?l2 ?c2 ?k2 ?a3 ?l3 ?c3 ?k3 ?a4 ?l4 ?c4 ?k4 ?a5 ?l5 ?c5 ?k5 ?a6 ?l6 ?c6 ?k6 ?a7 ?l7 ?c7 ?k7 ?a8 ?l8 ?c8 ?k8 ?a9 ?l9 ?c9 ?k9 ?a10 ?l10 ?c10 ?k10 ?q0 ?z_len ?z_max ?z_tuple ?z_int ?z_abs ?z_range ?z_enumerate ?z_sum ?z_repr
      (case a0 => k_is)
      (case l0 => k_is)
      (case c0 => k_is)
      (case k0 => k_is)
      (case a1 => k_is)
      (case l1 => k_is)
      (case c1 => k_is)
      (case k1 => k_is)
      (case a2 => k_is)
      (case l2 => k_is)
      (case c2 => k_is)
      (case k2 => k_is)
      (case a3 => k_is)
      (case l3 => k_is)
      (case c3 => k_is)
      (case k3 => k_is)
      (case a4 => k_is)
      (case l4 => k_is)
      (case c4 => k_is)
      (case k4 => k_is)
      (case a5 => k_is)
      (case l5 => k_is)
      (case c5 => k_is)
      (case k5 => k_is)
      (case a6 => k_is)
      (case l6 => k_is)
      (case c6 => k_is)
      (case k6 => k_is)
      (case a7 => k_is)
      (case l7 => k_is)
      (case c7 => k_is)
      (case k7 => k_is)
      (case a8 => k_is)
      (case l8 => k_is)
      (case c8 => k_is)
      (case k8 => k_is)
      (case a9 => k_is)
      (case l9 => k_is)
      (case c9 => k_is)
      (case k9 => k_is)
      (case a10 => k_is)
      (case l10 => k_is)
      (case c10 => k_is)
      (case k10 => k_is)
      (case q0 => k_is)
      (case z_len => k_is)
      (case z_max => k_is)
      (case z_tuple => k_is)
      (case z_int => k_is)
      (case z_abs => k_is)
      (case z_range => k_is)
      (case z_enumerate => k_is)
      (case z_sum => k_is)
      (case z_repr => k_is)
    subst e
    exact ⟨T.fd_law, hb, fun base _ _ => K05.ok_law T⟩
