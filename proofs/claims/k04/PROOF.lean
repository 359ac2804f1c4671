import PyProof.Rows.All
import Wide.All
import OpenK.AllK
import Wide.FinOn
import HandS.ForMost
import HandS.Wide
import HandS.Walk
import HandS.IsInst
import PyProof.ReprRoads
import HandS.Deep
import HandS.TupAny
import HandS.Style
import HandS.Conv
import HandS.TupMul
import HandS.SortInts
import PySem.Challenge.RW_lookanyhow_k04_records_and_what_is_seen
set_option autoImplicit false
set_option Elab.async false
set_option linter.all false
set_option maxRecDepth 100000
/-! LyA: defs that are called where nothing is being shown (no repr under way): GOk, its body's rule, calls. -/
namespace Ly
open PySem PySem.Spec PyProof.Rows L2

/-- a promise of a def, for calls around which no repr is under way -/
structure GOk (P : Program) (w : World) (K : PySem.W.Frag) (mg : Str → Option Value) (base : Heap) (CX : CXT) (k : Nat) (f : Addr) (fd : FuncData) (ps : List Str) (sp : Sp) : Prop where
  size : ∀ {vs : List V} {H : Hp} {Q : VK} {E : XK}, sp vs H Q E → vs.length = ps.length
  does : ∀ {A : Around} {outer : List Env} {s : Shared} {H : Hp} {args : Args} {us : List Value} {vs : List V} {Q : VK} {E : XK}, A.guards = some [] → Room k A →
    Env0 P w K mg base A outer s H → BindsTo s fd args (ps.zip us) → Vals vs us → sp vs H Q E → codeAny (model P w) A (.call (.ref f) args) (CR CX outer P w H s Q E) s

theorem deeper_guards {A : Around} {e : Env} (h : A.guards = some []) : (A.deeper e).guards = some [] := by
  first | exact h | simpa [Around.deeper] using h

section
variable {P : Program} {w : World} {K : PySem.W.Frag} {mg : Str → Option Value} {base : Heap} {CX : CXT} {k : Nat} {f : Addr} {fd : FuncData} {ps : List Str} {sp : Sp}
theorem GOk.up {j : Nat} (F : GOk P w K mg base CX j f fd ps sp) (h : j ≤ k) : GOk P w K mg base CX k f fd ps sp :=
  ⟨F.size, fun g r => F.does g (r.mono h)⟩
theorem GOk.of (F : FnOk P w K mg base CX k f fd ps sp) : GOk P w K mg base CX k f fd ps sp :=
  ⟨fun q => F.len _ _ _ _ q, fun _ r e0 b rv q => F.run _ _ _ _ _ _ _ _ _ r e0 b rv q⟩
theorem GOk.weaker {sp' : Sp} (F : GOk P w K mg base CX k f fd ps sp) (h : ∀ vs H Q E, sp' vs H Q E → sp vs H Q E) : GOk P w K mg base CX k f fd ps sp' :=
  ⟨fun q => F.size (h _ _ _ _ q), fun g r e0 b rv q => F.does g r e0 b rv (h _ _ _ _ q)⟩

/-- the rule for a def of the text: its body as a term of rules, its reading; around it no repr is under way -/
theorem gok_of {x qual : Str} {st : Stmt} {N : List Str} (F : Fun K x qual st f fd) (S : FnScope N ps (defScope st)) (len : ∀ {vs H Q E}, sp vs H Q E → vs.length = ps.length)
    (body : ∀ (cdv : Value) (A : Around) (outer : List Env) (s : Shared) (H : Hp) (vs : List V) (Q : VK) (E : XK),
      (A.deeper (envOfC qual (defScope st) s.heap.objs.size f cdv)).guards = some [] → Room k (A.deeper (envOfC qual (defScope st) s.heap.objs.size f cdv)) → sp vs H Q E →
      ∃ t, PSs (cxOf CX P w K mg base N qual (defScope st) f cdv A outer s H E) (defBody st) t ∧ t { nx := fun _ H' => Q .non H', rt := Q } (start N vs) H) :
    GOk P w K mg base CX (k + 1) f fd ps sp := by
  obtain ⟨oc, od, kV, doc, pm, an, cdv, ct, osl, rfl, lk, hcd⟩ := F.ex
  constructor
  · exact len
  · intro A outer s H args us vs Q E hg hr e0 hb rv hq
    have n1 := len hq
    have kin : K.In s.heap := PySem.W.Frag.In.keeps e0.mod.kin fun b o e => And.left (e0.bs b o e)
    have nol : s.heap.NoLimit := Heap.NoLimit.keeps e0.mod.nolimit fun b o e => And.left (e0.bs b o e)
    have kinds : ∀ y ∈ ps.zip us, (defScope st).names.lookup y.1 = some .local ∨
        ((defScope st).names.lookup y.1 = some .cell ∧ ((cellsFrom (s.heap.objs.size + 1) (defScope st).names []).lookup y.1).isSome = true) := by
      rintro ⟨n, v⟩ hy
      have hn : n ∈ ps := (List.of_mem_zip hy).1
      cases S.par n hn with
      | inl q => exact Or.inl q
      | inr q => exact Or.inr ⟨q, PySem.W.cellsFrom_some _ _ _ (Or.inl q)⟩
    apply codeAny_call_function hr.depth (kin _ _ lk) rfl S.co S.gen rfl (PySem.W.codeRec_of kin hcd)
    apply hb
    apply wpAny_newFunctionEnv_cells S.kind kinds
    rintro env rfl s1 x
    refine ⟨Heap.NoLimit.keeps nol x.toInCall.keep, codeAny_func ?_⟩
    obtain ⟨t, ht, tq⟩ := body cdv A outer s H vs Q E (deeper_guards hg) (hr.deeper _) hq
    have J := inv_start (CX := CX) (E := E) S hr.hd e0 n1 rv x
    apply wpAny_mono (ht.run [] s1 (start N vs) H _ J tq)
    · intro fl s' hs
      cases fl with
      | ret u =>
        obtain ⟨v, σ', H', J', r', q'⟩ := hs
        exact ⟨v, H', J'.os, J'.bare, J'.base, J'.hok, r', q'⟩
      | next =>
        obtain ⟨σ', H', J', q'⟩ := hs
        exact ⟨V.non, H', J'.os, J'.bare, J'.base, J'.hok, rfl, q'⟩
      | brk =>
        obtain ⟨_, _, _, q'⟩ := hs
        exact q'.elim
      | cont =>
        obtain ⟨_, _, _, q'⟩ := hs
        exact q'.elim
    · intro e s' hs
      exact hs
end

/-! ### calls -/
section
variable {X : Cx} {CX : CXT} {k : Nat} {f : Addr} {fd : FuncData} {ps ks : List Str} {sp : Sp} {E : XK} {x : Str} {p pos : Pos} {e : Expr} {es : List Expr} {kws : List Keyword} {t tk : TA}
  {g : List Value → List Value → List Value} {gV : List V → List V → List V}
/-- the callee runs, arguments by place and by name -/
theorem run_g {pins : List (Addr × Obj)} {σ : L2.St} {H : Hp} {s : Shared} {Q : VK} {us ws : List Value} {vs zs : List V} (F : GOk X.prog X.w X.K X.mg X.base CX k f fd ps sp) (hA : X.A.guards = some []) (hr : Room k X.A)
    (hb : KBinds X.K fd ps ks g gV) (hx : Passes CX X E) (I : Inv X pins σ H s) (r : Vals vs us) (rz : Vals zs ws) (h : sp (gV vs zs) H Q E) :
    wpAny (model X.prog X.w) X.A (call (.ref f) us (ks.zip ws)) (EP X pins σ Q) X.xe s := by
  have rr := hb.rel r rz
  have n1 : (g us ws).length = ps.length := rr.length ▸ F.size h
  apply wpAny_call
  apply codeAny_mono (F.does hA hr I.env0 (hb.to s us ws I.kIn n1) rr h)
  intro o s' q
  rcases o with e | fl
  · exact hx pins σ H s e s' I q
  · cases fl with
    | ret u => exact Inv.after I q
    | next => exact q.elim
    | brk => exact q.elim
    | cont => exact q.elim
/-- f(e, ..) -/
theorem pe_g (F : GOk X.prog X.w X.K X.mg X.base CX k f fd ps sp) (hA : X.A.guards = some []) (hr : Room k X.A) (hg : Gl X x) (hm : X.mg x = some (.ref f)) (hk : PySem.W.keepIn X.K (.ref f) = true)
    (hb : KBinds X.K fd ps [] g gV) (hx : Passes CX X E) (ha : PA X (e :: es) t)
    (hdb : (x == ("__debug__" : Str)) = false := by decide) (he : starEach (e :: es) X.env = (false, eval e X.env) :: starEach es X.env := by rfl) (hpl : (backTo pos (starEach es X.env)).any (·.1) = false := by rfl) :
    PE X (.Call (.Name x p) (e :: es) [] pos) (tCallK sp gV E t tNil) := by
  constructor
  intro pins s σ H Q I h
  apply wpAny_Call_Name_kw
  refine ld_glob I hg hm ?_ hdb
  refine PySem.W.callWith_K (h₀ := X.base) I.ok.mod.kin hk ?_ he hpl
  refine thn (ha.run pos pins s σ H _ I h) ?_
  rintro us s1 ⟨vs, H1, I1, r, q⟩
  exact ⟨I1.kIn, run_g (ws := []) F hA hr hb hx I1 r .nil q⟩
/-- f() -/
theorem pe_g0 (F : GOk X.prog X.w X.K X.mg X.base CX k f fd ps sp) (hA : X.A.guards = some []) (hr : Room k X.A) (hg : Gl X x) (hm : X.mg x = some (.ref f)) (hk : PySem.W.keepIn X.K (.ref f) = true)
    (hb : KBinds X.K fd ps [] g gV) (hx : Passes CX X E) (hdb : (x == ("__debug__" : Str)) = false := by decide) :
    PE X (.Call (.Name x p) [] [] pos) (tCallK sp gV E tNil tNil) := by
  constructor
  intro pins s σ H Q I h
  apply wpAny_Call_Name_kw
  refine ld_glob I hg hm ?_ hdb
  exact PySem.W.callWith_K0 I.kIn hk (run_g (us := []) (ws := []) F hA hr hb hx I .nil .nil h)
/-- f(e, .., k = v, ..) -/
theorem pe_gk (F : GOk X.prog X.w X.K X.mg X.base CX k f fd ps sp) (hA : X.A.guards = some []) (hr : Room k X.A) (hg : Gl X x) (hm : X.mg x = some (.ref f)) (hk : PySem.W.keepIn X.K (.ref f) = true)
    (hb : KBinds X.K fd ps ks g gV) (hx : Passes CX X E) (ha : PA X (e :: es) t) (hw : PK X kws tk)
    (hall : (backToKw pos (keywordEach kws X.env)).all (·.1.isSome) = true := by rfl) (hks : (backToKw pos (keywordEach kws X.env)).filterMap (·.1) = ks := by rfl)
    (hdb : (x == ("__debug__" : Str)) = false := by decide) (he : starEach (e :: es) X.env = (false, eval e X.env) :: starEach es X.env := by rfl)
    (hpl : ((backTo pos (starEach (e :: es) X.env)).any (·.1) || (backToKw pos (keywordEach kws X.env)).any (·.1.isNone)) = false := by rfl) :
    PE X (.Call (.Name x p) (e :: es) kws pos) (tCallK sp gV E t tk) := by
  constructor
  intro pins s σ H Q I h
  apply wpAny_Call_Name_kw
  refine ld_glob I hg hm ?_ hdb
  refine PySem.W.callWith_KW (h₀ := X.base) I.ok.mod.kin hk hall ?_ hpl he
  refine thn (ha.run pos pins s σ H _ I h) ?_
  rintro us s1 ⟨vs, H1, I1, r, q⟩
  refine thn (hw.run pos pins s1 σ H1 _ I1 q) ?_
  rintro ws s2 ⟨zs, H2, I2, rz, q2⟩
  subst hks
  exact ⟨I2.kIn, run_g F hA hr hb hx I2 r rz q2⟩
/-- f(k = v, ..) -/
theorem pe_gk0 (F : GOk X.prog X.w X.K X.mg X.base CX k f fd ps sp) (hA : X.A.guards = some []) (hr : Room k X.A) (hg : Gl X x) (hm : X.mg x = some (.ref f)) (hk : PySem.W.keepIn X.K (.ref f) = true)
    (hb : KBinds X.K fd ps ks g gV) (hx : Passes CX X E) (hw : PK X kws tk)
    (hall : (backToKw pos (keywordEach kws X.env)).all (·.1.isSome) = true := by rfl) (hks : (backToKw pos (keywordEach kws X.env)).filterMap (·.1) = ks := by rfl)
    (hdb : (x == ("__debug__" : Str)) = false := by decide)
    (hpl : ((backTo pos (starEach [] X.env)).any (·.1) || (backToKw pos (keywordEach kws X.env)).any (·.1.isNone)) = false := by rfl) :
    PE X (.Call (.Name x p) [] kws pos) (tCallK sp gV E tNil tk) := by
  constructor
  intro pins s σ H Q I h
  apply wpAny_Call_Name_kw
  refine ld_glob I hg hm ?_ hdb
  refine PySem.W.callWith_KW0 (h₀ := X.base) I.ok.mod.kin hk hall ?_ hpl
  refine thn (hw.run pos pins s σ H _ I h) ?_
  rintro ws s2 ⟨zs, H2, I2, rz, q2⟩
  subst hks
  exact ⟨I2.kIn, run_g (us := []) F hA hr hb hx I2 .nil rz q2⟩
end

/-! ### how arguments bind -/
section
variable {K : PySem.W.Frag} {x qual : Str} {st : Stmt} {f : Addr} {fd : FuncData} {ps : List Str}
/-- by place alone -/
theorem binds_pos (F : Fun K x qual st f fd) (h : ∀ (kV doc pm : Value) (an : Option Addr) (cdv ct : Value) (us : List Value), us.length = ps.length →
      bindArgs (PySem.W.fnOf x qual (defArgs st) (defBody st) (defScope st) .none kV doc pm an cdv ct) ⟨us, []⟩ = pure (ps.zip us)) : KBinds K fd ps [] (fun us _ => us) (fun vs _ => vs) := by
  obtain ⟨oc, od, kV, doc, pm, an, cdv, ct, osl, rfl, lk, hcd⟩ := F.ex
  exact ⟨fun s us ws _ n => .of_eq (by simpa using h kV doc pm an cdv ct us n), fun r _ => r⟩
/-- n by place, the rest by names; g puts them in the parameters' order -/
theorem binds_kw (F : Fun K x qual st f fd) (ks : List Str) (g : {α : Type} → List α → List α → List α) (hrel : ∀ {vs zs : List V} {us ws : List Value}, Vals vs us → Vals zs ws → Vals (g vs zs) (g us ws))
    (h : ∀ (kV doc pm : Value) (an : Option Addr) (cdv ct : Value) (us ws : List Value), (g us ws).length = ps.length →
      bindArgs (PySem.W.fnOf x qual (defArgs st) (defBody st) (defScope st) .none kV doc pm an cdv ct) ⟨us, ks.zip ws⟩ = pure (ps.zip (g us ws))) : KBinds K fd ps ks (fun us ws => g us ws) (fun vs zs => g vs zs) := by
  obtain ⟨oc, od, kV, doc, pm, an, cdv, ct, osl, rfl, lk, hcd⟩ := F.ex
  exact ⟨fun s us ws _ n => .of_eq (h kV doc pm an cdv ct us ws n), hrel⟩
end
end Ly

/-! LyB: data of any depth in the heap, frames of data (Sl, Fm), what a reading gives as data (VE, VT, VA, VL, VV, VI, VG, VS). -/
namespace Ly
open PySem PySem.Spec PyProof.Rows L2

abbrev D := PyData

mutual
/-- a value stands for data in the heap: lists are tracked (or known to the object), tuples may be of the written part too -/
inductive Dq (K : PySem.W.Frag) (H : Hp) : V → D → Prop where
  | non : Dq K H .non .none
  | bl (b : Bool) : Dq K H (.bl b) (.bool b)
  | int (i : Int) : Dq K H (.int i) (.int i)
  | str (x : Str) : Dq K H (.str x) (.str x)
  | lst {a : Addr} {xs : List V} {ds : List D} (h : Rd H a (.lst xs)) (k : DqAll K H xs ds) : Dq K H (.ref a) (.list ds)
  | tup {a : Addr} {xs : List V} {ds : List D} (h : SqT K H a xs) (k : DqAll K H xs ds) : Dq K H (.ref a) (.tuple ds)
inductive DqAll (K : PySem.W.Frag) (H : Hp) : List V → List D → Prop where
  | nil : DqAll K H [] []
  | cons {v : V} {vs : List V} {d : D} {ds : List D} (h : Dq K H v d) (k : DqAll K H vs ds) : DqAll K H (v :: vs) (d :: ds)
end
mutual
theorem Dq.dp {K : PySem.W.Frag} {H : Hp} : ∀ {v : V} {d : D}, Dq K H v d → Dp K H v d
  | _, _, .non => .non
  | _, _, .bl b => .bl b
  | _, _, .int i => .int i
  | _, _, .str x => .str x
  | _, _, .lst h k => .lst (Or.inl h) (DqAll.dp k)
  | _, _, .tup h k => .tup h (DqAll.dp k)
theorem DqAll.dp {K : PySem.W.Frag} {H : Hp} : ∀ {vs : List V} {ds : List D}, DqAll K H vs ds → DpAll K H vs ds
  | _, _, .nil => .nil
  | _, _, .cons h k => .cons (Dq.dp h) (DqAll.dp k)
end

/-! ### data stays where the heap grows -/
theorem same_rd {H H' : Hp} {a : Addr} {u : HO} (e : Same H H') (h : Rd H a u) : Rd H' a u := by
  cases h with
  | inl h => exact Or.inl (e _ _ h)
  | inr h =>
    obtain ⟨o, h⟩ := h
    exact Or.inr ⟨o, e _ _ h⟩
theorem same_t {K : PySem.W.Frag} {H H' : Hp} {a : Addr} {xs : List V} (e : Same H H') (h : SqT K H a xs) : SqT K H' a xs := by
  cases h with
  | inl h => exact Or.inl (same_rd e h)
  | inr h => exact Or.inr h
theorem same_l {K : PySem.W.Frag} {H H' : Hp} {a : Addr} {xs : List V} (e : Same H H') (h : SqL K H a xs) : SqL K H' a xs := by
  cases h with
  | inl h => exact Or.inl (same_rd e h)
  | inr h => exact Or.inr h
mutual
theorem dp_mono {K : PySem.W.Frag} {H H' : Hp} (e : Same H H') : ∀ {v : V} {d : D}, Dq K H v d → Dq K H' v d
  | _, _, .non => .non
  | _, _, .bl b => .bl b
  | _, _, .int i => .int i
  | _, _, .str x => .str x
  | _, _, .lst h1 h2 => .lst (same_rd e h1) (dpall_mono e h2)
  | _, _, .tup h1 h2 => .tup (same_t e h1) (dpall_mono e h2)
theorem dpall_mono {K : PySem.W.Frag} {H H' : Hp} (e : Same H H') : ∀ {vs : List V} {ds : List D}, DqAll K H vs ds → DqAll K H' vs ds
  | _, _, .nil => .nil
  | _, _, .cons h1 h2 => .cons (dp_mono e h1) (dpall_mono e h2)
end
section
variable {K : PySem.W.Frag} {H : Hp}
theorem dpall_len : ∀ {vs : List V} {ds : List D}, DqAll K H vs ds → vs.length = ds.length
  | _, _, .nil => rfl
  | _, _, .cons _ h => congrArg (· + 1) (dpall_len h)
theorem dpall_get : ∀ {vs : List V} {ds : List D} {i : Nat} {d : D}, DqAll K H vs ds → ds[i]? = some d → ∃ v, vs[i]? = some v ∧ Dq K H v d
  | _, _, _, _, .nil, e => by simp at e
  | _, _, 0, _, .cons h _, e => by
    simp at e
    subst e
    exact ⟨_, rfl, h⟩
  | _, _, i + 1, _, .cons _ h, e => by
    obtain ⟨v, e1, e2⟩ := dpall_get (i := i) h (by simpa using e)
    exact ⟨v, by simpa using e1, e2⟩
theorem dpall_getV : ∀ {vs : List V} {ds : List D} {i : Nat} {v : V}, DqAll K H vs ds → vs[i]? = some v → ∃ d, ds[i]? = some d ∧ Dq K H v d
  | _, _, _, _, .nil, e => by simp at e
  | _, _, 0, _, .cons h _, e => by
    simp at e
    subst e
    exact ⟨_, rfl, h⟩
  | _, _, i + 1, _, .cons _ h, e => by
    obtain ⟨d, e1, e2⟩ := dpall_getV (i := i) h (by simpa using e)
    exact ⟨d, by simpa using e1, e2⟩
theorem dpall_app : ∀ {vs us : List V} {ds es : List D}, DqAll K H vs ds → DqAll K H us es → DqAll K H (vs ++ us) (ds ++ es)
  | _, _, _, _, .nil, h => h
  | _, _, _, _, .cons h1 h2, h => .cons h1 (dpall_app h2 h)
theorem dpall_take : ∀ {vs : List V} {ds : List D} (n : Nat), DqAll K H vs ds → DqAll K H (vs.take n) (ds.take n)
  | _, _, 0, _ => .nil
  | _, _, _ + 1, .nil => .nil
  | _, _, n + 1, .cons h1 h2 => .cons h1 (dpall_take n h2)
theorem dpall_drop : ∀ {vs : List V} {ds : List D} (n : Nat), DqAll K H vs ds → DqAll K H (vs.drop n) (ds.drop n)
  | _, _, 0, h => h
  | _, _, _ + 1, .nil => .nil
  | _, _, n + 1, .cons _ h2 => dpall_drop n h2
theorem dpall_rev : ∀ {vs : List V} {ds : List D}, DqAll K H vs ds → DqAll K H vs.reverse ds.reverse
  | _, _, .nil => .nil
  | _, _, .cons h1 h2 => by
    rw [List.reverse_cons, List.reverse_cons]
    exact dpall_app (dpall_rev h2) (.cons h1 .nil)
theorem dpall_set {v : V} {d : D} (h : Dq K H v d) : ∀ {vs : List V} {ds : List D} (i : Nat), DqAll K H vs ds → DqAll K H (vs.set i v) (ds.set i d)
  | _, _, _, .nil => .nil
  | _, _, 0, .cons _ h2 => .cons h h2
  | _, _, i + 1, .cons h1 h2 => .cons h1 (dpall_set h i h2)
theorem dpall_one {v : V} {d : D} (h : Dq K H v d) : DqAll K H [v] [d] := .cons h .nil
theorem dpall_map {α : Type} (f : α → V) (g : α → D) (h : ∀ x, Dq K H (f x) (g x)) : ∀ xs : List α, DqAll K H (xs.map f) (xs.map g)
  | [] => .nil
  | x :: xs => .cons (h x) (dpall_map f g h xs)
theorem dp_int {v : V} {i : Int} (h : Dq K H v (.int i)) : v = .int i := by cases h; rfl
theorem dp_bl {v : V} {b : Bool} (h : Dq K H v (.bool b)) : v = .bl b := by cases h; rfl
theorem dp_str {v : V} {x : Str} (h : Dq K H v (.str x)) : v = .str x := by cases h; rfl
theorem dp_non {v : V} (h : Dq K H v .none) : v = .non := by cases h; rfl
theorem dp_lst {v : V} {ds : List D} (h : Dq K H v (.list ds)) : ∃ a xs, v = .ref a ∧ SqL K H a xs ∧ DqAll K H xs ds := by
  cases h with
  | lst h1 h2 => exact ⟨_, _, rfl, Or.inl h1, h2⟩
theorem dp_lstR {v : V} {ds : List D} (h : Dq K H v (.list ds)) : ∃ a xs, v = .ref a ∧ Rd H a (.lst xs) ∧ DqAll K H xs ds := by
  cases h with
  | lst h1 h2 => exact ⟨_, _, rfl, h1, h2⟩
theorem dp_tup {v : V} {ds : List D} (h : Dq K H v (.tuple ds)) : ∃ a xs, v = .ref a ∧ SqT K H a xs ∧ DqAll K H xs ds := by
  cases h with
  | tup h1 h2 => exact ⟨_, _, rfl, h1, h2⟩
theorem dpall_ints : ∀ {vs : List V} {ns : List Int}, DqAll K H vs (ns.map PyData.int) → vs = ns.map V.int
  | _, [], .nil => rfl
  | _, n :: ns, .cons h1 h2 => by
    rw [dp_int h1, dpall_ints h2]
    rfl
theorem dpall_strs : ∀ {vs : List V} {ns : List Str}, DqAll K H vs (ns.map PyData.str) → vs = ns.map V.str
  | _, [], .nil => rfl
  | _, n :: ns, .cons h1 h2 => by
    rw [dp_str h1, dpall_strs h2]
    rfl
theorem dpall_bls : ∀ {vs : List V} {ns : List Bool}, DqAll K H vs (ns.map PyData.bool) → vs = ns.map V.bl
  | _, [], .nil => rfl
  | _, n :: ns, .cons h1 h2 => by
    rw [dp_bl h1, dpall_bls h2]
    rfl
end

/-! ### the source of draws: a list of a list of ints and an int -/
def DealAt (H : Hp) (p q : Addr) : Prop := p ≠ q ∧ ∃ (ns : List Int) (b : Int), H p = some (.lst [.ref q, .int b]) ∧ H q = some (.lst (ns.map V.int)) ∧ ns.length ≤ 64 ∧ 0 ≤ b ∧ b < 2147483648
def Md (dl : Option (Addr × Addr)) (a : Addr) : Prop := ∃ p q, dl = some (p, q) ∧ (a = p ∨ a = q)

/-- from one moment to a later one: B is what stands for good, H all; what is not of the source stays -/
structure Stp (dl : Option (Addr × Addr)) (B H B' H' : Hp) : Prop where
  ext : Same B B'
  sub : Same B' H'
  keep : ∀ a o, H a = some o → ¬ Md dl a → H' a = some o
  out : ∀ a, H a ≠ none → B a = none → B' a = none
  deal : ∀ p q, dl = some (p, q) → DealAt H p q → DealAt H' p q

section
variable {dl : Option (Addr × Addr)} {B H B' H' B2 H2 : Hp} {p : Addr} {o : HO}
theorem Stp.refl (s : Same B H) : Stp dl B H B H := ⟨Same.refl B, s, fun _ _ h _ => h, fun _ _ h => h, fun _ _ _ h => h⟩
theorem DealAt.there {q : Addr} (h : DealAt H p q) {a : Addr} (ha : a = p ∨ a = q) : H a ≠ none := by
  obtain ⟨_, ns, b, h1, h2, _⟩ := h
  rcases ha with rfl | rfl
  · rw [h1]
    simp
  · rw [h2]
    simp
/-- what stood still stands, changed or not -/
theorem Stp.there (s : Stp dl B H B' H') (hd : ∀ p q, dl = some (p, q) → DealAt H p q) {a : Addr} (h : H a ≠ none) : H' a ≠ none := by
  by_cases m : Md dl a
  · obtain ⟨p, q, e, m⟩ := m
    exact (s.deal p q e (hd p q e)).there m
  · cases e : H a with
    | none => exact absurd e h
    | some o =>
      rw [s.keep a o e m]
      simp
theorem Stp.trans (hd : ∀ p q, dl = some (p, q) → DealAt H p q) (s : Stp dl B H B' H') (t : Stp dl B' H' B2 H2) : Stp dl B H B2 H2 :=
  ⟨s.ext.trans t.ext, t.sub, fun a o h m => t.keep a o (s.keep a o h m) m, fun a h n => t.out a (s.there hd h) (s.out a h n), fun p q e h => t.deal p q e (s.deal p q e h)⟩
/-- nothing of the source was touched -/
theorem Stp.any (s : Stp none B H B' H') : Stp dl B H B' H' :=
  have k : ∀ a o, H a = some o → H' a = some o := fun a o h => s.keep a o h (fun ⟨_, _, e, _⟩ => nomatch e)
  ⟨s.ext, s.sub, fun a o h _ => k a o h, s.out, fun p q _ h => by
    obtain ⟨ne, ns, b, h1, h2, r⟩ := h
    exact ⟨ne, ns, b, k _ _ h1, k _ _ h2, r⟩⟩
/-- a new object, for good -/
theorem Stp.new (s : Same B H) (h : H p = none) : Stp dl B H (upd B p o) (upd H p o) := by
  have hB : B p = none := s.free h
  have k : ∀ a u, H a = some u → upd H p o a = some u := fun a u e => by
    rw [upd_ne (ne_of_none e h)]
    exact e
  refine ⟨fun a u e => ?_, fun a u e => ?_, fun a u e _ => k a u e, fun a n e => ?_, fun p q _ d => ?_⟩
  · rw [upd_ne (ne_of_none e hB)]
    exact e
  · by_cases ha : a = p
    · subst ha
      rw [upd_same] at e ⊢
      exact e
    · rw [upd_ne ha] at e ⊢
      exact s a u e
  · have ha : a ≠ p := fun z => n (z ▸ h)
    rw [upd_ne ha]
    exact e
  · obtain ⟨ne, ns, b, h1, h2, r⟩ := d
    exact ⟨ne, ns, b, k _ _ h1, k _ _ h2, r⟩
/-- a new object that may still change -/
theorem Stp.newM (s : Same B H) (h : H p = none) : Stp dl B H B (upd H p o) := by
  have k : ∀ a u, H a = some u → upd H p o a = some u := fun a u e => by
    rw [upd_ne (ne_of_none e h)]
    exact e
  refine ⟨Same.refl B, fun a u e => k a u (s a u e), fun a u e _ => k a u e, fun a _ e => e, fun p q _ d => ?_⟩
  obtain ⟨ne, ns, b, h1, h2, r⟩ := d
  exact ⟨ne, ns, b, k _ _ h1, k _ _ h2, r⟩
/-- an object that was new behind H stands for good from now on -/
theorem Stp.fix (s : Stp dl B H B' H') (h : H p = none) (hp : H' p = some o) (hB : B' p = none) : Stp dl B H (upd B' p o) H' := by
  refine ⟨fun a u e => ?_, fun a u e => ?_, s.keep, fun a n e => ?_, s.deal⟩
  · have e' := s.ext a u e
    rw [upd_ne (ne_of_none e' hB)]
    exact e'
  · by_cases ha : a = p
    · subst ha
      rw [upd_same] at e
      rw [hp]
      exact e
    · rw [upd_ne ha] at e
      exact s.sub a u e
  · have ha : a ≠ p := fun z => n (z ▸ h)
    rw [upd_ne ha]
    exact s.out a n e
end

/-! ### slots -/
/-- what a name holds: nothing told | data | a list of one's own, which may still change | the source of draws | a list that is read alone -/
inductive Sl where
  | no | dat (d : D) | own (ds : List D) | deal | rd (vs : List V)

structure Cn where
  K : PySem.W.Frag
  B : Hp
  H : Hp
  dl : Option (Addr × Addr)

def SlOk (C : Cn) (B H : Hp) (o : Option (Option V)) : Sl → Prop
  | .no => True
  | .dat d => ∃ v, o = some (some v) ∧ Dq C.K B v d
  | .own ds => ∃ p vs, o = some (some (.ref p)) ∧ C.H p = none ∧ B p = none ∧ H p = some (.lst vs) ∧ DqAll C.K B vs ds
  | .deal => ∃ p q, C.dl = some (p, q) ∧ o = some (some (.ref p))
  | .rd vs => ∃ a, o = some (some (.ref a)) ∧ SqL C.K B a vs

structure Fm (C : Cn) (B H : Hp) (σ : L2.St) (Γ : List Sl) : Prop where
  st : Stp C.dl C.B C.H B H
  dl : ∀ p q, C.dl = some (p, q) → DealAt C.H p q ∧ C.B p = none ∧ C.B q = none
  len : σ.length = Γ.length
  slot : ∀ (i : Nat) (s : Sl), Γ[i]? = some s → SlOk C B H (σ[i]?) s
  inj : ∀ (i j : Nat) (p : Addr) (ds es : List D), Γ[i]? = some (.own ds) → Γ[j]? = some (.own es) → σ[i]? = some (some (.ref p)) → σ[j]? = some (some (.ref p)) → i = j

section
variable {C : Cn} {B H B' H' : Hp} {σ σ' : L2.St} {Γ Γ' : List Sl} {p q : Addr} {i j : Nat} {d : D} {ds es : List D} {v : V}
theorem Fm.sub (F : Fm C B H σ Γ) : Same B H := F.st.sub
theorem Fm.dlNow (F : Fm C B H σ Γ) : ∀ p q, C.dl = some (p, q) → DealAt H p q := fun p q e => F.st.deal p q e (F.dl p q e).1
theorem Fm.dlOut (F : Fm C B H σ Γ) (e : C.dl = some (p, q)) : B p = none ∧ B q = none := by
  obtain ⟨h1, h2, h3⟩ := F.dl p q e
  exact ⟨F.st.out p (h1.there (Or.inl rfl)) h2, F.st.out q (h1.there (Or.inr rfl)) h3⟩
theorem Fm.newC (F : Fm C B H σ Γ) {a : Addr} (h : H a = none) : C.H a = none := by
  cases e : C.H a with
  | none => rfl
  | some o => exact absurd h (F.st.there (fun p q e => (F.dl p q e).1) (by rw [e]; simp))
theorem Fm.notMd (F : Fm C B H σ Γ) {a : Addr} (h : C.H a = none) : ¬ Md C.dl a := by
  rintro ⟨p, q, e, m⟩
  exact (F.dl p q e).1.there m h
theorem Fm.step (F : Fm C B H σ Γ) (s : Stp C.dl B H B' H') : Fm C B' H' σ Γ := by
  refine ⟨F.st.trans (fun p q e => (F.dl p q e).1) s, F.dl, F.len, fun i sl h => ?_, F.inj⟩
  have k := F.slot i sl h
  cases sl with
  | no => trivial
  | dat d =>
    obtain ⟨v, e, h1⟩ := k
    exact ⟨v, e, dp_mono s.ext h1⟩
  | own ds =>
    obtain ⟨p, vs, e, h1, h2, h3, h4⟩ := k
    exact ⟨p, vs, e, h1, s.out p (by rw [h3]; simp) h2, s.keep p _ h3 (F.notMd h1), dpall_mono s.ext h4⟩
  | deal => exact k
  | rd vs =>
    obtain ⟨a, e, h⟩ := k
    exact ⟨a, e, same_l s.ext h⟩
theorem Fm.has (F : Fm C B H σ Γ) (h : Γ[i]? = some (.dat d)) : ∃ v, σ[i]? = some (some v) ∧ Dq C.K B v d := F.slot i _ h
theorem Fm.hasOwn (F : Fm C B H σ Γ) (h : Γ[i]? = some (.own ds)) : ∃ p vs, σ[i]? = some (some (.ref p)) ∧ C.H p = none ∧ B p = none ∧ H p = some (.lst vs) ∧ DqAll C.K B vs ds := F.slot i _ h
theorem Fm.noOwn (F : Fm C B H σ Γ) (hp : H p = none) (h : Γ[i]? = some (.own ds)) : σ[i]? ≠ some (some (.ref p)) := fun e => by
  obtain ⟨p', vs, e', _, _, h3, _⟩ := F.hasOwn h
  rw [e] at e'
  injection e' with e'
  injection e' with e'
  injection e' with e'
  subst e'
  rw [hp] at h3
  cases h3
/-- a name gets data -/
theorem Fm.set (F : Fm C B H σ Γ) (h : Dq C.K B v d) : Fm C B H (σ.set i (some v)) (Γ.set i (.dat d)) := by
  refine ⟨F.st, F.dl, by rw [List.length_set, List.length_set]; exact F.len, fun j sl e => ?_, fun a b p ds es h1 h2 h3 h4 => ?_⟩
  · by_cases hj : i = j
    · subst hj
      have hl : i < Γ.length := by
        have := (List.getElem?_eq_some_iff.mp e).1
        rw [List.length_set] at this
        exact this
      rw [List.getElem?_set_self hl] at e
      cases e
      exact ⟨v, List.getElem?_set_self (by rw [F.len]; exact hl), h⟩
    · rw [List.getElem?_set_ne hj] at e
      rw [List.getElem?_set_ne hj]
      exact F.slot j sl e
  · have na : i ≠ a := fun z => by
      subst z
      have hl : i < Γ.length := by
        have := (List.getElem?_eq_some_iff.mp h1).1
        rw [List.length_set] at this
        exact this
      rw [List.getElem?_set_self hl] at h1
      cases h1
    have nb : i ≠ b := fun z => by
      subst z
      have hl : i < Γ.length := by
        have := (List.getElem?_eq_some_iff.mp h2).1
        rw [List.length_set] at this
        exact this
      rw [List.getElem?_set_self hl] at h2
      cases h2
    rw [List.getElem?_set_ne na] at h1 h3
    rw [List.getElem?_set_ne nb] at h2 h4
    exact F.inj a b p ds es h1 h2 h3 h4
/-- nothing is told of a name any longer -/
theorem Fm.drop (F : Fm C B H σ Γ) (o : Option V) : Fm C B H (σ.set i o) (Γ.set i .no) := by
  refine ⟨F.st, F.dl, by rw [List.length_set, List.length_set]; exact F.len, fun j sl e => ?_, fun a b p ds es h1 h2 h3 h4 => ?_⟩
  · by_cases hj : i = j
    · subst hj
      have hl : i < Γ.length := by
        have := (List.getElem?_eq_some_iff.mp e).1
        rw [List.length_set] at this
        exact this
      rw [List.getElem?_set_self hl] at e
      cases e
      trivial
    · rw [List.getElem?_set_ne hj] at e
      rw [List.getElem?_set_ne hj]
      exact F.slot j sl e
  · have na : i ≠ a := fun z => by
      subst z
      have hl : i < Γ.length := by
        have := (List.getElem?_eq_some_iff.mp h1).1
        rw [List.length_set] at this
        exact this
      rw [List.getElem?_set_self hl] at h1
      cases h1
    have nb : i ≠ b := fun z => by
      subst z
      have hl : i < Γ.length := by
        have := (List.getElem?_eq_some_iff.mp h2).1
        rw [List.length_set] at this
        exact this
      rw [List.getElem?_set_self hl] at h2
      cases h2
    rw [List.getElem?_set_ne na] at h1 h3
    rw [List.getElem?_set_ne nb] at h2 h4
    exact F.inj a b p ds es h1 h2 h3 h4
/-- a name gets a new list of its own -/
theorem Fm.setOwn {vs : List V} (F : Fm C B H σ Γ) (hC : C.H p = none) (hB : B p = none) (hp : H p = some (.lst vs)) (hd : DqAll C.K B vs ds) (hn : ∀ (j : Nat) es, j ≠ i → Γ[j]? = some (.own es) → σ[j]? ≠ some (some (.ref p))) :
    Fm C B H (σ.set i (some (.ref p))) (Γ.set i (.own ds)) := by
  have key : ∀ (j : Nat) es, i ≠ j → (Γ.set i (.own ds))[j]? = some (.own es) → (σ.set i (some (.ref p)))[j]? = some (some (.ref p)) → False := fun j es nj h1 h2 => by
    rw [List.getElem?_set_ne nj] at h1 h2
    exact hn j es (Ne.symm nj) h1 h2
  refine ⟨F.st, F.dl, by rw [List.length_set, List.length_set]; exact F.len, fun j sl e => ?_, fun a b r xs ys h1 h2 h3 h4 => ?_⟩
  · by_cases hj : i = j
    · subst hj
      have hl : i < Γ.length := by
        have := (List.getElem?_eq_some_iff.mp e).1
        rw [List.length_set] at this
        exact this
      rw [List.getElem?_set_self hl] at e
      cases e
      exact ⟨p, vs, List.getElem?_set_self (by rw [F.len]; exact hl), hC, hB, hp, hd⟩
    · rw [List.getElem?_set_ne hj] at e
      rw [List.getElem?_set_ne hj]
      exact F.slot j sl e
  · by_cases ha : i = a
    · by_cases hb : i = b
      · exact ha.symm.trans hb
      · subst ha
        have hl : i < σ.length := by
          have := (List.getElem?_eq_some_iff.mp h3).1
          rw [List.length_set] at this
          exact this
        rw [List.getElem?_set_self hl] at h3
        injection h3 with h3
        injection h3 with h3
        injection h3 with h3
        subst h3
        exact (key b ys hb h2 h4).elim
    · by_cases hb : i = b
      · subst hb
        have hl : i < σ.length := by
          have := (List.getElem?_eq_some_iff.mp h4).1
          rw [List.length_set] at this
          exact this
        rw [List.getElem?_set_self hl] at h4
        injection h4 with h4
        injection h4 with h4
        injection h4 with h4
        subst h4
        exact (key a xs ha h1 h3).elim
      · rw [List.getElem?_set_ne ha] at h1 h3
        rw [List.getElem?_set_ne hb] at h2 h4
        exact F.inj a b r xs ys h1 h2 h3 h4
/-- one's own list changes -/
theorem Fm.mutOwn {us : List V} (F : Fm C B H σ Γ) (hi : Γ[i]? = some (.own ds)) (hs : σ[i]? = some (some (.ref p))) (hd : DqAll C.K B us es) :
    Fm C B (upd H p (.lst us)) σ (Γ.set i (.own es)) := by
  obtain ⟨p', ws, e', hC, hB, hp, hw⟩ := F.hasOwn hi
  rw [hs] at e'
  injection e' with e'
  injection e' with e'
  injection e' with e'
  subst e'
  have hM : ¬ Md C.dl p := F.notMd hC
  have st : Stp C.dl C.B C.H B (upd H p (.lst us)) := by
    refine ⟨F.st.ext, fun a o e => ?_, fun a o e m => ?_, F.st.out, fun r q e dd => ?_⟩
    · rw [upd_ne (ne_of_none e hB)]
      exact F.st.sub a o e
    · rw [upd_ne (ne_of_none e hC)]
      exact F.st.keep a o e m
    · obtain ⟨ne, ns, b, h1, h2, rest⟩ := F.st.deal r q e dd
      have n1 : r ≠ p := fun z => hM ⟨r, q, e, Or.inl z.symm⟩
      have n2 : q ≠ p := fun z => hM ⟨r, q, e, Or.inr z.symm⟩
      exact ⟨ne, ns, b, by rw [upd_ne n1]; exact h1, by rw [upd_ne n2]; exact h2, rest⟩
  refine ⟨st, F.dl, by rw [List.length_set]; exact F.len, fun j sl e => ?_, fun a b r xs ys h1 h2 h3 h4 => ?_⟩
  · by_cases hj : i = j
    · subst hj
      have hl : i < Γ.length := (List.getElem?_eq_some_iff.mp hi).1
      rw [List.getElem?_set_self hl] at e
      cases e
      exact ⟨p, us, hs, hC, hB, upd_same, hd⟩
    · rw [List.getElem?_set_ne hj] at e
      have k := F.slot j sl e
      cases sl with
      | no => trivial
      | dat d => exact k
      | own xs =>
        obtain ⟨r, zs, k1, k2, k3, k4, k5⟩ := k
        have nr : r ≠ p := fun z => by
          subst z
          exact hj (F.inj i j r _ _ hi e hs k1)
        exact ⟨r, zs, k1, k2, k3, by rw [upd_ne nr]; exact k4, k5⟩
      | deal => exact k
      | rd vs => exact k
  · have own : ∀ (c : Nat) zs, (Γ.set i (.own es))[c]? = some (.own zs) → ∃ zs', Γ[c]? = some (.own zs') := fun c zs h => by
      by_cases hc : i = c
      · subst hc
        exact ⟨ds, hi⟩
      · rw [List.getElem?_set_ne hc] at h
        exact ⟨zs, h⟩
    obtain ⟨x1, g1⟩ := own a xs h1
    obtain ⟨x2, g2⟩ := own b ys h2
    exact F.inj a b r x1 x2 g1 g2 h3 h4
/-- one's own list stands for good from now on -/
theorem Fm.freeze (F : Fm C B H σ Γ) (hi : Γ[i]? = some (.own ds)) : ∃ B', Stp C.dl C.B C.H B' H ∧ Same B B' ∧ Fm C B' H σ (Γ.set i (.dat (.list ds))) := by
  obtain ⟨p, vs, hs, hC, hB, hp, hd⟩ := F.hasOwn hi
  have sm : Same B (upd B p (.lst vs)) := fun a o e => by
    rw [upd_ne (ne_of_none e hB)]
    exact e
  have st := F.st.fix hC hp hB
  refine ⟨upd B p (.lst vs), st, sm, st, F.dl, by rw [List.length_set]; exact F.len, fun j sl e => ?_, fun a b r xs ys h1 h2 h3 h4 => ?_⟩
  · by_cases hj : i = j
    · subst hj
      have hl : i < Γ.length := (List.getElem?_eq_some_iff.mp hi).1
      rw [List.getElem?_set_self hl] at e
      cases e
      exact ⟨.ref p, hs, .lst (Or.inl upd_same) (dpall_mono sm hd)⟩
    · rw [List.getElem?_set_ne hj] at e
      have k := F.slot j sl e
      cases sl with
      | no => trivial
      | dat d =>
        obtain ⟨v, k1, k2⟩ := k
        exact ⟨v, k1, dp_mono sm k2⟩
      | own xs =>
        obtain ⟨r, zs, k1, k2, k3, k4, k5⟩ := k
        have nr : r ≠ p := fun z => by
          subst z
          exact hj (F.inj i j r _ _ hi e hs k1)
        exact ⟨r, zs, k1, k2, by rw [upd_ne nr]; exact k3, k4, dpall_mono sm k5⟩
      | deal => exact k
      | rd vs =>
        obtain ⟨a, k1, k2⟩ := k
        exact ⟨a, k1, same_l sm k2⟩
  · have na : i ≠ a := fun z => by
      subst z
      have hl : i < Γ.length := (List.getElem?_eq_some_iff.mp hi).1
      rw [List.getElem?_set_self hl] at h1
      cases h1
    have nb : i ≠ b := fun z => by
      subst z
      have hl : i < Γ.length := (List.getElem?_eq_some_iff.mp hi).1
      rw [List.getElem?_set_self hl] at h2
      cases h2
    rw [List.getElem?_set_ne na] at h1
    rw [List.getElem?_set_ne nb] at h2
    exact F.inj a b r xs ys h1 h2 h3 h4
end
end Ly

/-! LyC: what a reading gives as data: VE, VV, VL, VA, VW, VT, VO, VI, VG, VS, and their rules. -/
namespace Ly
open PySem PySem.Spec PyProof.Rows L2

/-- just this one -/
abbrev Is {α : Type} (x : α) : α → Prop := fun y => y = x

/-- a value that stands for data: for good, or a list that may change later -/
def Vw (C : Cn) (B H : Hp) (v : V) (d : D) : Prop :=
  Dq C.K B v d ∨ ∃ p vs ds, v = .ref p ∧ d = .list ds ∧ C.H p = none ∧ H p = some (.lst vs) ∧ DqAll C.K B vs ds
inductive VwAll (C : Cn) (B H : Hp) : List V → List D → Prop where
  | nil : VwAll C B H [] []
  | cons {v : V} {d : D} {vs : List V} {ds : List D} : Vw C B H v d → VwAll C B H vs ds → VwAll C B H (v :: vs) (d :: ds)
section
variable {C : Cn} {B H B' H' : Hp} {σ : L2.St} {Γ : List Sl} {v : V} {d : D}
theorem Vw.step (F : Fm C B H σ Γ) (s : Stp C.dl B H B' H') (h : Vw C B H v d) : Vw C B' H' v d := by
  rcases h with h | ⟨p, vs, ds, rfl, rfl, h1, h2, h3⟩
  · exact Or.inl (dp_mono s.ext h)
  · exact Or.inr ⟨p, vs, ds, rfl, rfl, h1, s.keep p _ h2 (F.notMd h1), dpall_mono s.ext h3⟩
theorem VwAll.step (F : Fm C B H σ Γ) (s : Stp C.dl B H B' H') : ∀ {vs : List V} {ds : List D}, VwAll C B H vs ds → VwAll C B' H' vs ds
  | _, _, .nil => .nil
  | _, _, .cons h t => .cons (h.step F s) (VwAll.step F s t)
theorem Vw.now (e : Same B H) (h : Vw C B H v d) : Dq C.K H v d := by
  rcases h with h | ⟨p, vs, ds, rfl, rfl, h1, h2, h3⟩
  · exact dp_mono e h
  · exact .lst (Or.inl h2) (dpall_mono e h3)
theorem Vw.int {i : Int} (h : Vw C B H v (.int i)) : v = .int i := by
  rcases h with h | ⟨_, _, _, _, e, _⟩
  · exact dp_int h
  · cases e
theorem Vw.str {x : Str} (h : Vw C B H v (.str x)) : v = .str x := by
  rcases h with h | ⟨_, _, _, _, e, _⟩
  · exact dp_str h
  · cases e
theorem Vw.bl {x : Bool} (h : Vw C B H v (.bool x)) : v = .bl x := by
  rcases h with h | ⟨_, _, _, _, e, _⟩
  · exact dp_bl h
  · cases e
theorem Vw.non (h : Vw C B H v .none) : v = .non := by
  rcases h with h | ⟨_, _, _, _, e, _⟩
  · exact dp_non h
  · cases e
theorem Vw.tup {ds : List D} (e : Same B H) (h : Vw C B H v (.tuple ds)) : ∃ a xs, v = .ref a ∧ SqT C.K H a xs ∧ DqAll C.K B xs ds := by
  rcases h with h | ⟨_, _, _, _, z, _⟩
  · obtain ⟨a, xs, h1, h2, h3⟩ := dp_tup h
    exact ⟨a, xs, h1, same_t e h2, h3⟩
  · cases z
theorem Vw.lst {ds : List D} (e : Same B H) (h : Vw C B H v (.list ds)) : ∃ a xs, v = .ref a ∧ SqL C.K H a xs ∧ DqAll C.K B xs ds := by
  rcases h with h | ⟨p, vs, es, h1, z, _, h2, h3⟩
  · obtain ⟨a, xs, h1, h2, h3⟩ := dp_lst h
    exact ⟨a, xs, h1, same_l e h2, h3⟩
  · cases z
    exact ⟨p, vs, h1, Or.inl (Or.inl h2), h3⟩
end

theorem Vw.lstR {C : Cn} {B H : Hp} {v : V} {ds : List D} (e : Same B H) (h : Vw C B H v (.list ds)) : ∃ a xs, v = .ref a ∧ Rd H a (.lst xs) ∧ DqAll C.K B xs ds := by
  rcases h with h | ⟨p, vs, es, h1, z, _, h2, h3⟩
  · obtain ⟨a, xs, h1, h2, h3⟩ := dp_lstR h
    exact ⟨a, xs, h1, same_rd e h2, h3⟩
  · cases z
    exact ⟨p, vs, h1, Or.inl h2, h3⟩

/-! ### what a reading gives -/
def VE (C : Cn) (t : TE) (Γ : List Sl) (R : D → Prop) : Prop := ∀ B H σ, Fm C B H σ Γ → ∀ Q : VK, (∀ d v B' H', R d → Stp C.dl B H B' H' → Dq C.K B' v d → Q v H') → t σ H Q
def VV (C : Cn) (t : TE) (Γ : List Sl) (R : D → Prop) : Prop := ∀ B H σ, Fm C B H σ Γ → ∀ Q : VK, (∀ d v B' H', R d → Stp C.dl B H B' H' → Vw C B' H' v d → Q v H') → t σ H Q
/-- a new list -/
def VL (C : Cn) (t : TE) (Γ : List Sl) (R : List D → Prop) : Prop := ∀ B H σ, Fm C B H σ Γ → ∀ Q : VK,
  (∀ ds p vs B' H', R ds → Stp C.dl B H B' H' → H p = none → B' p = none → H' p = some (.lst vs) → DqAll C.K B' vs ds → Q (.ref p) H') → t σ H Q
def VA (C : Cn) (t : TA) (Γ : List Sl) (R : List D → Prop) : Prop := ∀ B H σ, Fm C B H σ Γ → ∀ Q : List V → Hp → Prop, (∀ ds vs B' H', R ds → Stp C.dl B H B' H' → DqAll C.K B' vs ds → Q vs H') → t σ H Q
def VW (C : Cn) (t : TA) (Γ : List Sl) (R : List D → Prop) : Prop := ∀ B H σ, Fm C B H σ Γ → ∀ Q : List V → Hp → Prop, (∀ ds vs B' H', R ds → Stp C.dl B H B' H' → VwAll C B' H' vs ds → Q vs H') → t σ H Q
def VT (C : Cn) (t : TT) (Γ : List Sl) (R : Bool → Prop) : Prop := ∀ B H σ, Fm C B H σ Γ → ∀ Q : Bool → Hp → Prop, (∀ b B' H', R b → Stp C.dl B H B' H' → Q b H') → t σ H Q
def VO (C : Cn) (t : TO) (Γ : List Sl) (R : Option Int → Prop) : Prop := ∀ B H σ, Fm C B H σ Γ → ∀ Q : Option Int → Hp → Prop, (∀ b B' H', R b → Stp C.dl B H B' H' → Q b H') → t σ H Q

section
variable {C : Cn} {t ta tb te : TE} {tt tu : TT} {A A' : TA} {Γ : List Sl} {R R' Ra Rb : D → Prop} {d x y z : D} {b c : Bool} {ds es : List D}
theorem VE.imp (h : VE C t Γ R) (i : ∀ d, R d → R' d) : VE C t Γ R' := fun B H σ F Q q => h B H σ F Q fun d v B' H' r s k => q d v B' H' (i d r) s k
theorem VE.to (h : VE C t Γ (Is x)) (e : x = y) : VE C t Γ (Is y) := e ▸ h
theorem VL.imp {S S' : List D → Prop} (h : VL C t Γ S) (i : ∀ d, S d → S' d) : VL C t Γ S' := fun B H σ F Q q => h B H σ F Q fun ds p vs B' H' r s k1 k2 k3 k4 => q ds p vs B' H' (i ds r) s k1 k2 k3 k4
theorem VL.to (h : VL C t Γ (Is ds)) (e : ds = es) : VL C t Γ (Is es) := e ▸ h
theorem VT.imp {S S' : Bool → Prop} (h : VT C tt Γ S) (i : ∀ d, S d → S' d) : VT C tt Γ S' := fun B H σ F Q q => h B H σ F Q fun b B' H' r s => q b B' H' (i b r) s
theorem VT.to (h : VT C tt Γ (Is b)) (e : b = c) : VT C tt Γ (Is c) := e ▸ h
theorem VA.imp {S S' : List D → Prop} (h : VA C A Γ S) (i : ∀ d, S d → S' d) : VA C A Γ S' := fun B H σ F Q q => h B H σ F Q fun d v B' H' r s k => q d v B' H' (i d r) s k
theorem VE.v (h : VE C t Γ R) : VV C t Γ R := fun B H σ F Q q => h B H σ F Q fun d v B' H' r s k => q d v B' H' r s (Or.inl k)
theorem VL.v {S : List D → Prop} (h : VL C t Γ S) : VV C t Γ (fun d => ∃ ds, d = .list ds ∧ S ds) := fun B H σ F Q q => h B H σ F Q fun ds p vs B' H' r s k1 k2 k3 k4 =>
  q _ _ B' H' ⟨ds, rfl, r⟩ s (Or.inr ⟨p, vs, ds, rfl, rfl, F.newC k1, k3, k4⟩)
theorem VL.vd (h : VL C t Γ (Is ds)) : VV C t Γ (Is (.list ds)) := fun B H σ F Q q => h.v B H σ F Q fun d v B' H' r s k => by
  obtain ⟨es, rfl, e⟩ := r
  cases e
  exact q _ _ _ _ rfl s k
theorem VL.e {S : List D → Prop} (h : VL C t Γ S) : VE C t Γ (fun d => ∃ ds, d = .list ds ∧ S ds) := fun B H σ F Q q => h B H σ F Q fun ds p vs B' H' r s k1 k2 k3 k4 =>
  q _ _ (upd B' p (.lst vs)) H' ⟨ds, rfl, r⟩ (s.fix k1 k3 k2) (.lst (Or.inl upd_same) (dpall_mono (fun a o e => by rw [upd_ne (ne_of_none e k2)]; exact e) k4))
theorem VL.ed (h : VL C t Γ (Is ds)) : VE C t Γ (Is (.list ds)) := h.e.imp fun d ⟨es, e1, e2⟩ => by
  cases e2
  exact e1
theorem vv_own {i : Nat} (h : Γ[i]? = some (.own ds)) : VV C (tVar i) Γ (Is (.list ds)) := fun B H σ F Q q => by
  obtain ⟨p, vs, e, h1, h2, h3, h4⟩ := F.hasOwn h
  exact ⟨_, e, q _ _ B H rfl (Stp.refl F.sub) (Or.inr ⟨p, vs, ds, rfl, rfl, h1, h3, h4⟩)⟩
theorem ve_var {i : Nat} (h : Γ[i]? = some (.dat d)) : VE C (tVar i) Γ (Is d) := fun B H σ F Q q => by
  obtain ⟨v, e, k⟩ := F.has h
  exact ⟨v, e, q d v B H rfl (Stp.refl F.sub) k⟩
theorem ve_c {v : V} (h : ∀ B, Dq C.K B v d) : VE C (tC v) Γ (Is d) := fun B H σ F Q q => q d v B H rfl (Stp.refl F.sub) (h B)
theorem ve_int {i : Int} : VE C (tC (.int i)) Γ (Is (.int i)) := ve_c fun _ => .int i
theorem ve_bl {i : Bool} : VE C (tC (.bl i)) Γ (Is (.bool i)) := ve_c fun _ => .bl i
theorem ve_str {i : Str} : VE C (tC (.str i)) Γ (Is (.str i)) := ve_c fun _ => .str i
theorem ve_non : VE C (tC .non) Γ (Is .none) := ve_c fun _ => .non
/-! arguments -/
theorem va_nil : VA C tNil Γ (Is []) := fun B H σ F Q q => q [] [] B H rfl (Stp.refl F.sub) .nil
theorem va_cons {S : List D → Prop} (h : VE C te Γ R) (k : VA C A Γ S) : VA C (tCons te A) Γ (fun l => ∃ d ds, l = d :: ds ∧ R d ∧ S ds) := fun B H σ F Q q =>
  h B H σ F _ fun d v B1 H1 r s1 k1 => k B1 H1 σ (F.step s1) _ fun ds vs B2 H2 r2 s2 k2 => q _ _ B2 H2 ⟨d, ds, rfl, r, r2⟩ (s1.trans F.dlNow s2) (.cons (dp_mono s2.ext k1) k2)
theorem va_consD (h : VE C te Γ (Is d)) (k : VA C A Γ (Is ds)) : VA C (tCons te A) Γ (Is (d :: ds)) := (va_cons h k).imp fun l ⟨d', ds', e, e1, e2⟩ => by
  cases e1
  cases e2
  exact e
theorem vw_nil : VW C tNil Γ (Is []) := fun B H σ F Q q => q [] [] B H rfl (Stp.refl F.sub) .nil
theorem vw_cons {S : List D → Prop} (h : VV C te Γ R) (k : VW C A Γ S) : VW C (tCons te A) Γ (fun l => ∃ d ds, l = d :: ds ∧ R d ∧ S ds) := fun B H σ F Q q =>
  h B H σ F _ fun d v B1 H1 r s1 k1 => k B1 H1 σ (F.step s1) _ fun ds vs B2 H2 r2 s2 k2 => q _ _ B2 H2 ⟨d, ds, rfl, r, r2⟩ (s1.trans F.dlNow s2) (.cons (k1.step (F.step s1) s2) k2)
theorem VW.imp {S S' : List D → Prop} (h : VW C A Γ S) (i : ∀ d, S d → S' d) : VW C A Γ S' := fun B H σ F Q q => h B H σ F Q fun d v B' H' r s k => q d v B' H' (i d r) s k
theorem vw_consD (h : VV C te Γ (Is d)) (k : VW C A Γ (Is ds)) : VW C (tCons te A) Γ (Is (d :: ds)) := (vw_cons h k).imp fun l ⟨d', ds', e, e1, e2⟩ => by
  cases e1
  cases e2
  exact e
/-! displays -/
theorem sz5 {n : Nat} (h : n ≤ 100000) : n ≤ sizeLine := Nat.le_trans h (by decide)
theorem ve_tup {S : List D → Prop} (h : VA C A Γ S) (k : ∀ ds, S ds → ds.length ≤ 100000 ∧ R (.tuple ds)) : VE C (tTup A) Γ R := fun B H σ F Q q => h B H σ F _ fun ds vs B1 H1 r s1 k1 =>
  ⟨by rw [dpall_len k1]; exact sz5 (k ds r).1, fun p hp => q _ _ (upd B1 p (.tup vs)) _ (k ds r).2 (s1.trans F.dlNow (Stp.new (F.step s1).sub hp))
    (.tup (Or.inl (Or.inl upd_same)) (dpall_mono (Stp.new (dl := C.dl) (F.step s1).sub hp).ext k1))⟩
theorem ve_tupD (h : VA C A Γ (Is ds)) (k : ds.length ≤ 100000 := by first | decide | exact of_decide_eq_true rfl) : VE C (tTup A) Γ (Is (.tuple ds)) := ve_tup h fun es e => by
  cases e
  exact ⟨k, rfl⟩
theorem vl_lst {S : List D → Prop} (h : VA C A Γ S) (k : ∀ ds, S ds → ds.length ≤ 100000) : VL C (tLst A) Γ S := fun B H σ F Q q => h B H σ F _ fun ds vs B1 H1 r s1 k1 =>
  ⟨by rw [dpall_len k1]; exact sz5 (k ds r), fun p hp => q ds p vs B1 _ r (s1.trans F.dlNow (Stp.newM (F.step s1).sub hp)) (by
    cases e : H p with
    | none => rfl
    | some o => exact absurd hp (s1.there F.dlNow (by rw [e]; simp))) ((F.step s1).sub.free hp) upd_same k1⟩
theorem vl_lstD (h : VA C A Γ (Is ds)) (k : ds.length ≤ 100000 := by first | decide | exact of_decide_eq_true rfl) : VL C (tLst A) Γ (Is ds) := vl_lst h fun es e => by
  cases e
  exact k
/-! choices -/
theorem ve_if {S : Bool → Prop} (h : VT C tt Γ S) (h1 : S true → VE C ta Γ R) (h2 : S false → VE C tb Γ R) : VE C (tIf tt ta tb) Γ R := fun B H σ F Q q => h B H σ F _ fun b B1 H1 r s1 => by
  cases b with
  | true => exact iteT (h1 r B1 H1 σ (F.step s1) Q fun d v B2 H2 r2 s2 k => q d v B2 H2 r2 (s1.trans F.dlNow s2) k)
  | false => exact iteF (h2 r B1 H1 σ (F.step s1) Q fun d v B2 H2 r2 s2 k => q d v B2 H2 r2 (s1.trans F.dlNow s2) k)
theorem vv_if {S : Bool → Prop} (h : VT C tt Γ S) (h1 : S true → VV C ta Γ R) (h2 : S false → VV C tb Γ R) : VV C (tIf tt ta tb) Γ R := fun B H σ F Q q => h B H σ F _ fun b B1 H1 r s1 => by
  cases b with
  | true => exact iteT (h1 r B1 H1 σ (F.step s1) Q fun d v B2 H2 r2 s2 k => q d v B2 H2 r2 (s1.trans F.dlNow s2) k)
  | false => exact iteF (h2 r B1 H1 σ (F.step s1) Q fun d v B2 H2 r2 s2 k => q d v B2 H2 r2 (s1.trans F.dlNow s2) k)
theorem ve_ifD (h : VT C tt Γ (Is b)) (h1 : b = true → VE C ta Γ (Is x)) (h2 : b = false → VE C tb Γ (Is y)) : VE C (tIf tt ta tb) Γ (Is (if b = true then x else y)) :=
  ve_if h (fun e => by subst e; exact (h1 rfl).to (if_pos rfl).symm) (fun e => by subst e; exact (h2 rfl).to (if_neg Bool.false_ne_true).symm)
theorem ve_andV {S S' : Bool → Prop} (h : VE C ta Γ (fun d => ∃ b, d = .bool b ∧ S b)) (k : S true → VE C tb Γ (fun d => ∃ b, d = .bool b ∧ S' b)) (k2 : S false → S' false) :
    VE C (tAndV ta tb) Γ (fun d => ∃ b, d = .bool b ∧ S' b) := fun B H σ F Q q => h B H σ F _ fun d v B1 H1 ⟨b, e, r⟩ s1 k1 => by
  subst e
  obtain rfl := dp_bl k1
  refine ⟨b, rfl, ?_⟩
  cases b with
  | true => exact iteT (k r B1 H1 σ (F.step s1) Q fun d v B2 H2 r2 s2 k => q d v B2 H2 r2 (s1.trans F.dlNow s2) k)
  | false => exact iteF (q _ _ B1 H1 ⟨false, rfl, k2 r⟩ s1 (.bl false))
theorem ve_orV {S S' : Bool → Prop} (h : VE C ta Γ (fun d => ∃ b, d = .bool b ∧ S b)) (k : S false → VE C tb Γ (fun d => ∃ b, d = .bool b ∧ S' b)) (k2 : S true → S' true) :
    VE C (tOrV ta tb) Γ (fun d => ∃ b, d = .bool b ∧ S' b) := fun B H σ F Q q => h B H σ F _ fun d v B1 H1 ⟨b, e, r⟩ s1 k1 => by
  subst e
  obtain rfl := dp_bl k1
  refine ⟨b, rfl, ?_⟩
  cases b with
  | true => exact iteT (q _ _ B1 H1 ⟨true, rfl, k2 r⟩ s1 (.bl true))
  | false => exact iteF (k r B1 H1 σ (F.step s1) Q fun d v B2 H2 r2 s2 k => q d v B2 H2 r2 (s1.trans F.dlNow s2) k)
theorem ve_andD (h : VE C ta Γ (Is (.bool b))) (k : b = true → VE C tb Γ (Is (.bool c))) : VE C (tAndV ta tb) Γ (Is (.bool (b && c))) :=
  (ve_andV (S := Is b) (S' := Is (b && c)) (h.imp fun d e => ⟨b, e, rfl⟩) (fun e => (k e.symm).imp fun d e2 => ⟨c, e2, by rw [← e]; rfl⟩) (fun e => by rw [← e]; rfl)).imp fun d ⟨x, e1, e2⟩ => by
    cases e2
    exact e1
theorem ve_orD (h : VE C ta Γ (Is (.bool b))) (k : b = false → VE C tb Γ (Is (.bool c))) : VE C (tOrV ta tb) Γ (Is (.bool (b || c))) :=
  (ve_orV (S := Is b) (S' := Is (b || c)) (h.imp fun d e => ⟨b, e, rfl⟩) (fun e => (k e.symm).imp fun d e2 => ⟨c, e2, by rw [← e]; rfl⟩) (fun e => by rw [← e]; rfl)).imp fun d ⟨x, e1, e2⟩ => by
    cases e2
    exact e1
theorem ve_notD (h : VE C ta Γ (Is (.bool b))) : VE C (tNotV ta) Γ (Is (.bool (!b))) := fun B H σ F Q q => h B H σ F _ fun d v B1 H1 r s1 k1 => by
  cases r
  obtain rfl := dp_bl k1
  exact ⟨b, rfl, q _ _ B1 H1 rfl s1 (.bl _)⟩
/-! tests -/
theorem vt_test {S : Bool → Prop} (h : VE C te Γ (fun d => ∃ b, d = .bool b ∧ S b)) : VT C (tTest te) Γ S := fun B H σ F Q q => h B H σ F _ fun d v B1 H1 ⟨b, e, r⟩ s1 k1 => by
  subst e
  obtain rfl := dp_bl k1
  exact ⟨b, rfl, q b B1 H1 r s1⟩
theorem vt_testD (h : VE C te Γ (Is (.bool b))) : VT C (tTest te) Γ (Is b) := vt_test (h.imp fun d e => ⟨b, e, rfl⟩)
theorem vt_B {S : Bool → Prop} (h : VE C te Γ (fun d => ∃ b, d = .bool b ∧ S b)) : VT C (tB te) Γ S := fun B H σ F Q q => h B H σ F _ fun d v B1 H1 ⟨b, e, r⟩ s1 k1 => by
  subst e
  obtain rfl := dp_bl k1
  exact ⟨b, rfl, q b B1 H1 r s1⟩
theorem vt_BD (h : VE C te Γ (Is (.bool b))) : VT C (tB te) Γ (Is b) := vt_B (h.imp fun d e => ⟨b, e, rfl⟩)
theorem vt_and {S S' : Bool → Prop} (h : VT C tt Γ S) (k : S true → VT C tu Γ S') (k2 : S false → S' false) : VT C (tAnd tt tu) Γ S' := fun B H σ F Q q => h B H σ F _ fun b B1 H1 r s1 => by
  cases b with
  | true => exact iteT (k r B1 H1 σ (F.step s1) Q fun b B2 H2 r2 s2 => q b B2 H2 r2 (s1.trans F.dlNow s2))
  | false => exact iteF (q false B1 H1 (k2 r) s1)
theorem vt_or {S S' : Bool → Prop} (h : VT C tt Γ S) (k : S false → VT C tu Γ S') (k2 : S true → S' true) : VT C (tOr tt tu) Γ S' := fun B H σ F Q q => h B H σ F _ fun b B1 H1 r s1 => by
  cases b with
  | true => exact iteT (q true B1 H1 (k2 r) s1)
  | false => exact iteF (k r B1 H1 σ (F.step s1) Q fun b B2 H2 r2 s2 => q b B2 H2 r2 (s1.trans F.dlNow s2))
theorem vt_andD (h : VT C tt Γ (Is b)) (k : b = true → VT C tu Γ (Is c)) : VT C (tAnd tt tu) Γ (Is (b && c)) :=
  vt_and h (fun e => (k e.symm).imp fun x e2 => by rw [← e, e2]; rfl) fun e => by rw [← e]; rfl
theorem vt_orD (h : VT C tt Γ (Is b)) (k : b = false → VT C tu Γ (Is c)) : VT C (tOr tt tu) Γ (Is (b || c)) :=
  vt_or h (fun e => (k e.symm).imp fun x e2 => by rw [← e, e2]; rfl) fun e => by rw [← e]; rfl
theorem vt_not {S : Bool → Prop} (h : VT C tt Γ (fun b => S (!b))) : VT C (tNot tt) Γ S := fun B H σ F Q q => h B H σ F _ fun b B1 H1 r s1 => q (!b) B1 H1 r s1
theorem vt_notD (h : VT C tt Γ (Is b)) : VT C (tNot tt) Γ (Is (!b)) := vt_not (h.imp fun x e => congrArg (!·) e)
/-! parts of slices -/
theorem vo_none : VO C tNoPart Γ (Is none) := fun B H σ F Q q => q none B H rfl (Stp.refl F.sub)
theorem vo_some {S : Int → Prop} (h : VE C te Γ (fun d => ∃ i, d = .int i ∧ S i)) : VO C (tPart te) Γ (fun o => ∃ i, o = some i ∧ S i) := fun B H σ F Q q => h B H σ F _ fun d v B1 H1 ⟨i, e, r⟩ s1 k1 => by
  subst e
  obtain rfl := dp_int k1
  exact ⟨i, rfl, q _ B1 H1 ⟨i, rfl, r⟩ s1⟩
theorem vo_someD {i : Int} (h : VE C te Γ (Is (.int i))) : VO C (tPart te) Γ (Is (some i)) := fun B H σ F Q q => vo_some (S := Is i) (h.imp fun d e => ⟨i, e, rfl⟩) B H σ F Q fun o B1 H1 ⟨j, e, r⟩ s1 => by
  cases r
  exact q o B1 H1 e s1

/-! ### operations by data -/
/-- an operation of two values gives data | a new list -/
def OD (C : Cn) (r : R2) (x y : D) (R : D → Prop) : Prop := ∀ B H v u, Same B H → Vw C B H v x → Vw C B H u y → ∀ Q : VK, (∀ d w B' H', R d → Stp C.dl B H B' H' → Dq C.K B' w d → Q w H') → r v u H Q
def OL (C : Cn) (r : R2) (x y : D) (R : List D → Prop) : Prop := ∀ B H v u, Same B H → Vw C B H v x → Vw C B H u y → ∀ Q : VK,
  (∀ ds p vs B' H', R ds → Stp C.dl B H B' H' → H p = none → B' p = none → H' p = some (.lst vs) → DqAll C.K B' vs ds → Q (.ref p) H') → r v u H Q
def UD (C : Cn) (r : V → Hp → VK → Prop) (x : D) (R : D → Prop) : Prop := ∀ B H v, Same B H → Vw C B H v x → ∀ Q : VK, (∀ d w B' H', R d → Stp C.dl B H B' H' → Dq C.K B' w d → Q w H') → r v H Q
/-- a call of a built-in gives data | a new list -/
def CD (C : Cn) (r : List V → Hp → VK → Prop) (xs : List D) (R : D → Prop) : Prop := ∀ B H vs, Same B H → VwAll C B H vs xs → ∀ Q : VK, (∀ d w B' H', R d → Stp C.dl B H B' H' → Dq C.K B' w d → Q w H') → r vs H Q
def CL (C : Cn) (r : List V → Hp → VK → Prop) (xs : List D) (R : List D → Prop) : Prop := ∀ B H vs, Same B H → VwAll C B H vs xs → ∀ Q : VK,
  (∀ ds p us B' H', R ds → Stp C.dl B H B' H' → H p = none → B' p = none → H' p = some (.lst us) → DqAll C.K B' us ds → Q (.ref p) H') → r vs H Q
variable {r : R2} {rc : List V → Hp → VK → Prop} {ru : V → Hp → VK → Prop}
theorem ve_op (h : VV C ta Γ Ra) (k : VV C tb Γ Rb) (o : ∀ x y, Ra x → Rb y → OD C r x y R) : VE C (tOp r ta tb) Γ R := fun B H σ F Q q => h B H σ F _ fun x v B1 H1 r1 s1 k1 =>
  k B1 H1 σ (F.step s1) _ fun y u B2 H2 r2 s2 k2 => o x y r1 r2 B2 H2 v u ((F.step s1).step s2).sub (k1.step (F.step s1) s2) k2 Q fun d w B3 H3 r3 s3 k3 => q d w B3 H3 r3 ((s1.trans F.dlNow s2).trans F.dlNow s3) k3
theorem ve_opD (h : VV C ta Γ (Is x)) (k : VV C tb Γ (Is y)) (o : OD C r x y R) : VE C (tOp r ta tb) Γ R := ve_op h k fun x y e1 e2 => by
  cases e1
  cases e2
  exact o
theorem back_none {B H B' H' : Hp} {σ : L2.St} {p : Addr} (F : Fm C B H σ Γ) (s : Stp C.dl B H B' H') (h : H' p = none) : H p = none := by
  cases e : H p with
  | none => rfl
  | some o => exact absurd h (s.there F.dlNow (by rw [e]; simp))
theorem vl_op {S : List D → Prop} (h : VV C ta Γ Ra) (k : VV C tb Γ Rb) (o : ∀ x y, Ra x → Rb y → OL C r x y S) : VL C (tOp r ta tb) Γ S := fun B H σ F Q q => h B H σ F _ fun x v B1 H1 r1 s1 k1 =>
  k B1 H1 σ (F.step s1) _ fun y u B2 H2 r2 s2 k2 => o x y r1 r2 B2 H2 v u ((F.step s1).step s2).sub (k1.step (F.step s1) s2) k2 Q fun ds p vs B3 H3 r3 s3 e1 e2 e3 e4 =>
    q ds p vs B3 H3 r3 ((s1.trans F.dlNow s2).trans F.dlNow s3) (back_none F (s1.trans F.dlNow s2) e1) e2 e3 e4
theorem vl_opD {S : List D → Prop} (h : VV C ta Γ (Is x)) (k : VV C tb Γ (Is y)) (o : OL C r x y S) : VL C (tOp r ta tb) Γ S := vl_op h k fun x y e1 e2 => by
  cases e1
  cases e2
  exact o
theorem ve_un (h : VV C ta Γ Ra) (o : ∀ x, Ra x → UD C ru x R) : VE C (tUn ru ta) Γ R := fun B H σ F Q q => h B H σ F _ fun x v B1 H1 r1 s1 k1 =>
  o x r1 B1 H1 v (F.step s1).sub k1 Q fun d w B3 H3 r3 s3 k3 => q d w B3 H3 r3 (s1.trans F.dlNow s3) k3
theorem ve_cb {S : List D → Prop} (h : VW C A Γ S) (o : ∀ xs, S xs → CD C rc xs R) : VE C (tCB rc A) Γ R := fun B H σ F Q q => h B H σ F _ fun xs vs B1 H1 r1 s1 k1 =>
  o xs r1 B1 H1 vs (F.step s1).sub k1 Q fun d w B3 H3 r3 s3 k3 => q d w B3 H3 r3 (s1.trans F.dlNow s3) k3
theorem ve_cbD (h : VW C A Γ (Is ds)) (o : CD C rc ds R) : VE C (tCB rc A) Γ R := ve_cb h fun xs e => by
  cases e
  exact o
theorem vl_cb {S S' : List D → Prop} (h : VW C A Γ S) (o : ∀ xs, S xs → CL C rc xs S') : VL C (tCB rc A) Γ S' := fun B H σ F Q q => h B H σ F _ fun xs vs B1 H1 r1 s1 k1 =>
  o xs r1 B1 H1 vs (F.step s1).sub k1 Q fun ds p us B3 H3 r3 s3 e1 e2 e3 e4 => q ds p us B3 H3 r3 (s1.trans F.dlNow s3) (back_none F s1 e1) e2 e3 e4
theorem vl_cbD {S' : List D → Prop} (h : VW C A Γ (Is ds)) (o : CL C rc ds S') : VL C (tCB rc A) Γ S' := vl_cb h fun xs e => by
  cases e
  exact o
end

/-! ### what a loop walks, what takes a value -/
/-- the things that come, one after another; each for good -/
def VI (C : Cn) (wi : TI) (Γ : List Sl) (R : List D → Prop) : Prop := ∀ B H σ, Fm C B H σ Γ → ∀ T : It → Hp → Prop, (∀ ds J B1 H1 G Y, R ds → Stp C.dl B H B1 H1 → Walk J ds.length G Y →
  (∀ B2 H2, Same B1 B2 → Same B2 H2 → G H2) →
  (∀ i x H2 H2', Y i H2 x H2' → ∀ B2 d, Same B1 B2 → Same B2 H2 → ds[i]? = some d → ∃ B2', Stp C.dl B2 H2 B2' H2' ∧ Dq C.K B2' x d) → T J H1) → wi σ H T
/-- a target takes data; only the slots js change -/
structure VG (C : Cn) (g : TG) (d : D) (Γ Γ' : List Sl) (js : List Nat) : Prop where
  run : ∀ {B H σ v}, Fm C B H σ Γ → Dq C.K B v d → ∀ Q : L2.St → Hp → Prop, (∀ σ', σ'.length = σ.length → (∀ i, i ∉ js → σ'[i]? = σ[i]?) → Fm C B H σ' Γ' → Q σ' H) → g v σ H Q
  own : ∀ (j : Nat) es, Γ'[j]? = some (.own es) → Γ[j]? = some (.own es) ∧ j ∉ js
structure VGs (C : Cn) (gs : TGs) (ds : List D) (Γ Γ' : List Sl) (js : List Nat) : Prop where
  run : ∀ {B H σ vs}, Fm C B H σ Γ → DqAll C.K B vs ds → ∀ Q : L2.St → Hp → Prop, (∀ σ', σ'.length = σ.length → (∀ i, i ∉ js → σ'[i]? = σ[i]?) → Fm C B H σ' Γ' → Q σ' H) → gs vs σ H Q
  own : ∀ (j : Nat) es, Γ'[j]? = some (.own es) → Γ[j]? = some (.own es) ∧ j ∉ js
section
variable {C : Cn} {Γ Γ' Γ1 : List Sl} {d e : D} {ds : List D} {i j n : Nat} {g g' : TG} {gs : TGs} {js ks : List Nat}
theorem vg_name : VG C (gName i) d Γ (Γ.set i (.dat d)) [i] := by
  refine ⟨fun F h Q q => q _ (List.length_set ..) (fun j hj => by rw [List.getElem?_set_ne (fun z => hj (by simp [z]))]) (F.set h), fun j es h => ?_⟩
  by_cases hj : i = j
  · subst hj
    have hl : i < Γ.length := by
      have := (List.getElem?_eq_some_iff.mp h).1
      rw [List.length_set] at this
      exact this
    rw [List.getElem?_set_self hl] at h
    cases h
  · rw [List.getElem?_set_ne hj] at h
    exact ⟨h, fun z => hj (List.mem_singleton.mp z).symm⟩
theorem vgs_nil : VGs C gNil [] Γ Γ [] := ⟨fun {B H σ vs} F h Q q => by
  cases h
  exact ⟨rfl, q σ rfl (fun _ _ => rfl) F⟩, fun j es h => ⟨h, fun z => nomatch z⟩⟩
theorem vgs_cons (h : VG C g d Γ Γ1 js) (k : VGs C gs ds Γ1 Γ' ks) : VGs C (gCons g gs) (d :: ds) Γ Γ' (js ++ ks) := by
  refine ⟨fun {B H σ vs} F hd Q q => ?_, fun j es hj => ?_⟩
  · cases hd with
    | cons h1 h2 =>
      refine ⟨_, _, rfl, h.run F h1 _ fun σ1 l1 e1 F1 => k.run F1 h2 _ fun σ2 l2 e2 F2 => q σ2 (l2.trans l1) (fun i hi => ?_) F2⟩
      rw [e2 i (fun z => hi (List.mem_append_right _ z)), e1 i (fun z => hi (List.mem_append_left _ z))]
  · obtain ⟨k1, k2⟩ := k.own j es hj
    obtain ⟨h1, h2⟩ := h.own j es k1
    exact ⟨h1, fun z => (List.mem_append.mp z).elim h2 k2⟩
theorem vg_tup (h : VGs C gs ds Γ Γ' js) (n1 : ds.length = n) : VG C (gTup C.K n gs) (.tuple ds) Γ Γ' js := by
  refine ⟨fun {B H σ v} F hd Q q => ?_, h.own⟩
  obtain ⟨a, xs, rfl, h1, h2⟩ := dp_tup hd
  exact ⟨a, xs, rfl, same_t F.sub h1, (dpall_len h2).trans n1, h.run F h2 Q q⟩
theorem vg_tup2 {g1 g2 : TG} {d1 d2 : D} {Γ1 Γ2 : List Sl} {j1 j2 : List Nat} (h1 : VG C g1 d1 Γ Γ1 j1) (h2 : VG C g2 d2 Γ1 Γ2 j2) : VG C (gTup C.K 2 (gCons g1 (gCons g2 gNil))) (.tuple [d1, d2]) Γ Γ2 (j1 ++ (j2 ++ [])) :=
  vg_tup (vgs_cons h1 (vgs_cons h2 vgs_nil)) rfl
end
end Ly

/-! LyD: statements (VS), loops, comprehensions, what a def promises (Pu, De). -/
namespace Ly
open PySem PySem.Spec PyProof.Rows L2

structure Po where
  nx : List Sl → Prop
  rt : D → Prop
  bk : List Sl → Prop := fun _ => False
  ct : List Sl → Prop := fun _ => False

/-- a statement, from what the names hold -/
def VS (C : Cn) (t : TS) (Γ : List Sl) (P : Po) : Prop := ∀ B H σ (E : Ends), Fm C B H σ Γ →
  (∀ Γ' B' H' σ', P.nx Γ' → Same B B' → Fm C B' H' σ' Γ' → E.nx σ' H') →
  (∀ d v B' H', P.rt d → Stp C.dl C.B C.H B' H' → Dq C.K B' v d → E.rt v H') →
  (∀ Γ' B' H' σ', P.bk Γ' → Same B B' → Fm C B' H' σ' Γ' → E.bk σ' H') →
  (∀ Γ' B' H' σ', P.ct Γ' → Same B B' → Fm C B' H' σ' Γ' → E.ct σ' H') → t E σ H

section
variable {C : Cn} {t u : TS} {te ta tb : TE} {tt : TT} {A : TA} {Γ Γ' : List Sl} {P P' : Po} {R : D → Prop} {S : List D → Prop} {i j : Nat} {d : D} {ds : List D}
theorem VS.imp (h : VS C t Γ P) (h1 : ∀ Γ, P.nx Γ → P'.nx Γ) (h2 : ∀ d, P.rt d → P'.rt d) (h3 : ∀ Γ, P.bk Γ → P'.bk Γ) (h4 : ∀ Γ, P.ct Γ → P'.ct Γ) : VS C t Γ P' := fun B H σ E F n r b c =>
  h B H σ E F (fun Γ' B' H' σ' p => n Γ' B' H' σ' (h1 _ p)) (fun d v B' H' p => r d v B' H' (h2 _ p)) (fun Γ' B' H' σ' p => b Γ' B' H' σ' (h3 _ p)) fun Γ' B' H' σ' p => c Γ' B' H' σ' (h4 _ p)
theorem vs_next (h : P.nx Γ) : VS C tNext Γ P := fun B H σ E F n r b c => n Γ B H σ h (Same.refl B) F
theorem vs_brk (h : P.bk Γ) : VS C tBreak Γ P := fun B H σ E F n r b c => b Γ B H σ h (Same.refl B) F
theorem vs_cont (h : P.ct Γ) : VS C tCont Γ P := fun B H σ E F n r b c => c Γ B H σ h (Same.refl B) F
theorem vs_seq (M : List Sl → Prop) (h : VS C t Γ { P with nx := M }) (k : ∀ Γ', M Γ' → VS C u Γ' P) : VS C (tSeq t u) Γ P := fun B H σ E F n r b c =>
  h B H σ { E with nx := u E } F (fun Γ' B' H' σ' m s F' => k Γ' m B' H' σ' E F' (fun Γ2 B2 H2 σ2 p s2 => n Γ2 B2 H2 σ2 p (s.trans s2)) r (fun Γ2 B2 H2 σ2 p s2 => b Γ2 B2 H2 σ2 p (s.trans s2)) fun Γ2 B2 H2 σ2 p s2 => c Γ2 B2 H2 σ2 p (s.trans s2)) r b c
/-- the next statement is looked at with just these slots -/
theorem vs_then (Γ' : List Sl) (h : VS C t Γ { P with nx := Is Γ' }) (k : VS C u Γ' P) : VS C (tSeq t u) Γ P := vs_seq (Is Γ') h fun _ e => by
  cases e
  exact k
theorem vs_asg (h : VE C te Γ R) (k : ∀ d, R d → P.nx (Γ.set i (.dat d))) : VS C (tAsg te (gName i)) Γ P := fun B H σ E F n r b c => h B H σ F _ fun d v B' H' rd s kd =>
  n _ B' H' _ (k d rd) s.ext ((F.step s).set kd)
theorem vq_asg (h : VE C te Γ R) (k : ∀ d, R d → VS C u (Γ.set i (.dat d)) P) : VS C (tSeq (tAsg te (gName i)) u) Γ P :=
  vs_seq (fun Γ' => ∃ d, R d ∧ Γ' = Γ.set i (.dat d)) (vs_asg h fun d r => ⟨d, r, rfl⟩) fun Γ' ⟨d, r, e⟩ => by
    subst e
    exact k d r
theorem vq_asgD (h : VE C te Γ (Is d)) (k : VS C u (Γ.set i (.dat d)) P) : VS C (tSeq (tAsg te (gName i)) u) Γ P := vq_asg h fun _ e => by
  cases e
  exact k
theorem vs_asgD (h : VE C te Γ (Is d)) (k : P.nx (Γ.set i (.dat d))) : VS C (tAsg te (gName i)) Γ P := vs_asg h fun _ e => by
  cases e
  exact k
/-- a target of any form -/
theorem vs_asgG {g : TG} (h : VE C te Γ R) (k : ∀ d, R d → ∃ Γ' js, VG C g d Γ Γ' js ∧ P.nx Γ') : VS C (tAsg te g) Γ P := fun B H σ E F n r b c => h B H σ F _ fun d v B' H' rd s kd => by
  obtain ⟨Γ', js, hg, p⟩ := k d rd
  exact hg.run (F.step s) kd _ fun σ' _ _ F' => n Γ' B' H' σ' p s.ext F'
/-- a new list of one's own -/
theorem vs_own (h : VL C te Γ S) (k : ∀ ds, S ds → P.nx (Γ.set i (.own ds))) : VS C (tAsg te (gName i)) Γ P := fun B H σ E F n r b c => h B H σ F _ fun ds p vs B' H' rd s k1 k2 k3 k4 =>
  n _ B' H' _ (k ds rd) s.ext ((F.step s).setOwn (F.newC k1) k2 k3 k4 fun j es _ hj => F.noOwn k1 hj)
theorem vq_own (h : VL C te Γ S) (k : ∀ ds, S ds → VS C u (Γ.set i (.own ds)) P) : VS C (tSeq (tAsg te (gName i)) u) Γ P :=
  vs_seq (fun Γ' => ∃ d, S d ∧ Γ' = Γ.set i (.own d)) (vs_own h fun d r => ⟨d, r, rfl⟩) fun Γ' ⟨d, r, e⟩ => by
    subst e
    exact k d r
theorem vq_ownD (h : VL C te Γ (Is ds)) (k : VS C u (Γ.set i (.own ds)) P) : VS C (tSeq (tAsg te (gName i)) u) Γ P := vq_own h fun _ e => by
  cases e
  exact k
theorem vs_ret (h : VE C te Γ P.rt) : VS C (tRet te) Γ P := fun B H σ E F n r b c => h B H σ F _ fun d v B' H' rd s kd => r d v B' H' rd (F.st.trans (fun p q e => (F.dl p q e).1) s) kd
theorem vs_retD (h : VE C te Γ (Is d)) (k : P.rt d) : VS C (tRet te) Γ P := vs_ret (h.imp fun _ e => e ▸ k)
/-- from now on one's own list stands for good -/
theorem vs_freeze (i : Nat) (hi : Γ[i]? = some (.own ds)) (k : VS C t (Γ.set i (.dat (.list ds))) P) : VS C t Γ P := fun B H σ E F n r b c => by
  obtain ⟨B', _, s2, F'⟩ := F.freeze hi
  exact k B' H σ E F' (fun Γ2 B2 H2 σ2 p s => n Γ2 B2 H2 σ2 p (s2.trans s)) r (fun Γ2 B2 H2 σ2 p s => b Γ2 B2 H2 σ2 p (s2.trans s)) fun Γ2 B2 H2 σ2 p s => c Γ2 B2 H2 σ2 p (s2.trans s)
theorem vs_retOwn (i : Nat) (hi : Γ[i]? = some (.own ds)) (k : P.rt (.list ds)) : VS C (tRet (tVar i)) Γ P :=
  vs_freeze i hi (vs_retD (ve_var (List.getElem?_set_self (List.getElem?_eq_some_iff.mp hi).1)) k)
theorem vs_if {Q : Bool → Prop} (h : VT C tt Γ Q) (h1 : Q true → VS C t Γ P) (h2 : Q false → VS C u Γ P) : VS C (tIfS tt t u) Γ P := fun B H σ E F n r b c => h B H σ F _ fun x B' H' q s => by
  cases x with
  | true => exact iteT (h1 q B' H' σ E (F.step s) (fun Γ2 B2 H2 σ2 p s2 => n Γ2 B2 H2 σ2 p (s.ext.trans s2)) r (fun Γ2 B2 H2 σ2 p s2 => b Γ2 B2 H2 σ2 p (s.ext.trans s2)) fun Γ2 B2 H2 σ2 p s2 => c Γ2 B2 H2 σ2 p (s.ext.trans s2))
  | false => exact iteF (h2 q B' H' σ E (F.step s) (fun Γ2 B2 H2 σ2 p s2 => n Γ2 B2 H2 σ2 p (s.ext.trans s2)) r (fun Γ2 B2 H2 σ2 p s2 => b Γ2 B2 H2 σ2 p (s.ext.trans s2)) fun Γ2 B2 H2 σ2 p s2 => c Γ2 B2 H2 σ2 p (s.ext.trans s2))
theorem vs_ifD {x : Bool} (h : VT C tt Γ (Is x)) (h1 : x = true → VS C t Γ P) (h2 : x = false → VS C u Γ P) : VS C (tIfS tt t u) Γ P := vs_if h (fun e => h1 e.symm) fun e => h2 e.symm
/-- an if that leaves or goes on to the rest -/
theorem vq_if {Q : Bool → Prop} {t2 : TS} (h : VT C tt Γ Q) (h1 : Q true → VS C (tSeq t u) Γ P) (h2 : Q false → VS C (tSeq t2 u) Γ P) : VS C (tSeq (tIfS tt t t2) u) Γ P := fun B H σ E F n r b c => h B H σ F _ fun x B' H' q s => by
  cases x with
  | true => exact iteT (h1 q B' H' σ E (F.step s) (fun Γ2 B2 H2 σ2 p s2 => n Γ2 B2 H2 σ2 p (s.ext.trans s2)) r (fun Γ2 B2 H2 σ2 p s2 => b Γ2 B2 H2 σ2 p (s.ext.trans s2)) fun Γ2 B2 H2 σ2 p s2 => c Γ2 B2 H2 σ2 p (s.ext.trans s2))
  | false => exact iteF (h2 q B' H' σ E (F.step s) (fun Γ2 B2 H2 σ2 p s2 => n Γ2 B2 H2 σ2 p (s.ext.trans s2)) r (fun Γ2 B2 H2 σ2 p s2 => b Γ2 B2 H2 σ2 p (s.ext.trans s2)) fun Γ2 B2 H2 σ2 p s2 => c Γ2 B2 H2 σ2 p (s.ext.trans s2))
theorem vq_ifD {x : Bool} {t2 : TS} (h : VT C tt Γ (Is x)) (h1 : x = true → VS C (tSeq t u) Γ P) (h2 : x = false → VS C (tSeq t2 u) Γ P) : VS C (tSeq (tIfS tt t t2) u) Γ P := vq_if h (fun e => h1 e.symm) fun e => h2 e.symm
/-- a statement that leaves: what stands behind it is not come to -/
theorem vq_leave (h : VS C t Γ { P with nx := fun _ => False }) : VS C (tSeq t u) Γ P := vs_seq (fun _ => False) h fun _ e => e.elim
theorem vq_next (h : VS C u Γ P) : VS C (tSeq tNext u) Γ P := vs_then Γ (vs_next rfl) h
theorem vs_drop (h : VV C te Γ R) (k : P.nx Γ) : VS C (tDrop te) Γ P := fun B H σ E F n r b c => h B H σ F _ fun d v B' H' rd s kd => n Γ B' H' σ k s.ext (F.step s)
theorem own_ty {K : PySem.W.Frag} {H : Hp} {p : Addr} {vs : List V} (h : H p = some (.lst vs)) : tyV K "list" (.ref p) H := Or.inl ⟨rfl, vs, Or.inl (Or.inl h)⟩
theorem sz6 {n : Nat} (h : n < 100000) : n < sizeLine := Nat.lt_of_lt_of_le h (by decide)
/-- xs.append(e) -/
theorem vs_app (hi : Γ[i]? = some (.own ds)) (h : VE C te Γ R) (hz : ds.length < 100000) (k : ∀ d, R d → P.nx (Γ.set i (.own (ds ++ [d])))) : VS C (tDrop (tBM C.K "list" rAppend (tVar i) (tCons te tNil))) Γ P := fun B H σ E F n r b c => by
  obtain ⟨p, vs, e, hC, hB, hp, hd⟩ := F.hasOwn hi
  refine ⟨.ref p, e, own_ty hp, h B H σ F _ fun d v B' H' rd s kd => ?_⟩
  have hp' := s.keep p _ hp (F.notMd hC)
  refine ⟨p, vs, v, rfl, rfl, hp', sz6 (by rw [dpall_len hd]; exact hz), ?_⟩
  exact n _ B' _ σ (k d rd) s.ext ((F.step s).mutOwn hi e (dpall_app (dpall_mono s.ext hd) (dpall_one kd)))
theorem vq_app (hi : Γ[i]? = some (.own ds)) (h : VE C te Γ R) (hz : ds.length < 100000) (k : ∀ d, R d → VS C u (Γ.set i (.own (ds ++ [d]))) P) : VS C (tSeq (tDrop (tBM C.K "list" rAppend (tVar i) (tCons te tNil))) u) Γ P :=
  vs_seq (fun Γ' => ∃ d, R d ∧ Γ' = Γ.set i (.own (ds ++ [d]))) (vs_app hi h hz fun d r => ⟨d, r, rfl⟩) fun Γ' ⟨d, r, e⟩ => by
    subst e
    exact k d r
/-- xs[e1] = e2 -/
theorem vs_setAt {k : Nat} {z : Int} (hi : Γ[i]? = some (.own ds)) (h : VE C te Γ R) (hx : VE C ta Γ (Is (.int z))) (hk : ixN ds.length z = some k) (q : ∀ d, R d → P.nx (Γ.set i (.own (ds.set k d)))) :
    VS C (tAsg te (gSub (tVar i) ta rSetL)) Γ P := fun B H σ E F n r b c => h B H σ F _ fun d v B1 H1 rd s kd => by
  obtain ⟨p, vs, e, hC, hB, hp, hd⟩ := F.hasOwn hi
  have F1 := F.step s
  refine ⟨.ref p, e, hx B1 H1 σ F1 _ fun x w B2 H2 ex s2 k2 => ?_⟩
  cases ex
  obtain rfl := dp_int k2
  have hp' := s2.keep p _ (s.keep p _ hp (F.notMd hC)) (F.notMd hC)
  refine ⟨p, vs, z, k, rfl, rfl, hp', by rw [dpall_len hd]; exact hk, ?_⟩
  exact n _ B2 _ σ (q d rd) (s.ext.trans s2.ext) ((F1.step s2).mutOwn hi e (dpall_set (dp_mono s2.ext kd) k (dpall_mono (s.ext.trans s2.ext) hd)))
/-- x += e, of ints -/
theorem vs_aug {ti : TIp} {a : D} (ha : Γ[i]? = some (.dat a)) (h : VE C te Γ R) (hr : ∀ d, R d → ∃ z, OD C ti a d (Is z) ∧ P.nx (Γ.set i (.dat z))) : VS C (tAug i te ti) Γ P := fun B H σ E F n r b c => by
  obtain ⟨v, e, hv⟩ := F.has ha
  refine ⟨v, e, h B H σ F _ fun d w B1 H1 rd s kd => ?_⟩
  obtain ⟨z, ho, hp⟩ := hr d rd
  exact ho B1 H1 v w (F.step s).sub (Or.inl (dp_mono s.ext hv)) (Or.inl kd) _ fun z' w' B2 H2 ez s2 k2 => by
    cases ez
    exact n _ B2 H2 _ hp (s.ext.trans s2.ext) (((F.step s).step s2).set k2)
/-! a, b = e1, e2: data or new lists -/
theorem vs_parEE {R2 : D → Prop} (h1 : VE C ta Γ R) (h2 : VE C tb Γ R2) (k : ∀ x y, R x → R2 y → P.nx ((Γ.set i (.dat x)).set j (.dat y))) : VS C (tPar i j (tCons ta (tCons tb tNil))) Γ P := fun B H σ E F n r b c =>
  h1 B H σ F _ fun x v B1 H1 r1 s1 k1 => h2 B1 H1 σ (F.step s1) _ fun y w B2 H2 r2 s2 k2 => ⟨v, w, rfl, n _ B2 H2 _ (k x y r1 r2) (s1.ext.trans s2.ext) ((((F.step s1).step s2).set (dp_mono s2.ext k1)).set k2)⟩
theorem vs_parLE {R2 : D → Prop} (h1 : VL C ta Γ S) (h2 : VE C tb Γ R2) (k : ∀ x y, S x → R2 y → P.nx ((Γ.set i (.own x)).set j (.dat y))) : VS C (tPar i j (tCons ta (tCons tb tNil))) Γ P := fun B H σ E F n r b c =>
  h1 B H σ F _ fun ds p vs B1 H1 r1 s1 e1 e2 e3 e4 => h2 B1 H1 σ (F.step s1) _ fun y w B2 H2 r2 s2 k2 => ⟨_, w, rfl, n _ B2 H2 _ (k ds y r1 r2) (s1.ext.trans s2.ext) ((((F.step s1).step s2).setOwn (F.newC e1) (s2.out p (by rw [e3]; simp) e2)
    (s2.keep p _ e3 (F.notMd (F.newC e1))) (dpall_mono s2.ext e4) fun j es _ hj => F.noOwn e1 hj).set k2)⟩
theorem vs_parEL {R2 : D → Prop} (h1 : VE C ta Γ R2) (h2 : VL C tb Γ S) (k : ∀ x y, R2 x → S y → P.nx ((Γ.set i (.dat x)).set j (.own y))) : VS C (tPar i j (tCons ta (tCons tb tNil))) Γ P := fun B H σ E F n r b c =>
  h1 B H σ F _ fun x v B1 H1 r1 s1 k1 => h2 B1 H1 σ (F.step s1) _ fun ds p vs B2 H2 r2 s2 e1 e2 e3 e4 => ⟨v, _, rfl, n _ B2 H2 _ (k x ds r1 r2) (s1.ext.trans s2.ext) ((((F.step s1).step s2).set (dp_mono s2.ext k1)).setOwn ((F.step s1).newC e1) e2 e3 e4
    fun j' es nj hj => by
      by_cases hij : i = j'
      · subst hij
        by_cases hl : i < Γ.length
        · rw [List.getElem?_set_self hl] at hj
          cases hj
        · rw [List.getElem?_eq_none_iff.mpr (by rw [List.length_set]; omega)] at hj
          cases hj
      · rw [List.getElem?_set_ne hij] at hj
        rw [List.getElem?_set_ne hij]
        exact (F.step s1).noOwn e1 hj)⟩
theorem vs_parLL {S2 : List D → Prop} (h1 : VL C ta Γ S) (h2 : VL C tb Γ S2) (k : ∀ x y, S x → S2 y → P.nx ((Γ.set i (.own x)).set j (.own y))) : VS C (tPar i j (tCons ta (tCons tb tNil))) Γ P := fun B H σ E F n r b c =>
  h1 B H σ F _ fun ds p vs B1 H1 r1 s1 e1 e2 e3 e4 => h2 B1 H1 σ (F.step s1) _ fun es q us B2 H2 r2 s2 g1 g2 g3 g4 => ⟨_, _, rfl, n _ B2 H2 _ (k ds es r1 r2) (s1.ext.trans s2.ext) ((((F.step s1).step s2).setOwn (F.newC e1) (s2.out p (by rw [e3]; simp) e2)
    (s2.keep p _ e3 (F.notMd (F.newC e1))) (dpall_mono s2.ext e4) fun j es _ hj => F.noOwn e1 hj).setOwn ((F.step s1).newC g1) g2 g3 g4 fun j' xs nj hj => by
      by_cases hij : i = j'
      · subst hij
        by_cases hl : i < σ.length
        · rw [List.getElem?_set_self hl]
          intro z
          injection z with z
          injection z with z
          injection z with z
          subst z
          rw [e3] at g1
          cases g1
        · rw [List.getElem?_eq_none_iff.mpr (by rw [List.length_set]; omega)]
          exact fun z => nomatch z
      · rw [List.getElem?_set_ne hij] at hj
        rw [List.getElem?_set_ne hij]
        exact (F.step s1).noOwn g1 hj)⟩
/-! ### loops -/
/-- while: W by a measure -/
theorem vs_while (W : Nat → List Sl → Prop) (m0 : Nat) (h0 : W m0 Γ) (hs : ∀ m Γ', W m Γ' → ∃ Q : Bool → Prop, VT C tt Γ' Q ∧
    (Q true → VS C t Γ' { nx := fun Γ2 => ∃ m', m' < m ∧ W m' Γ2, rt := P.rt, bk := P.nx, ct := fun Γ2 => ∃ m', m' < m ∧ W m' Γ2 }) ∧ (Q false → P.nx Γ')) : VS C (tWhile tt t) Γ P := fun B H σ E F n r b c => by
  refine ⟨fun m σ' H' => ∃ Γ' B', W m Γ' ∧ Same B B' ∧ Fm C B' H' σ' Γ', ⟨m0, Γ, B, h0, Same.refl B, F⟩, ?_⟩
  rintro m σ1 H1 ⟨Γ1, B1, w, s, F1⟩
  obtain ⟨Q, hq, h1, h2⟩ := hs m Γ1 w
  refine hq B1 H1 σ1 F1 _ fun x B2 H2 q s2 => ?_
  cases x with
  | true =>
    refine iteT ⟨fun σ' H' => ∃ m', m' < m ∧ ∃ Γ' B', W m' Γ' ∧ Same B B' ∧ Fm C B' H' σ' Γ', fun σ' H' h => h, ?_⟩
    have nxt : ∀ Γ' B' H' σ', (∃ m', m' < m ∧ W m' Γ') → Same B2 B' → Fm C B' H' σ' Γ' → ∃ m', m' < m ∧ ∃ Γ' B', W m' Γ' ∧ Same B B' ∧ Fm C B' H' σ' Γ' :=
      fun Γ' B' H' σ' ⟨m', l, w'⟩ s' F' => ⟨m', l, Γ', B', w', (s.trans s2.ext).trans s', F'⟩
    exact h1 q B2 H2 σ1 _ (F1.step s2) nxt r (fun Γ' B' H' σ' p s' F' => n Γ' B' H' σ' p ((s.trans s2.ext).trans s') F') nxt
  | false => exact iteF (n Γ1 B2 H2 σ1 (h2 q) (s.trans s2.ext) (F1.step s2))
/-- for: Inv by the turn -/
theorem vs_for {wi : TI} {g : TG} (h : VI C wi Γ S) (k : ∀ ds, S ds → ∃ Inv : Nat → List Sl → Prop, Inv 0 Γ ∧ (∀ (i : Nat) d Γ', ds[i]? = some d → Inv i Γ' → ∃ Γ1 js, VG C g d Γ' Γ1 js ∧
    VS C t Γ1 { nx := Inv (i + 1), rt := P.rt, bk := P.nx, ct := Inv (i + 1) }) ∧ ∀ Γ', Inv ds.length Γ' → P.nx Γ') : VS C (tFor wi g t) Γ P := fun B H σ E F n r b c =>
  h B H σ F _ fun ds J B1 H1 G Y rd s w hG hY => by
    obtain ⟨Inv, i0, turn, fin⟩ := k ds rd
    refine for_it w (fun i σ' H' => ∃ Γ' B', Inv i Γ' ∧ Same B1 B' ∧ Fm C B' H' σ' Γ') ⟨Γ, B1, i0, Same.refl B1, F.step s⟩ (fun i σ' H' _ ⟨Γ', B', _, s', F'⟩ => hG B' H' s' F'.sub) ?_ ?_
    · rintro i x σ1 H1 H1' hi ⟨Γ', B', iv, s', F'⟩ y
      have hd : ds[i]? = some ds[i] := List.getElem?_eq_getElem hi
      obtain ⟨B2, st, kd⟩ := hY i x H1 H1' y B' ds[i] s' F'.sub hd
      obtain ⟨Γ1, js, hg, hb⟩ := turn i ds[i] Γ' hd iv
      have F2 := F'.step st
      refine hg.run F2 kd _ fun σ2 _ _ F3 => ?_
      have nxt : ∀ Γ'' B'' H'' σ'', Inv (i + 1) Γ'' → Same B2 B'' → Fm C B'' H'' σ'' Γ'' → ∃ Γ' B', Inv (i + 1) Γ' ∧ Same B1 B' ∧ Fm C B' H'' σ'' Γ' := fun Γ'' B'' H'' σ'' iv' s'' F'' => ⟨Γ'', B'', iv', (s'.trans st.ext).trans s'', F''⟩
      exact hb B2 H1' σ2 _ F3 nxt r (fun Γ'' B'' H'' σ'' p s'' F'' => n Γ'' B'' H'' σ'' p (((s.ext.trans s').trans st.ext).trans s'') F'') nxt
    · rintro σ1 H1 ⟨Γ', B', iv, s', F'⟩
      exact n Γ' B' H1 σ1 (fin Γ' iv) (s.ext.trans s') F'
end
end Ly

/-! LyE: comprehensions; what loops walk (list, tuple, text, range, enumerate of a text); what a def promises (Pu, De) and its call. -/
namespace Ly
open PySem PySem.Spec PyProof.Rows L2

/-! ### an object of one's own that no name tells -/
section
variable {dl : Option (Addr × Addr)} {B H B' H' : Hp} {p : Addr} {o : HO} {C : Cn} {σ : L2.St} {Γ : List Sl} {vs : List Nat}
theorem Stp.poke (hd : ∀ p q, dl = some (p, q) → DealAt H p q) (s : Stp dl B H B' H') (h : H p = none) (hB : B' p = none) : Stp dl B H B' (upd H' p o) := by
  refine ⟨s.ext, fun a u e => ?_, fun a u e m => ?_, s.out, fun r q e d => ?_⟩
  · rw [upd_ne (ne_of_none e hB)]
    exact s.sub a u e
  · rw [upd_ne (ne_of_none e h)]
    exact s.keep a u e m
  · obtain ⟨ne, ns, b, h1, h2, rest⟩ := s.deal r q e d
    have d0 := hd r q e
    have n1 : r ≠ p := fun z => d0.there (Or.inl rfl) (z ▸ h)
    have n2 : q ≠ p := fun z => d0.there (Or.inr rfl) (z ▸ h)
    exact ⟨ne, ns, b, by rw [upd_ne n1]; exact h1, by rw [upd_ne n2]; exact h2, rest⟩
theorem Fm.poke (F : Fm C B H σ Γ) (hC : C.H p = none) (hB : B p = none) (hn : ∀ (j : Nat) es, Γ[j]? = some (.own es) → σ[j]? ≠ some (some (.ref p))) : Fm C B (upd H p o) σ Γ := by
  refine ⟨F.st.poke (fun p q e => (F.dl p q e).1) hC hB, F.dl, F.len, fun i sl e => ?_, F.inj⟩
  have k := F.slot i sl e
  cases sl with
  | no => trivial
  | dat d => exact k
  | own ds =>
    obtain ⟨r, zs, k1, k2, k3, k4, k5⟩ := k
    have nr : r ≠ p := fun z => hn i ds e (z ▸ k1)
    exact ⟨r, zs, k1, k2, k3, by rw [upd_ne nr]; exact k4, k5⟩
  | deal => exact k
  | rd vs => exact k
/-- the names of a comprehension are taken away -/
def wipeS (Γ : List Sl) : List Nat → List Sl
  | [] => Γ
  | v :: vs => (wipeS Γ vs).set v .no
theorem Fm.wipe (F : Fm C B H σ Γ) : ∀ vs : List Nat, Fm C B H (wipe σ vs) (wipeS Γ vs)
  | [] => F
  | v :: vs => (Fm.wipe F vs).drop none
theorem wipe_get {a b : L2.St} (hl : a.length = b.length) : ∀ vs : List Nat, (∀ i, i ∉ vs → a[i]? = b[i]?) → wipe a vs = wipe b vs := by
  intro vs h
  apply List.ext_getElem?
  intro i
  have key : ∀ (ws : List Nat) (x y : L2.St), x.length = y.length → (i ∈ ws ∨ x[i]? = y[i]?) → (wipe x ws)[i]? = (wipe y ws)[i]? := by
    intro ws
    induction ws with
    | nil =>
      intro x y _ k
      rcases k with k | k
      · cases k
      · exact k
    | cons w ws ih =>
      intro x y e k
      show ((wipe x ws).set w none)[i]? = ((wipe y ws).set w none)[i]?
      by_cases hw : w = i
      · subst hw
        by_cases hlt : w < x.length
        · rw [List.getElem?_set_self (by rw [wipe_length]; exact hlt), List.getElem?_set_self (by rw [wipe_length]; omega)]
        · rw [List.getElem?_eq_none_iff.mpr (by rw [List.length_set, wipe_length]; omega), List.getElem?_eq_none_iff.mpr (by rw [List.length_set, wipe_length]; omega)]
      · rw [List.getElem?_set_ne hw, List.getElem?_set_ne hw]
        refine ih x y e ?_
        rcases k with k | k
        · rcases List.mem_cons.mp k with z | z
          · exact absurd z.symm hw
          · exact Or.inl z
        · exact Or.inr k
  by_cases hi : i ∈ vs
  · exact key vs a b hl (Or.inl hi)
  · exact key vs a b hl (Or.inr (h i hi))
end

theorem wipe_ne {σ : L2.St} {i : Nat} : ∀ {vs : List Nat}, i ∉ vs → (wipe σ vs)[i]? = σ[i]?
  | [], _ => rfl
  | v :: vs, h => by
    show ((wipe σ vs).set v none)[i]? = σ[i]?
    rw [List.getElem?_set_ne (fun z => h (by simp [z])), wipe_ne fun z => h (List.mem_cons_of_mem _ z)]

/-! ### comprehensions -/
section
variable {C : Cn} {Γ : List Sl} {wi : TI} {g : TG} {tt : TT} {te : TE} {vs : List Nat} {S S' : List D → Prop}
/-- [e for x in xs if t]: Inv by the turn and what is made so far -/
theorem vl_lc (h : VI C wi Γ S) (k : ∀ ds, S ds → ds.length ≤ 100000 ∧ ∃ Inv : Nat → List D → Prop, Inv 0 [] ∧
    (∀ (i : Nat) d acc, ds[i]? = some d → Inv i acc → ∃ Γ1 js, VG C g d (wipeS Γ vs) Γ1 js ∧ (∀ j ∈ js, j ∈ vs) ∧
      ∃ T : Bool → Prop, VT C tt Γ1 T ∧ (T true → VE C te Γ1 (fun y => Inv (i + 1) (acc ++ [y]))) ∧ (T false → Inv (i + 1) acc)) ∧ ∀ acc, Inv ds.length acc → S' acc) : VL C (tLc wi g tt te vs) Γ S' := fun B H σ F Q q =>
  h B H σ F _ fun ds J B1 H1 G Y rd s w hG hY A hA => by
    obtain ⟨hz, Inv, i0, turn, fin⟩ := k ds rd
    have F1 := F.step s
    have hAC : C.H A = none := F1.newC hA
    have hAB : B1 A = none := F1.sub.free hA
    have hA0 : H A = none := back_none F s hA
    have nM : ¬ Md C.dl A := F.notMd hAC
    have own1 : ∀ (j : Nat) es, (wipeS Γ vs)[j]? = some (.own es) → (wipe σ vs)[j]? ≠ some (some (.ref A)) := fun j es hj => (F1.wipe vs).noOwn hA hj
    have own0 : ∀ (j : Nat) es, Γ[j]? = some (.own es) → σ[j]? ≠ some (some (.ref A)) := fun j es hj => F1.noOwn hA hj
    refine lc_it w (fun i H' => ∃ B' acc us, Inv i acc ∧ acc.length ≤ i ∧ Same B1 B' ∧ Stp C.dl B H B' H' ∧ Fm C B' H' σ Γ ∧ B' A = none ∧ H' A = some (.lst us) ∧ DqAll C.K B' us acc) ?_ ?_ ?_ ?_
    · exact ⟨B1, [], [], i0, Nat.le_refl _, Same.refl _, s.poke F.dlNow hA0 hAB, F1.poke hAC hAB own0, hAB, upd_same, .nil⟩
    · rintro i H' _ ⟨B', acc, us, _, _, s', _, F', _⟩
      exact hG B' H' s' F'.sub
    · rintro i x H2 H2' hi ⟨B', acc, us, iv, la, s', st', F', oB, oA, da⟩ y
      have hd : ds[i]? = some ds[i] := List.getElem?_eq_getElem hi
      obtain ⟨B2, st, kd⟩ := hY i x H2 H2' y B' ds[i] s' F'.sub hd
      obtain ⟨Γ1, js, hg, hjs, T, ht, hy, hn⟩ := turn i ds[i] acc hd iv
      have F2 : Fm C B2 H2' σ Γ := F'.step st
      have st2 : Stp C.dl B H B2 H2' := st'.trans F.dlNow st
      have oA2 : H2' A = some (.lst us) := st.keep A _ oA nM
      have oB2 : B2 A = none := st.out A (by rw [oA]; simp) oB
      refine hg.run (F2.wipe vs) kd _ fun σ2 l2 e2 F3 => ⟨?_, ?_⟩
      · refine wipe_get (l2.trans (wipe_length σ vs)) vs fun j hj => ?_
        rw [e2 j (fun z => hj (hjs j z)), wipe_ne hj]
      · refine ht B2 H2' σ2 F3 _ fun b B3 H3 rb s3 => ?_
        have oA3 : H3 A = some (.lst us) := s3.keep A _ oA2 nM
        have oB3 : B3 A = none := s3.out A (by rw [oA2]; simp) oB2
        have st3 : Stp C.dl B H B3 H3 := st2.trans F.dlNow s3
        cases b with
        | false => exact iteF ⟨B3, acc, us, hn rb, Nat.le_succ_of_le la, (s'.trans st.ext).trans s3.ext, st3, F2.step s3, oB3, oA3, dpall_mono (st.ext.trans s3.ext) da⟩
        | true =>
          refine iteT (hy rb B3 H3 σ2 (F3.step s3) _ fun d' v' B4 H4 ry s4 kd4 => ?_)
          have oA4 : H4 A = some (.lst us) := s4.keep A _ oA3 nM
          have oB4 : B4 A = none := s4.out A (by rw [oA3]; simp) oB3
          have st4 : Stp C.dl B H B4 H4 := st3.trans F.dlNow s4
          have hda : DqAll C.K B4 us acc := dpall_mono ((st.ext.trans s3.ext).trans s4.ext) da
          refine ⟨us, oA4, sz6 (by rw [dpall_len hda]; omega), B4, acc ++ [d'], us ++ [v'], ry, by rw [List.length_append]; exact Nat.succ_le_succ la, ((s'.trans st.ext).trans s3.ext).trans s4.ext, ?_, ?_, oB4, upd_same, dpall_app hda (dpall_one kd4)⟩
          · exact st4.poke F.dlNow hA0 oB4
          · exact ((F2.step s3).step s4).poke hAC oB4 own0
    · rintro H' ⟨B', acc, us, iv, _, s', st', F', oB, oA, da⟩
      exact q acc A us B' H' (fin acc iv) st' hA0 oB oA da
/-- one after another, told by functions -/
theorem vl_lcD {ds : List D} (f : D → Bool) (v : D → D) (h : VI C wi Γ (Is ds)) (hz : ds.length ≤ 100000) (k : ∀ d ∈ ds, ∃ Γ1 js, VG C g d (wipeS Γ vs) Γ1 js ∧ (∀ j ∈ js, j ∈ vs) ∧ VT C tt Γ1 (Is (f d)) ∧ (f d = true → VE C te Γ1 (Is (v d)))) :
    VL C (tLc wi g tt te vs) Γ (Is ((ds.filter f).map v)) := vl_lc h fun xs e => by
  cases e
  refine ⟨hz, fun i acc => acc = ((ds.take i).filter f).map v, rfl, fun i d acc hd iv => ?_, fun acc iv => by rw [iv, List.take_length]⟩
  obtain ⟨Γ1, js, hg, hjs, ht, he⟩ := k d (List.mem_of_getElem? hd)
  refine ⟨Γ1, js, hg, hjs, Is (f d), ht, fun e => (he e.symm).imp fun y ey => ?_, fun e => ?_⟩
  · subst ey iv
    rw [List.take_add_one, hd, List.filter_append, List.map_append]
    show _ = _ ++ List.map v (List.filter f [d])
    rw [List.filter_cons, if_pos e.symm] <;> rfl
  · subst iv
    rw [List.take_add_one, hd, List.filter_append, List.map_append]
    show _ = _ ++ List.map v (List.filter f [d])
    rw [List.filter_cons, if_neg (by rw [← e]; decide)]
    exact (List.append_nil _).symm
/-- without a test -/
theorem vl_map {ds : List D} (v : D → D) (h : VI C wi Γ (Is ds)) (hz : ds.length ≤ 100000) (k : ∀ d ∈ ds, ∃ Γ1 js, VG C g d (wipeS Γ vs) Γ1 js ∧ (∀ j ∈ js, j ∈ vs) ∧ VE C te Γ1 (Is (v d))) :
    VL C (tLc wi g tYes te vs) Γ (Is (ds.map v)) := (vl_lcD (fun _ => true) v h hz fun d hd => by
  obtain ⟨Γ1, js, hg, hjs, he⟩ := k d hd
  exact ⟨Γ1, js, hg, hjs, fun B H σ F Q q => q true B H rfl (Stp.refl F.sub), fun _ => he⟩).to (by rw [List.filter_eq_self.mpr fun _ _ => rfl])
theorem vt_yes : VT C tYes Γ (Is true) := fun B H σ F Q q => q true B H rfl (Stp.refl F.sub)
end

/-! ### what is walked -/
section
variable {C : Cn} {Γ : List Sl} {t te : TE} {ta : TA} {ds : List D} {R : D → Prop} {S : List D → Prop} {X : Cx}
theorem vi_list (h : VE C t Γ (fun d => ∃ ds, d = .list ds ∧ S ds)) : VI C (iList C.K t) Γ S := fun B H σ F T q => h B H σ F _ fun d v B1 H1 ⟨ds, e, r⟩ s k => by
  subst e
  obtain ⟨a, xs, rfl, h1, h2⟩ := dp_lst k
  refine ⟨a, rfl, ⟨xs, same_l (F.step s).sub h1⟩, q ds _ B1 H1 _ _ r s (dpall_len h2 ▸ walk_list) (fun B2 H2 e1 e2 => same_l e2 (same_l e1 h1)) ?_⟩
  rintro i x H2 H2' ⟨rfl, hx⟩ B2 d e1 e2 hd
  obtain ⟨v, hv, k2⟩ := dpall_get h2 hd
  rw [hx] at hv
  cases hv
  exact ⟨B2, Stp.refl e2, dp_mono e1 k2⟩
theorem vi_listD (h : VE C t Γ (Is (.list ds))) : VI C (iList C.K t) Γ (Is ds) := vi_list (h.imp fun d e => ⟨ds, e, rfl⟩)
theorem vi_tup (h : VE C t Γ (fun d => ∃ ds, d = .tuple ds ∧ S ds)) : VI C (iTup C.K t) Γ S := fun B H σ F T q => h B H σ F _ fun d v B1 H1 ⟨ds, e, r⟩ s k => by
  subst e
  obtain ⟨a, xs, rfl, h1, h2⟩ := dp_tup k
  refine ⟨a, rfl, ⟨xs, same_t (F.step s).sub h1⟩, q ds _ B1 H1 _ _ r s (dpall_len h2 ▸ walk_tup) (fun B2 H2 e1 e2 => same_t e2 (same_t e1 h1)) ?_⟩
  rintro i x H2 H2' ⟨rfl, hx⟩ B2 d e1 e2 hd
  obtain ⟨v, hv, k2⟩ := dpall_get h2 hd
  rw [hx] at hv
  cases hv
  exact ⟨B2, Stp.refl e2, dp_mono e1 k2⟩
theorem vi_tupD (h : VE C t Γ (Is (.tuple ds))) : VI C (iTup C.K t) Γ (Is ds) := vi_tup (h.imp fun d e => ⟨ds, e, rfl⟩)
/-- the signs of a text, each a text -/
def signs (z : Str) : List D := z.cps.toList.map fun c => .str ⟨#[c]⟩
theorem signs_len (z : Str) : (signs z).length = z.cps.size := by simp [signs]
theorem vi_str {z : Str} (h : VE C t Γ (Is (.str z))) : VI C (iStr t) Γ (Is (signs z)) := fun B H σ F T q => h B H σ F _ fun d v B1 H1 r s k => by
  cases r
  obtain rfl := dp_str k
  refine ⟨z, rfl, q _ _ B1 H1 _ _ rfl s (signs_len z ▸ walk_str) (fun _ _ _ _ => trivial) ?_⟩
  rintro i x H2 H2' ⟨rfl, c, hc, rfl⟩ B2 d e1 e2 hd
  have hd' : (signs z)[i]? = some (.str ⟨#[c]⟩) := by
    unfold signs
    rw [List.getElem?_map, Array.getElem?_toList, hc]
    rfl
  rw [hd'] at hd
  cases hd
  exact ⟨B2, Stp.refl e2, .str _⟩
/-- the ints of a range -/
def upTo (lo : Int) (n : Nat) : List D := (List.range n).map fun i => .int (lo + (i : Nat))
theorem upTo_len (lo : Int) (n : Nat) : (upTo lo n).length = n := by simp [upTo]
theorem upTo_get {lo : Int} {n i : Nat} {d : D} (h : (upTo lo n)[i]? = some d) : i < n ∧ d = .int (lo + (i : Nat)) := by
  unfold upTo at h
  rw [List.getElem?_map] at h
  by_cases hi : i < n
  · rw [List.getElem?_range hi] at h
    cases h
    exact ⟨hi, rfl⟩
  · rw [List.getElem?_eq_none_iff.mpr (by simpa using hi)] at h
    cases h
theorem upTo_mem {lo : Int} {n : Nat} {d : D} (h : d ∈ upTo lo n) : ∃ i, i < n ∧ d = .int (lo + (i : Nat)) := by
  obtain ⟨i, hi⟩ := List.getElem?_of_mem h
  exact ⟨i, upTo_get hi⟩
theorem vi_rng1 {S : List D → Prop} {R : Int → Prop} (h : VE C te Γ (fun d => ∃ n, d = .int n ∧ R n)) (k : ∀ n, R n → -(2 ^ 62) ≤ n ∧ n < 2 ^ 62 ∧ S (upTo 0 n.toNat)) : VI C (iRng1 (tCons te tNil)) Γ S := fun B H σ F T q => h B H σ F _ fun d v B1 H1 ⟨n, e, r⟩ s kd => by
  subst e
  obtain rfl := dp_int kd
  obtain ⟨h1, h2, h3⟩ := k n r
  refine ⟨n, rfl, h1, h2, q _ _ B1 H1 (fun _ => True) (YFn fun i => .int (0 + (i : Nat))) h3 s (by rw [upTo_len]; exact walk_range) (fun _ _ _ _ => trivial) ?_⟩
  rintro i x H2 H2' ⟨rfl, rfl⟩ B2 d e1 e2 hd
  obtain ⟨_, rfl⟩ := upTo_get hd
  exact ⟨B2, Stp.refl e2, .int _⟩
theorem vi_rng1D {n : Int} (h : VE C te Γ (Is (.int n))) (hn : n ≤ 1000000000000 := by omega) (hm : -1000000000000 ≤ n := by omega) : VI C (iRng1 (tCons te tNil)) Γ (Is (upTo 0 n.toNat)) := vi_rng1 (R := Is n) (h.imp fun d e => ⟨n, e, rfl⟩) fun m e => by
  cases e
  exact ⟨by omega, by omega, rfl⟩
theorem vi_rng2D {t2 : TE} {m n : Int} (h : VE C te Γ (Is (.int m))) (h2 : VE C t2 Γ (Is (.int n))) (b : -1000000000000 ≤ m ∧ m ≤ 1000000000000 ∧ -1000000000000 ≤ n ∧ n ≤ 1000000000000) : VI C (iRng2 (tCons te (tCons t2 tNil))) Γ (Is (upTo m (n - m).toNat)) := fun B H σ F T q =>
  h B H σ F _ fun d v B1 H1 e s kd => h2 B1 H1 σ (F.step s) _ fun d2 v2 B2 H2 e2 s2 kd2 => by
    cases e
    cases e2
    obtain rfl := dp_int kd
    obtain rfl := dp_int kd2
    refine ⟨m, n, rfl, ⟨by omega, by omega, by omega, by omega⟩, q _ _ B2 H2 (fun _ => True) (YFn fun i => .int (m + (i : Nat))) rfl (s.trans F.dlNow s2) (by rw [upTo_len]; exact walk_range) (fun _ _ _ _ => trivial) ?_⟩
    rintro i x H3 H3' ⟨rfl, rfl⟩ B3 d e1 e2 hd
    obtain ⟨_, rfl⟩ := upTo_get hd
    exact ⟨B3, Stp.refl e2, .int _⟩
end
end Ly

/-! LyF: what a def promises by data: Pu (data in, data out), De (a source of draws first), their bodies, their calls. -/
namespace Ly
open PySem PySem.Spec PyProof.Rows L2

/-- data in, data out; nothing that stands is changed -/
def Pu (K : PySem.W.Frag) (P : List D → Prop) (R : List D → D → Prop) : Sp := fun vs H Q _ => ∃ B ds, Same B H ∧ DqAll K B vs ds ∧ P ds ∧
  ∀ d v B' H', R ds d → Stp none B H B' H' → Dq K B' v d → Q v H'
/-- the source of draws first, then data -/
def De (K : PySem.W.Frag) (P : List D → Prop) (R : List D → D → Prop) : Sp := fun vs H Q _ => ∃ B p q us ds, vs = .ref p :: us ∧ Same B H ∧ DealAt H p q ∧ B p = none ∧ B q = none ∧ DqAll K B us ds ∧ P ds ∧
  ∀ d v B' H', R ds d → Stp (some (p, q)) B H B' H' → Dq K B' v d → Q v H'

/-- n names more, of which nothing is told -/
def slots (ds : List D) (n : Nat) : List Sl := ds.map Sl.dat ++ List.replicate n Sl.no

theorem start_len {N : List Str} {vs : List V} (h : vs.length ≤ N.length) : (start N vs).length = N.length := by
  unfold L2.start
  rw [List.length_append, List.length_map, List.length_replicate]
  omega
theorem fm_start {K : PySem.W.Frag} {B H : Hp} {vs : List V} {ds : List D} {N : List Str} {n : Nat} (s : Same B H) (hd : DqAll K B vs ds) (hn : ds.length + n = N.length) : Fm ⟨K, B, H, none⟩ B H (start N vs) (slots ds n) := by
  have hl := dpall_len hd
  refine ⟨Stp.refl s, (fun p q e => nomatch e), ?_, fun i sl h => ?_, fun i j p xs ys h => ?_⟩
  · rw [start_len (by omega)]
    simp [slots]
    omega
  · unfold slots at h
    by_cases hi : i < ds.length
    · rw [List.getElem?_append_left (by simpa using hi), List.getElem?_map, List.getElem?_eq_getElem hi] at h
      cases h
      obtain ⟨v, hv, k⟩ := dpall_get hd (List.getElem?_eq_getElem hi)
      refine ⟨v, ?_, k⟩
      unfold L2.start
      rw [List.getElem?_append_left (by simpa using (by omega : i < vs.length)), List.getElem?_map, hv]
      rfl
    · rw [List.getElem?_append_right (by simpa using Nat.le_of_not_lt hi), List.getElem?_replicate] at h
      split at h
      · cases h
        trivial
      · cases h
  · exfalso
    unfold slots at h
    by_cases hi : i < ds.length
    · rw [List.getElem?_append_left (by simpa using hi), List.getElem?_map, List.getElem?_eq_getElem hi] at h
      cases h
    · rw [List.getElem?_append_right (by simpa using Nat.le_of_not_lt hi), List.getElem?_replicate] at h
      split at h <;> cases h
theorem fm_startD {K : PySem.W.Frag} {B H : Hp} {vs : List V} {ds : List D} {N : List Str} {n : Nat} {p q : Addr} (s : Same B H) (hq : DealAt H p q) (h1 : B p = none) (h2 : B q = none) (hd : DqAll K B vs ds) (hn : ds.length + 1 + n = N.length) :
    Fm ⟨K, B, H, some (p, q)⟩ B H (start N (.ref p :: vs)) (.deal :: slots ds n) := by
  have hl := dpall_len hd
  have hst : ∀ i, (start N (.ref p :: vs))[i + 1]? = (vs.map some ++ List.replicate (N.length - (vs.length + 1)) none)[i]? := fun i => rfl
  refine ⟨Stp.refl s, fun p' q' e => ?_, ?_, fun i sl h => ?_, fun i j r xs ys h => ?_⟩
  · cases e
    exact ⟨hq, h1, h2⟩
  · rw [start_len (by rw [List.length_cons]; omega)]
    simp [slots]
    omega
  · cases i with
    | zero =>
      cases h
      exact ⟨p, q, rfl, rfl⟩
    | succ i =>
      rw [hst i]
      have h : (slots ds n)[i]? = some sl := h
      unfold slots at h
      by_cases hi : i < ds.length
      · rw [List.getElem?_append_left (by simpa using hi), List.getElem?_map, List.getElem?_eq_getElem hi] at h
        cases h
        obtain ⟨v, hv, k⟩ := dpall_get hd (List.getElem?_eq_getElem hi)
        refine ⟨v, ?_, k⟩
        rw [List.getElem?_append_left (by simpa using (by omega : i < vs.length)), List.getElem?_map, hv]
        rfl
      · rw [List.getElem?_append_right (by simpa using Nat.le_of_not_lt hi), List.getElem?_replicate] at h
        split at h
        · cases h
          trivial
        · cases h
  · exfalso
    cases i with
    | zero => cases h
    | succ i =>
      have h : (slots ds n)[i]? = some (.own xs) := h
      unfold slots at h
      by_cases hi : i < ds.length
      · rw [List.getElem?_append_left (by simpa using hi), List.getElem?_map, List.getElem?_eq_getElem hi] at h
        cases h
      · rw [List.getElem?_append_right (by simpa using Nat.le_of_not_lt hi), List.getElem?_replicate] at h
        split at h <;> cases h

section
variable {P0 : Program} {w : World} {K : PySem.W.Frag} {mg : Str → Option Value} {base : Heap} {k : Nat} {f : Addr} {fd : FuncData} {ps N : List Str} {x qual : Str} {st : Stmt} {P : List D → Prop} {R : List D → D → Prop} {n : Nat}
/-- a def of data, by its body -/
theorem pu_ok (n : Nat) (F : Fun K x qual st f fd) (S : FnScope N ps (defScope st)) (hl : ∀ ds, P ds → ds.length = ps.length) (hn : ps.length + n = N.length)
    (body : ∀ (cdv : Value) (A : Around) (outer : List Env) (s : Shared) (H : Hp) (E : XK), (cxOf CX0 P0 w K mg base N qual (defScope st) f cdv A outer s H E).A.guards = some [] → Room k (cxOf CX0 P0 w K mg base N qual (defScope st) f cdv A outer s H E).A →
      ∃ t, PSs (cxOf CX0 P0 w K mg base N qual (defScope st) f cdv A outer s H E).nox (defBody st) t ∧ ∀ B H ds, P ds → VS ⟨K, B, H, none⟩ t (slots ds n) { nx := fun _ => R ds .none, rt := R ds }) :
    GOk P0 w K mg base CX0 (k + 1) f fd ps (Pu K P R) := by
  refine gok_of F S (fun {vs H Q E} ⟨B, ds, _, h1, h2, _⟩ => (dpall_len h1).trans (hl ds h2)) fun cdv A outer s H vs Q E hg hr ⟨B, ds, hs, h1, h2, hq⟩ => ?_
  obtain ⟨t, ht, hv⟩ := body cdv A outer s H E hg hr
  refine ⟨t, ht.nox, hv B H ds h2 B H (L2.start N vs) _ (fm_start hs h1 (by rw [hl ds h2]; exact hn)) ?_ ?_ (fun _ _ _ _ e => e.elim) fun _ _ _ _ e => e.elim⟩
  · exact fun Γ' B' H' σ' r _ F' => hq _ _ B' H' r F'.st .non
  · exact fun d v B' H' r s' kd => hq d v B' H' r s' kd
/-- a def that draws, by its body -/
theorem de_ok (n : Nat) (F : Fun K x qual st f fd) (S : FnScope N ps (defScope st)) (hl : ∀ ds, P ds → ds.length + 1 = ps.length) (hn : ps.length + n = N.length)
    (body : ∀ (cdv : Value) (A : Around) (outer : List Env) (s : Shared) (H : Hp) (E : XK), (cxOf CX0 P0 w K mg base N qual (defScope st) f cdv A outer s H E).A.guards = some [] → Room k (cxOf CX0 P0 w K mg base N qual (defScope st) f cdv A outer s H E).A →
      ∃ t, PSs (cxOf CX0 P0 w K mg base N qual (defScope st) f cdv A outer s H E).nox (defBody st) t ∧ ∀ B H p q ds, P ds → VS ⟨K, B, H, some (p, q)⟩ t (.deal :: slots ds n) { nx := fun _ => R ds .none, rt := R ds }) :
    GOk P0 w K mg base CX0 (k + 1) f fd ps (De K P R) := by
  refine gok_of F S (fun {vs H Q E} ⟨B, p, q, us, ds, e, _, _, _, _, h1, h2, _⟩ => by rw [e, List.length_cons, dpall_len h1]; exact hl ds h2) fun cdv A outer s H vs Q E hg hr ⟨B, p, q, us, ds, e, hs, hd, hB1, hB2, h1, h2, hq⟩ => ?_
  subst e
  obtain ⟨t, ht, hv⟩ := body cdv A outer s H E hg hr
  refine ⟨t, ht.nox, hv B H p q ds h2 B H (L2.start N (.ref p :: us)) _ (fm_startD hs hd hB1 hB2 h1 (by rw [hl ds h2]; exact hn)) ?_ ?_ (fun _ _ _ _ e => e.elim) fun _ _ _ _ e => e.elim⟩
  · exact fun Γ' B' H' σ' r _ F' => hq _ _ B' H' r F'.st .non
  · exact fun d v B' H' r s' kd => hq d v B' H' r s' kd
end

/-! ### calls by data -/
section
variable {C : Cn} {A A' : TA} {Γ : List Sl} {S S' : List D → Prop} {R : D → Prop} {P : List D → Prop} {R' : List D → D → Prop} {E : XK} {gV : List V → List V → List V} {i : Nat} {ds es : List D} {d : D}
theorem ve_pu (gD : List D → List D → List D) (h : VA C A Γ S) (h' : VA C A' Γ S') (hg : ∀ B vs zs ds es, DqAll C.K B vs ds → DqAll C.K B zs es → DqAll C.K B (gV vs zs) (gD ds es))
    (k : ∀ ds es, S ds → S' es → P (gD ds es) ∧ ∀ d, R' (gD ds es) d → R d) : VE C (tCallK (Pu C.K P R') gV E A A') Γ R := fun B H σ F Q q =>
  h B H σ F _ fun ds vs B1 H1 r1 s1 k1 => h' B1 H1 σ (F.step s1) _ fun es zs B2 H2 r2 s2 k2 => by
    obtain ⟨hP, hR⟩ := k ds es r1 r2
    refine ⟨B2, gD ds es, ((F.step s1).step s2).sub, hg B2 vs zs ds es (dpall_mono s2.ext k1) k2, hP, fun d v B3 H3 r3 s3 k3 => ?_⟩
    exact q d v B3 H3 (hR d r3) ((s1.trans F.dlNow s2).trans F.dlNow s3.any) k3
/-- by place -/
theorem ve_call (h : VA C A Γ S) (k : ∀ ds, S ds → P ds ∧ ∀ d, R' ds d → R d) : VE C (tCallK (Pu C.K P R') (fun vs _ => vs) E A tNil) Γ R :=
  ve_pu (fun ds _ => ds) h va_nil (fun _ _ _ _ _ k1 _ => k1) fun ds es r _ => k ds r
theorem ve_callD (h : VA C A Γ (Is ds)) (hP : P ds) : VE C (tCallK (Pu C.K P R') (fun vs _ => vs) E A tNil) Γ (R' ds) := ve_call h fun xs e => by
  cases e
  exact ⟨hP, fun _ r => r⟩
theorem ve_de (hi : Γ[i]? = some .deal) (h : VA C A Γ S) (k : ∀ ds, S ds → P ds ∧ ∀ d, R' ds d → R d) : VE C (tCallK (De C.K P R') (fun vs _ => vs) E (tCons (tVar i) A) tNil) Γ R := fun B H σ F Q q => by
  obtain ⟨p, r, e, hs⟩ := F.slot i _ hi
  refine ⟨.ref p, hs, h B H σ F _ fun ds vs B1 H1 r1 s1 k1 => ?_⟩
  obtain ⟨hP, hR⟩ := k ds r1
  have F1 := F.step s1
  obtain ⟨n1, n2⟩ := F1.dlOut e
  refine ⟨B1, p, r, vs, ds, rfl, F1.sub, F1.dlNow p r e, n1, n2, k1, hP, fun d v B3 H3 r3 s3 k3 => ?_⟩
  rw [← e] at s3
  exact q d v B3 H3 (hR d r3) (s1.trans F.dlNow s3) k3
theorem ve_deD (hi : Γ[i]? = some .deal) (h : VA C A Γ (Is ds)) (hP : P ds) : VE C (tCallK (De C.K P R') (fun vs _ => vs) E (tCons (tVar i) A) tNil) Γ (R' ds) := ve_de hi h fun xs e => by
  cases e
  exact ⟨hP, fun _ r => r⟩
end
end Ly

/-! LyG: operations, subscripts, slices, built-ins by data. -/
namespace Ly
open PySem PySem.Spec PyProof.Rows L2

/-! ### rules for every kind of operand -/
section
variable {X : Cx}
/-- list + list, tracked or known to the object -/
def rCatR : R2 := fun x y H Q => ∃ l b xs zs, x = .ref l ∧ y = .ref b ∧ Rd H l (.lst xs) ∧ Rd H b (.lst zs) ∧ xs.length + zs.length ≤ sizeLine ∧ ∀ p, H p = none → Q (.ref p) (upd H p (.lst (xs ++ zs)))
theorem rd_lst {pins : List (Addr × Obj)} {s : Shared} {σ : L2.St} {H : Hp} {a : Addr} {xs : List V} (I : Inv X pins σ H s) (h : Rd H a (.lst xs)) : ∃ (its : List Value) (n : Nat), Vals xs its ∧ s.heap.get? a = some { cls := .type "list", data := .seq its.toArray n } := by
  obtain ⟨_, its, n, r, e⟩ := h.ok I.hok
  exact ⟨its, n, r, e⟩
theorem op_catR : OpR X (binaryOp .Add) rCatR := by
  intro pins s σ H x y v u Q I rx ry h
  obtain ⟨l, b, xs, zs, rfl, rfl, hl, hb, hz, q⟩ := h
  cases rx
  cases ry
  obtain ⟨its, n, r, e⟩ := rd_lst I hl
  obtain ⟨its2, n2, r2, e2⟩ := rd_lst I hb
  have l1 := r.length
  have l2 := r2.length
  apply PySem.P.add_list e e2 _ (by rw [List.size_toArray, List.size_toArray]; omega)
  have J := I.lnew (t' := s.toks) (r.append r2) (by rw [List.length_append]; omega)
  rw [show its.toArray ++ its2.toArray = (its ++ its2).toArray by simp]
  exact ⟨V.ref s.heap.objs.size, _, J, rfl, q _ I.fresh⟩
def rAddS : R2 := fun x y H Q => ∃ i j, x = .str i ∧ y = .str j ∧ i.length + j.length ≤ sizeLine ∧ Q (.str (i ++ j)) H
def rAddA (K : PySem.W.Frag) : R2 := fun x y H Q => rI0 (fun i j => .int (i + j)) x y H Q ∨ (rAddS x y H Q ∨ (rCatR x y H Q ∨ rCatA K x y H Q))
theorem oq_add : OpR X (binaryOp .Add) (rAddA X.K) := OpR.or op_add (OpR.or op_add_str (OpR.or op_catR op_catA))
def rEqA (K : PySem.W.Frag) : R2 := fun x y H Q => rEq x y H Q ∨ rEqD K x y H Q
def rNeA (K : PySem.W.Frag) : R2 := fun x y H Q => rNe x y H Q ∨ rNeD K x y H Q
theorem oq_eq {k : Nat} (hr : Room k X.A) : OpR X (compareOp .Eq) (rEqA X.K) := OpR.or op_eq (op_eqD hr.units)
theorem oq_ne {k : Nat} (hr : Room k X.A) : OpR X (compareOp .NotEq) (rNeA X.K) := OpR.or op_ne (op_neD hr.units)
def rLtS : R2 := fun x y H Q => ∃ i j, x = .str i ∧ y = .str j ∧ Q (.bl (decide (i.cps.toList < j.cps.toList))) H
def rLeS : R2 := fun x y H Q => ∃ i j, x = .str i ∧ y = .str j ∧ Q (.bl (!decide (j.cps.toList < i.cps.toList))) H
def rLtA : R2 := fun x y H Q => rI0 (fun i j => .bl (decide (i < j))) x y H Q ∨ rLtS x y H Q
def rLeA : R2 := fun x y H Q => rI0 (fun i j => .bl (decide (i ≤ j))) x y H Q ∨ rLeS x y H Q
theorem oq_lt : OpR X (compareOp .Lt) rLtA := OpR.or op_lt op_lt_str
theorem oq_le : OpR X (compareOp .LtE) rLeA := OpR.or op_le op_le_str
def rInSg : R2 := fun x y H Q => ∃ (c : Nat) (z : Str), x = .str ⟨#[c]⟩ ∧ y = .str z ∧ Q (.bl (decide (c ∈ z.cps.toList))) H
def rInA (K : PySem.W.Frag) : R2 := fun x y H Q => rInSg x y H Q ∨ (rIn K false x y H Q ∨ rInD K x y H Q)
theorem oq_in {k : Nat} (hr : Room k X.A) : OpR X (compareOp .In) (rInA X.K) := OpR.or op_in_sign (OpR.or op_in_seq (op_inD (by have := hr.un; omega)))
def rNotInSg : R2 := fun x y H Q => ∃ (c : Nat) (z : Str), x = .str ⟨#[c]⟩ ∧ y = .str z ∧ Q (.bl (!decide (c ∈ z.cps.toList))) H
def rNotInA (K : PySem.W.Frag) : R2 := fun x y H Q => rNotInSg x y H Q ∨ (rIn K true x y H Q ∨ rNotInD K x y H Q)
theorem oq_notin {k : Nat} (hr : Room k X.A) : OpR X (compareOp .NotIn) (rNotInA X.K) := OpR.or op_notIn_sign (OpR.or op_notIn_seq (op_notInD (by have := hr.un; omega)))
def rSlany (K : PySem.W.Frag) : V → Option Int → Option Int → Hp → VK → Prop := fun x lo hi H Q => rSlL K x lo hi H Q ∨ (rSlA K x lo hi H Q ∨ rSlS x lo hi H Q)
theorem sq_any : SlR X (rSlany X.K) := SlR.or sl_list (SlR.or sl_tupA sl_str)
/-- repr of data -/
def rRepr (K : PySem.W.Frag) : List V → Hp → VK → Prop := fun xs H Q => ∃ x d, xs = [x] ∧ Dp K H x d ∧ d.showable = true ∧ d.hasDict = false ∧ d.depth ≤ 100 ∧ d.shown.length ≤ sizeLine ∧ Q (.str d.shown) H
theorem cq_repr {k : Nat} (hg : X.A.guards = some []) (hr : Room k X.A) : CallR X (.builtin "repr") (rRepr X.K) := by
  intro pins s σ H xs us Q I r h
  obtain ⟨x, d, rfl, hd, h1, h2, h3, h4, q⟩ := h
  obtain ⟨u, rfl, ru⟩ := vals1 r
  obtain ⟨as, rd⟩ := Dp.reads I d x u hd ru
  have fin : ∀ (h' : Heap) (tk tk2 : Tok), (∀ b o, s.heap.get? b = some o → h'.get? b = some o) → EP X pins σ Q (.str d.shown tk) { s with heap := h', toks := tk2 } := fun h' tk tk2 hk => ⟨V.str d.shown, H, I.kept hk, ⟨tk, rfl⟩, q⟩
  cases rd with
  | none =>
    simp only [PyData.shown] at fin
    exact PySem.P.repr_of_none (fin s.heap s.toks (s.toks + 1) fun _ _ e => e)
  | bool b =>
    simp only [PyData.shown] at fin
    exact PySem.P.repr_of_bool (fin s.heap s.toks (s.toks + 1) fun _ _ e => e)
  | int i t =>
    simp only [PyData.shown] at fin
    exact PySem.P.repr_of_int (by simpa [PyData.showable] using h1) (fin s.heap s.toks (s.toks + 1) fun _ _ e => e)
  | str z t =>
    simp only [PyData.shown] at fin
    exact PySem.P.repr_of_str (fin s.heap s.toks (s.toks + 1) fun _ _ e => e) (by simpa [PyData.shown] using h4)
  | list e1 e2 e3 e4 => exact repr_of_reads' (.list e1 e2 e3 e4) h1 (fun z => by rw [h2] at z; cases z) hg (by have := hr.un; omega) (fun _ _ e => e) (fun h' tk tk2 hk => fin h' tk tk2 hk) h4
  | tuple e1 e2 e3 e4 => exact repr_of_reads' (.tuple e1 e2 e3 e4) h1 (fun z => by rw [h2] at z; cases z) hg (by have := hr.un; omega) (fun _ _ e => e) (fun h' tk tk2 hk => fin h' tk tk2 hk) h4
  | dict e1 e2 e3 e4 e5 => simp [PyData.hasDict] at h2
end

/-! ### by data -/
section
variable {C : Cn} {Γ : List Sl} {x y z : D} {ds es : List D} {i j : Int} {s t : Str} {R : D → Prop}
theorem od_I0 {g : Int → Int → V} {f : D} (h : ∀ B, Dq C.K B (g i j) f) : OD C (rI0 g) (.int i) (.int j) (Is f) := fun B H v u e k1 k2 Q q => by
  obtain rfl := k1.int
  obtain rfl := k2.int
  exact ⟨i, j, rfl, rfl, q _ _ B H rfl (Stp.refl e) (h B)⟩
theorem od_I {c : Int → Int → Prop} {g : Int → Int → V} {f : D} (hc : c i j) (h : ∀ B, Dq C.K B (g i j) f) : OD C (rI c g) (.int i) (.int j) (Is f) := fun B H v u e k1 k2 Q q => by
  obtain rfl := k1.int
  obtain rfl := k2.int
  exact ⟨i, j, rfl, rfl, hc, q _ _ B H rfl (Stp.refl e) (h B)⟩
theorem od_add : OD C (rAddA C.K) (.int i) (.int j) (Is (.int (i + j))) := fun B H v u e k1 k2 Q q => Or.inl (od_I0 (C := C) (g := fun i j => .int (i + j)) (fun _ => .int _) B H v u e k1 k2 Q q)
theorem od_sub : OD C (rI0 fun i j => .int (i - j)) (.int i) (.int j) (Is (.int (i - j))) := od_I0 fun _ => .int _
theorem od_mul (h : CMulW i j) : OD C (rI CMulW fun i j => .int (i * j)) (.int i) (.int j) (Is (.int (i * j))) := od_I h fun _ => .int _
theorem od_fdiv (h : 0 < j) (h2 : j < 2 ^ 64) : OD C (rI CDivW fun i j => .int (i / j)) (.int i) (.int j) (Is (.int (i / j))) := od_I (wide_div (b := 64) h (by omega) (by decide) (by decide)) fun _ => .int _
theorem od_mod (h : 0 < j) : OD C (rI (fun _ j => 0 < j) fun i j => .int (i % j)) (.int i) (.int j) (Is (.int (i % j))) := od_I h fun _ => .int _
theorem od_pow (h : 0 ≤ j ∧ j ≤ 1000000 ∧ i.natAbs < 2 ^ 64) : OD C (rI CPow fun i j => .int (i ^ j.toNat)) (.int i) (.int j) (Is (.int (i ^ j.toNat))) := od_I h fun _ => .int _
theorem od_shl (h : 0 ≤ j ∧ j ≤ 1000000 ∧ i.natAbs < 2 ^ 64) : OD C (rI CPow fun i j => .int (i * 2 ^ j.toNat)) (.int i) (.int j) (Is (.int (i * 2 ^ j.toNat))) := od_I h fun _ => .int _
theorem od_shr (h : 0 ≤ j) : OD C (rI (fun _ j => 0 ≤ j) fun i j => .int (i / 2 ^ j.toNat)) (.int i) (.int j) (Is (.int (i / 2 ^ j.toNat))) := od_I h fun _ => .int _
theorem od_lt : OD C rLtA (.int i) (.int j) (Is (.bool (decide (i < j)))) := fun B H v u e k1 k2 Q q => Or.inl (od_I0 (C := C) (g := fun i j => .bl (decide (i < j))) (fun _ => .bl _) B H v u e k1 k2 Q q)
theorem od_le : OD C rLeA (.int i) (.int j) (Is (.bool (decide (i ≤ j)))) := fun B H v u e k1 k2 Q q => Or.inl (od_I0 (C := C) (g := fun i j => .bl (decide (i ≤ j))) (fun _ => .bl _) B H v u e k1 k2 Q q)
theorem od_gt : OD C (rI0 fun i j => .bl (decide (j < i))) (.int i) (.int j) (Is (.bool (decide (j < i)))) := od_I0 fun _ => .bl _
theorem od_ge : OD C (rI0 fun i j => .bl (decide (j ≤ i))) (.int i) (.int j) (Is (.bool (decide (j ≤ i)))) := od_I0 fun _ => .bl _
theorem od_ltS : OD C rLtA (.str s) (.str t) (Is (.bool (decide (s.cps.toList < t.cps.toList)))) := fun B H v u e k1 k2 Q q => by
  obtain rfl := k1.str
  obtain rfl := k2.str
  exact Or.inr ⟨s, t, rfl, rfl, q _ _ B H rfl (Stp.refl e) (.bl _)⟩
theorem od_leS : OD C rLeA (.str s) (.str t) (Is (.bool (!decide (t.cps.toList < s.cps.toList)))) := fun B H v u e k1 k2 Q q => by
  obtain rfl := k1.str
  obtain rfl := k2.str
  exact Or.inr ⟨s, t, rfl, rfl, q _ _ B H rfl (Stp.refl e) (.bl _)⟩
theorem od_addS (h : s.length + t.length ≤ sizeLine) : OD C (rAddA C.K) (.str s) (.str t) (Is (.str (s ++ t))) := fun B H v u e k1 k2 Q q => by
  obtain rfl := k1.str
  obtain rfl := k2.str
  exact Or.inr (Or.inl ⟨s, t, rfl, rfl, h, q _ _ B H rfl (Stp.refl e) (.str _)⟩)
theorem od_catT (h : ds.length + es.length ≤ 100000) : OD C (rAddA C.K) (.tuple ds) (.tuple es) (Is (.tuple (ds ++ es))) := fun B H v u e k1 k2 Q q => by
  obtain ⟨a, xs, rfl, h1, h2⟩ := k1.tup e
  obtain ⟨b, ys, rfl, g1, g2⟩ := k2.tup e
  have l1 := dpall_len h2
  have l2 := dpall_len g2
  refine Or.inr (Or.inr (Or.inr ⟨a, b, xs, ys, rfl, rfl, h1, g1, by rw [l1, l2]; exact sz5 h, fun z => ?_, fun _ z => ?_, fun _ _ p hp => ?_⟩))
  · subst z
    cases h2
    rcases k2 with k2 | ⟨_, _, _, _, z, _⟩
    · exact q _ _ B H rfl (Stp.refl e) k2
    · cases z
  · subst z
    cases g2
    rcases k1 with k1 | ⟨_, _, _, _, z, _⟩
    · rw [List.append_nil] at q
      exact q _ _ B H rfl (Stp.refl e) k1
    · cases z
  · exact q _ _ _ _ rfl (Stp.new e hp) (.tup (Or.inl (Or.inl upd_same)) (dpall_mono (Stp.new (dl := C.dl) e hp).ext (dpall_app h2 g2)))
theorem ol_cat (h : ds.length + es.length ≤ 100000) : OL C (rAddA C.K) (.list ds) (.list es) (Is (ds ++ es)) := fun B H v u e k1 k2 Q q => by
  obtain ⟨a, xs, rfl, h1, h2⟩ := k1.lstR e
  obtain ⟨b, ys, rfl, g1, g2⟩ := k2.lstR e
  have l1 := dpall_len h2
  have l2 := dpall_len g2
  exact Or.inr (Or.inr (Or.inl ⟨a, b, xs, ys, rfl, rfl, h1, g1, by rw [l1, l2]; exact sz5 h, fun p hp => q _ p (xs ++ ys) B _ rfl (Stp.newM e hp) hp (e.free hp) upd_same (dpall_app h2 g2)⟩))
/-- == of any data -/
theorem od_eq (h1 : SeqAt.shaped x = true) (h2 : SeqAt.shaped y = true) : OD C (rEqA C.K) x y (Is (.bool (PyData.eqv x y))) := fun B H v u e k1 k2 Q q =>
  Or.inr ⟨x, y, (k1.now e).dp, (k2.now e).dp, h1, h2, q _ _ B H rfl (Stp.refl e) (.bl _)⟩
theorem od_ne (h1 : SeqAt.shaped x = true) (h2 : SeqAt.shaped y = true) : OD C (rNeA C.K) x y (Is (.bool (!PyData.eqv x y))) := fun B H v u e k1 k2 Q q =>
  Or.inr ⟨x, y, (k1.now e).dp, (k2.now e).dp, h1, h2, q _ _ B H rfl (Stp.refl e) (.bl _)⟩
/-- of ints, of texts -/
theorem od_eqI : OD C (rEqA C.K) (.int i) (.int j) (Is (.bool (decide (i = j)))) := fun B H v u e k1 k2 Q q => by
  obtain rfl := k1.int
  obtain rfl := k2.int
  refine Or.inl ⟨rfl, ?_⟩
  rw [show decide (V.int i = V.int j) = decide (i = j) from decide_eq_decide.mpr ⟨fun h => V.int.inj h, fun h => by rw [h]⟩]
  exact q _ _ B H rfl (Stp.refl e) (.bl _)
theorem od_neI : OD C (rNeA C.K) (.int i) (.int j) (Is (.bool (!decide (i = j)))) := fun B H v u e k1 k2 Q q => by
  obtain rfl := k1.int
  obtain rfl := k2.int
  refine Or.inl ⟨rfl, ?_⟩
  rw [show decide (V.int i = V.int j) = decide (i = j) from decide_eq_decide.mpr ⟨fun h => V.int.inj h, fun h => by rw [h]⟩]
  exact q _ _ B H rfl (Stp.refl e) (.bl _)
theorem od_eqS : OD C (rEqA C.K) (.str s) (.str t) (Is (.bool (decide (s = t)))) := fun B H v u e k1 k2 Q q => by
  obtain rfl := k1.str
  obtain rfl := k2.str
  refine Or.inl ⟨rfl, ?_⟩
  rw [show decide (V.str s = V.str t) = decide (s = t) from decide_eq_decide.mpr ⟨fun h => V.str.inj h, fun h => by rw [h]⟩]
  exact q _ _ B H rfl (Stp.refl e) (.bl _)
theorem od_neS : OD C (rNeA C.K) (.str s) (.str t) (Is (.bool (!decide (s = t)))) := fun B H v u e k1 k2 Q q => by
  obtain rfl := k1.str
  obtain rfl := k2.str
  refine Or.inl ⟨rfl, ?_⟩
  rw [show decide (V.str s = V.str t) = decide (s = t) from decide_eq_decide.mpr ⟨fun h => V.str.inj h, fun h => by rw [h]⟩]
  exact q _ _ B H rfl (Stp.refl e) (.bl _)
/-- x is None -/
def isNone : D → Bool
  | .none => true
  | _ => false
def rIsNo : R2 := fun x y H Q => y = .non ∧ Q (.bl (decide (x = .non))) H
def rNotNo : R2 := fun x y H Q => y = .non ∧ Q (.bl (!decide (x = .non))) H
theorem oq_isN {X : Cx} : OpR X (compareOp .Is) rIsNo := op_isN
theorem oq_notN {X : Cx} : OpR X (compareOp .IsNot) rNotNo := op_notN
theorem vw_none {B H : Hp} {v : V} (k : Vw C B H v x) : decide (v = .non) = isNone x := by
  rcases k with k | ⟨_, _, _, rfl, rfl, _⟩
  · cases k <;> rfl
  · rfl
theorem od_isN : OD C rIsNo x .none (Is (.bool (isNone x))) := fun B H v u e k1 k2 Q q => ⟨k2.non, by rw [vw_none k1]; exact q _ _ B H rfl (Stp.refl e) (.bl _)⟩
theorem od_notN : OD C rNotNo x .none (Is (.bool (!isNone x))) := fun B H v u e k1 k2 Q q => ⟨k2.non, by rw [vw_none k1]; exact q _ _ B H rfl (Stp.refl e) (.bl _)⟩
/-- a sign in a text -/
theorem od_inSg {c : Nat} : OD C (rInA C.K) (.str ⟨#[c]⟩) (.str s) (Is (.bool (decide (c ∈ s.cps.toList)))) := fun B H v u e k1 k2 Q q => by
  obtain rfl := k1.str
  obtain rfl := k2.str
  exact Or.inl ⟨c, s, rfl, rfl, q _ _ B H rfl (Stp.refl e) (.bl _)⟩
/-- in a list of any data -/
theorem od_inL (h1 : SeqAt.shaped x = true) (h2 : SeqAt.shaped (.list ds) = true) : OD C (rInA C.K) x (.list ds) (Is (.bool (ds.any fun z => PyData.eqv z x))) := fun B H v u e k1 k2 Q q =>
  Or.inr (Or.inr ⟨x, ds, (k1.now e).dp, (k2.now e).dp, h1, h2, q _ _ B H rfl (Stp.refl e) (.bl _)⟩)
theorem od_notinL (h1 : SeqAt.shaped x = true) (h2 : SeqAt.shaped (.list ds) = true) : OD C (rNotInA C.K) x (.list ds) (Is (.bool (!ds.any fun z => PyData.eqv z x))) := fun B H v u e k1 k2 Q q =>
  Or.inr (Or.inr ⟨x, ds, (k1.now e).dp, (k2.now e).dp, h1, h2, q _ _ B H rfl (Stp.refl e) (.bl _)⟩)
/-! flat things in a list or tuple -/
def flatD : D → Bool
  | .none | .bool _ | .int _ | .str _ => true
  | _ => false
theorem flat_v {K : PySem.W.Frag} {H : Hp} {v : V} (h : flatD x = true) (k : Dq K H v x) : flatV v = true := by
  cases k <;> first | rfl | cases h
theorem flat_all {K : PySem.W.Frag} {H : Hp} : ∀ {vs : List V} {ds : List D}, ds.all flatD = true → DqAll K H vs ds → vs.all flatV = true
  | _, _, _, .nil => rfl
  | _, _, h, .cons h1 h2 => by
    rw [List.all_cons, Bool.and_eq_true] at h
    rw [List.all_cons, flat_v h.1 h1, flat_all h.2 h2]
    rfl
theorem flat_eqv {K : PySem.W.Frag} {H : Hp} {v u : V} (hx : flatD x = true) (hy : flatD y = true) (k1 : Dq K H v x) (k2 : Dq K H u y) : eqV v u = PyData.eqv x y := by
  cases k1 <;> cases k2 <;> simp_all [flatD, eqV, PyData.eqv]
theorem flat_any {K : PySem.W.Frag} {H : Hp} {v : V} (hx : flatD x = true) (k : Dq K H v x) : ∀ {vs : List V} {ds : List D}, ds.all flatD = true → DqAll K H vs ds → inV v vs = ds.any fun z => PyData.eqv z x
  | _, _, _, .nil => rfl
  | _, _, h, .cons h1 h2 => by
    rw [List.all_cons, Bool.and_eq_true] at h
    show (eqV _ v || inV v _) = _
    rw [flat_eqv h.1 hx h1 k, flat_any hx k h.2 h2]
    rfl
theorem vw_flat {B H : Hp} {v : V} (hx : flatD x = true) (k : Vw C B H v x) : Dq C.K B v x := by
  rcases k with k | ⟨_, _, _, _, rfl, _⟩
  · exact k
  · cases hx
theorem od_inT (h1 : flatD x = true) (h2 : ds.all flatD = true) : OD C (rInA C.K) x (.tuple ds) (Is (.bool (ds.any fun z => PyData.eqv z x))) := fun B H v u e k1 k2 Q q => by
  obtain ⟨a, xs, rfl, g1, g2⟩ := k2.tup e
  have kx := vw_flat h1 k1
  refine Or.inr (Or.inl ⟨a, xs, rfl, Or.inr g1, flat_v h1 kx, flat_all h2 g2, ?_⟩)
  rw [if_neg Bool.false_ne_true, flat_any h1 kx h2 g2]
  exact q _ _ B H rfl (Stp.refl e) (.bl _)
theorem od_notinT (h1 : flatD x = true) (h2 : ds.all flatD = true) : OD C (rNotInA C.K) x (.tuple ds) (Is (.bool (!ds.any fun z => PyData.eqv z x))) := fun B H v u e k1 k2 Q q => by
  obtain ⟨a, xs, rfl, g1, g2⟩ := k2.tup e
  have kx := vw_flat h1 k1
  refine Or.inr (Or.inl ⟨a, xs, rfl, Or.inr g1, flat_v h1 kx, flat_all h2 g2, ?_⟩)
  rw [if_pos rfl, flat_any h1 kx h2 g2]
  exact q _ _ B H rfl (Stp.refl e) (.bl _)
/-! subscripts -/
theorem at_len {α β : Type} {xs : List α} {ys : List β} (h : xs.length = ys.length) {m : Nat} (e : ixN ys.length i = some m) : atI xs i = xs[m]? := by
  unfold atI
  rw [h, e]
  rfl
theorem at_get {α : Type} {xs : List α} {v : α} (h : atI xs i = some v) : ∃ m, ixN xs.length i = some m ∧ xs[m]? = some v := by
  unfold atI at h
  cases e : ixN xs.length i with
  | none =>
    rw [e] at h
    cases h
  | some m =>
    rw [e] at h
    exact ⟨m, rfl, h⟩
theorem od_ixL (h : atI ds i = some z) : OD C (rIx C.K) (.list ds) (.int i) (Is z) := fun B H v u e k1 k2 Q q => by
  obtain ⟨a, xs, rfl, h1, h2⟩ := k1.lst e
  obtain rfl := k2.int
  obtain ⟨m, hm, hz⟩ := at_get h
  obtain ⟨w, hw, kw⟩ := dpall_get h2 hz
  exact Or.inl ⟨a, xs, i, w, rfl, rfl, h1, (at_len (dpall_len h2) hm).trans hw, q _ _ B H rfl (Stp.refl e) kw⟩
theorem od_ixT (h : atI ds i = some z) : OD C (rIx C.K) (.tuple ds) (.int i) (Is z) := fun B H v u e k1 k2 Q q => by
  obtain ⟨a, xs, rfl, h1, h2⟩ := k1.tup e
  obtain rfl := k2.int
  obtain ⟨m, hm, hz⟩ := at_get h
  obtain ⟨w, hw, kw⟩ := dpall_get h2 hz
  exact Or.inr (Or.inl ⟨a, xs, i, w, rfl, rfl, h1, (at_len (dpall_len h2) hm).trans hw, q _ _ B H rfl (Stp.refl e) kw⟩)
theorem od_ixS {c : Nat} (hz : s.length ≤ 1000000) (h : atI s.cps.toList i = some c) : OD C (rIx C.K) (.str s) (.int i) (Is (.str ⟨#[c]⟩)) := fun B H v u e k1 k2 Q q => by
  obtain rfl := k1.str
  obtain rfl := k2.int
  exact Or.inr (Or.inr ⟨s, i, c, rfl, rfl, Nat.le_trans hz (by decide), h, q _ _ B H rfl (Stp.refl e) (.str _)⟩)
theorem atI_pos {α : Type} {xs : List α} {m : Nat} {v : α} (h : xs[m]? = some v) : atI xs (m : Int) = some v := by
  have hl := (List.getElem?_eq_some_iff.mp h).1
  unfold atI ixN
  rw [if_pos (by omega), if_pos (by omega)]
  exact h
theorem atI_neg1 {α : Type} {xs : List α} {v : α} (h : xs.getLast? = some v) : atI xs (-1) = some v := by
  have hl : xs ≠ [] := fun z => by
    subst z
    cases h
  have hp : 0 < xs.length := List.length_pos_iff.mpr hl
  unfold atI ixN
  rw [if_neg (by omega), if_pos (by omega)]
  show xs[((-1 : Int) + xs.length).toNat]? = some v
  rw [show ((-1 : Int) + xs.length).toNat = xs.length - 1 by omega, ← List.getLast?_eq_getElem?]
  exact h
/-! slices -/
def cut {α : Type} (xs : List α) (lo hi : Option Int) : List α := (xs.drop (HT.sIx xs.length 0 lo)).take (HT.sIx xs.length xs.length hi - HT.sIx xs.length 0 lo)
theorem cut_dq {K : PySem.W.Frag} {H : Hp} {vs : List V} (lo hi : Option Int) (h : DqAll K H vs ds) : DqAll K H (cutV vs lo hi) (cut ds lo hi) := by
  unfold cutV cut
  rw [dpall_len h]
  exact dpall_take _ (dpall_drop _ h)
variable {t1 : TE} {tl th : TO} {lo hi : Option Int}
theorem vl_sl {S : List D → Prop} (h : VV C t1 Γ (fun d => ∃ ds, d = .list ds ∧ S ds)) (h1 : VO C tl Γ (Is lo)) (h2 : VO C th Γ (Is hi)) : VL C (tSl (rSlany C.K) t1 tl th) Γ (fun es => ∃ ds, S ds ∧ es = cut ds lo hi) := fun B H σ F Q q =>
  h B H σ F _ fun d v B1 H1 ⟨ds, ed, r⟩ s1 k1 => h1 B1 H1 σ (F.step s1) _ fun o B2 H2 e2 s2 => h2 B2 H2 σ ((F.step s1).step s2) _ fun o' B3 H3 e3 s3 => by
    subst ed
    cases e2
    cases e3
    have F3 := ((F.step s1).step s2).step s3
    have k3 := (k1.step (F.step s1) s2).step ((F.step s1).step s2) s3
    obtain ⟨a, xs, rfl, g1, g2⟩ := k3.lst F3.sub
    have st := (s1.trans F.dlNow s2).trans F.dlNow s3
    exact Or.inl ⟨a, xs, rfl, g1, fun p hp => q _ p _ B3 _ ⟨ds, r, rfl⟩ (st.trans F.dlNow (Stp.newM F3.sub hp)) (back_none F st hp) (F3.sub.free hp) upd_same (cut_dq lo hi g2)⟩
theorem vl_slD (h : VV C t1 Γ (Is (.list ds))) (h1 : VO C tl Γ (Is lo)) (h2 : VO C th Γ (Is hi)) : VL C (tSl (rSlany C.K) t1 tl th) Γ (Is (cut ds lo hi)) :=
  (vl_sl (S := Is ds) (fun B H σ F Q q => h B H σ F Q fun d v B' H' e s k => q d v B' H' ⟨ds, e, rfl⟩ s k) h1 h2).imp fun es ⟨xs, e, r⟩ => by
    cases e
    exact r
theorem ve_slT (h : VE C t1 Γ (Is (.tuple ds))) (h1 : VO C tl Γ (Is lo)) (h2 : VO C th Γ (Is hi)) : VE C (tSl (rSlany C.K) t1 tl th) Γ (Is (.tuple (cut ds lo hi))) := fun B H σ F Q q =>
  h B H σ F _ fun d v B1 H1 ed s1 k1 => h1 B1 H1 σ (F.step s1) _ fun o B2 H2 e2 s2 => h2 B2 H2 σ ((F.step s1).step s2) _ fun o' B3 H3 e3 s3 => by
    cases ed
    cases e2
    cases e3
    have F3 := ((F.step s1).step s2).step s3
    have k3 := dp_mono (s2.ext.trans s3.ext) k1
    obtain ⟨a, xs, rfl, g1, g2⟩ := dp_tup k3
    have st := (s1.trans F.dlNow s2).trans F.dlNow s3
    refine Or.inr (Or.inl ⟨a, xs, rfl, same_t F3.sub g1, fun w => ?_, fun _ p hp => ?_⟩)
    · have e : cut ds lo hi = ds := by
        unfold cut
        rw [dpall_len g2] at w
        rw [w.1, w.2]
        simp
      rw [e] at q
      exact q _ _ B3 H3 rfl st k3
    · exact q _ _ _ _ rfl (st.trans F.dlNow (Stp.new F3.sub hp)) (.tup (Or.inl (Or.inl upd_same)) (dpall_mono (Stp.new (dl := C.dl) F3.sub hp).ext (cut_dq lo hi g2)))
theorem ve_slS (hz : s.length ≤ 1000000) (h : VE C t1 Γ (Is (.str s))) (h1 : VO C tl Γ (Is lo)) (h2 : VO C th Γ (Is hi)) : VE C (tSl (rSlany C.K) t1 tl th) Γ (Is (.str ⟨(cut s.cps.toList lo hi).toArray⟩)) := fun B H σ F Q q =>
  h B H σ F _ fun d v B1 H1 ed s1 k1 => h1 B1 H1 σ (F.step s1) _ fun o B2 H2 e2 s2 => h2 B2 H2 σ ((F.step s1).step s2) _ fun o' B3 H3 e3 s3 => by
    cases ed
    cases e2
    cases e3
    obtain rfl := dp_str k1
    refine Or.inr (Or.inr ⟨s, rfl, Nat.le_trans hz (by decide), ?_⟩)
    have e : cutS s lo hi = ⟨(cut s.cps.toList lo hi).toArray⟩ := by
      unfold cutS cut
      rfl
    rw [e]
    exact q _ _ B3 H3 rfl ((s1.trans F.dlNow s2).trans F.dlNow s3) (.str _)
theorem vl_rev {S : List D → Prop} (h : VV C t1 Γ (fun d => ∃ ds, d = .list ds ∧ S ds)) : VL C (tRevL C.K t1) Γ (fun es => ∃ ds, S ds ∧ es = ds.reverse) := fun B H σ F Q q =>
  h B H σ F _ fun d v B1 H1 ⟨ds, ed, r⟩ s1 k1 => by
    subst ed
    have F1 := F.step s1
    obtain ⟨a, xs, rfl, g1, g2⟩ := k1.lst F1.sub
    exact ⟨a, xs, rfl, g1, fun p hp => q _ p _ B1 _ ⟨ds, r, rfl⟩ (s1.trans F.dlNow (Stp.newM F1.sub hp)) (back_none F s1 hp) (F1.sub.free hp) upd_same (dpall_rev g2)⟩
theorem vl_revD (h : VV C t1 Γ (Is (.list ds))) : VL C (tRevL C.K t1) Γ (Is ds.reverse) :=
  (vl_rev (S := Is ds) (fun B H σ F Q q => h B H σ F Q fun d v B' H' e s k => q d v B' H' ⟨ds, e, rfl⟩ s k)).imp fun es ⟨xs, e, r⟩ => by
    cases e
    exact r
end
end Ly

/-! LyH: built-ins by data: len, tuple, list, int, abs, max, min, sum, all, any, repr, join, isinstance; enumerate of a text. -/
namespace Ly
open PySem PySem.Spec PyProof.Rows L2

section
variable {C : Cn} {Γ : List Sl} {x y z d : D} {ds es : List D} {i j : Int} {s t : Str} {R : D → Prop} {te ta tb : TE} {S : List D → Prop}
/-! ### len -/
def rLen (K : PySem.W.Frag) : List V → Hp → VK → Prop := fun xs H Q => ∃ x n, xs = [x] ∧ LenV K x H n ∧ Q (.int n) H
theorem cq_len {X : Cx} : CallR X (.builtin "len") (rLen X.K) := call_len
theorem cd_lenL : CD C (rLen C.K) [.list ds] (Is (.int ds.length)) := fun B H vs e k Q q => by
  cases k with
  | cons k k' =>
    cases k'
    obtain ⟨a, xs, rfl, h1, h2⟩ := k.lst e
    rw [← dpall_len h2] at q
    exact ⟨_, xs.length, rfl, Or.inl ⟨xs, h1, rfl⟩, q _ _ B H rfl (Stp.refl e) (.int _)⟩
theorem cd_lenT : CD C (rLen C.K) [.tuple ds] (Is (.int ds.length)) := fun B H vs e k Q q => by
  cases k with
  | cons k k' =>
    cases k'
    obtain ⟨a, xs, rfl, h1, h2⟩ := k.tup e
    rw [← dpall_len h2] at q
    exact ⟨_, xs.length, rfl, Or.inr ⟨xs, h1, rfl⟩, q _ _ B H rfl (Stp.refl e) (.int _)⟩
theorem cd_lenS (h : s.length ≤ 1000000) : CD C (rLen C.K) [.str s] (Is (.int s.length)) := fun B H vs e k Q q => by
  cases k with
  | cons k k' =>
    cases k'
    obtain rfl := k.str
    exact ⟨_, s.length, rfl, ⟨Nat.le_trans h (by decide), rfl⟩, q _ _ B H rfl (Stp.refl e) (.int _)⟩
theorem ve_lenL (h : VV C te Γ (Is (.list ds))) : VE C (tCB (rLen C.K) (tCons te tNil)) Γ (Is (.int ds.length)) := ve_cbD (vw_consD h vw_nil) cd_lenL
theorem ve_lenT (h : VE C te Γ (Is (.tuple ds))) : VE C (tCB (rLen C.K) (tCons te tNil)) Γ (Is (.int ds.length)) := ve_cbD (vw_consD h.v vw_nil) cd_lenT
theorem ve_lenS (hz : s.length ≤ 1000000) (h : VE C te Γ (Is (.str s))) : VE C (tCB (rLen C.K) (tCons te tNil)) Γ (Is (.int s.length)) := ve_cbD (vw_consD h.v vw_nil) (cd_lenS hz)
/-! ### tuple, list -/
def rTup (K : PySem.W.Frag) : List V → Hp → VK → Prop := fun xs H Q => ∃ p ys, xs = [.ref p] ∧ ((SqL K H p ys ∧ ∀ l, H l = none → Q (.ref l) (upd H l (.tup ys))) ∨ (SqT K H p ys ∧ Q (.ref p) H))
theorem cq_tup {X : Cx} : CallR X (.type "tuple") (rTup X.K) := call_tuple_of
theorem cd_tupL : CD C (rTup C.K) [.list ds] (Is (.tuple ds)) := fun B H vs e k Q q => by
  cases k with
  | cons k k' =>
    cases k'
    obtain ⟨a, xs, rfl, h1, h2⟩ := k.lst e
    exact ⟨a, xs, rfl, Or.inl ⟨h1, fun l hl => q _ _ _ _ rfl (Stp.new e hl) (.tup (Or.inl (Or.inl upd_same)) (dpall_mono (Stp.new (dl := C.dl) e hl).ext h2))⟩⟩
theorem cd_tupT : CD C (rTup C.K) [.tuple ds] (Is (.tuple ds)) := fun B H vs e k Q q => by
  cases k with
  | cons k k' =>
    cases k'
    have k0 := k
    obtain ⟨a, xs, rfl, h1, h2⟩ := k.tup e
    rcases k0 with k0 | ⟨_, _, _, _, z, _⟩
    · exact ⟨a, xs, rfl, Or.inr ⟨h1, q _ _ B H rfl (Stp.refl e) k0⟩⟩
    · cases z
theorem ve_tupL (h : VV C te Γ (Is (.list ds))) : VE C (tCB (rTup C.K) (tCons te tNil)) Γ (Is (.tuple ds)) := ve_cbD (vw_consD h vw_nil) cd_tupL
theorem ve_tupN (h : VV C te Γ (fun d => ∃ ds, d = .list ds ∧ S ds)) : VE C (tCB (rTup C.K) (tCons te tNil)) Γ (fun d => ∃ ds, d = .tuple ds ∧ S ds) := ve_cb (vw_cons h vw_nil) fun xs ⟨d, r, e, ⟨ds, e1, e2⟩, e3⟩ => by
  subst e1
  cases e3
  subst e
  intro B H vs e k Q q
  exact cd_tupL B H vs e k Q fun d w B' H' r s k => q d w B' H' ⟨ds, r, e2⟩ s k
def rList (K : PySem.W.Frag) : List V → Hp → VK → Prop := fun xs H Q => ∃ p ys, xs = [.ref p] ∧ (SqL K H p ys ∨ SqT K H p ys) ∧ ∀ l, H l = none → Q (.ref l) (upd H l (.lst ys))
theorem cq_list {X : Cx} : CallR X (.type "list") (rList X.K) := call_list_of
theorem cl_listL : CL C (rList C.K) [.list ds] (Is ds) := fun B H vs e k Q q => by
  cases k with
  | cons k k' =>
    cases k'
    obtain ⟨a, xs, rfl, h1, h2⟩ := k.lst e
    exact ⟨a, xs, rfl, Or.inl h1, fun l hl => q _ l xs B _ rfl (Stp.newM e hl) hl (e.free hl) upd_same h2⟩
theorem cl_listT : CL C (rList C.K) [.tuple ds] (Is ds) := fun B H vs e k Q q => by
  cases k with
  | cons k k' =>
    cases k'
    obtain ⟨a, xs, rfl, h1, h2⟩ := k.tup e
    exact ⟨a, xs, rfl, Or.inr h1, fun l hl => q _ l xs B _ rfl (Stp.newM e hl) hl (e.free hl) upd_same h2⟩
theorem vl_listL (h : VV C te Γ (Is (.list ds))) : VL C (tCB (rList C.K) (tCons te tNil)) Γ (Is ds) := vl_cbD (vw_consD h vw_nil) cl_listL
theorem vl_listT (h : VE C te Γ (Is (.tuple ds))) : VL C (tCB (rList C.K) (tCons te tNil)) Γ (Is ds) := vl_cbD (vw_consD h.v vw_nil) cl_listT
/-! ### ints -/
def rInt1 : List V → Hp → VK → Prop := fun xs H Q => (∃ i, xs = [.int i] ∧ Q (.int i) H) ∨ ∃ k, xs = [.bl k] ∧ Q (.int (if k then 1 else 0)) H
theorem cq_int {X : Cx} : CallR X (.type "int") rInt1 := call_int1
theorem ve_int1 (h : VE C te Γ (Is (.int i))) : VE C (tCB rInt1 (tCons te tNil)) Γ (Is (.int i)) := ve_cbD (vw_consD h.v vw_nil) fun B H vs e k Q q => by
  cases k with
  | cons k k' =>
    cases k'
    obtain rfl := k.int
    exact Or.inl ⟨i, rfl, q _ _ B H rfl (Stp.refl e) (.int _)⟩
theorem ve_int1R {R : Int → Prop} (h : VE C te Γ (fun d => ∃ i, d = .int i ∧ R i)) : VE C (tCB rInt1 (tCons te tNil)) Γ (fun d => ∃ i, d = .int i ∧ R i) := ve_cb (vw_cons h.v vw_nil) fun xs ⟨d, r, e, ⟨i, e1, e2⟩, e3⟩ => by
  subst e1
  cases e3
  subst e
  intro B H vs e k Q q
  cases k with
  | cons k k' =>
    cases k'
    obtain rfl := k.int
    exact Or.inl ⟨i, rfl, q _ _ B H ⟨i, rfl, e2⟩ (Stp.refl e) (.int _)⟩
def rAbs : List V → Hp → VK → Prop := fun xs H Q => ∃ i, xs = [.int i] ∧ Q (.int (if i < 0 then -i else i)) H
theorem cq_abs {X : Cx} : CallR X (.builtin "abs") rAbs := call_abs
theorem ve_abs (h : VE C te Γ (Is (.int i))) : VE C (tCB rAbs (tCons te tNil)) Γ (Is (.int (if i < 0 then -i else i))) := ve_cbD (vw_consD h.v vw_nil) fun B H vs e k Q q => by
  cases k with
  | cons k k' =>
    cases k'
    obtain rfl := k.int
    exact ⟨i, rfl, q _ _ B H rfl (Stp.refl e) (.int _)⟩
def rMx : List V → Hp → VK → Prop := fun xs H Q => ∃ i j, xs = [.int i, .int j] ∧ Q (.int (if j > i then j else i)) H
theorem cq_max {X : Cx} (hc : X.calm = true) : CallR X (.builtin "max") rMx := call_max2 hc
theorem ve_max (h : VE C ta Γ (Is (.int i))) (h2 : VE C tb Γ (Is (.int j))) : VE C (tCB rMx (tCons ta (tCons tb tNil))) Γ (Is (.int (if j > i then j else i))) := ve_cbD (vw_consD h.v (vw_consD h2.v vw_nil)) fun B H vs e k Q q => by
  cases k with
  | cons k k' =>
    cases k' with
    | cons k1 k2 =>
      cases k2
      obtain rfl := k.int
      obtain rfl := k1.int
      exact ⟨i, j, rfl, q _ _ B H rfl (Stp.refl e) (.int _)⟩
def rMn : List V → Hp → VK → Prop := fun xs H Q => ∃ i j, xs = [.int i, .int j] ∧ Q (.int (if j < i then j else i)) H
theorem cq_min {X : Cx} (hc : X.calm = true) : CallR X (.builtin "min") rMn := call_min2 hc
theorem ve_min (h : VE C ta Γ (Is (.int i))) (h2 : VE C tb Γ (Is (.int j))) : VE C (tCB rMn (tCons ta (tCons tb tNil))) Γ (Is (.int (if j < i then j else i))) := ve_cbD (vw_consD h.v (vw_consD h2.v vw_nil)) fun B H vs e k Q q => by
  cases k with
  | cons k k' =>
    cases k' with
    | cons k1 k2 =>
      cases k2
      obtain rfl := k.int
      obtain rfl := k1.int
      exact ⟨i, j, rfl, q _ _ B H rfl (Stp.refl e) (.int _)⟩
theorem ve_sum {ns : List Int} (h : VV C te Γ (Is (.list (ns.map .int)))) : VE C (tCB (rSum C.K) (tCons te tNil)) Γ (Is (.int ns.sum)) := ve_cbD (vw_consD h vw_nil) fun B H vs e k Q q => by
  cases k with
  | cons k k' =>
    cases k'
    obtain ⟨a, xs, rfl, h1, h2⟩ := k.lst e
    rw [dpall_ints h2] at h1
    exact ⟨a, ns, rfl, h1, q _ _ B H rfl (Stp.refl e) (.int _)⟩
theorem ve_all {ns : List Bool} (h : VV C te Γ (Is (.list (ns.map .bool)))) : VE C (tCB (rAll C.K) (tCons te tNil)) Γ (Is (.bool (ns.all id))) := ve_cbD (vw_consD h vw_nil) fun B H vs e k Q q => by
  cases k with
  | cons k k' =>
    cases k'
    obtain ⟨a, xs, rfl, h1, h2⟩ := k.lst e
    rw [dpall_bls h2] at h1
    exact ⟨a, ns, rfl, h1, q _ _ B H rfl (Stp.refl e) (.bl _)⟩
/-! ### repr -/
theorem ve_repr (h : VV C te Γ (Is d)) (h1 : d.showable = true) (h2 : d.hasDict = false) (h3 : d.depth ≤ 100) (h4 : d.shown.length ≤ sizeLine) : VE C (tCB (rRepr C.K) (tCons te tNil)) Γ (Is (.str d.shown)) := ve_cbD (vw_consD h vw_nil) fun B H vs e k Q q => by
  cases k with
  | cons k k' =>
    cases k'
    exact ⟨_, d, rfl, (k.now e).dp, h1, h2, h3, h4, q _ _ B H rfl (Stp.refl e) (.str _)⟩
/-! ### join -/
def rJoin (K : PySem.W.Frag) : V → List V → Hp → VK → Prop := fun x xs H Q => ∃ a p, ∃ ys : List Str, x = .str a ∧ xs = [.ref p] ∧ (SqL K H p (ys.map V.str) ∨ SqT K H p (ys.map V.str)) ∧
  (ys.map (·.length)).sum + ys.length * a.length ≤ 16777216 ∧ Q (.str (Txt.join a ys)) H
theorem mq_join {X : Cx} : MtR X "str.join" (rJoin X.K) := mt_join
theorem ve_joinL {ys : List Str} (h : VE C ta Γ (Is (.str s))) (h2 : VV C te Γ (Is (.list (ys.map .str)))) (hz : (ys.map (·.length)).sum + ys.length * s.length ≤ 16777216) : VE C (tM1 (rJoin C.K) ta te) Γ (Is (.str (Txt.join s ys))) := fun B H σ F Q q =>
  h B H σ F _ fun d v B1 H1 ed s1 k1 => by
    cases ed
    obtain rfl := dp_str k1
    refine ⟨⟨s, rfl⟩, h2 B1 H1 σ (F.step s1) _ fun d v B2 H2 ed s2 k2 => ?_⟩
    cases ed
    obtain ⟨a, xs, rfl, g1, g2⟩ := k2.lst ((F.step s1).step s2).sub
    rw [dpall_strs g2] at g1
    exact ⟨s, a, ys, rfl, rfl, Or.inl g1, hz, q _ _ B2 H2 rfl (s1.trans F.dlNow s2) (.str _)⟩
theorem ve_joinT {ys : List Str} (h : VE C ta Γ (Is (.str s))) (h2 : VE C te Γ (Is (.tuple (ys.map .str)))) (hz : (ys.map (·.length)).sum + ys.length * s.length ≤ 16777216) : VE C (tM1 (rJoin C.K) ta te) Γ (Is (.str (Txt.join s ys))) := fun B H σ F Q q =>
  h B H σ F _ fun d v B1 H1 ed s1 k1 => by
    cases ed
    obtain rfl := dp_str k1
    refine ⟨⟨s, rfl⟩, h2 B1 H1 σ (F.step s1) _ fun d v B2 H2 ed s2 k2 => ?_⟩
    cases ed
    obtain ⟨a, xs, rfl, g1, g2⟩ := dp_tup k2
    rw [dpall_strs g2] at g1
    exact ⟨s, a, ys, rfl, rfl, Or.inr (same_t ((F.step s1).step s2).sub g1), hz, q _ _ B2 H2 rfl (s1.trans F.dlNow s2) (.str _)⟩
/-! ### isinstance -/
def tyName : D → String
  | .none => "NoneType"
  | .bool _ => "bool"
  | .int _ => "int"
  | .str _ => "str"
  | .list _ => "list"
  | .tuple _ => "tuple"
  | .dict _ => "dict"
theorem dq_ty {K : PySem.W.Frag} {H : Hp} {v : V} (k : Dp K H v x) (hr : ∀ ds, x = .list ds → ∃ a xs, v = .ref a ∧ Rd H a (.lst xs)) : TyX K H v (.type (tyName x)) := by
  cases k with
  | non => exact .base .non
  | bl b => exact .base (.bl b)
  | int i => exact .base (.int i)
  | str z => exact .base (.str z)
  | lst h k =>
    obtain ⟨a, xs, e, h⟩ := hr _ rfl
    cases e
    rcases h with h | ⟨o, h⟩
    · exact .base (.lst h)
    · exact .base (.frz h)
  | tup h k =>
    rcases h with (h | ⟨o, h⟩) | ⟨o, its, n, h1, h2, _⟩
    · exact .base (.tup h)
    · exact .fTuple h
    · exact .kTuple h1 h2
def rIsAny (K : PySem.W.Frag) : List V → Hp → VK → Prop := fun xs H Q => rIsi K xs H Q ∨ rIsiT K xs H Q
theorem cq_isi {X : Cx} : CallR X (.builtin "isinstance") (rIsAny X.K) := CallR.or call_isi call_isiT
theorem vw_ty {B H : Hp} {v : V} (e : Same B H) (k : Vw C B H v x) : TyX C.K H v (.type (tyName x)) := dq_ty (k.now e).dp fun ds ed => by
  subst ed
  obtain ⟨a, xs, h1, h2, _⟩ := k.lstR e
  exact ⟨a, xs, h1, h2⟩
/-- isinstance(x, T) -/
theorem ve_isi {n : String} {b : Bool} (h : VV C te Γ (Is x)) (hb : kitB (tyName x) n = some b) : VE C (tCB (rIsAny C.K) (tCons te (tCons (tC (.ty n)) tNil))) Γ (Is (.bool b)) := fun B H σ F Q q =>
  h B H σ F _ fun d v B1 H1 ed s1 k1 => by
    cases ed
    exact Or.inl ⟨v, .ty n, _, _, b, rfl, .ty n, vw_ty (F.step s1).sub k1, kit_ty hb, q _ _ B1 H1 rfl s1 (.bl _)⟩
/-- isinstance(x, (T, U)) -/
theorem ve_isi2 {m n : String} {b c : Bool} (h : VV C te Γ (Is x)) (hb : kitB (tyName x) m = some b) (hc : kitB (tyName x) n = some c) :
    VE C (tCB (rIsAny C.K) (tCons te (tCons (tTup (tCons (tC (.ty m)) (tCons (tC (.ty n)) tNil))) tNil))) Γ (Is (.bool (b || c))) := fun B H σ F Q q =>
  h B H σ F _ fun d v B1 H1 ed s1 k1 => by
    cases ed
    refine ⟨by show 2 ≤ sizeLine; decide, fun p hp => ?_⟩
    have st := Stp.newM (dl := C.dl) (o := .tup [V.ty m, V.ty n]) (F.step s1).sub hp
    have k2 := k1.step (F.step s1) st
    refine Or.inr ⟨v, p, [.ty m, .ty n], _, [.type m, .type n], b || c, rfl, upd_same, .cons (.ty m) (.cons (.ty n) .nil), vw_ty ((F.step s1).step st).sub k2, ?_, q _ _ B1 _ rfl (s1.trans F.dlNow st) (.bl _)⟩
    refine kitAny_cons (kit_ty hb) (fun e => ?_) fun e => by rw [e]; rfl
    subst e
    refine kitAny_cons (r := false || c) (kit_ty hc) (fun e => ?_) fun e => by rw [e]; rfl
    subst e
    rfl
end

/-! ### enumerate of a text -/
def ItS (z : Str) : It := ⟨fun i _ => i < z.cps.size, fun i H v H' => ∃ T c, v = .ref T ∧ H T = none ∧ H' = upd H T (.tup [.int (i : Nat), .str ⟨#[c]⟩]) ∧ z.cps[i]? = some c, fun i _ => i = z.cps.size⟩
theorem walk_enumS {z : Str} : Walk (ItS z) z.cps.size (fun _ => True) (fun i H v H' => ∃ T c, v = .ref T ∧ H T = none ∧ H' = upd H T (.tup [.int (i : Nat), .str ⟨#[c]⟩]) ∧ z.cps[i]? = some c) :=
  ⟨fun _ _ h _ => h, fun _ _ => rfl, fun _ _ _ _ _ _ y => y⟩
theorem draws_str {prog : Program} {w : World} {A : Around} (hh : A.handled = none) (it : Addr) (x : Str) (t : Tok) :
    Draws prog w A it [it] x.cps.size (fun i v => ∃ c u, x.cps[i]? = some c ∧ v = .str ⟨#[c]⟩ u) (fun i h => h.IsStrIter it (strIterType x) x t i) := by
  unfold strIterType
  split
  · exact Draws.strAscii hh it x t
  · exact Draws.strWide hh it x t
theorem turn_enumS {P : Program} {w : World} {K : PySem.W.Frag} {elts : List Expr} {kk : Nat} {tpos : Pos} (z : Str) (t : Tok) (e it : Addr) :
    Turn P w K (.Tuple elts kk tpos) (ItS z) [e, it] e (fun i h => (∃ old, IsEnum h e it ((i : Nat) : Int) old) ∧ h.IsStrIter it (strIterType z) z t i ∧ e ≠ it) := by
  refine ⟨by simp, ?_, ?_, ?_, ?_, ?_⟩
  · rintro i h ⟨⟨old, he⟩, ⟨o, ho, hc, hd⟩, _⟩ b hb
    rcases List.mem_cons.mp hb with rfl | hb
    · exact ⟨_, he, fun v q => nomatch q⟩
    · rw [List.mem_singleton] at hb
      subst hb
      exact ⟨o, ho, fun v q => by rw [hd] at q; cases q⟩
  · rintro i h h' ⟨⟨old, he⟩, ⟨o, ho, r⟩, hne⟩ k
    exact ⟨⟨old, k e (by simp) _ he⟩, ⟨o, k it (by simp) o ho, r⟩, hne⟩
  · rintro X rfl rfl rfl hc i pins s σ H E I hf ⟨⟨old, he⟩, hit, hne⟩ hg
    have hel : e < s.heap.objs.size := Heap.lt_size he
    have hil : it < s.heap.objs.size := by
      obtain ⟨_, q, _⟩ := hit
      exact Heap.lt_size q
    refine wpAny_pyNext_enum_itemD (draws_str (by simpa using I.ok.hd hc) it z t) he hit hg hne (fun z => hne (List.mem_singleton.mp z)) fun x h' tk hP ho hit' hT hsz hk => ?_
    obtain ⟨c, u, hcx, rfl⟩ := hP
    refine ⟨_, rfl, wpAny_letOwnedTupleGo_enum (s := { s with heap := h', toks := tk + 1 }) ho fun h'' he' sb => ?_⟩
    have hT2 := (sb.2 s.heap.objs.size (Nat.ne_of_gt hel)).trans hT
    have new : ObjOk X.prog X.w (upd H s.heap.objs.size (.tup [.int (i : Nat), .str ⟨#[c]⟩])) h'' s.heap.objs.size (.tup [.int (i : Nat), .str ⟨#[c]⟩]) :=
      ⟨by show 2 ≤ sizeLine; decide, _, .cons ⟨_, rfl⟩ (.cons ⟨_, rfl⟩ .nil), ⟨_, hT2, rfl, _, rfl⟩⟩
    have J := I.turnedNew (ch := [e, it]) (t' := tk + 1) (fun b ob hb q => (sb.2 b (fun y => hb (by simp [y]))).trans (hk b ob (fun y => hb (by simp [y])) (fun y => hb (by simp [y])) q)) hf (Nat.le_refl _) new
    refine ⟨.ref s.heap.objs.size, _, J, rfl, ⟨_, c, rfl, I.hok.fresh (Nat.le_refl _), rfl, hcx⟩, ⟨⟨Value.str ⟨#[c]⟩ u, ?_⟩, ?_, hne⟩, fun b hb => ?_⟩
    · rw [show ((i + 1 : Nat) : Int) = (i : Int) + 1 by omega]
      exact he'
    · obtain ⟨o, ho', r⟩ := hit'
      exact ⟨o, (sb.2 it (Ne.symm hne)).trans ho', r⟩
    · have hb' : b < s.heap.objs.size := by
        rcases List.mem_cons.mp hb with y | y
        · rw [y]
          exact hel
        · rw [List.mem_singleton.mp y]
          exact hil
      rw [upd_ne (Nat.ne_of_lt hb')]
      exact (hf b hb).1
  · rintro X rfl rfl rfl hc i pins s σ H E I hf ⟨⟨old, he⟩, hit, hne⟩ hg
    obtain ⟨f0, f1, f2, f3, f4, f5⟩ := hf it (by simp)
    obtain rfl : i = z.cps.size := hg
    exact wpAny_pyNext_enum_endD (draws_str (by simpa using I.ok.hd hc) it z t) he hit fun h' eb => ⟨rfl, I.turned (t' := s.toks) (fun b o hb q => eb b o hb q) f0 f1 f3 f4 f5⟩
  · rintro A i s Q E ⟨⟨_, he⟩, _⟩ h
    exact wpAny_pyIter_enum he h
def iEnumS (ta : TA) : TI := fun σ H R => ta σ H fun vs H1 => ∃ z, vs = [.str z] ∧ R (ItS z) H1
theorem pi_enumS {X : Cx} {e : Expr} {ta : TA} {p pos tpos : Pos} {elts : List Expr} {kk : Nat} (hg : Gl X "enumerate") (hm : X.mg "enumerate" = none) (ha : PA X [e] ta) (hs : starEach [e] X.env = [(false, eval e X.env)] := by rfl) :
    PI X (.Tuple elts kk tpos) (.Call (.Name "enumerate" p) [e] [] pos) (iEnumS ta) := by
  constructor
  intro pins s σ H R I h
  refine Call_ (ld_blt I hg hm boot_enumerate ?_)
  refine PyProof.Rows.callWith_type1 ?_ hs rfl
  refine thn (ha.run pos pins s σ H _ I h) ?_
  rintro us s1 ⟨vs, H1, I1, r1, z, ex, q⟩
  subst ex
  obtain ⟨u, rfl, t, rfl⟩ := vals1 r1
  refine call_enumerate_str fun h' he hit hsz hk => wpAny_pyIter_enum he ?_
  have J : L2.Inv X pins σ H1 { s1 with heap := h' } := I1.kept (t' := s1.toks) hk
  refine ⟨_, [s1.heap.objs.size + 1, s1.heap.objs.size], _, _, H1, rfl, J, turn_enumS z t (s1.heap.objs.size + 1) s1.heap.objs.size, ⟨⟨.none, he⟩, hit, Nat.succ_ne_self _⟩, fun b hb => ?_, q⟩
  have hle : s1.heap.objs.size ≤ b := by
    rcases List.mem_cons.mp hb with y | y
    · rw [y]
      exact Nat.le_succ _
    · rw [List.mem_singleton.mp y]
      exact Nat.le_refl _
  exact I1.fpOk hle (I1.hok.fresh hle)
/-- the pairs of a place and a sign -/
def placed (z : Str) : List D := (List.range z.cps.size).map fun i => .tuple [.int (i : Nat), .str ⟨#[z.cps.getD i 0]⟩]
theorem placed_len (z : Str) : (placed z).length = z.cps.size := by simp [placed]
theorem placed_get {z : Str} {i : Nat} {d : D} (h : (placed z)[i]? = some d) : ∃ c, z.cps[i]? = some c ∧ d = .tuple [.int (i : Nat), .str ⟨#[c]⟩] := by
  unfold placed at h
  rw [List.getElem?_map] at h
  by_cases hi : i < z.cps.size
  · rw [List.getElem?_range hi] at h
    cases h
    refine ⟨z.cps[i], Array.getElem?_eq_getElem hi, ?_⟩
    show PyData.tuple [PyData.int (i : Nat), PyData.str ⟨#[z.cps.getD i 0]⟩] = _
    rw [Array.getD_eq_getD_getElem?, Array.getElem?_eq_getElem hi]
    rfl
  · rw [List.getElem?_eq_none_iff.mpr (by simpa using hi)] at h
    cases h
theorem vi_enumS {C : Cn} {Γ : List Sl} {te : TE} {z : Str} (h : VE C te Γ (Is (.str z))) : VI C (iEnumS (tCons te tNil)) Γ (Is (placed z)) := fun B H σ F T q => h B H σ F _ fun d v B1 H1 r s k => by
  cases r
  obtain rfl := dp_str k
  refine ⟨z, rfl, q _ _ B1 H1 (fun _ => True) _ rfl s (by rw [placed_len]; exact walk_enumS) (fun _ _ _ _ => trivial) ?_⟩
  rintro i x H2 H2' ⟨T, c, rfl, hT, rfl, hc⟩ B2 d e1 e2 hd
  obtain ⟨c', hc', rfl⟩ := placed_get hd
  rw [hc] at hc'
  cases hc'
  exact ⟨_, Stp.new e2 hT, .tup (Or.inl (Or.inl upd_same)) (.cons (.int _) (.cons (.str _) .nil))⟩
end Ly

/-! LyI: a loop over any list, tuple or text; signs compared; the source of draws' own shape. -/
namespace Ly
open PySem PySem.Spec PyProof.Rows L2

/-- for x in e, e a list, a tuple or a text -/
def iAny (K : PySem.W.Frag) (tl : TE) : TI := fun σ H R => tl σ H fun x H1 => (∃ a, x = .ref a ∧ (∃ xs, SqL K H1 a xs) ∧ R (Itl K a) H1) ∨ ((∃ a, x = .ref a ∧ (∃ xs, SqT K H1 a xs) ∧ R (Itt K a) H1) ∨ ∃ z, x = .str z ∧ R (Its z) H1)
theorem pi_any {X : Cx} {tg l : Expr} {tl : TE} (hl : PE X l tl) : PI X tg l (iAny X.K tl) := by
  constructor
  intro pins s σ H R I h
  refine thn (hl.run pins s σ H _ I h) ?_
  rintro v s1 ⟨x, H1, I1, r1, q⟩
  have fresh1 : ∀ b ∈ [s1.heap.objs.size], FpOk X pins H1 b := fun b hb => by
    rw [List.mem_singleton.mp hb]
    exact I1.fpOk (Nat.le_refl _) (I1.hok.fresh (Nat.le_refl _))
  rcases q with ⟨a, rfl, ⟨xs, hq⟩, q⟩ | ⟨a, rfl, ⟨xs, hq⟩, q⟩ | ⟨z, rfl, q⟩
  · obtain rfl : v = Value.ref a := r1
    obtain ⟨its, _, p, _⟩ := I1.list hq
    apply wpAny_pyIter_list p.isList
    exact ⟨_, [s1.heap.objs.size], _, _, H1, rfl, I1.kept (t' := s1.toks) fun b o e => Heap.get?_push_of_some _ e, turn_list a s1.heap.objs.size, ⟨_, Heap.get?_push_size _ rfl, rfl, rfl⟩, fresh1, q⟩
  · obtain rfl : v = Value.ref a := r1
    obtain ⟨its, _, p, _⟩ := I1.tuple hq
    apply wpAny_pyIter_tuple (show s1.heap.IsTuple a its.toArray from p)
    exact ⟨_, [s1.heap.objs.size], _, _, H1, rfl, I1.kept (t' := s1.toks) fun b o e => Heap.get?_push_of_some _ e, turn_tuple a s1.heap.objs.size, ⟨_, Heap.get?_push_size _ rfl, rfl, rfl⟩, fresh1, q⟩
  · obtain ⟨t, rfl⟩ := r1
    by_cases ha : z.cps.all (· < 128) = true
    · exact wpAny_pyIter_ascii ha (pi_one (tk := s1.toks) I1 _ (turn_str s1.heap.objs.size z t "str_ascii_iterator" (Or.inl rfl)) ⟨_, Heap.get?_push_size _ rfl, rfl, rfl⟩ q)
    · exact wpAny_pyIter_wide (by simpa using ha) (pi_one (tk := s1.toks) I1 _ (turn_str s1.heap.objs.size z t "str_iterator" (Or.inr rfl)) ⟨_, Heap.get?_push_size _ rfl, rfl, rfl⟩ q)
section
variable {C : Cn} {Γ : List Sl} {t te ta tb tc : TE} {ds : List D} {S : List D → Prop} {s z : Str}
theorem va_list (h : VE C t Γ (fun d => ∃ ds, d = .list ds ∧ S ds)) : VI C (iAny C.K t) Γ S := fun B H σ F T q => h B H σ F _ fun d v B1 H1 ⟨ds, e, r⟩ s k => by
  subst e
  obtain ⟨a, xs, rfl, h1, h2⟩ := dp_lst k
  refine Or.inl ⟨a, rfl, ⟨xs, same_l (F.step s).sub h1⟩, q ds _ B1 H1 _ _ r s (dpall_len h2 ▸ walk_list) (fun B2 H2 e1 e2 => same_l e2 (same_l e1 h1)) ?_⟩
  rintro i x H2 H2' ⟨rfl, hx⟩ B2 d e1 e2 hd
  obtain ⟨v, hv, k2⟩ := dpall_get h2 hd
  rw [hx] at hv
  cases hv
  exact ⟨B2, Stp.refl e2, dp_mono e1 k2⟩
theorem va_listD (h : VE C t Γ (Is (.list ds))) : VI C (iAny C.K t) Γ (Is ds) := va_list (h.imp fun d e => ⟨ds, e, rfl⟩)
theorem va_tup (h : VE C t Γ (fun d => ∃ ds, d = .tuple ds ∧ S ds)) : VI C (iAny C.K t) Γ S := fun B H σ F T q => h B H σ F _ fun d v B1 H1 ⟨ds, e, r⟩ s k => by
  subst e
  obtain ⟨a, xs, rfl, h1, h2⟩ := dp_tup k
  refine Or.inr (Or.inl ⟨a, rfl, ⟨xs, same_t (F.step s).sub h1⟩, q ds _ B1 H1 _ _ r s (dpall_len h2 ▸ walk_tup) (fun B2 H2 e1 e2 => same_t e2 (same_t e1 h1)) ?_⟩)
  rintro i x H2 H2' ⟨rfl, hx⟩ B2 d e1 e2 hd
  obtain ⟨v, hv, k2⟩ := dpall_get h2 hd
  rw [hx] at hv
  cases hv
  exact ⟨B2, Stp.refl e2, dp_mono e1 k2⟩
theorem va_tupD (h : VE C t Γ (Is (.tuple ds))) : VI C (iAny C.K t) Γ (Is ds) := va_tup (h.imp fun d e => ⟨ds, e, rfl⟩)
theorem va_strD (h : VE C t Γ (Is (.str z))) : VI C (iAny C.K t) Γ (Is (signs z)) := fun B H σ F T q => h B H σ F _ fun d v B1 H1 r s k => by
  cases r
  obtain rfl := dp_str k
  refine Or.inr (Or.inr ⟨z, rfl, q _ _ B1 H1 _ _ rfl s (signs_len z ▸ walk_str) (fun _ _ _ _ => trivial) ?_⟩)
  rintro i x H2 H2' ⟨rfl, c, hc, rfl⟩ B2 d e1 e2 hd
  have hd' : (signs z)[i]? = some (.str ⟨#[c]⟩) := by
    unfold signs
    rw [List.getElem?_map, Array.getElem?_toList, hc]
    rfl
  rw [hd'] at hd
  cases hd
  exact ⟨B2, Stp.refl e2, .str _⟩
/-! a < b < c -/
theorem ve_chain {r r' : R2} {x y : D} {R : D → Prop} {b : Bool} (ha : VE C ta Γ (Is x)) (hb : VE C tb Γ (Is y)) (ho : OD C r x y (Is (.bool b))) (h0 : b = false → R (.bool false)) (hc : b = true → VV C tc Γ (fun w => OD C r' y w R)) : VE C (tChain r r' ta tb tc) Γ R := fun B H σ F Q q =>
  ha B H σ F _ fun d v B1 H1 e1 s1 k1 => hb B1 H1 σ (F.step s1) _ fun d2 v2 B2 H2 e2 s2 k2 => by
    cases e1
    cases e2
    have F2 := (F.step s1).step s2
    refine ho B2 H2 v v2 F2.sub (Or.inl (dp_mono s2.ext k1)) (Or.inl k2) _ fun d3 w B3 H3 e3 s3 k3 => ?_
    cases e3
    obtain rfl := dp_bl k3
    have st := (s1.trans F.dlNow s2).trans F.dlNow s3
    refine ⟨b, rfl, ?_⟩
    cases b with
    | false => exact iteF (q _ _ B3 H3 (h0 rfl) st (.bl false))
    | true =>
      refine iteT (hc rfl B3 H3 σ (F2.step s3) _ fun d4 v4 B4 H4 e4 s4 k4 => ?_)
      exact e4 B4 H4 v2 v4 ((F2.step s3).step s4).sub (Or.inl (dp_mono (s3.ext.trans s4.ext) k2)) k4 _ fun d5 v5 B5 H5 e5 s5 k5 => q d5 v5 B5 H5 e5 ((st.trans F.dlNow s4).trans F.dlNow s5) k5
end
end Ly

/-! LyJ: the end of a law's row over GOk. -/
namespace Ly
open PySem PySem.Spec PyProof.Rows L2

/-- what is tracked at the law's own call: the script alone, if it is no object of the module -/
def H1 (K : PySem.W.Frag) (a : Addr) (o : Obj) (xs : List V) : Hp := fun b => if b = a ∧ K.lookup a = none then some (.frz o (.lst xs)) else none
theorem h1_at {K : PySem.W.Frag} {a : Addr} {o : Obj} {xs : List V} (h : K.lookup a = none) : H1 K a o xs a = some (.frz o (.lst xs)) := if_pos ⟨rfl, h⟩
theorem h1_only {K : PySem.W.Frag} {a b : Addr} {o : Obj} {xs : List V} {u : HO} (h : H1 K a o xs b = some u) : b = a ∧ K.lookup a = none ∧ u = .frz o (.lst xs) := by
  unfold H1 at h
  split at h
  · rename_i q
    cases h
    exact ⟨q.1, q.2, rfl⟩
  · cases h

section
variable {P : Program} {w : World} {K : PySem.W.Frag} {mg mb : Str → Option Value} {k : Nat} {fa a : Addr} {fd : FuncData} {x : Str} {sp : Sp} {s₁ : Shared} {vs : List Value} {ns : List Int}
theorem law_g (KX : K.In s₁.heap) (hns : s₁.heap.Ns mainGlobals mg) (hb : s₁.heap.Ns builtinsNs mb) (hbb : ∀ x : Str, x ≠ "__name__" → mb x = bootBuiltins x) (hlim : s₁.heap.NoLimit) (hg : s₁.gens = #[])
    (ha : s₁.heap.get? a = some { cls := .type "list", data := .seq vs.toArray }) (hi : IntsAre vs ns) (hl : ns.length ≤ sizeLine) (hr : Room k callerA)
    (F : ∀ base : Heap, K.In base → base.Ns mainGlobals mg → GOk P w K mg base CX0 k fa fd [x] sp) (hbind : ∀ (s : Shared) (u : Value), BindsTo s fd ⟨[u], []⟩ [(x, u)])
    (hsp : ∀ H : Hp, SqL K H a (ns.map V.int) → sp [.ref a] H (fun v _ => v = .bl true) E0) :
    codeAny (model P w) callerA (.call (.ref fa) ⟨[.ref a], []⟩) (fun r s' => r = .ok (.ret (.bool true)) ∧ OldK s₁.heap s'.heap ∧ s'.os = s₁.os ∧ AllBare s'.gens) s₁ := by
  have rv : Vals (ns.map V.int) vs := vals_ints hi
  have lv : vs.length = ns.length := by
    have := rv.length
    rw [List.length_map] at this
    exact this.symm
  let o : Obj := { cls := .type "list", data := .seq vs.toArray }
  let H : Hp := H1 K a o (ns.map V.int)
  have ok : HOk P w H s₁.heap := fun b u e => by
    obtain ⟨rfl, _, rfl⟩ := h1_only e
    exact ⟨ha, by rw [List.length_map]; exact hl, vs, _, rv, ha⟩
  have sq : SqL K H a (ns.map V.int) := by
    cases e : K.lookup a with
    | none => exact Or.inl (Or.inr ⟨o, h1_at e⟩)
    | some u =>
      have e2 := KX a u e
      rw [ha] at e2
      cases e2
      exact Or.inr ⟨_, vs.toArray, _, e, rfl, rfl, rfl, by rw [List.size_toArray, lv]; exact hl, by simpa using rv⟩
  have free : ∀ {b : Addr} {u : Obj} {es : Array DictEntry} {ep : Nat}, s₁.heap.get? b = some u → u.data = .dict es ep → H b = none := fun {b u es ep} e d => by
    cases q : H b with
    | none => rfl
    | some v =>
      obtain ⟨rfl, _, _⟩ := h1_only q
      rw [ha] at e
      cases e
      cases d
  have ns1 : ∀ {b : Addr} {m : Str → Option Value}, s₁.heap.Ns b m → (hidT s₁.heap H).Ns b m := by
    rintro b m ⟨u, es, ep, e, d, r⟩
    exact ⟨u, es, ep, hidT_get e (free e d), d, r⟩
  have kin : K.In (hidT s₁.heap H) := fun b u e => hidT_get (KX b u e) (by
    cases q : H b with
    | none => rfl
    | some v =>
      obtain ⟨rfl, z, _⟩ := h1_only q
      rw [z] at e
      cases e)
  obtain ⟨mc, hc1, hc2⟩ := hlim
  have hm : Mod K mg (hidT s₁.heap H) := ⟨kin, ns1 hns, ⟨mb, ns1 hb, hbb⟩, mc, ns1 hc1, hc2⟩
  have none_in : ∀ b : Addr, b ∉ frs ([] : List Env) := fun b hb => nomatch hb
  have e0 : Env0 P w K mg (hidT s₁.heap H) callerA [] s₁ H :=
    { frames := rfl, mod := hm, bs := fun b u e => of_hidT e, bsz := Nat.le_of_eq (hidT_size _ _), funs := trivial, frf := fun b hb => absurd hb (none_in b), hok := ok, bare := .of_eq hg }
  refine codeAny_mono ((F _ kin (ns1 hns)).does (us := [.ref a]) (vs := [.ref a]) (E := E0) rfl hr e0 (hbind s₁ (.ref a)) (.cons rfl .nil) (hsp H sq)) fun r s' h => ?_
  cases r with
  | error e => exact False.elim h
  | ok fl =>
    cases fl with
    | next => exact False.elim h
    | brk => exact False.elim h
    | cont => exact False.elim h
    | ret u =>
      obtain ⟨v, H', os, bare, un, ok', rr, q⟩ := h
      obtain rfl : v = .bl true := q
      obtain rfl : u = Value.bool true := rr
      refine ⟨rfl, OldK.of_keep fun b u e => ?_, os, bare⟩
      cases q : H b with
      | none => exact un.keep b u e q (none_in b) (fun z => nomatch z)
      | some y =>
        obtain ⟨rfl, _, rfl⟩ := h1_only q
        obtain ⟨e2, _⟩ := ok' b _ (un.frzs b _ _ q)
        rw [e2, ← e, ha]
end
/-- the goal that k_head leaves, from a law's promise over GOk -/
theorem walk_g {l : PySem.W.OpenLaw} {n k : Nat} {q : Program} {loose : List Str} {XP : (Str → Option Value) → Heap → Prop} {YP : World → Heap → Prop} {d : DefRec} {K : Params → PySem.W.Frag} {sp : PySem.W.Frag → Sp} {x : Str}
    (hn : l.most = some n) (hn2 : n ≤ sizeLine) (hdf : d.params.defaults = []) (hr : Room k callerA)
    (hY : ∀ (w : World) (h : Heap), YP w h → (K w.params).In h)
    (F : ∀ (w : World) (mg : Str → Option Value) (fa : Addr) (h : Heap), (K w.params).In h → h.Ns mainGlobals mg → mg d.name = some (.ref fa) →
      ∃ fd : FuncData, (∀ (s : Shared) (u : Value), BindsTo s fd ⟨[u], []⟩ [(x, u)]) ∧ ∀ base : Heap, (K w.params).In base → base.Ns mainGlobals mg → GOk l.prog w (K w.params) mg base CX0 k fa fd [x] (sp (K w.params)))
    (hsp : ∀ (K : PySem.W.Frag) (H : Hp) (a : Addr) (ns : List Int), ns.length ≤ n → SqL K H a (ns.map V.int) → sp K [.ref a] H (fun v _ => v = .bl true) E0) :
    PySem.W.WalkO q loose XP YP l.row.toRowW d [] (fun f vs => PySem.call f vs) := by
  apply Att.attach_call hn hdf
  intro w s₀ s₁ mg mb fa o pm cd doc a vs ns G Y ho hd hcd hmg hobj hints hlen hg
  obtain ⟨fd, hb, hF⟩ := F w mg fa _ (hY w _ Y) G.T.g hmg
  exact law_g (hY w _ Y) G.T.g G.T.b G.T.builtins G.T.nolimit hg hobj hints (Nat.le_trans hlen hn2) hr hF hb fun H hS => hsp _ H a ns hlen hS

/-- a law's own promise -/
def Lw (K : PySem.W.Frag) : Sp := fun vs H Q _ => ∃ (a : Addr) (ns : List Int), vs = [.ref a] ∧ SqL K H a (ns.map V.int) ∧ ns.length ≤ 63 ∧ ∀ H', Q (.bl true) H'
section
variable {P0 : Program} {w : World} {K : PySem.W.Frag} {mg : Str → Option Value} {base : Heap} {k : Nat} {f : Addr} {fd : FuncData} {N : List Str} {x qual : Str} {st : Stmt}
theorem fm_law {K : PySem.W.Frag} {H : Hp} {a : Addr} {xs : List V} {N : List Str} {n : Nat} (hS : SqL K H a xs) (hn : 1 + n = N.length) : Fm ⟨K, H, H, none⟩ H H (L2.start N [.ref a]) (.rd xs :: List.replicate n .no) := by
  refine ⟨Stp.refl (Same.refl H), (fun p q e => nomatch e), ?_, fun i sl h => ?_, fun i j p ds es h => ?_⟩
  · rw [start_len (by rw [List.length_singleton]; omega), List.length_cons, List.length_replicate]
    omega
  · cases i with
    | zero =>
      cases h
      exact ⟨a, rfl, hS⟩
    | succ i =>
      have h : (List.replicate n Sl.no)[i]? = some sl := h
      rw [List.getElem?_replicate] at h
      split at h
      · cases h
        trivial
      · cases h
  · exfalso
    cases i with
    | zero => cases h
    | succ i =>
      have h : (List.replicate n Sl.no)[i]? = some (.own ds) := h
      rw [List.getElem?_replicate] at h
      split at h <;> cases h
theorem law_ok (n : Nat) (F : Fun K x qual st f fd) (S : FnScope N ["script"] (defScope st)) (hn : 1 + n = N.length)
    (body : ∀ (cdv : Value) (A : Around) (outer : List Env) (s : Shared) (H : Hp) (E : XK), (cxOf CX0 P0 w K mg base N qual (defScope st) f cdv A outer s H E).A.guards = some [] → Room k (cxOf CX0 P0 w K mg base N qual (defScope st) f cdv A outer s H E).A →
      ∃ t, PSs (cxOf CX0 P0 w K mg base N qual (defScope st) f cdv A outer s H E).nox (defBody st) t ∧ ∀ H (ns : List Int), ns.length ≤ 63 → VS ⟨K, H, H, none⟩ t (.rd (ns.map V.int) :: List.replicate n .no) { nx := fun _ => False, rt := Is (.bool true) }) :
    GOk P0 w K mg base CX0 (k + 1) f fd ["script"] (Lw K) := by
  refine gok_of F S (fun {vs H Q E} ⟨a, ns, e, _⟩ => by rw [e]; rfl) fun cdv A outer s H vs Q E hg hr ⟨a, ns, e, hS, hl, hq⟩ => ?_
  subst e
  obtain ⟨t, ht, hv⟩ := body cdv A outer s H E hg hr
  refine ⟨t, ht.nox, hv H ns hl H H _ _ (fm_law hS hn) (fun _ _ _ _ e => e.elim) ?_ (fun _ _ _ _ e => e.elim) fun _ _ _ _ e => e.elim⟩
  intro d v B' H' e _ kd
  cases e
  obtain rfl := dp_bl kd
  exact hq H'
end
end Ly

/-! LyK: the laws' own draws: _law_draw, _law_any, _law_of, _law_mixed (their readings and what these give). -/
namespace Ly
open PySem PySem.Spec PyProof.Rows L2

/-- the source of draws is made from the script and a number -/
def Dr (K : PySem.W.Frag) : Sp := fun vs H Q _ => ∃ (B : Hp) (a : Addr) (ns : List Int) (salt : Int), vs = [.ref a, .int salt] ∧ Same B H ∧ SqL K B a (ns.map V.int) ∧ 0 ≤ salt ∧ salt ≤ 1000 ∧ ns.length ≤ 63 ∧
  ∀ p q B' H', Stp none B H B' H' → H p = none → H q = none → B' p = none → B' q = none → DealAt H' p q → Q (.ref p) H'
def P_any (ds : List D) : Prop := ∃ b : Int, ds = [.int b] ∧ 0 < b ∧ b < 1000000000000
def R_any (ds : List D) (d : D) : Prop := ∀ b : Int, ds = [.int b] → ∃ r, d = .int r ∧ 0 ≤ r ∧ r < b
def P_of (ds : List D) : Prop := ∃ xs, (ds = [.list xs] ∨ ds = [.tuple xs]) ∧ xs ≠ [] ∧ xs.length ≤ 100000
def R_of (ds : List D) (d : D) : Prop := ∀ xs, (ds = [.list xs] ∨ ds = [.tuple xs]) → d ∈ xs
def P_mixed (ds : List D) : Prop := ∃ xs, (ds = [.list xs] ∨ ds = [.tuple xs]) ∧ xs.length ≤ 10000
def R_mixed (ds : List D) (d : D) : Prop := ∀ xs, (ds = [.list xs] ∨ ds = [.tuple xs]) → ∃ ys, d = .list ys ∧ ys.Perm xs
end Ly

/-! LyL: what _law_any, _law_of, _law_mixed give. -/
namespace Ly
open PySem PySem.Spec PyProof.Rows L2

abbrev tIx0 (K : PySem.W.Frag) (i : Int) : TE := tOp (rIx K) (tVar 0) (tC (.int i))
abbrev rMod : R2 := rI (fun _ j => 0 < j) fun i j => .int (i % j)
abbrev rDiv : R2 := rI CDivW fun i j => .int (i / j)
abbrev rMul : R2 := rI CMulW fun i j => .int (i * j)
def t_any (K : PySem.W.Frag) : TS :=
  tSeq (tWhile (tAnd (tTest (tOp (rNeA K) (tIx0 K 0) (tLst tNil))) (tTest (tOp (rEqA K) (tOp (rIx K) (tIx0 K 0) (tUn (rU fun i => .int (-i)) (tC (.int 1)))) (tC (.int 0))))) (tDrop (tBM0 K "list" rPop (tIx0 K 0))))
  (tSeq (tIfS (tTest (tOp (rNeA K) (tIx0 K 0) (tLst tNil))) (tSeq (tAsg (tCB rInt1 (tCons (tBM0 K "list" rPop (tIx0 K 0)) tNil)) (gName 2))
      (tSeq (tDrop (tBM K "list" rAppend (tIx0 K 0) (tCons (tOp rDiv (tVar 2) (tVar 1)) tNil))) (tRet (tOp rMod (tVar 2) (tVar 1))))) tNext)
  (tSeq (tAsg (tOp rMod (tCB rInt1 (tCons (tOp (rAddA K) (tOp rMul (tIx0 K 1) (tC (.int 40693))) (tC (.int 71))) tNil)) (tC (.int 2147483647))) (gSub (tVar 0) (tC (.int 1)) rSetL))
    (tRet (tOp rMod (tCB rInt1 (tCons (tOp rDiv (tIx0 K 1) (tC (.int 64))) tNil)) (tVar 1)))))

theorem shaped_ints (ns : List Int) : SeqAt.shaped (.list (ns.map .int)) = true := by
  have h1 : ∀ ns : List Int, PyData.canLayAll0 (ns.map .int) = true := fun ns => by
    induction ns with
    | nil => simp [PyData.canLayAll0]
    | cons n ns ih => simp [PyData.canLayAll0, PyData.canLay0, ih]
  have h2 : ∀ ns : List Int, PyData.depthAll (ns.map .int) ≤ 1 := fun ns => by
    induction ns with
    | nil => simp [PyData.depthAll]
    | cons n ns ih =>
      simp only [List.map_cons, PyData.depthAll, PyData.depth]
      omega
  have h3 := h2 ns
  have h4 : PyData.depth (.list (ns.map .int)) ≤ 64 := by
    simp only [PyData.depth]
    omega
  have h5 : PyData.canLay0 (.list (ns.map .int)) = true := by
    simp only [PyData.canLay0]
    exact h1 ns
  unfold SeqAt.shaped
  rw [h5, decide_eq_true h4]
  rfl
theorem dp_ints {K : PySem.W.Frag} {H : Hp} {q : Addr} {ns : List Int} (h : H q = some (.lst (ns.map V.int))) : Dp K H (.ref q) (.list (ns.map .int)) := by
  refine .lst (Or.inl (Or.inl h)) ?_
  clear h
  induction ns with
  | nil => exact .nil
  | cons n ns ih => exact .cons (.int n) ih
theorem Stp.dealSet {p q a : Addr} {CB CH B H : Hp} {o : HO} (s : Stp (some (p, q)) CB CH B H) (ha : a = p ∨ a = q) (hB : B a = none) (hd : DealAt (upd H a o) p q) : Stp (some (p, q)) CB CH B (upd H a o) := by
  refine ⟨s.ext, fun b u e => ?_, fun b u e m => ?_, s.out, fun p' q' e _ => ?_⟩
  · rw [upd_ne (ne_of_none e hB)]
    exact s.sub b u e
  · have nb : b ≠ a := fun z => m ⟨p, q, rfl, z ▸ ha⟩
    rw [upd_ne nb]
    exact s.keep b u e m
  · cases e
    exact hd

section
variable {K : PySem.W.Frag} {σ : L2.St} {H : Hp} {p q : Addr} {ns : List Int} {c b : Int} {Q : VK}
theorem ix0_run (h0 : σ[0]? = some (some (.ref p))) (hp : H p = some (.lst [.ref q, .int c])) (k : Q (.ref q) H) : tIx0 K 0 σ H Q := ⟨.ref p, h0, Or.inl ⟨p, _, 0, .ref q, rfl, rfl, SqL.of hp, rfl, k⟩⟩
theorem ix1_run (h0 : σ[0]? = some (some (.ref p))) (hp : H p = some (.lst [.ref q, .int c])) (k : Q (.int c) H) : tIx0 K 1 σ H Q := ⟨.ref p, h0, Or.inl ⟨p, _, 1, .int c, rfl, rfl, SqL.of hp, rfl, k⟩⟩
theorem eqv_nil (ns : List Int) : PyData.eqv (.list (ns.map .int)) (.list []) = decide (ns = []) := by
  cases ns <;> simp [PyData.eqv, PyData.eqvAll]
/-- deal[0] != [] -/
theorem ne_run {Qb : Bool → Hp → Prop} (h0 : σ[0]? = some (some (.ref p))) (hp : H p = some (.lst [.ref q, .int c])) (hq : H q = some (.lst (ns.map V.int))) (k : ∀ r, H r = none → Qb (!decide (ns = [])) (upd H r (.lst []))) :
    tTest (tOp (rNeA K) (tIx0 K 0) (tLst tNil)) σ H Qb := by
  refine ix0_run h0 hp ⟨by show 0 ≤ sizeLine; decide, fun r hr => ?_⟩
  have hq' : upd H r (.lst []) q = some (.lst (ns.map V.int)) := by
    rw [upd_ne (ne_of_none hq hr)]
    exact hq
  refine Or.inr ⟨.list (ns.map .int), .list [], dp_ints hq', dp_ints (ns := []) upd_same, shaped_ints ns, shaped_ints [], _, rfl, ?_⟩
  rw [eqv_nil]
  exact k r hr
/-- all that _law_any needs to know of a moment -/
structure AnyAt (C : Cn) (p q : Addr) (B H : Hp) (σ : L2.St) (b : Int) (ns : List Int) (c : Int) : Prop where
  st : Stp (some (p, q)) C.B C.H B H
  n1 : B p = none
  n2 : B q = none
  len : σ.length = 3
  s0 : σ[0]? = some (some (.ref p))
  s1 : σ[1]? = some (some (.int b))
  ne : p ≠ q
  hp : H p = some (.lst [.ref q, .int c])
  hq : H q = some (.lst (ns.map V.int))
  sz : ns.length ≤ 64
  c0 : 0 ≤ c
  c1 : c < 2147483648
variable {C : Cn} {B : Hp}
theorem AnyAt.deal (a : AnyAt C p q B H σ b ns c) : DealAt H p q := ⟨a.ne, ns, c, a.hp, a.hq, a.sz, a.c0, a.c1⟩
theorem AnyAt.new {r : Addr} {o : HO} (a : AnyAt C p q B H σ b ns c) (hd : C.dl = some (p, q)) (h0 : DealAt C.H p q) (h : H r = none) : AnyAt C p q B (upd H r o) σ b ns c := by
  refine { a with st := ?_, hp := ?_, hq := ?_ }
  · exact a.st.trans (fun p' q' e => by cases e; exact h0) (Stp.newM a.st.sub h)
  · rw [upd_ne (ne_of_none a.hp h)]
    exact a.hp
  · rw [upd_ne (ne_of_none a.hq h)]
    exact a.hq
theorem AnyAt.setQ (a : AnyAt C p q B H σ b ns c) {ms : List Int} (hm : ms.length ≤ 64) : AnyAt C p q B (upd H q (.lst (ms.map V.int))) σ b ms c := by
  have hp : upd H q (.lst (ms.map V.int)) p = some (.lst [.ref q, .int c]) := by
    rw [upd_ne a.ne]
    exact a.hp
  exact { a with st := a.st.dealSet (Or.inr rfl) a.n2 ⟨a.ne, ms, c, hp, upd_same, hm, a.c0, a.c1⟩, hp := hp, hq := upd_same, sz := hm }
theorem AnyAt.setP (a : AnyAt C p q B H σ b ns c) {d : Int} (h0 : 0 ≤ d) (h1 : d < 2147483648) : AnyAt C p q B (upd H p (.lst [.ref q, .int d])) σ b ns d := by
  have hq : upd H p (.lst [.ref q, .int d]) q = some (.lst (ns.map V.int)) := by
    rw [upd_ne a.ne.symm]
    exact a.hq
  exact { a with st := a.st.dealSet (Or.inl rfl) a.n1 ⟨a.ne, ns, d, upd_same, hq, a.sz, h0, h1⟩, hp := upd_same, hq := hq, c0 := h0, c1 := h1 }
theorem AnyAt.slot2 (a : AnyAt C p q B H σ b ns c) (v : V) : AnyAt C p q B H (σ.set 2 (some v)) b ns c := by
  refine { a with len := by rw [List.length_set]; exact a.len, s0 := ?_, s1 := ?_ }
  · rw [List.getElem?_set_ne (by decide)]
    exact a.s0
  · rw [List.getElem?_set_ne (by decide)]
    exact a.s1
theorem last_map {ns : List Int} (h : ns ≠ []) : (ns.map V.int)[(ns.map V.int).length - 1]? = some (.int (ns.getLast h)) := by
  rw [← List.getLast?_eq_getElem?, List.getLast?_map, List.getLast?_eq_getLast h]
  rfl
theorem drop_map (ns : List Int) : (ns.map V.int).dropLast = (ns.dropLast).map V.int := by rw [List.map_dropLast]
/-- deal[0].pop() -/
theorem pop_run (a : AnyAt C p q B H σ b ns c) (h : ns ≠ []) (k : Q (.int (ns.getLast h)) (upd H q (.lst (ns.dropLast.map V.int)))) : tBM0 K "list" rPop (tIx0 K 0) σ H Q := by
  refine ix0_run a.s0 a.hp ⟨own_ty a.hq, q, _, _, rfl, rfl, a.hq, last_map h, ?_⟩
  rw [drop_map]
  exact k
theorem dropLast_len {ns : List Int} : ns.dropLast.length ≤ ns.length := by rw [List.length_dropLast]; omega

theorem vs_any {K : PySem.W.Frag} {B0 H0 : Hp} {p q : Addr} {ds : List D} (hP : P_any ds) : VS ⟨K, B0, H0, some (p, q)⟩ (t_any K) (.deal :: slots ds 1) { nx := fun _ => R_any ds .none, rt := R_any ds } := by
  obtain ⟨b, rfl, hb0, hb1⟩ := hP
  intro B H σ E F hn hr hk hc
  have hdl := F.dl p q rfl
  have hd0 : DealAt H0 p q := hdl.1
  obtain ⟨n1, n2⟩ := F.dlOut (p := p) (q := q) rfl
  obtain ⟨ne, ns, c, hp, hq, hz, hc0, hc1⟩ := F.dlNow p q rfl
  obtain ⟨p', q', e, s0⟩ := F.slot 0 .deal rfl
  cases e
  obtain ⟨v, s1, kv⟩ := F.slot 1 (.dat (.int b)) rfl
  obtain rfl := dp_int kv
  have A0 : AnyAt ⟨K, B0, H0, some (p, q)⟩ p q B H σ b ns c := ⟨F.st, n1, n2, F.len, s0, s1, ne, hp, hq, hz, hc0, hc1⟩
  have ret : ∀ {H' : Hp} {ms : List Int} {d r : Int} {σ' : L2.St}, AnyAt ⟨K, B0, H0, some (p, q)⟩ p q B H' σ' b ms d → 0 ≤ r → r < b → E.rt (.int r) H' := fun a h1 h2 =>
    hr (.int _) _ B _ (fun b' e => by cases e; exact ⟨_, rfl, h1, h2⟩) a.st (.int _)
  refine ⟨fun m σ' H' => ∃ ms d, AnyAt ⟨K, B0, H0, some (p, q)⟩ p q B H' σ' b ms d ∧ m = ms.length, ⟨_, ns, c, A0, rfl⟩, ?_⟩
  rintro m σ1 H1 ⟨ms, d, A1, rfl⟩
  -- behind the loop
  have rest : ∀ {H2 : Hp} {ms : List Int} {d : Int}, AnyAt ⟨K, B0, H0, some (p, q)⟩ p q B H2 σ1 b ms d →
      (tSeq (tIfS (tTest (tOp (rNeA K) (tIx0 K 0) (tLst tNil))) (tSeq (tAsg (tCB rInt1 (tCons (tBM0 K "list" rPop (tIx0 K 0)) tNil)) (gName 2))
        (tSeq (tDrop (tBM K "list" rAppend (tIx0 K 0) (tCons (tOp rDiv (tVar 2) (tVar 1)) tNil))) (tRet (tOp rMod (tVar 2) (tVar 1))))) tNext)
      (tSeq (tAsg (tOp rMod (tCB rInt1 (tCons (tOp (rAddA K) (tOp rMul (tIx0 K 1) (tC (.int 40693))) (tC (.int 71))) tNil)) (tC (.int 2147483647))) (gSub (tVar 0) (tC (.int 1)) rSetL))
        (tRet (tOp rMod (tCB rInt1 (tCons (tOp rDiv (tIx0 K 1) (tC (.int 64))) tNil)) (tVar 1))))) E σ1 H2 := by
    intro H2 ms d A2
    refine ne_run A2.s0 A2.hp A2.hq fun r hr1 => ?_
    have A3 := A2.new (o := .lst []) rfl hd0 hr1
    by_cases hm : ms = []
    · rw [decide_eq_true hm]
      refine iteF ?_
      -- deal[1] = int(deal[1] * 40693 + 71) % 2147483647
      refine ix1_run A3.s0 A3.hp ⟨d, 40693, rfl, rfl, wide_mul (a := 32) (b := 32) (by have := A3.c0; have := A3.c1; omega) (by decide) (by decide) (by decide) (by decide), ?_⟩
      refine Or.inl ⟨d * 40693, 71, rfl, rfl, ?_⟩
      refine Or.inl ⟨d * 40693 + 71, rfl, ?_⟩
      refine ⟨_, 2147483647, rfl, rfl, (by show (0 : Int) < 2147483647; decide), ?_⟩
      have e0 : 0 ≤ (d * 40693 + 71) % 2147483647 := Int.emod_nonneg _ (by decide)
      have e1 : (d * 40693 + 71) % 2147483647 < 2147483647 := Int.emod_lt_of_pos _ (by decide)
      have A4 := A3.setP (d := (d * 40693 + 71) % 2147483647) e0 (by omega)
      refine ⟨.ref p, A3.s0, p, _, 1, 1, rfl, rfl, A3.hp, rfl, ?_⟩
      show tRet (tOp rMod (tCB rInt1 (tCons (tOp rDiv (tIx0 K 1) (tC (.int 64))) tNil)) (tVar 1)) E σ1 _
      -- return int(deal[1] // 64) % bound
      refine ix1_run A4.s0 A4.hp ⟨_, 64, rfl, rfl, wide_div (b := 7) (by decide) (by decide) (by decide) (by decide), ?_⟩
      refine Or.inl ⟨_, rfl, ?_⟩
      refine ⟨.int b, A4.s1, _, b, rfl, rfl, hb0, ?_⟩
      exact ret A4 (Int.emod_nonneg _ (by omega)) (Int.emod_lt_of_pos _ hb0)
    · rw [decide_eq_false hm]
      refine iteT ?_
      -- rest = int(deal[0].pop())
      refine pop_run A3 hm (Or.inl ⟨_, rfl, ?_⟩)
      have A4 := (A3.setQ (ms := ms.dropLast) (Nat.le_trans dropLast_len A3.sz)).slot2 (.int (ms.getLast hm))
      have s2 : (σ1.set 2 (some (.int (ms.getLast hm))))[2]? = some (some (.int (ms.getLast hm))) := List.getElem?_set_self (by rw [A3.len]; decide)
      -- deal[0].append(rest // bound)
      refine ix0_run A4.s0 A4.hp ⟨own_ty A4.hq, ⟨_, s2, _, A4.s1, _, b, rfl, rfl, wide_div (b := 64) hb0 (by omega) (by decide) (by decide), ?_⟩⟩
      have hlen : ms.dropLast.length + 1 ≤ 64 := by
        rw [List.length_dropLast]
        have := A3.sz
        have : 0 < ms.length := List.length_pos_iff.mpr hm
        omega
      refine ⟨q, _, .int (ms.getLast hm / b), rfl, rfl, A4.hq, sz6 (by rw [List.length_map]; omega), ?_⟩
      have A5 := A4.setQ (ms := ms.dropLast ++ [ms.getLast hm / b]) (by rw [List.length_append]; exact hlen)
      rw [show ms.dropLast.map V.int ++ [V.int (ms.getLast hm / b)] = (ms.dropLast ++ [ms.getLast hm / b]).map V.int by rw [List.map_append]; rfl]
      -- return rest % bound
      refine ⟨_, s2, _, A5.s1, _, b, rfl, rfl, hb0, ?_⟩
      exact ret A5 (Int.emod_nonneg _ (by omega)) (Int.emod_lt_of_pos _ hb0)
  -- the test of the loop
  refine ne_run A1.s0 A1.hp A1.hq fun r hr1 => ?_
  have A2 := A1.new (o := .lst []) rfl hd0 hr1
  by_cases hm : ms = []
  · rw [decide_eq_true hm]
    exact iteF (iteF (rest A2))
  · rw [decide_eq_false hm]
    refine iteT ?_
    refine ix0_run A2.s0 A2.hp ⟨1, rfl, Or.inl ⟨q, _, -1, .int (ms.getLast hm), rfl, rfl, SqL.of A2.hq, ?_, ?_⟩⟩
    · exact atI_neg1 (by rw [List.getLast?_map, List.getLast?_eq_getLast hm]; rfl)
    · refine Or.inl ⟨rfl, _, rfl, ?_⟩
      by_cases hz : V.int (ms.getLast hm) = .int 0
      · rw [decide_eq_true hz]
        refine iteT ⟨_, fun σ' H' h => h, ?_⟩
        refine pop_run A2 hm ?_
        refine ⟨ms.dropLast.length, ?_, ms.dropLast, d, A2.setQ (Nat.le_trans dropLast_len A2.sz), rfl⟩
        rw [List.length_dropLast]
        have : 0 < ms.length := List.length_pos_iff.mpr hm
        omega
      · rw [decide_eq_false hz]
        exact iteF (rest A2)
end
end Ly

/-! LyM: what _law_draw, _law_of, _law_mixed give. -/
namespace Ly
open PySem PySem.Spec PyProof.Rows L2

section
variable {C : Cn} {Γ : List Sl} {tl th : TO} {lo hi : Option Int} {i : Nat} {ns : List Int}
theorem ints_dq {K : PySem.W.Frag} {H : Hp} : ∀ ns : List Int, DqAll K H (ns.map V.int) (ns.map PyData.int)
  | [] => .nil
  | n :: ns => .cons (.int n) (ints_dq ns)
theorem cut_map {α β : Type} (f : α → β) (xs : List α) : cut (xs.map f) lo hi = (cut xs lo hi).map f := by
  unfold cut
  rw [List.length_map, List.map_take, List.map_drop]
theorem cut_sub {α : Type} (xs : List α) : ∀ x ∈ cut xs lo hi, x ∈ xs := fun x h => List.mem_of_mem_drop (List.mem_of_mem_take h)
theorem cut_len {α : Type} (xs : List α) : (cut xs lo hi).length ≤ xs.length := by
  unfold cut
  rw [List.length_take, List.length_drop]
  omega
/-- a slice of a list that is read alone -/
theorem vl_slRd (h : Γ[i]? = some (.rd (ns.map V.int))) (h1 : VO C tl Γ (Is lo)) (h2 : VO C th Γ (Is hi)) : VL C (tSl (rSlany C.K) (tVar i) tl th) Γ (Is ((cut ns lo hi).map .int)) := fun B H σ F Q q => by
  obtain ⟨a, e, hs⟩ := F.slot i _ h
  refine ⟨.ref a, e, h1 B H σ F _ fun o B2 H2 e2 s2 => h2 B2 H2 σ (F.step s2) _ fun o' B3 H3 e3 s3 => ?_⟩
  cases e2
  cases e3
  have F3 := (F.step s2).step s3
  have st := s2.trans F.dlNow s3
  refine Or.inl ⟨a, _, rfl, same_l F3.sub (same_l st.ext hs), fun p hp => ?_⟩
  refine q _ p ((cut ns lo hi).map V.int) B3 _ rfl (st.trans F.dlNow (Stp.newM F3.sub hp)) (back_none F st hp) (F3.sub.free hp) ?_ (ints_dq _)
  rw [upd_same]
  show some (HO.lst (cutV (ns.map V.int) lo hi)) = _
  rw [show cutV (ns.map V.int) lo hi = cut (ns.map V.int) lo hi from rfl, cut_map]
end

def t_draw (K : PySem.W.Frag) : TS :=
  tSeq (tAsg (tLc (iAny K (tSl (rSlany K) (tVar 0) tNoPart (tPart (tC (.int 48))))) (gName 3) tYes (tCB rAbs (tCons (tCB rInt1 (tCons (tVar 3) tNil)) tNil)) [3]) (gName 2))
  (tSeq (tAsg (tOp (rAddA K) (tC (.int 7919)) (tOp rMul (tC (.int 104729)) (tVar 1))) (gName 4))
  (tSeq (tFor (iAny K (tVar 2)) (gName 3) (tAsg (tOp rMod (tCB rInt1 (tCons (tOp (rAddA K) (tOp (rAddA K) (tOp rMul (tVar 4) (tC (.int 48271))) (tOp rMod (tVar 3) (tC (.int 2147483549)))) (tC (.int 11))) tNil)) (tC (.int 2147483647))) (gName 4)))
  (tRet (tLst (tCons (tRevL K (tLc (iAny K (tVar 2)) (gName 3) (tTest (tOp (rI0 fun i j => .bl (decide (j ≤ i))) (tVar 3) (tOp (rI CPow fun i j => .int (i ^ j.toNat)) (tC (.int 10)) (tC (.int 18))))) (tVar 3) [3])) (tCons (tVar 4) tNil))))))
/-- what its names hold behind the first statements -/
def DrawAt (ns : List Int) (salt : Int) (Γ : List Sl) : Prop := ∃ (cs : List Int) (c : Int) (s3 : Sl), Γ = [.rd (ns.map V.int), .dat (.int salt), .dat (.list (cs.map .int)), s3, .dat (.int c)] ∧ cs.length ≤ 63 ∧ 0 ≤ c ∧ c < 2147483648 ∧ (s3 = .no ∨ ∃ d, s3 = .dat d)

section
variable {P0 : Program} {w : World} {K : PySem.W.Frag} {mg : Str → Option Value} {base : Heap} {k : Nat} {f : Addr} {fd : FuncData} {x qual : Str} {st : Stmt}
theorem len_of {α : Type} {xs : List α} {n : Nat} (h : xs.length ≤ n) {m : Nat} (hm : n ≤ m := by decide) : xs.length ≤ m := Nat.le_trans h hm
theorem ret_two {tr te : TE} {E : Ends} {σ : L2.St} {H : Hp} (h : tr σ H fun v H1 => te σ H1 fun w H2 => 2 ≤ sizeLine ∧ ∀ p, H2 p = none → E.rt (.ref p) (upd H2 p (.lst [v, w]))) : tRet (tLst (tCons tr (tCons te tNil))) E σ H := h
theorem vs_draw {B H : Hp} {ns : List Int} {salt : Int} (h0 : 0 ≤ salt) (h1 : salt ≤ 1000) (hn : ns.length ≤ 63) (E : Ends) (σ : L2.St) (F : Fm ⟨K, B, H, none⟩ B H σ [.rd (ns.map V.int), .dat (.int salt), .no, .no, .no])
    (q : ∀ p q B' H', Stp none B H B' H' → H p = none → H q = none → B' p = none → B' q = none → DealAt H' p q → E.rt (.ref p) H') : t_draw K E σ H := by
  -- cells
  have hc : VL ⟨K, B, H, none⟩ (tLc (iAny K (tSl (rSlany K) (tVar 0) tNoPart (tPart (tC (.int 48))))) (gName 3) tYes (tCB rAbs (tCons (tCB rInt1 (tCons (tVar 3) tNil)) tNil)) [3]) [.rd (ns.map V.int), .dat (.int salt), .no, .no, .no]
      (fun es => ∃ cs : List Int, es = cs.map .int ∧ cs.length ≤ 63) := by
    refine vl_lc (va_listD (vl_slRd (i := 0) (ns := ns) (lo := none) (hi := some 48) rfl vo_none (vo_someD ve_int)).ed) fun ds e => ?_
    cases e
    have hl : ((cut ns none (some 48)).map PyData.int).length ≤ 63 := by
      rw [List.length_map]
      exact Nat.le_trans (cut_len ns) hn
    refine ⟨len_of hl, fun i acc => ∃ cs : List Int, acc = cs.map .int ∧ cs.length ≤ i, ⟨[], rfl, Nat.le_refl _⟩, fun i d acc hd ⟨cs, e, hi⟩ => ?_, fun acc ⟨cs, e, hi⟩ => ⟨cs, e, Nat.le_trans hi hl⟩⟩
    rw [List.getElem?_map] at hd
    obtain ⟨m, _, rfl⟩ := Option.map_eq_some_iff.mp hd
    refine ⟨_, _, vg_name, fun j hj => hj, Is true, vt_yes, fun _ => ?_, fun e => by cases e⟩
    refine (ve_abs (ve_int1 (i := m) (ve_var rfl))).imp fun y ey => ?_
    subst ey e
    exact ⟨cs ++ [if m < 0 then -m else m], by rw [List.map_append]; rfl, by rw [List.length_append]; exact Nat.succ_le_succ hi⟩
  refine vs_asg (P := ⟨fun Γ => ∃ cs : List Int, Γ = [.rd (ns.map V.int), .dat (.int salt), .dat (.list (cs.map .int)), .no, .no] ∧ cs.length ≤ 63, fun _ => False, fun _ => False, fun _ => False⟩) hc.e
    (fun d ⟨es, e, cs, e2, hl⟩ => ⟨cs, by subst e e2; rfl, hl⟩) B H σ _ F (fun Γ1 B1 H1 σ1 ⟨cs, e, hl⟩ sB1 F1 => ?_) (fun _ _ _ _ e => e.elim) (fun _ _ _ _ e => e.elim) (fun _ _ _ _ e => e.elim)
  subst e
  -- blend
  refine vs_asg (P := ⟨DrawAt ns salt, fun _ => False, fun _ => False, fun _ => False⟩) (ve_opD ve_int.v (ve_opD ve_int.v (ve_var rfl).v (od_mul (wide_mul (a := 20) (b := 20) (by decide) (by omega) (by decide) (by decide) (by decide)))).v od_add)
    (fun d e => ⟨cs, 7919 + 104729 * salt, .no, by cases e; rfl, hl, by omega, by omega, Or.inl rfl⟩) B1 H1 σ1 _ F1 (fun Γ2 B2 H2 σ2 hd2 sB2 F2 => ?_) (fun _ _ _ _ e => e.elim) (fun _ _ _ _ e => e.elim) (fun _ _ _ _ e => e.elim)
  obtain ⟨cs2, c2, s3, e, hl2, hc0, hc1, hs3⟩ := hd2
  subst e
  -- the loop
  refine vs_for (P := ⟨DrawAt ns salt, fun _ => False, fun _ => False, fun _ => False⟩) (va_listD (ve_var rfl)) (fun ds e => ?_) B2 H2 σ2 _ F2 (fun Γ3 B3 H3 σ3 hd3 sB3 F3 => ?_) (fun _ _ _ _ e => e.elim) (fun _ _ _ _ e => e.elim) (fun _ _ _ _ e => e.elim)
  · cases e
    refine ⟨fun _ Γ => ∃ (c : Int) (s3 : Sl), Γ = [.rd (ns.map V.int), .dat (.int salt), .dat (.list (cs2.map .int)), s3, .dat (.int c)] ∧ 0 ≤ c ∧ c < 2147483648 ∧ (s3 = .no ∨ ∃ d, s3 = .dat d), ⟨c2, s3, rfl, hc0, hc1, hs3⟩, fun i d Γ' hd ⟨c, s3, e, h0, h1, _⟩ => ?_, fun Γ' ⟨c, s3, e, h0, h1, h2⟩ => ⟨cs2, c, s3, e, hl2, h0, h1, h2⟩⟩
    subst e
    rw [List.getElem?_map] at hd
    obtain ⟨m, _, rfl⟩ := Option.map_eq_some_iff.mp hd
    refine ⟨_, _, vg_name, vs_asg (ve_opD (ve_int1 (ve_opD (ve_opD (ve_opD (ve_var rfl).v ve_int.v (od_mul (wide_mul (a := 32) (b := 32) (by omega) (by decide) (by decide) (by decide) (by decide)))).v (ve_opD (ve_var rfl).v ve_int.v (od_mod (by decide))).v od_add).v ve_int.v od_add)).v ve_int.v (od_mod (by decide))) fun d e => ?_⟩
    cases e
    refine ⟨_, _, rfl, Int.emod_nonneg _ (by decide), ?_, Or.inr ⟨_, rfl⟩⟩
    have := Int.emod_lt_of_pos (c * 48271 + m % 2147483549 + 11) (show (0 : Int) < 2147483647 by decide)
    omega
  -- the end
  obtain ⟨cs3, c3, s3', e, hl3, hc0', hc1', _⟩ := hd3
  subst e
  have hr : VL ⟨K, B, H, none⟩ (tRevL K (tLc (iAny K (tVar 2)) (gName 3) (tTest (tOp (rI0 fun i j => .bl (decide (j ≤ i))) (tVar 3) (tOp (rI CPow fun i j => .int (i ^ j.toNat)) (tC (.int 10)) (tC (.int 18))))) (tVar 3) [3]))
      [.rd (ns.map V.int), .dat (.int salt), .dat (.list (cs3.map .int)), s3', .dat (.int c3)] (fun es => ∃ cs : List Int, es = cs.map .int ∧ cs.length ≤ 64) := by
    refine (vl_rev (S := fun es => ∃ cs : List Int, es = cs.map .int ∧ cs.length ≤ 64) (VL.v ?_)).imp fun es ⟨ds, ⟨cs, e1, e2⟩, e3⟩ => ⟨cs.reverse, by rw [e3, e1, List.map_reverse], by rw [List.length_reverse]; exact e2⟩
    refine vl_lc (va_listD (ve_var rfl)) fun ds e => ?_
    cases e
    have hl : (cs3.map PyData.int).length ≤ 63 := by
      rw [List.length_map]
      exact hl3
    refine ⟨len_of hl, fun i acc => ∃ cs : List Int, acc = cs.map .int ∧ cs.length ≤ i, ⟨[], rfl, Nat.le_refl _⟩, fun i d acc hd ⟨cs, e, hi⟩ => ?_, fun acc ⟨cs, e, hi⟩ => ⟨cs, e, by omega⟩⟩
    rw [List.getElem?_map] at hd
    obtain ⟨m, _, rfl⟩ := Option.map_eq_some_iff.mp hd
    refine ⟨_, _, vg_name, fun j hj => hj, fun _ => True, (vt_testD (ve_opD (ve_var rfl).v (ve_opD ve_int.v ve_int.v (od_pow ⟨by decide, by decide, by decide⟩)).v od_ge)).imp fun _ _ => trivial, fun _ => ?_, fun _ => ⟨cs, e, Nat.le_succ_of_le hi⟩⟩
    refine (ve_var (i := 3) (d := .int m) rfl).imp fun y ey => ?_
    subst ey e
    exact ⟨cs ++ [m], by rw [List.map_append]; rfl, by rw [List.length_append]; exact Nat.succ_le_succ hi⟩
  refine ret_two (hr B3 H3 σ3 F3 _ fun es r vs B4 H4 ⟨cs, e, hcs⟩ s4 g1 g2 g3 g4 => ?_)
  subst e
  obtain ⟨v, hv, kv⟩ := F3.slot 4 _ rfl
  obtain rfl := dp_int kv
  refine ⟨.int c3, hv, by show 2 ≤ sizeLine; decide, fun p hp => ?_⟩
  have F4 := F3.step s4
  have st : Stp none B H B4 (upd H4 p (.lst [.ref r, .int c3])) := F4.st.trans (fun p q e => by cases e) (Stp.newM F4.sub hp)
  have nr : r ≠ p := fun z => by
    subst z
    rw [g3] at hp
    cases hp
  refine q p r B4 _ st (F4.newC hp) (F3.newC g1) (F4.sub.free hp) g2 ⟨nr.symm, cs, c3, upd_same, ?_, hcs, hc0', hc1'⟩
  rw [upd_ne nr, g3, dpall_ints g4]
theorem draw_ok {N : List Str} (F : Fun K x qual st f fd) (S : FnScope N ["script", "salt"] (defScope st)) (hN : N.length = 5)
    (body : ∀ (cdv : Value) (A : Around) (outer : List Env) (s : Shared) (H : Hp) (E : XK), (cxOf CX0 P0 w K mg base N qual (defScope st) f cdv A outer s H E).A.guards = some [] → Room k (cxOf CX0 P0 w K mg base N qual (defScope st) f cdv A outer s H E).A →
      PSs (cxOf CX0 P0 w K mg base N qual (defScope st) f cdv A outer s H E).nox (defBody st) (t_draw K)) : GOk P0 w K mg base CX0 (k + 1) f fd ["script", "salt"] (Dr K) := by
  refine gok_of F S (fun {vs H Q E} ⟨_, a, ns, salt, e, _⟩ => by rw [e]; rfl) fun cdv A outer s H vs Q E hg hr ⟨B, a, ns, salt, e, hs, hS, h0, h1, hn, hq⟩ => ?_
  subst e
  refine ⟨_, (body cdv A outer s H E hg hr).nox, vs_draw h0 h1 hn _ _ ?_ hq⟩
  refine ⟨Stp.refl hs, (fun p q e => nomatch e), ?_, fun i sl h => ?_, fun i j p ds es h => ?_⟩
  · rw [start_len (by rw [hN]; exact (by decide : 2 ≤ 5)), hN]
    rfl
  · match i, h with
    | 0, h => cases h; exact ⟨a, rfl, hS⟩
    | 1, h => cases h; exact ⟨_, rfl, .int _⟩
    | 2, h => cases h; trivial
    | 3, h => cases h; trivial
    | 4, h => cases h; trivial
    | n + 5, h => cases h
  · exfalso
    match i, h with
    | 0, h => cases h
    | 1, h => cases h
    | 2, h => cases h
    | 3, h => cases h
    | 4, h => cases h
    | n + 5, h => cases h
end

/-! ### one of some things -/
abbrev tAny (K : PySem.W.Frag) (e : TE) : TE := tCallK (De K P_any R_any) (fun vs _ => vs) E0 (tCons (tVar 0) (tCons e tNil)) tNil
section
variable {C : Cn} {Γ : List Sl} {te : TE} {n : Int}
theorem ve_any (h0 : Γ[0]? = some .deal) (h : VE C te Γ (Is (.int n))) (hn : 0 < n) (hm : n < 1000000000000) : VE C (tAny C.K te) Γ (fun d => ∃ r, d = .int r ∧ 0 ≤ r ∧ r < n) :=
  (ve_deD h0 (va_consD h va_nil) ⟨n, rfl, hn, hm⟩).imp fun d r => r n rfl
end
def t_of (K : PySem.W.Frag) : TS := tRet (tOp (rIx K) (tVar 1) (tAny K (tCB (rLen K) (tCons (tVar 1) tNil))))
theorem vs_of {C : Cn} {ds : List D} (hP : P_of ds) : VS C (t_of C.K) (.deal :: slots ds 0) { nx := fun _ => R_of ds .none, rt := R_of ds } := by
  obtain ⟨xs, e, hne, hl⟩ := hP
  have hp : 0 < xs.length := List.length_pos_iff.mpr hne
  rcases e with rfl | rfl
  · refine vs_ret (ve_op (Ra := Is (.list xs)) (ve_var rfl).v (ve_any rfl (ve_lenL (ve_var rfl).v) (by omega) (by omega)).v fun x y ex ⟨r, ey, h0, h1⟩ => ?_)
    subst ex ey
    obtain ⟨m, rfl⟩ := Int.eq_ofNat_of_zero_le h0
    have hm : m < xs.length := by omega
    intro B H v u e k1 k2 Q q
    refine od_ixL (z := xs[m]) (atI_pos (List.getElem?_eq_getElem hm)) B H v u e k1 k2 Q fun d w B' H' ed s k => q d w B' H' (fun ys ey => ?_) s k
    subst ed
    rcases ey with ey | ey
    · cases ey
      exact List.getElem_mem hm
    · cases ey
  · refine vs_ret (ve_op (Ra := Is (.tuple xs)) (ve_var rfl).v (ve_any rfl (ve_lenT (ve_var rfl)) (by omega) (by omega)).v fun x y ex ⟨r, ey, h0, h1⟩ => ?_)
    subst ex ey
    obtain ⟨m, rfl⟩ := Int.eq_ofNat_of_zero_le h0
    have hm : m < xs.length := by omega
    intro B H v u e k1 k2 Q q
    refine od_ixT (z := xs[m]) (atI_pos (List.getElem?_eq_getElem hm)) B H v u e k1 k2 Q fun d w B' H' ed s k => q d w B' H' (fun ys ey => ?_) s k
    subst ed
    rcases ey with ey | ey
    · cases ey
    · cases ey
      exact List.getElem_mem hm
end Ly
namespace Ly
open PySem PySem.Spec PyProof.Rows L2
/-! slices by numbers -/
section
variable {α : Type} (xs : List α)
theorem cut_nat (a b : Nat) (h : a ≤ b) : cut xs (some (a : Int)) (some (b : Int)) = (xs.drop a).take (b - a) := by
  unfold cut
  rw [HT.sIx_nat, HT.sIx_nat]
  by_cases ha : a ≤ xs.length
  · rw [Nat.min_eq_left ha]
    by_cases hb : b ≤ xs.length
    · rw [Nat.min_eq_left hb]
    · rw [Nat.min_eq_right (by omega)]
      rw [List.take_of_length_le (by rw [List.length_drop]; omega), List.take_of_length_le (by rw [List.length_drop]; omega)]
  · rw [show min a xs.length = xs.length by omega, List.drop_length, List.drop_eq_nil_of_le (show xs.length ≤ a by omega)]
    simp
theorem cut_to (b : Nat) : cut xs none (some (b : Int)) = xs.take b := by
  unfold cut
  rw [HT.sIx_none, HT.sIx_nat, List.drop_zero, Nat.sub_zero]
  by_cases hb : b ≤ xs.length
  · rw [Nat.min_eq_left hb]
  · rw [show min b xs.length = xs.length by omega, List.take_of_length_le (Nat.le_refl _), List.take_of_length_le (show xs.length ≤ b by omega)]
theorem cut_from (a : Nat) : cut xs (some (a : Int)) none = xs.drop a := by
  unfold cut
  rw [HT.sIx_nat, HT.sIx_none]
  by_cases ha : a ≤ xs.length
  · rw [Nat.min_eq_left ha, List.take_of_length_le (by rw [List.length_drop]; omega)]
  · rw [show min a xs.length = xs.length by omega, List.drop_length, List.drop_eq_nil_of_le (show xs.length ≤ a by omega)]
    simp
end
end Ly

/-! LyN: the law's first statement (a source of draws is made), displays of literals, small data (Sm), joins. -/
namespace Ly
open PySem PySem.Spec PyProof.Rows L2

/-! ### small data -/
structure Sm (d : D) (k n : Nat) : Prop where
  ly : d.canLay0 = true
  sh : d.showable = true
  lv : d.leavesShort 13 = true
  dp : d.depth ≤ k
  wt : d.weight ≤ n
structure SmA (ds : List D) (k n : Nat) : Prop where
  ly : PyData.canLayAll0 ds = true
  sh : PyData.showableAll ds = true
  lv : PyData.leavesShortAll 13 ds = true
  dp : PyData.depthAll ds ≤ k
  wt : PyData.weightAll ds ≤ n
section
variable {d x y : D} {ds : List D} {k k' n n' m : Nat}
theorem Sm.mono (h : Sm d k n) (hk : k ≤ k' := by omega) (hn : n ≤ n' := by omega) : Sm d k' n' := ⟨h.ly, h.sh, h.lv, Nat.le_trans h.dp hk, Nat.le_trans h.wt hn⟩
theorem SmA.nil : SmA [] k n := ⟨rfl, rfl, rfl, Nat.zero_le _, Nat.zero_le _⟩
theorem SmA.cons (h : Sm d k n) (t : SmA ds k m) : SmA (d :: ds) k (n + 1 + m) := by
  refine ⟨?_, ?_, ?_, ?_, ?_⟩
  · rw [PyData.canLayAll0, h.ly, t.ly]; rfl
  · rw [PyData.showableAll, h.sh, t.sh]; rfl
  · rw [PyData.leavesShortAll, h.lv, t.lv]; rfl
  · rw [PyData.depthAll]; exact Nat.max_le.mpr ⟨h.dp, t.dp⟩
  · rw [PyData.weightAll]
    have := h.wt
    have := t.wt
    omega
theorem SmA.of : ∀ {ds : List D}, (∀ d ∈ ds, Sm d k n) → SmA ds k (ds.length * (n + 1))
  | [], _ => .nil
  | d :: ds, h => by
    have e : (d :: ds).length * (n + 1) = n + 1 + ds.length * (n + 1) := by rw [List.length_cons, Nat.succ_mul]; omega
    rw [e]
    exact SmA.cons (h d (List.mem_cons_self ..)) (SmA.of fun x hx => h x (List.mem_cons_of_mem _ hx))
theorem SmA.monoW (h : SmA ds k n) (hn : n ≤ n') : SmA ds k n' := ⟨h.ly, h.sh, h.lv, h.dp, Nat.le_trans h.wt hn⟩
theorem Sm.list (h : SmA ds k n) : Sm (.list ds) (k + 1) n := ⟨h.ly, h.sh, h.lv, Nat.succ_le_succ h.dp, h.wt⟩
theorem Sm.tup (h : SmA ds k n) : Sm (.tuple ds) (k + 1) n := ⟨h.ly, h.sh, h.lv, Nat.succ_le_succ h.dp, h.wt⟩
theorem sm_non : Sm .none k n := ⟨rfl, rfl, rfl, Nat.zero_le _, Nat.zero_le _⟩
theorem sm_bool {b : Bool} : Sm (.bool b) k n := ⟨rfl, rfl, rfl, Nat.zero_le _, Nat.zero_le _⟩
theorem sm_int {i : Int} (h : i.natAbs < 10 ^ 12) : Sm (.int i) k 41 := by
  have hl : i.natAbs.log2 < 40 := by
    by_cases h0 : i.natAbs = 0
    · rw [h0]; decide
    · rw [Nat.log2_lt h0]
      exact Nat.lt_of_lt_of_le h (by decide)
  refine ⟨rfl, ?_, ?_, Nat.zero_le _, ?_⟩
  · rw [PyData.showable]
    exact decide_eq_true (by omega)
  · rw [PyData.leavesShort]
    refine decide_eq_true ?_
    rw [PyData.shown]
    have := int_text_length_le10 (a := i) (k := 12) (by decide) h
    refine Nat.le_trans (Nat.le_of_eq ?_) this
    exact PySem.ofString_length _
  · rw [PyData.weight]
    split <;> omega
theorem sm_str {s : Str} (h : ∀ c ∈ s.cps.toList, c < 0x110000) (hn : s.length ≤ n) : Sm (.str s) k n := by
  refine ⟨?_, rfl, ?_, Nat.zero_le _, hn⟩
  · rw [PyData.canLay0]
    unfold PyData.strOk
    rw [Array.all_eq_true]
    intro i hi
    exact decide_eq_true (h _ (Array.getElem_mem_toList hi))
  · rw [PyData.leavesShort, List.all_eq_true]
    intro c hc
    exact decide_eq_true (Nat.lt_of_lt_of_le (h c hc) (by decide))
theorem Sm.shaped (h : Sm d k n) (hk : k ≤ 64 := by decide) : SeqAt.shaped d = true := by
  unfold SeqAt.shaped
  rw [h.ly, Bool.true_and]
  exact decide_eq_true (Nat.le_trans h.dp hk)
theorem Sm.eqv (h : Sm d k n) : PyData.eqv d d = true := SeqAt.eqv_refl d h.ly
end
section
variable {C : Cn} {te ta tb tc : TE} {Γ : List Sl} {d x y z : D} {k k' n n' : Nat}
theorem ve_reprS (h : VV C te Γ (Is d)) (s : Sm d k n) (hk : k ≤ 64 := by decide) (hn : n ≤ 1048576 := by omega) : VE C (tCB (rRepr C.K) (tCons te tNil)) Γ (Is (.str d.shown)) :=
  ve_repr h s.sh (PyData.hasDict_of_canLay d s.ly) (Nat.le_trans s.dp (by omega)) (PyData.shown_fits (B := 13) (by decide) (by decide) s.lv (Nat.le_trans s.wt hn))
theorem od_neD (hx : SeqAt.shaped x = true) (hy : SeqAt.shaped y = true) {b : Bool} (e : PyData.eqv x y = b) : OD C (rNeA C.K) x y (Is (.bool (!b))) := e ▸ od_ne hx hy
theorem od_neSame (h : Sm x k n) (e : x = y) (hk : k ≤ 64 := by decide) : OD C (rNeA C.K) x y (Is (.bool false)) := e ▸ od_neD (h.shaped hk) (h.shaped hk) h.eqv
theorem od_eqSame (h : Sm x k n) (e : x = y) (hk : k ≤ 64 := by decide) : OD C (rEqA C.K) x y (Is (.bool true)) := by
  subst e
  have := od_eq (C := C) (h.shaped hk) (h.shaped hk)
  rw [h.eqv] at this
  exact this
theorem od_neSSame {s t : Str} (e : s = t) : OD C (rNeA C.K) (.str s) (.str t) (Is (.bool false)) := by
  have := od_neS (C := C) (s := s) (t := t)
  rw [decide_eq_true e] at this
  exact this
theorem ve_chainD {r r' : R2} {b c : Bool} (ha : VE C ta Γ (Is x)) (hb : VE C tb Γ (Is y)) (ho : OD C r x y (Is (.bool b))) (hc : VV C tc Γ (Is z)) (ho2 : OD C r' y z (Is (.bool c))) : VE C (tChain r r' ta tb tc) Γ (Is (.bool (b && c))) :=
  ve_chain ha hb ho (fun e => by rw [e]; rfl) fun e => by
    subst e
    intro B H σ F Q q
    refine hc B H σ F Q fun d v B' H' ed s k => q d v B' H' ?_ s k
    cases ed
    exact ho2
/-! displays of literals -/
theorem va_strs : ∀ ss : List Str, VA C (ss.foldr (fun s A => tCons (tC (.str s)) A) tNil) Γ (Is (ss.map .str))
  | [] => va_nil
  | s :: ss => va_consD ve_str (va_strs ss)
theorem va_ints : ∀ ss : List Int, VA C (ss.foldr (fun s A => tCons (tC (.int s)) A) tNil) Γ (Is (ss.map .int))
  | [] => va_nil
  | s :: ss => va_consD ve_int (va_ints ss)
theorem ve_lstS (ss : List Str) (h : ss.length ≤ 1000 := by decide) : VE C (tLst (ss.foldr (fun s A => tCons (tC (.str s)) A) tNil)) Γ (Is (.list (ss.map .str))) := (vl_lstD (va_strs ss) (by rw [List.length_map]; omega)).ed
theorem ve_tupS (ss : List Str) (h : ss.length ≤ 1000 := by decide) : VE C (tTup (ss.foldr (fun s A => tCons (tC (.str s)) A) tNil)) Γ (Is (.tuple (ss.map .str))) := ve_tupD (va_strs ss) (by rw [List.length_map]; omega)
end

section
variable {C : Cn} {te ta : TE} {Γ : List Sl} {s : Str}
/-- a join of strings of which only something is known -/
theorem ve_joinLR {S : List Str → Prop} (h : VE C ta Γ (Is (.str s))) (h2 : VV C te Γ (fun d => ∃ es, d = .list es ∧ ∃ ys : List Str, es = ys.map .str ∧ S ys)) (hz : ∀ ys, S ys → (ys.map (·.length)).sum + ys.length * s.length ≤ 16777216) :
    VE C (tM1 (rJoin C.K) ta te) Γ (fun d => ∃ ys, S ys ∧ d = .str (Txt.join s ys)) := fun B H σ F Q q =>
  h B H σ F _ fun d v B1 H1 ed s1 k1 => by
    cases ed
    obtain rfl := dp_str k1
    refine ⟨⟨s, rfl⟩, h2 B1 H1 σ (F.step s1) _ fun d v B2 H2 ⟨es, ed, ys, ee, hy⟩ s2 k2 => ?_⟩
    subst ed ee
    obtain ⟨a, xs, rfl, g1, g2⟩ := k2.lst ((F.step s1).step s2).sub
    rw [dpall_strs g2] at g1
    exact ⟨s, a, ys, rfl, rfl, Or.inl g1, hz ys hy, q _ _ B2 H2 ⟨ys, hy, rfl⟩ (s1.trans F.dlNow s2) (.str _)⟩
theorem sum_len : ∀ (ys : List Str) (n : Nat), (∀ s ∈ ys, s.length ≤ n) → (ys.map (·.length)).sum ≤ n * ys.length
  | [], n, _ => Nat.le_refl _
  | y :: ys, n, h => by
    have h1 := h y (List.mem_cons_self ..)
    have h2 := sum_len ys n fun s hs => h s (List.mem_cons_of_mem _ hs)
    rw [List.map_cons, List.sum_cons, List.length_cons, Nat.mul_succ]
    omega
end
section
variable {C : Cn} {te : TE} {Γ : List Sl} {i : Int}
theorem ve_neg (h : VE C te Γ (Is (.int i))) : VE C (tUn (rU fun i => .int (-i)) te) Γ (Is (.int (-i))) := ve_un (Ra := Is (.int i)) h.v fun x ex B H v e k Q q => by
  subst ex
  obtain rfl := k.int
  exact ⟨i, rfl, q _ _ B H rfl (Stp.refl e) (.int _)⟩
end
section
variable {C : Cn} {A A' : TA} {Γ : List Sl} {ds es : List D} {P : List D → Prop} {R' : List D → D → Prop} {E : XK} {gV : List V → List V → List V} {te : TE} {i : Nat} {n : Int}
/-- with names -/
theorem ve_kwD {gD : List D → List D → List D} (hg : ∀ {H : Hp} {vs zs : List V} {us ws : List D}, DqAll C.K H vs us → DqAll C.K H zs ws → DqAll C.K H (gV vs zs) (gD us ws)) (h : VA C A Γ (Is ds)) (h' : VA C A' Γ (Is es)) (hP : P (gD ds es)) :
    VE C (tCallK (Pu C.K P R') gV E A A') Γ (R' (gD ds es)) := ve_pu gD h h' (fun B vs zs ds es h1 h2 => hg h1 h2) fun xs ys e1 e2 => by
  cases e1
  cases e2
  exact ⟨hP, fun _ r => r⟩
/-- a draw, wherever the source lies -/
theorem ve_anyI (h0 : Γ[i]? = some .deal) (h : VE C te Γ (Is (.int n))) (hn : 0 < n) (hm : n < 1000000000000) : VE C (tCallK (De C.K P_any R_any) (fun vs _ => vs) E (tCons (tVar i) (tCons te tNil)) tNil) Γ (fun d => ∃ r, d = .int r ∧ 0 ≤ r ∧ r < n) :=
  (ve_deD h0 (va_consD h va_nil) ⟨n, rfl, hn, hm⟩).imp fun d r => r n rfl
end
/-! ### the law's first statement -/
theorem vs_begin {K : PySem.W.Frag} {H : Hp} {ns : List Int} {n : Nat} {t : TS} {R : D → Prop} {s : Int} (hn : ns.length ≤ 63) (h0 : 0 ≤ s := by decide) (h1 : s ≤ 1000 := by decide)
    (k : ∀ B H p q, VS ⟨K, B, H, some (p, q)⟩ t (.rd (ns.map V.int) :: .deal :: List.replicate n .no) { nx := fun _ => False, rt := R }) :
    VS ⟨K, H, H, none⟩ (tSeq (tAsg (tCallK (Dr K) (fun vs _ => vs) E0 (tCons (tVar 0) (tCons (tC (.int s)) tNil)) tNil) (gName 1)) t) (.rd (ns.map V.int) :: .no :: List.replicate n .no) { nx := fun _ => False, rt := R } := fun B H1 σ E F n' r b c => by
  obtain ⟨a, ea, hS⟩ := F.slot 0 _ rfl
  refine ⟨.ref a, ea, B, a, ns, s, rfl, F.sub, hS, h0, h1, hn, fun p q B' H' st hp hq hBp hBq hd => ?_⟩
  refine k B' H' p q B' H' _ E ⟨Stp.refl st.sub, fun p' q' e => ?_, ?_, fun i sl h => ?_, fun i j x ds es h => ?_⟩ (fun _ _ _ _ e => e.elim) (fun d v B2 H2 rd s2 kd => ?_) (fun _ _ _ _ e => e.elim) fun _ _ _ _ e => e.elim
  · cases e
    exact ⟨hd, hBp, hBq⟩
  · rw [List.length_set]
    exact F.len
  · match i, h with
    | 0, h =>
      cases h
      refine ⟨a, ?_, same_l st.ext hS⟩
      rw [List.getElem?_set_ne (by decide)]
      exact ea
    | 1, h =>
      cases h
      refine ⟨p, q, rfl, ?_⟩
      rw [List.getElem?_set_self (by rw [F.len]; exact Nat.succ_lt_succ (Nat.succ_pos _))]
    | i + 2, h =>
      have h : (List.replicate n Sl.no)[i]? = some sl := h
      rw [List.getElem?_replicate] at h
      split at h
      · cases h
        trivial
      · cases h
  · exfalso
    match i, h with
    | 0, h => cases h
    | 1, h => cases h
    | i + 2, h =>
      have h : (List.replicate n Sl.no)[i]? = some (.own ds) := h
      rw [List.getElem?_replicate] at h
      split at h <;> cases h
  · refine r d v B2 H2 rd ?_ kd
    have keep : ∀ a o, H1 a = some o → H2 a = some o := fun a o e => s2.keep a o (st.keep a o e fun ⟨_, _, z, _⟩ => nomatch z) fun ⟨p', q', e1, e2⟩ => by
      cases e1
      rcases e2 with e2 | e2
      · subst e2
        rw [hp] at e
        cases e
      · subst e2
        rw [hq] at e
        cases e
    have s0 : Stp none B H1 B2 H2 := ⟨st.ext.trans s2.ext, s2.sub, fun a o e _ => keep a o e, fun a ha hb => s2.out a (st.there (fun _ _ e => nomatch e) ha) (st.out a ha hb), fun _ _ e => nomatch e⟩
    exact F.st.trans (fun _ _ e => nomatch e) s0
end Ly

/-! LyO: is of bools, sorted ints, tuple * int, xs.append(ys.pop(e)), _law_mixed. -/
namespace Ly
open PySem PySem.Spec PyProof.Rows L2

theorem dpall_erase {K : PySem.W.Frag} {H : Hp} : ∀ {vs : List V} {ds : List D} (n : Nat), DqAll K H vs ds → DqAll K H (vs.eraseIdx n) (ds.eraseIdx n)
  | _, _, _, .nil => .nil
  | _, _, 0, .cons _ h => h
  | _, _, n + 1, .cons h1 h2 => .cons h1 (dpall_erase n h2)
section
variable {C : Cn} {te ta : TE} {Γ : List Sl} {x y : D} {a b : Bool} {ds es : List D} {P : Po} {i j : Nat}
theorem od_isBl : OD C rIsB (.bool a) (.bool b) (Is (.bool (decide (a = b)))) := fun B H v u e k1 k2 Q q => by
  obtain rfl := k1.bl
  obtain rfl := k2.bl
  exact ⟨a, b, rfl, rfl, q _ _ B H rfl (Stp.refl e) (.bl _)⟩
theorem od_notBl : OD C rNotB (.bool a) (.bool b) (Is (.bool (!decide (a = b)))) := fun B H v u e k1 k2 Q q => by
  obtain rfl := k1.bl
  obtain rfl := k2.bl
  exact ⟨a, b, rfl, rfl, q _ _ B H rfl (Stp.refl e) (.bl _)⟩
/-- e is not True, e is not False: false where e is it -/
theorem vt_isnt (h : VE C te Γ (Is (.bool a))) : VT C (tTest (tOp rNotB te (tC (.bl a)))) Γ (Is false) := (vt_testD (ve_opD h.v ve_bl.v od_notBl)).to (by simp)
theorem vl_sortedI {ns : List Int} (h : VV C te Γ (Is (.list (ns.map .int)))) : VL C (tCB (rSortedI C.K) (tCons te tNil)) Γ (fun ds => ∃ ms : List Int, ds = ms.map .int ∧ ms.Perm ns ∧ ms.Pairwise (· ≤ ·)) := fun B H σ F Q q =>
  h B H σ F _ fun d v B1 H1 ed s1 k1 => by
    cases ed
    obtain ⟨a, xs, rfl, g1, g2⟩ := k1.lst (F.step s1).sub
    rw [dpall_ints g2] at g1
    refine ⟨a, ns, rfl, g1, fun ms p hp h1 h2 => ?_⟩
    exact q _ p _ B1 _ ⟨ms, rfl, hp, h1⟩ (s1.trans F.dlNow (Stp.newM (F.step s1).sub h2)) (back_none F s1 h2) ((F.step s1).sub.free h2) upd_same (dpall_map _ _ (fun i => .int i) ms)
end
theorem sorted_is {ms ns : List Int} (h1 : ms.Perm ns) (h2 : ms.Pairwise (· ≤ ·)) (h3 : ns.Pairwise (· ≤ ·)) : ms = ns :=
  h1.eq_of_pairwise (fun a b _ _ h k => Int.le_antisymm h k) h2 h3

/-! ### tuple * int -/
theorem tuple_mul1 (l : Addr) (items : Array Value) (n : Nat) (dd : Option Addr) (sl : Array (Option Value)) (u : Tok) :
    Meets (Builtin.«tuple.__mul__» ⟨[.ref l, .int 1 u], []⟩) (fun _ R s => s.heap.get? l = some { cls := .type "tuple", dict := dd, data := .seq items n, slots := sl } ∧ R (.ok (.ret (.ref l))) s) :=
  .of_wp fun prog w A R s h => by
    obtain ⟨hp, g, d, tk, os⟩ := s
    obtain ⟨hl, h⟩ := h
    have f1 := AutoSeq1.idx_int
    wp_walk using wpAny_loadPart' hl
    exact ⟨_, rfl, h⟩
def rRep1 (K : PySem.W.Frag) : R2 := fun x y H Q => ∃ l xs, x = .ref l ∧ y = .int 1 ∧ SqT K H l xs ∧ Q (.ref l) H
theorem op_rep1 {X : Cx} : OpR X (binaryOp .Mult) (rRep1 X.K) := by
  intro pins s σ H x y v u Q I rx ry h
  obtain ⟨l, xs, rfl, rfl, hT, q⟩ := h
  cases rx
  obtain ⟨t, rfl⟩ := ry
  obtain ⟨its, r, ⟨⟨cls, dd, data, sl⟩, ho, hc, n, hd⟩, hs⟩ := I.tuple hT
  simp only at hc hd
  subst hc hd
  refine wpAny_binaryOp_repeat_ref (T := "tuple") (U := "int") (by decide) ⟨_, ho, rfl⟩ (fun s' => typeIs_int s' 1 t) noFill_tuple_mul F.fills_int_mul F.slot_int_rmul repeat_tuple F.slot_int_index.lookup
    (call_meets F.slot_int_rmul (typeIs_int s 1 t) F.entry_int_rmul (F.args_int_rmul_2 _ _) (int_rmul_tuple 1 t l its.toArray n dd sl)
      ⟨ho, rfl, ⟨_, ho, rfl⟩, call_meets F.slot_tuple_mul ⟨_, ho, rfl⟩ F.entry_tuple_mul (F.args_tuple_mul_2 _ _) (tuple_mul1 l its.toArray n dd sl t) ⟨ho, ?_⟩⟩)
  exact ⟨.ref l, H, I, rfl, q⟩
def rMulT (K : PySem.W.Frag) : R2 := fun x y H Q => rRepT K x y H Q ∨ rRep1 K x y H Q
theorem oq_mulT {X : Cx} : OpR X (binaryOp .Mult) (rMulT X.K) := OpR.or op_repT op_rep1
theorem dpall_rep {K : PySem.W.Frag} {H : Hp} {vs : List V} {ds : List D} (h : DqAll K H vs ds) : ∀ n : Nat, DqAll K H (List.replicate n vs).flatten (List.replicate n ds).flatten
  | 0 => .nil
  | n + 1 => by
    rw [List.replicate_succ, List.replicate_succ, List.flatten_cons, List.flatten_cons]
    exact dpall_app h (dpall_rep h n)
section
variable {C : Cn} {te ta : TE} {Γ : List Sl} {x y : D} {a b : Bool} {ds es : List D} {P : Po} {i j : Nat}
theorem od_mulT {k : Int} (hne : ds ≠ []) (h1 : 1 ≤ k) (h2 : k ≤ 1000) (hl : ds.length ≤ 1000) : OD C (rMulT C.K) (.tuple ds) (.int k) (Is (.tuple (List.replicate k.toNat ds).flatten)) := fun B H v u e k1 k2 Q q => by
  obtain ⟨l, xs, rfl, g1, g2⟩ := k1.tup e
  obtain rfl := k2.int
  by_cases hk : k = 1
  · subst hk
    refine Or.inr ⟨l, xs, rfl, rfl, g1, ?_⟩
    have kd : Dq C.K B (.ref l) (.tuple ds) := by
      rcases k1 with k1 | ⟨_, _, _, _, z, _⟩
      · exact k1
      · cases z
    refine q _ _ B H ?_ (Stp.refl e) kd
    show _ = PyData.tuple (List.replicate 1 ds).flatten
    simp
  · refine Or.inl ⟨l, k, xs, rfl, rfl, g1, fun z => hne ?_, by omega, h2, by rw [dpall_len g2]; exact hl, fun p hp => ?_⟩
    · have := dpall_len g2
      rw [z] at this
      exact List.length_eq_zero_iff.mp this.symm
    · exact q _ _ (upd B p (.tup (List.replicate k.toNat xs).flatten)) _ rfl (Stp.new e hp) (.tup (Or.inl (Or.inl upd_same)) (dpall_mono (Stp.new (dl := C.dl) e hp).ext (dpall_rep g2 _)))
theorem vl_listRg {n : Int} (h : VE C te Γ (Is (.int n))) (h1 : -1000000 ≤ n) (h2 : n ≤ 1000000) : VL C (tLstRg (tRg1 te)) Γ (Is (Ly.upTo 0 n.toNat)) := fun B H σ F Q q => h B H σ F _ fun d v B1 H1 ed s1 k1 => by
  cases ed
  obtain rfl := dp_int k1
  refine ⟨n, rfl, ⟨by omega, by omega, by omega, by omega, by omega⟩, fun p hp => ?_⟩
  refine q _ p _ B1 _ rfl (s1.trans F.dlNow (Stp.newM (F.step s1).sub hp)) (back_none F s1 hp) ((F.step s1).sub.free hp) upd_same ?_
  unfold rgV Ly.upTo
  rw [Int.sub_zero]
  exact dpall_map _ _ (fun i => .int _) _
/-- xs.append(ys.pop(e)), both one's own -/
theorem vs_appPop (hi : Γ[i]? = some (.own ds)) (hj : Γ[j]? = some (.own es)) (hij : i ≠ j) (h : VE C te Γ (fun d => ∃ r, d = .int r ∧ 0 ≤ r ∧ r < es.length)) (hz : ds.length < 100000) (hz2 : es.length ≤ 100000)
    (k : ∀ (m : Nat) x, es[m]? = some x → P.nx ((Γ.set j (.own (es.eraseIdx m))).set i (.own (ds ++ [x])))) :
    VS C (tDrop (tBM C.K "list" rAppend (tVar i) (tCons (tBM C.K "list" rPopAt (tVar j) (tCons te tNil)) tNil))) Γ P := fun B H σ E F n r b c => by
  obtain ⟨p, vs, e, hC, hB, hp, hd⟩ := F.hasOwn hi
  obtain ⟨p2, us, e2, hC2, hB2, hp2, hd2⟩ := F.hasOwn hj
  have hpp : p2 ≠ p := fun z => hij (F.inj i j p ds es hi hj e (z ▸ e2))
  refine ⟨.ref p, e, own_ty hp, .ref p2, e2, own_ty hp2, h B H σ F _ fun d v B1 H1 ⟨m, ed, h0, h1⟩ s1 k1 => ?_⟩
  subst ed
  obtain rfl := dp_int k1
  obtain ⟨m, rfl⟩ := Int.eq_ofNat_of_zero_le h0
  have F1 := F.step s1
  have hp1 := s1.keep p _ hp (F.notMd hC)
  have hp21 := s1.keep p2 _ hp2 (F.notMd hC2)
  have hm : m < es.length := by omega
  have hd21 := dpall_mono s1.ext hd2
  obtain ⟨y, hy, ky⟩ := dpall_get hd21 (List.getElem?_eq_getElem hm)
  have hlu := dpall_len hd2
  have hix : ixN us.length (m : Int) = some m := by
    unfold ixN
    rw [if_pos (by omega), if_pos (by omega)]
    rfl
  refine ⟨p2, us, m, m, y, rfl, rfl, hp21, by omega, by omega, (ixN_seq hix).1, hy, ?_⟩
  have F2 : Fm C B1 (upd H1 p2 (.lst (us.eraseIdx m))) σ (Γ.set j (.own (es.eraseIdx m))) := F1.mutOwn hj e2 (dpall_erase m hd21)
  have hi2 : (Γ.set j (.own (es.eraseIdx m)))[i]? = some (.own ds) := by rw [List.getElem?_set_ne (Ne.symm hij)]; exact hi
  have hp2' : upd H1 p2 (.lst (us.eraseIdx m)) p = some (.lst vs) := by rw [upd_ne (Ne.symm hpp)]; exact hp1
  refine ⟨p, vs, y, rfl, rfl, hp2', sz6 (by rw [dpall_len hd]; exact hz), ?_⟩
  exact n _ B1 _ σ (k m _ (List.getElem?_eq_getElem hm)) s1.ext (F2.mutOwn hi2 e (dpall_app (dpall_mono s1.ext hd) (dpall_one ky)))
end
end Ly

/-! LyP: comprehensions of which only something is known, parts of small data, _law_mixed, the plain tests (is_integer .. is_row_of). -/
namespace Ly
open PySem PySem.Spec PyProof.Rows L2

inductive A2 {α β : Type} (R : α → β → Prop) : List α → List β → Prop where
  | nil : A2 R [] []
  | cons {a : α} {b : β} {as : List α} {bs : List β} (h : R a b) (t : A2 R as bs) : A2 R (a :: as) (b :: bs)
theorem A2.append {α β : Type} {R : α → β → Prop} : ∀ {a c : List α} {b d : List β}, A2 R a b → A2 R c d → A2 R (a ++ c) (b ++ d)
  | _, _, _, _, .nil, h => h
  | _, _, _, _, .cons h1 h2, h => .cons h1 (A2.append h2 h)
section
variable {C : Cn} {wi : TI} {g : TG} {tt : TT} {te : TE} {vs : List Nat} {Γ : List Sl}
/-- each result with its source -/
theorem vl_mapR {ds : List D} (R : D → D → Prop) (h : VI C wi Γ (Is ds)) (hz : ds.length ≤ 100000) (k : ∀ d ∈ ds, ∃ Γ1 js, VG C g d (wipeS Γ vs) Γ1 js ∧ (∀ j ∈ js, j ∈ vs) ∧ VE C te Γ1 (R d)) :
    VL C (tLc wi g tYes te vs) Γ (fun es => A2 R ds es) := vl_lc h fun xs e => by
  cases e
  refine ⟨hz, fun i acc => A2 R (ds.take i) acc, .nil, fun i d acc hd iv => ?_, fun acc iv => by
    have iv : A2 R (ds.take ds.length) acc := iv
    rw [List.take_length] at iv
    exact iv⟩
  obtain ⟨Γ1, js, hg, hjs, he⟩ := k d (List.mem_of_getElem? hd)
  refine ⟨Γ1, js, hg, hjs, Is true, fun B H σ F Q q => q true B H rfl (Stp.refl F.sub), fun _ => he.imp fun y ey => ?_, fun e => by cases e⟩
  show A2 R (ds.take (i + 1)) (acc ++ [y])
  rw [List.take_add_one, hd]
  exact A2.append iv (.cons ey .nil)
/-- all results are of a kind -/
theorem vl_lcA {S : List D → Prop} {n : Nat} {T : Bool → Prop} (R : D → Prop) (h : VI C wi Γ S) (hz : ∀ ds, S ds → ds.length ≤ n) (hn : n ≤ 100000) (k : ∀ ds, S ds → ∀ d ∈ ds, ∃ Γ1 js, VG C g d (wipeS Γ vs) Γ1 js ∧ (∀ j ∈ js, j ∈ vs) ∧ VT C tt Γ1 T ∧ VE C te Γ1 R) :
    VL C (tLc wi g tt te vs) Γ (fun es => es.length ≤ n ∧ ∀ y ∈ es, R y) := vl_lc h fun ds hd => by
  have hl := hz ds hd
  refine ⟨by omega, fun i acc => acc.length ≤ i ∧ ∀ y ∈ acc, R y, ⟨Nat.le_refl _, fun _ h => nomatch h⟩, fun i d acc hi ⟨iv, iw⟩ => ?_, fun acc ⟨iv, iw⟩ => ⟨by omega, iw⟩⟩
  obtain ⟨Γ1, js, hg, hjs, ht, he⟩ := k ds hd d (List.mem_of_getElem? hi)
  refine ⟨Γ1, js, hg, hjs, T, ht, fun _ => he.imp fun y ey => ⟨by rw [List.length_append]; exact Nat.succ_le_succ iv, fun z hz => ?_⟩, fun _ => ⟨by omega, iw⟩⟩
  rcases List.mem_append.mp hz with hz | hz
  · exact iw z hz
  · rw [List.mem_singleton.mp hz]
    exact ey
end

/-! ### parts of small data -/
section
variable {d x : D} {ds : List D} {k n : Nat}
theorem SmA.mem : ∀ {ds : List D} {n : Nat}, SmA ds k n → ∀ x ∈ ds, Sm x k n
  | [], _, _, x, hx => nomatch hx
  | d :: ds, n, h, x, hx => by
    obtain ⟨h1, h2, h3, h4, h5⟩ := h
    rw [PyData.canLayAll0, Bool.and_eq_true] at h1
    rw [PyData.showableAll, Bool.and_eq_true] at h2
    rw [PyData.leavesShortAll, Bool.and_eq_true] at h3
    rw [PyData.depthAll] at h4
    rw [PyData.weightAll] at h5
    rcases List.mem_cons.mp hx with e | hx
    · subst e
      exact ⟨h1.1, h2.1, h3.1, by omega, by omega⟩
    · exact SmA.mem ⟨h1.2, h2.2, h3.2, by omega, by omega⟩ x hx
theorem SmA.len : ∀ {ds : List D} {n : Nat}, SmA ds k n → ds.length ≤ n
  | [], _, _ => Nat.zero_le _
  | d :: ds, n, h => by
    obtain ⟨h1, h2, h3, h4, h5⟩ := h
    rw [PyData.canLayAll0, Bool.and_eq_true] at h1
    rw [PyData.showableAll, Bool.and_eq_true] at h2
    rw [PyData.leavesShortAll, Bool.and_eq_true] at h3
    rw [PyData.depthAll] at h4
    rw [PyData.weightAll] at h5
    have := SmA.len (ds := ds) (n := n - (d.weight + 1)) ⟨h1.2, h2.2, h3.2, by omega, by omega⟩
    rw [List.length_cons]
    omega
theorem Sm.tupA (h : Sm (.tuple ds) (k + 1) n) : SmA ds k n := by
  obtain ⟨h1, h2, h3, h4, h5⟩ := h
  rw [PyData.depth] at h4
  exact ⟨h1, h2, h3, Nat.le_of_succ_le_succ h4, h5⟩
theorem Sm.lstA (h : Sm (.list ds) (k + 1) n) : SmA ds k n := by
  obtain ⟨h1, h2, h3, h4, h5⟩ := h
  rw [PyData.depth] at h4
  exact ⟨h1, h2, h3, Nat.le_of_succ_le_succ h4, h5⟩
theorem Sm.tupM (h : Sm (.tuple ds) k n) (hx : x ∈ ds) : Sm x k n := by
  have h' : Sm (.tuple ds) (k + 1) n := h.mono
  exact h'.tupA.mem x hx
theorem Sm.tupL (h : Sm (.tuple ds) k n) : ds.length ≤ n := by
  have h' : Sm (.tuple ds) (k + 1) n := h.mono
  exact h'.tupA.len
end
theorem canLayAll_mem : ∀ {ds : List D}, PyData.canLayAll0 ds = true ↔ ∀ x ∈ ds, x.canLay0 = true
  | [] => by simp [PyData.canLayAll0]
  | d :: ds => by rw [PyData.canLayAll0, Bool.and_eq_true, canLayAll_mem]; simp
theorem depthAll_mem {n : Nat} : ∀ {ds : List D}, PyData.depthAll ds ≤ n ↔ ∀ x ∈ ds, x.depth ≤ n
  | [] => by simp [PyData.depthAll]
  | d :: ds => by rw [PyData.depthAll, Nat.max_le, depthAll_mem]; simp
theorem shaped_sub {xs ys : List D} (h : SeqAt.shaped (.list xs) = true) (hs : ∀ y ∈ ys, y ∈ xs) : SeqAt.shaped (.list ys) = true := by
  unfold SeqAt.shaped at h ⊢
  rw [Bool.and_eq_true, decide_eq_true_eq, PyData.canLay0, PyData.depth, canLayAll_mem] at h
  rw [Bool.and_eq_true, decide_eq_true_eq, PyData.canLay0, PyData.depth, canLayAll_mem]
  have h2 : PyData.depthAll xs ≤ 63 := by omega
  refine ⟨fun y hy => h.1 y (hs y hy), ?_⟩
  have : PyData.depthAll ys ≤ 63 := depthAll_mem.mpr fun y hy => depthAll_mem.mp h2 y (hs y hy)
  omega

/-! ### _law_mixed -/
def Pm (ds : List D) : Prop := ∃ xs, (ds = [.list xs] ∨ ds = [.tuple xs]) ∧ xs.length ≤ 10000 ∧ SeqAt.shaped (.list xs) = true
def t_mixed (K : PySem.W.Frag) : TS :=
  tSeq (tPar 2 3 (tCons (tCB (rList K) (tCons (tVar 1) tNil)) (tCons (tLst tNil) tNil)))
  (tSeq (tWhile (tTest (tOp (rNeA K) (tVar 2) (tLst tNil))) (tDrop (tBM K "list" rAppend (tVar 3) (tCons (tBM K "list" rPopAt (tVar 2) (tCons (tAny K (tCB (rLen K) (tCons (tVar 2) tNil))) tNil)) tNil))))
  (tRet (tVar 3)))
theorem erase_perm {α : Type} : ∀ (xs : List α) (m : Nat) (x : α), xs[m]? = some x → (x :: xs.eraseIdx m).Perm xs
  | [], _, _, h => nomatch h
  | y :: ys, 0, x, h => by
    injection h with h
    subst h
    exact .refl _
  | y :: ys, m + 1, x, h => by
    have h : ys[m]? = some x := h
    exact (List.Perm.swap y x _).trans ((erase_perm ys m x h).cons y)
theorem vs_mixed {C : Cn} {ds : List D} (hP : Pm ds) : VS C (t_mixed C.K) (.deal :: slots ds 2) { nx := fun _ => R_mixed ds .none, rt := R_mixed ds } := by
  obtain ⟨xs, hds, hl, hs⟩ := hP
  have hd1 : ∃ d, ds = [d] ∧ (d = .list xs ∨ d = .tuple xs) := by
    rcases hds with rfl | rfl
    · exact ⟨_, rfl, Or.inl rfl⟩
    · exact ⟨_, rfl, Or.inr rfl⟩
  obtain ⟨d, rfl, hd⟩ := hd1
  have hdd : ∀ ys : List D, ([d] = [PyData.list ys] ∨ [d] = [PyData.tuple ys]) → ys = xs := by
    rintro ys (h | h) <;> injection h with h _ <;> rcases hd with rfl | rfl <;> first | (injection h with h; exact h.symm) | cases h
  have hlist : VL C (tCB (rList C.K) (tCons (tVar 1) tNil)) [.deal, .dat d, .no, .no] (Is xs) := by
    rcases hd with rfl | rfl
    · exact vl_listL (ve_var rfl).v
    · exact vl_listT (ve_var rfl)
  refine vs_seq (Is [.deal, .dat d, .own xs, .own []]) (vs_parLL hlist (vl_lstD va_nil) fun x y ex ey => by cases ex; cases ey; rfl) ?_
  rintro Γ rfl
  refine vs_seq (fun Γ => ∃ ys, Γ = [.deal, .dat d, .own [], .own ys] ∧ ys.Perm xs) ?_ ?_
  · refine vs_while (fun m Γ => ∃ as bs, Γ = [.deal, .dat d, .own as, .own bs] ∧ (as ++ bs).Perm xs ∧ m = as.length) _ ⟨xs, [], rfl, by rw [List.append_nil], rfl⟩ ?_
    rintro m Γ ⟨as, bs, rfl, hp, rfl⟩
    have hlen := hp.length_eq
    rw [List.length_append] at hlen
    have hsa : SeqAt.shaped (.list as) = true := shaped_sub hs fun y hy => hp.mem_iff.mp (List.mem_append_left _ hy)
    have ht : VT C (tTest (tOp (rNeA C.K) (tVar 2) (tLst tNil))) [.deal, .dat d, .own as, .own bs] (Is (!as.isEmpty)) := by
      refine vt_testD (ve_opD (vv_own rfl) (vl_lstD va_nil).vd (od_neD hsa rfl ?_))
      show PyData.eqvAll as [] = _
      cases as <;> rfl
    refine ⟨_, ht, fun h => ?_, fun h => ?_⟩
    · have hpos : 0 < as.length := by
        cases as with
        | nil => cases h
        | cons _ _ => exact Nat.succ_pos _
      refine vs_appPop (i := 3) (j := 2) rfl rfl (by decide) (ve_any rfl (ve_lenL (vv_own rfl)) (by omega) (by omega)) (by omega) (by omega) fun m x hm => ?_
      have hml : m < as.length := (List.getElem?_eq_some_iff.mp hm).1
      refine ⟨(as.eraseIdx m).length, ?_, as.eraseIdx m, bs ++ [x], rfl, ?_, rfl⟩
      · rw [List.length_eraseIdx, if_pos hml]
        omega
      · refine List.Perm.trans ?_ hp
        rw [← List.append_assoc]
        exact (List.perm_append_singleton x _).trans ((erase_perm as m x hm).append_right bs)
    · cases as with
      | nil => exact ⟨bs, rfl, hp⟩
      | cons _ _ => cases h
  · rintro Γ ⟨ys, rfl, hp⟩
    refine vs_retOwn 3 rfl fun zs hz => ?_
    obtain rfl := hdd zs hz
    exact ⟨ys, rfl, hp⟩

/-! ### plain tests -/
def isInt : D → Bool
  | .int _ => true
  | _ => false
def isNum : D → Bool
  | .int i => decide (0 ≤ i)
  | _ => false
def isIdx (n : Int) : D → Bool
  | .int i => decide (0 ≤ i) && decide (i < n)
  | _ => false
def isTup : D → Bool
  | .tuple _ => true
  | _ => false
def isSeq : D → Bool
  | .tuple _ => true
  | .list _ => true
  | _ => false
def isRow (ns : List Nat) : D → Bool
  | .tuple xs => ns.contains xs.length
  | _ => false
def P_is1 (ds : List D) : Prop := ∃ d, ds = [d]
def R_isInt (ds : List D) (r : D) : Prop := ∀ d, ds = [d] → r = .bool (isInt d)
def R_isNum (ds : List D) (r : D) : Prop := ∀ d, ds = [d] → r = .bool (isNum d)
def R_isSeq (ds : List D) (r : D) : Prop := ∀ d, ds = [d] → r = .bool (isSeq d)
def P_isIdx (ds : List D) : Prop := ∃ d n, ds = [d, .int n]
def R_isIdx (ds : List D) (r : D) : Prop := ∀ d n, ds = [d, .int n] → r = .bool (isIdx n d)
def P_isRow (ds : List D) : Prop := ∃ d, ∃ ns : List Nat, ds = [d, .tuple (ns.map fun n => .int (n : Nat))]
def R_isRow (ds : List D) (r : D) : Prop := ∀ d (ns : List Nat), ds = [d, .tuple (ns.map fun n => .int (n : Nat))] → r = .bool (isRow ns d)
def isBl : D → Bool
  | .bool _ => true
  | _ => false
section
variable {C : Cn} {te : TE} {Γ : List Sl} {d : D}
theorem ve_isInt (h : VV C te Γ (Is d)) : VE C (tCB (rIsAny C.K) (tCons te (tCons (tC (.ty "int")) tNil))) Γ (Is (.bool (isInt d || isBl d))) := by
  cases d <;> exact ve_isi h rfl
theorem ve_isBool (h : VV C te Γ (Is d)) : VE C (tCB (rIsAny C.K) (tCons te (tCons (tC (.ty "bool")) tNil))) Γ (Is (.bool (isBl d))) := by
  cases d <;> exact ve_isi h rfl
theorem ve_isTup (h : VV C te Γ (Is d)) : VE C (tCB (rIsAny C.K) (tCons te (tCons (tC (.ty "tuple")) tNil))) Γ (Is (.bool (isTup d))) := by
  cases d <;> exact ve_isi h rfl
def t_isInt (K : PySem.W.Frag) : TS := tRet (tAndV (tCB (rIsAny K) (tCons (tVar 0) (tCons (tC (.ty "int")) tNil))) (tNotV (tCB (rIsAny K) (tCons (tVar 0) (tCons (tC (.ty "bool")) tNil)))))
theorem vs_isInt {ds : List D} (hP : P_is1 ds) : VS C (t_isInt C.K) (slots ds 0) { nx := fun _ => R_isInt ds .none, rt := R_isInt ds } := by
  obtain ⟨d, rfl⟩ := hP
  refine vs_retD (ve_andD (ve_isInt (ve_var rfl).v) fun _ => ve_notD (ve_isBool (ve_var rfl).v)) fun d' e => ?_
  injection e with e
  subst e
  cases d <;> rfl
def t_isNum (K : PySem.W.Frag) : TS := tRet (tAndV (tCallK (Pu K P_is1 R_isInt) (fun vs _ => vs) E0 (tCons (tVar 0) tNil) tNil) (tOp (rI0 fun i j => .bl (decide (j ≤ i))) (tVar 0) (tC (.int 0))))
theorem vs_isNum {ds : List D} (hP : P_is1 ds) : VS C (t_isNum C.K) (slots ds 0) { nx := fun _ => R_isNum ds .none, rt := R_isNum ds } := by
  obtain ⟨d, rfl⟩ := hP
  have h1 : VE C (tCallK (Pu C.K P_is1 R_isInt) (fun vs _ => vs) E0 (tCons (tVar 0) tNil) tNil) (slots [d] 0) (Is (.bool (isInt d))) := (ve_callD (va_consD (ve_var rfl) va_nil) ⟨d, rfl⟩).imp fun r k => k d rfl
  have fin : VE C (tAndV (tCallK (Pu C.K P_is1 R_isInt) (fun vs _ => vs) E0 (tCons (tVar 0) tNil) tNil) (tOp (rI0 fun i j => .bl (decide (j ≤ i))) (tVar 0) (tC (.int 0)))) (slots [d] 0) (Is (.bool (isNum d))) := by
    cases d with
    | int i => exact (ve_andD h1 fun _ => ve_opD (ve_var rfl).v ve_int.v od_ge).to rfl
    | _ => exact (ve_andD (c := false) h1 fun e => by cases e).to rfl
  exact vs_retD fin fun d' e => by
    injection e with e
    subst e
    rfl
def t_isIdx (K : PySem.W.Frag) : TS := tRet (tAndV (tCallK (Pu K P_is1 R_isNum) (fun vs _ => vs) E0 (tCons (tVar 0) tNil) tNil) (tOp rLtA (tVar 0) (tVar 1)))
theorem vs_isIdx {ds : List D} (hP : P_isIdx ds) : VS C (t_isIdx C.K) (slots ds 0) { nx := fun _ => R_isIdx ds .none, rt := R_isIdx ds } := by
  obtain ⟨d, n, rfl⟩ := hP
  have h1 : VE C (tCallK (Pu C.K P_is1 R_isNum) (fun vs _ => vs) E0 (tCons (tVar 0) tNil) tNil) (slots [d, .int n] 0) (Is (.bool (isNum d))) := (ve_callD (va_consD (ve_var rfl) va_nil) ⟨d, rfl⟩).imp fun r k => k d rfl
  have fin : VE C (tAndV (tCallK (Pu C.K P_is1 R_isNum) (fun vs _ => vs) E0 (tCons (tVar 0) tNil) tNil) (tOp rLtA (tVar 0) (tVar 1))) (slots [d, .int n] 0) (Is (.bool (isIdx n d))) := by
    cases d with
    | int i => exact (ve_andD h1 fun _ => ve_opD (ve_var rfl).v (ve_var rfl).v od_lt).to rfl
    | _ => exact (ve_andD (c := false) h1 fun e => by cases e).to rfl
  exact vs_retD fin fun d' n' e => by
    injection e with e e2
    injection e2 with e2 _
    injection e2 with e2
    subst e e2
    rfl
def t_isRow (K : PySem.W.Frag) : TS := tRet (tAndV (tCB (rIsAny K) (tCons (tVar 0) (tCons (tC (.ty "tuple")) tNil))) (tOp (rInA K) (tCB (rLen K) (tCons (tVar 0) tNil)) (tVar 1)))
theorem ints_inj : ∀ {ns ms : List Nat}, (ns.map fun n => PyData.int (n : Nat)) = (ms.map fun n => PyData.int (n : Nat)) → ns = ms
  | [], [], _ => rfl
  | [], _ :: _, h => nomatch h
  | _ :: _, [], h => nomatch h
  | n :: ns, m :: ms, h => by
    injection h with h1 h2
    injection h1 with h1
    rw [ints_inj h2, Int.ofNat.inj h1]
theorem any_ints (ns : List Nat) (m : Nat) : ((ns.map fun n => PyData.int (n : Nat)).any fun z => PyData.eqv z (.int (m : Nat))) = ns.contains m := by
  induction ns with
  | nil => rfl
  | cons n ns ih =>
    rw [List.map_cons, List.any_cons, ih, List.contains_cons, PyData.eqv]
    congr 1
    by_cases h : m = n
    · rw [h]; simp
    · rw [beq_eq_false_iff_ne.mpr h, beq_eq_false_iff_ne.mpr (by omega)]
theorem flat_ints (ns : List Nat) : (ns.map fun n => PyData.int (n : Nat)).all flatD = true := by
  rw [List.all_map, List.all_eq_true]
  intro x _
  rfl
theorem vs_isRow {ds : List D} (hP : P_isRow ds) : VS C (t_isRow C.K) (slots ds 0) { nx := fun _ => R_isRow ds .none, rt := R_isRow ds } := by
  obtain ⟨d, ns, rfl⟩ := hP
  have fin : VE C (tAndV (tCB (rIsAny C.K) (tCons (tVar 0) (tCons (tC (.ty "tuple")) tNil))) (tOp (rInA C.K) (tCB (rLen C.K) (tCons (tVar 0) tNil)) (tVar 1))) (slots [d, .tuple (ns.map fun n => .int (n : Nat))] 0) (Is (.bool (isRow ns d))) := by
    cases d with
    | tuple xs =>
      refine (ve_andD (ve_isTup (ve_var rfl).v) fun _ => ve_opD (ve_lenT (ve_var rfl)).v (ve_var rfl).v (od_inT rfl (flat_ints ns))).to ?_
      rw [any_ints]
      rfl
    | _ => exact (ve_andD (c := false) (ve_isTup (ve_var rfl).v) fun e => by cases e).to rfl
  exact vs_retD fin fun d' n' e => by
    injection e with e e2
    injection e2 with e2 _
    injection e2 with e2
    obtain rfl := ints_inj e2
    subst e
    rfl
theorem call_isNum {E : XK} (h : VE C te Γ (Is d)) : VE C (tCallK (Pu C.K P_is1 R_isNum) (fun vs _ => vs) E (tCons te tNil) tNil) Γ (Is (.bool (isNum d))) := (ve_callD (va_consD h va_nil) ⟨d, rfl⟩).imp fun r k => k d rfl
theorem call_isIdx {E : XK} {t2 : TE} {n : Int} (h : VE C te Γ (Is d)) (h2 : VE C t2 Γ (Is (.int n))) : VE C (tCallK (Pu C.K P_isIdx R_isIdx) (fun vs _ => vs) E (tCons te (tCons t2 tNil)) tNil) Γ (Is (.bool (isIdx n d))) :=
  (ve_callD (va_consD h (va_consD h2 va_nil)) ⟨d, n, rfl⟩).imp fun r k => k d n rfl
theorem call_isRow {E : XK} {t2 : TE} (ns : List Nat) (h : VE C te Γ (Is d)) (h2 : VE C t2 Γ (Is (.tuple (ns.map fun n => .int (n : Nat))))) : VE C (tCallK (Pu C.K P_isRow R_isRow) (fun vs _ => vs) E (tCons te (tCons t2 tNil)) tNil) Γ (Is (.bool (isRow ns d))) :=
  (ve_callD (va_consD h (va_consD h2 va_nil)) ⟨d, ns, rfl⟩).imp fun r k => k d ns rfl
end
end Ly

/-! LyQ: promises told by a parameter: Pa (data of a parameter in, something of it out), Da (a source of draws first). -/
namespace Ly
open PySem PySem.Spec PyProof.Rows L2

def Pa (K : PySem.W.Frag) {α : Type} (f : α → List D) (P : α → Prop) (R : α → D → Prop) : Sp := fun vs H Q E => ∃ a, P a ∧ Pu K (Is (f a)) (fun _ => R a) vs H Q E
def Da (K : PySem.W.Frag) {α : Type} (f : α → List D) (P : α → Prop) (R : α → D → Prop) : Sp := fun vs H Q E => ∃ a, P a ∧ De K (Is (f a)) (fun _ => R a) vs H Q E
section
variable {P0 : Program} {w : World} {K : PySem.W.Frag} {mg : Str → Option Value} {base : Heap} {k : Nat} {f : Addr} {fd : FuncData} {ps N : List Str} {x qual : Str} {st : Stmt} {α : Type} {g : α → List D} {P : α → Prop} {R : α → D → Prop}
theorem GOk.ex {S : α → Sp} (h : ∀ a, P a → GOk P0 w K mg base CX0 k f fd ps (S a)) : GOk P0 w K mg base CX0 k f fd ps (fun vs H Q E => ∃ a, P a ∧ S a vs H Q E) :=
  ⟨fun ⟨a, p, q⟩ => (h a p).size q, fun gd r e0 b rv ⟨a, p, q⟩ => (h a p).does gd r e0 b rv q⟩
theorem pa_ok (n : Nat) (F : Fun K x qual st f fd) (S : FnScope N ps (defScope st)) (hl : ∀ a, (g a).length = ps.length) (hn : ps.length + n = N.length)
    (body : ∀ (cdv : Value) (A : Around) (outer : List Env) (s : Shared) (H : Hp) (E : XK), (cxOf CX0 P0 w K mg base N qual (defScope st) f cdv A outer s H E).A.guards = some [] → Room k (cxOf CX0 P0 w K mg base N qual (defScope st) f cdv A outer s H E).A →
      ∃ t, PSs (cxOf CX0 P0 w K mg base N qual (defScope st) f cdv A outer s H E).nox (defBody st) t ∧ ∀ B H a, P a → VS ⟨K, B, H, none⟩ t (slots (g a) n) { nx := fun _ => R a .none, rt := R a }) :
    GOk P0 w K mg base CX0 (k + 1) f fd ps (Pa K g P R) :=
  GOk.ex fun a hp => pu_ok n F S (fun ds e => by cases e; exact hl a) hn fun cdv A outer s H E hg hr => by
    obtain ⟨t, ht, hv⟩ := body cdv A outer s H E hg hr
    exact ⟨t, ht, fun B H ds e => by cases e; exact hv B H a hp⟩
theorem da_ok (n : Nat) (F : Fun K x qual st f fd) (S : FnScope N ps (defScope st)) (hl : ∀ a, (g a).length + 1 = ps.length) (hn : ps.length + n = N.length)
    (body : ∀ (cdv : Value) (A : Around) (outer : List Env) (s : Shared) (H : Hp) (E : XK), (cxOf CX0 P0 w K mg base N qual (defScope st) f cdv A outer s H E).A.guards = some [] → Room k (cxOf CX0 P0 w K mg base N qual (defScope st) f cdv A outer s H E).A →
      ∃ t, PSs (cxOf CX0 P0 w K mg base N qual (defScope st) f cdv A outer s H E).nox (defBody st) t ∧ ∀ B H p q a, P a → VS ⟨K, B, H, some (p, q)⟩ t (.deal :: slots (g a) n) { nx := fun _ => R a .none, rt := R a }) :
    GOk P0 w K mg base CX0 (k + 1) f fd ps (Da K g P R) :=
  GOk.ex fun a hp => de_ok n F S (fun ds e => by cases e; exact hl a) hn fun cdv A outer s H E hg hr => by
    obtain ⟨t, ht, hv⟩ := body cdv A outer s H E hg hr
    exact ⟨t, ht, fun B H p q ds e => by cases e; exact hv B H p q a hp⟩
end
section
variable {C : Cn} {A A' : TA} {Γ : List Sl} {α : Type} {g : α → List D} {P : α → Prop} {R : α → D → Prop} {E : XK} {gV : List V → List V → List V} {ds es : List D} {i : Nat}
theorem ve_callA (a : α) (h : VA C A Γ (Is (g a))) (hP : P a) : VE C (tCallK (Pa C.K g P R) (fun vs _ => vs) E A tNil) Γ (R a) := fun B H σ F Q q =>
  h B H σ F _ fun ds vs B1 H1 e1 s1 k1 => by
    cases e1
    exact ⟨a, hP, B1, g a, (F.step s1).sub, k1, rfl, fun d v B3 H3 r3 s3 k3 => q d v B3 H3 r3 (s1.trans F.dlNow s3.any) k3⟩
/-- with names -/
theorem ve_kwA (a : α) {gD : List D → List D → List D} (hg : ∀ {H : Hp} {vs zs : List V} {us ws : List D}, DqAll C.K H vs us → DqAll C.K H zs ws → DqAll C.K H (gV vs zs) (gD us ws)) (h : VA C A Γ (Is ds)) (h' : VA C A' Γ (Is es)) (he : gD ds es = g a) (hP : P a) :
    VE C (tCallK (Pa C.K g P R) gV E A A') Γ (R a) := fun B H σ F Q q =>
  h B H σ F _ fun ds vs B1 H1 e1 s1 k1 => h' B1 H1 σ (F.step s1) _ fun es zs B2 H2 e2 s2 k2 => by
    cases e1
    cases e2
    exact ⟨a, hP, B2, g a, ((F.step s1).step s2).sub, by have := hg (dpall_mono s2.ext k1) k2; rw [he] at this; exact this, rfl, fun d v B3 H3 r3 s3 k3 => q d v B3 H3 r3 ((s1.trans F.dlNow s2).trans F.dlNow s3.any) k3⟩
theorem ve_callDa (a : α) (hi : Γ[i]? = some .deal) (h : VA C A Γ (Is (g a))) (hP : P a) : VE C (tCallK (Da C.K g P R) (fun vs _ => vs) E (tCons (tVar i) A) tNil) Γ (R a) := fun B H σ F Q q => by
  obtain ⟨p, r, e, hs⟩ := F.slot i _ hi
  refine ⟨.ref p, hs, h B H σ F _ fun ds vs B1 H1 e1 s1 k1 => ?_⟩
  cases e1
  have F1 := F.step s1
  obtain ⟨n1, n2⟩ := F1.dlOut e
  refine ⟨a, hP, B1, p, r, vs, g a, rfl, F1.sub, F1.dlNow p r e, n1, n2, k1, rfl, fun d v B3 H3 r3 s3 k3 => ?_⟩
  rw [← e] at s3
  exact q d v B3 H3 r3 (s1.trans F.dlNow s3) k3
end
/-! ### comprehensions over told things -/
section
variable {C : Cn} {wi : TI} {g : TG} {tt : TT} {te : TE} {vs : List Nat} {Γ : List Sl} {α : Type} {m : α → D} {xs : List α}
theorem vl_lcM (f : α → Bool) (v : α → D) (h : VI C wi Γ (Is (xs.map m))) (hz : xs.length ≤ 100000) (k : ∀ x ∈ xs, ∃ Γ1 js, VG C g (m x) (wipeS Γ vs) Γ1 js ∧ (∀ j ∈ js, j ∈ vs) ∧ VT C tt Γ1 (Is (f x)) ∧ (f x = true → VE C te Γ1 (Is (v x)))) :
    VL C (tLc wi g tt te vs) Γ (Is ((xs.filter f).map v)) := vl_lc h fun ds e => by
  cases e
  refine ⟨by rw [List.length_map]; exact hz, fun i acc => acc = ((xs.take i).filter f).map v, rfl, fun i d acc hd iv => ?_, fun acc iv => ?_⟩
  · rw [List.getElem?_map] at hd
    obtain ⟨x, hx, rfl⟩ := Option.map_eq_some_iff.mp hd
    obtain ⟨Γ1, js, hg, hjs, ht, he⟩ := k x (List.mem_of_getElem? hx)
    refine ⟨Γ1, js, hg, hjs, Is (f x), ht, fun e => (he e.symm).imp fun y ey => ?_, fun e => ?_⟩
    · subst ey iv
      rw [List.take_add_one, hx, List.filter_append, List.map_append]
      show _ = _ ++ List.map v (List.filter f [x])
      rw [List.filter_cons, if_pos e.symm]
      rfl
    · subst iv
      rw [List.take_add_one, hx, List.filter_append, List.map_append]
      show _ = _ ++ List.map v (List.filter f [x])
      rw [List.filter_cons, if_neg (by rw [← e]; decide)]
      exact (List.append_nil _).symm
  · have iv : acc = ((xs.take (xs.map m).length).filter f).map v := iv
    rw [List.length_map, List.take_length] at iv
    exact iv
theorem vl_mapM (v : α → D) (h : VI C wi Γ (Is (xs.map m))) (hz : xs.length ≤ 100000) (k : ∀ x ∈ xs, ∃ Γ1 js, VG C g (m x) (wipeS Γ vs) Γ1 js ∧ (∀ j ∈ js, j ∈ vs) ∧ VE C te Γ1 (Is (v x))) :
    VL C (tLc wi g tYes te vs) Γ (Is (xs.map v)) := (vl_lcM (fun _ => true) v h hz fun x hx => by
  obtain ⟨Γ1, js, hg, hjs, he⟩ := k x hx
  exact ⟨Γ1, js, hg, hjs, vt_yes, fun _ => he⟩).to (by rw [List.filter_eq_self.mpr fun _ _ => rfl])
/-- all([..]) -/
theorem ve_allM (f : α → Bool) (h : VI C wi Γ (Is (xs.map m))) (hz : xs.length ≤ 100000) (k : ∀ x ∈ xs, ∃ Γ1 js, VG C g (m x) (wipeS Γ vs) Γ1 js ∧ (∀ j ∈ js, j ∈ vs) ∧ VE C te Γ1 (Is (.bool (f x)))) :
    VE C (tCB (rAll C.K) (tCons (tLc wi g tYes te vs) tNil)) Γ (Is (.bool (xs.all f))) :=
  (ve_all (ns := xs.map f) ((vl_mapM (fun x => .bool (f x)) h hz k).to (by rw [List.map_map]; rfl)).vd).to (by rw [List.all_map]; rfl)
/-- tuple([..]) -/
theorem ve_tupM (f : α → Bool) (v : α → D) (h : VI C wi Γ (Is (xs.map m))) (hz : xs.length ≤ 100000) (k : ∀ x ∈ xs, ∃ Γ1 js, VG C g (m x) (wipeS Γ vs) Γ1 js ∧ (∀ j ∈ js, j ∈ vs) ∧ VT C tt Γ1 (Is (f x)) ∧ (f x = true → VE C te Γ1 (Is (v x)))) :
    VE C (tCB (rTup C.K) (tCons (tLc wi g tt te vs) tNil)) Γ (Is (.tuple ((xs.filter f).map v))) := ve_tupL (vl_lcM f v h hz k).vd
/-- over data as it is -/
theorem id_map (ds : List D) : ds = ds.map id := (List.map_id ds).symm
theorem va_tupI {te : TE} {ds : List D} (h : VE C te Γ (Is (.tuple ds))) : VI C (iAny C.K te) Γ (Is (ds.map id)) := by
  rw [List.map_id]
  exact va_tupD h
theorem va_listI {te : TE} {ds : List D} (h : VE C te Γ (Is (.list ds))) : VI C (iAny C.K te) Γ (Is (ds.map id)) := by
  rw [List.map_id]
  exact va_listD h
/-- range(n) -/
theorem vi_rngM {te : TE} {n : Nat} (h : VE C te Γ (Is (.int (n : Nat)))) (hn : n ≤ 1000000) : VI C (iRng1 (tCons te tNil)) Γ (Is ((List.range n).map fun (i : Nat) => PyData.int (i : Nat))) := by
  have e : Ly.upTo 0 ((n : Int)).toNat = (List.range n).map fun (i : Nat) => PyData.int (i : Nat) := by
    unfold Ly.upTo
    rw [Int.toNat_natCast]
    refine List.map_congr_left fun i _ => ?_
    show PyData.int (0 + (i : Nat)) = _
    rw [Int.zero_add]
  rw [← e]
  exact vi_rng1D h
end
end Ly

/-! LyR: small things of lists, orders (levels and told pairs), _law_closed. -/
namespace Ly
open PySem PySem.Spec PyProof.Rows L2

section
variable {C : Cn} {r : R2} {x y : D} {R R' : D → Prop} {ta tb te : TE} {Γ : List Sl}
theorem OD.imp (h : OD C r x y R) (i : ∀ d, R d → R' d) : OD C r x y R' := fun B H v u e k1 k2 Q q => h B H v u e k1 k2 Q fun d w B' H' rd s k => q d w B' H' (i d rd) s k
/-- a test of a draw against a number -/
theorem vt_anyEq {i : Nat} {b : Int} {E : XK} (h0 : Γ[i]? = some .deal) (hb : 0 < b) (hm : b < 1000000000000) {z : Int} : VT C (tTest (tOp (rEqA C.K) (tCallK (De C.K P_any R_any) (fun vs _ => vs) E (tCons (tVar i) (tCons (tC (.int b)) tNil)) tNil) (tC (.int z)))) Γ (fun _ => True) :=
  vt_test (ve_op (ve_anyI h0 ve_int hb hm).v (Rb := Is (.int z)) ve_int.v fun x y ⟨r, ex, _, _⟩ ey => by
    subst ex ey
    exact od_eqI.imp fun d e => ⟨_, e, trivial⟩)
end
theorem all_map {α β : Type} {f : α → β} {Q : α → Prop} : ∀ {es : List β}, (∀ y ∈ es, ∃ p, y = f p ∧ Q p) → ∃ ps : List α, es = ps.map f ∧ ∀ p ∈ ps, Q p
  | [], _ => ⟨[], rfl, fun _ h => nomatch h⟩
  | e :: es, h => by
    obtain ⟨p, rfl, hp⟩ := h e (List.mem_cons_self ..)
    obtain ⟨ps, rfl, hq⟩ := all_map fun y hy => h y (List.mem_cons_of_mem _ hy)
    refine ⟨p :: ps, rfl, fun z hz => ?_⟩
    rcases List.mem_cons.mp hz with rfl | hz
    · exact hp
    · exact hq z hz
theorem perm_map_inv {α β : Type} {f : α → β} {as bs : List β} (h : as.Perm bs) : ∀ xs : List α, bs = xs.map f → ∃ zs : List α, as = zs.map f ∧ zs.Perm xs := by
  induction h with
  | nil =>
    intro xs e
    obtain rfl : xs = [] := List.map_eq_nil_iff.mp e.symm
    exact ⟨[], rfl, .refl _⟩
  | cons b _ ih =>
    intro xs e
    cases xs with
    | nil => cases e
    | cons x xs =>
      injection e with e1 e2
      obtain ⟨zs, e3, h⟩ := ih xs e2
      exact ⟨x :: zs, by rw [e1, e3]; rfl, h.cons x⟩
  | swap a b l =>
    intro xs e
    match xs, e with
    | x :: y :: xs, e =>
      injection e with e1 e2
      injection e2 with e2 e3
      exact ⟨y :: x :: xs, by rw [e1, e2, e3]; rfl, .swap x y xs⟩
  | trans _ _ ih1 ih2 =>
    intro xs e
    obtain ⟨zs, e1, h1⟩ := ih2 xs e
    obtain ⟨us, e2, h2⟩ := ih1 zs e1
    exact ⟨us, e2, h2.trans h1⟩
abbrev nsD (ns : List Nat) : List D := ns.map fun n => .int (n : Nat)
theorem ns_cast (ns : List Nat) : nsD ns = (ns.map fun (n : Nat) => (n : Int)).map PyData.int := by rw [List.map_map]; rfl
theorem shaped_ns (xs : List Nat) : SeqAt.shaped (.list (nsD xs)) = true := by
  unfold SeqAt.shaped
  rw [Bool.and_eq_true, decide_eq_true_eq, PyData.canLay0, PyData.depth, canLayAll_mem]
  refine ⟨fun x hx => ?_, ?_⟩
  · obtain ⟨n, _, rfl⟩ := List.mem_map.mp hx
    rfl
  · have : PyData.depthAll (nsD xs) ≤ 0 := depthAll_mem.mpr fun x hx => by
      obtain ⟨n, _, rfl⟩ := List.mem_map.mp hx
      exact Nat.le_refl _
    omega
/-- sorted(xs), numbers -/
theorem vl_sortedN {C : Cn} {te : TE} {Γ : List Sl} {ns : List Nat} (h : VV C te Γ (Is (.list (nsD ns)))) : VL C (tCB (rSortedI C.K) (tCons te tNil)) Γ (fun ds => ∃ ms : List Nat, ds = nsD ms ∧ ms.Perm ns ∧ ms.Pairwise (· ≤ ·)) :=
  (vl_sortedI (ns := ns.map fun (n : Nat) => (n : Int)) (by rw [← ns_cast]; exact h)).imp fun ds ⟨ms, e, hp, hs⟩ => by
    obtain ⟨zs, rfl, hz⟩ := perm_map_inv hp ns rfl
    refine ⟨zs, by rw [e, ← ns_cast], hz, ?_⟩
    rw [List.pairwise_map] at hs
    exact hs.imp fun h => by omega

/-! ### told pairs -/
/-- by told pairs from x up to y, none or more -/
inductive Up (ps : List (Nat × Nat)) : Nat → Nat → Prop where
  | here (x : Nat) : Up ps x x
  | step {x y z : Nat} (t : Up ps x y) (h : (y, z) ∈ ps) : Up ps x z
theorem Up.trans {ps : List (Nat × Nat)} {x y z : Nat} (h : Up ps x y) (k : Up ps y z) : Up ps x z := by
  induction k with
  | here => exact h
  | step _ e ih => exact .step ih e
/-- in at most t steps -/
def Rch (ps : List (Nat × Nat)) (x : Nat) : Nat → Nat → Prop
  | 0, h => x = h
  | t + 1, h => Rch ps x t h ∨ ∃ y, (y, h) ∈ ps ∧ Rch ps x t y
section
variable {ps : List (Nat × Nat)} {x : Nat}
theorem Rch.mono {h : Nat} : ∀ {t u : Nat}, t ≤ u → Rch ps x t h → Rch ps x u h
  | t, 0, l, r => by
    obtain rfl : t = 0 := by omega
    exact r
  | t, u + 1, l, r => by
    by_cases e : t = u + 1
    · exact e ▸ r
    · exact Or.inl (Rch.mono (by omega) r)
theorem Rch.up : ∀ {t h : Nat}, Rch ps x t h → Up ps x h
  | 0, h, r => by
    cases r
    exact .here _
  | t + 1, h, r => by
    rcases r with r | ⟨y, hy, r⟩
    · exact Rch.up r
    · exact .step (Rch.up r) hy
theorem Up.rch {h : Nat} (u : Up ps x h) : ∃ t, Rch ps x t h := by
  induction u with
  | here => exact ⟨0, rfl⟩
  | step _ e ih =>
    obtain ⟨t, r⟩ := ih
    exact ⟨t + 1, Or.inr ⟨_, e, r⟩⟩
theorem filter_lt {α : Type} {p q : α → Bool} : ∀ (l : List α), (∀ x ∈ l, p x = true → q x = true) → (l.filter p).length ≤ (l.filter q).length ∧ ((∃ x ∈ l, q x = true ∧ p x = false) → (l.filter p).length < (l.filter q).length)
  | [], _ => ⟨Nat.le_refl _, fun ⟨_, h, _⟩ => nomatch h⟩
  | y :: l, h => by
    obtain ⟨h1, h2⟩ := filter_lt l fun x hx => h x (List.mem_cons_of_mem _ hx)
    have hy := h y (List.mem_cons_self ..)
    rw [List.filter_cons, List.filter_cons]
    cases hp : p y with
    | true =>
      rw [hy hp]
      refine ⟨Nat.succ_le_succ h1, fun ⟨x, hx, hq, hn⟩ => ?_⟩
      rcases List.mem_cons.mp hx with rfl | hx
      · rw [hp] at hn
        cases hn
      · exact Nat.succ_lt_succ (h2 ⟨x, hx, hq, hn⟩)
    | false =>
      cases hq : q y with
      | true => exact ⟨Nat.le_succ_of_le h1, fun _ => Nat.lt_succ_of_le h1⟩
      | false =>
        refine ⟨h1, fun ⟨x, hx, hq', hn⟩ => ?_⟩
        rcases List.mem_cons.mp hx with rfl | hx
        · rw [hq] at hq'
          cases hq'
        · exact h2 ⟨x, hx, hq', hn⟩
open Classical in
/-- many steps are enough -/
theorem Up.many {many : Nat} (hps : ∀ p ∈ ps, p.1 < many ∧ p.2 < many) (hx : x < many) {h : Nat} (u : Up ps x h) : Rch ps x many h := by
  let S : Nat → List Nat := fun t => (List.range many).filter fun h => decide (Rch ps x t h)
  have grow : ∀ t, t + 1 ≤ (S t).length ∨ ∃ u, u ≤ t ∧ ∀ h, h < many → Rch ps x (u + 1) h → Rch ps x u h := by
    intro t
    induction t with
    | zero =>
      left
      have : x ∈ S 0 := List.mem_filter.mpr ⟨List.mem_range.mpr hx, decide_eq_true rfl⟩
      exact List.length_pos_of_mem this
    | succ t ih =>
      rcases ih with ih | ⟨u, hu, hs⟩
      · by_cases st : ∀ h, h < many → Rch ps x (t + 1) h → Rch ps x t h
        · exact Or.inr ⟨t, by omega, st⟩
        · left
          have : ∃ h, h < many ∧ Rch ps x (t + 1) h ∧ ¬ Rch ps x t h := by
            apply Classical.byContradiction
            intro no
            exact st fun h hh r => Classical.byContradiction fun n => no ⟨h, hh, r, n⟩
          obtain ⟨h, hh, r, n⟩ := this
          have := (filter_lt (p := fun h => decide (Rch ps x t h)) (q := fun h => decide (Rch ps x (t + 1) h)) (List.range many) fun y _ hy => decide_eq_true (Or.inl (of_decide_eq_true hy))).2 ⟨h, List.mem_range.mpr hh, decide_eq_true r, decide_eq_false n⟩
          show t + 1 + 1 ≤ ((List.range many).filter fun h => decide (Rch ps x (t + 1) h)).length
          have ih : t + 1 ≤ ((List.range many).filter fun h => decide (Rch ps x t h)).length := ih
          omega
      · exact Or.inr ⟨u, by omega, hs⟩
  rcases grow many with g | ⟨v, hv, hs⟩
  · have := List.length_filter_le (fun h => decide (Rch ps x many h)) (List.range many)
    rw [List.length_range] at this
    have g : many + 1 ≤ ((List.range many).filter fun h => decide (Rch ps x many h)).length := g
    omega
  · have stay : ∀ T h, h < many → Rch ps x T h → Rch ps x v h := by
      intro T
      induction T with
      | zero => exact fun h _ r => Rch.mono (Nat.zero_le _) r
      | succ T ih =>
        intro h hh r
        rcases r with r | ⟨y, hy, r⟩
        · exact ih h hh r
        · exact hs h hh (Or.inr ⟨y, hy, ih y (hps _ hy).1 r⟩)
    have hh : h < many := by
      cases u with
      | here => exact hx
      | step _ e => exact (hps _ e).2
    obtain ⟨T, r⟩ := u.rch
    exact Rch.mono hv (stay T h hh r)
end
/-! ### _law_closed -/
def prD (p : Nat × Nat) : D := .tuple [.int (p.1 : Nat), .int (p.2 : Nat)]
abbrev tnD (ns : List Nat) : D := .tuple (nsD ns)
abbrev lnD (ns : List Nat) : D := .list (nsD ns)
/-- rows of numbers -/
abbrev ordD (rs : List (List Nat)) : D := .tuple (rs.map tnD)
structure Closed (many : Nat) (ps : List (Nat × Nat)) (rs : List (List Nat)) : Prop where
  len : rs.length = many
  is : ∀ h, h < many → ∀ x, x ∈ rs.getD h [] ↔ x < many ∧ Up ps x h
  nd : ∀ h, h < many → (rs.getD h []).Pairwise (· < ·)
abbrev A_closed : Nat × List (Nat × Nat) → List D := fun a => [.int (a.1 : Nat), .list (a.2.map prD)]
def P_closed : Nat × List (Nat × Nat) → Prop := fun a => a.1 ≤ 100 ∧ a.2.length ≤ 1000 ∧ ∀ p ∈ a.2, p.1 < a.1 ∧ p.2 < a.1
def R_closed : Nat × List (Nat × Nat) → D → Prop := fun a d => ∃ rs, d = ordD rs ∧ Closed a.1 a.2 rs
structure Rnd (many : Nat) (ps : List (Nat × Nat)) (rs : List (List Nat)) : Prop where
  len : rs.length = many
  up : ∀ h, h < many → ∀ x ∈ rs.getD h [], x < many ∧ Up ps x h
  nd : ∀ h, h < many → (rs.getD h []).Pairwise (· < ·)
def Full (many t : Nat) (ps : List (Nat × Nat)) (rs : List (List Nat)) : Prop := ∀ h, h < many → ∀ x, x < many → Rch ps x t h → x ∈ rs.getD h []
theorem getD_set {α : Type} {xs : List α} {i j : Nat} {y d : α} (hi : i < xs.length) : (xs.set i y).getD j d = if i = j then y else xs.getD j d := by
  rw [List.getD_eq_getElem?_getD, List.getD_eq_getElem?_getD]
  by_cases h : i = j
  · subst h
    rw [List.getElem?_set_self hi, if_pos rfl]
    rfl
  · rw [List.getElem?_set_ne h, if_neg h]
theorem getD_at {α : Type} {xs : List α} {i : Nat} {d : α} (hi : i < xs.length) : xs[i]? = some (xs.getD i d) := by
  rw [List.getD_eq_getElem?_getD, List.getElem?_eq_getElem hi]
  rfl
theorem nd_le {xs : List Nat} (h : xs.Pairwise (· < ·)) : xs.Nodup := h.imp fun h => by omega
theorem le_nd {xs : List Nat} (h : xs.Pairwise (· ≤ ·)) (n : xs.Nodup) : xs.Pairwise (· < ·) := by
  have := h.and n
  exact this.imp fun ⟨h1, h2⟩ => by omega
theorem up_len : ∀ {xs : List Nat} {lo hi : Nat}, xs.Pairwise (· < ·) → (∀ x ∈ xs, lo ≤ x ∧ x < hi) → xs.length ≤ hi - lo
  | [], _, _, _, _ => Nat.zero_le _
  | x :: xs, lo, hi, h, k => by
    rw [List.pairwise_cons] at h
    have h1 := k x (List.mem_cons_self ..)
    have := up_len (xs := xs) (lo := x + 1) (hi := hi) h.2 fun y hy => ⟨h.1 y hy, (k y (List.mem_cons_of_mem _ hy)).2⟩
    rw [List.length_cons]
    omega
theorem rnd_set {many : Nat} {ps : List (Nat × Nat)} {rs : List (List Nat)} {lo hi : Nat} {ms : List Nat} (hr : Rnd many ps rs) (hl : lo < many) (hh : hi < many) (hp : (lo, hi) ∈ ps)
    (hm : ms.Perm (rs.getD hi [] ++ (rs.getD lo []).filter fun x => !(rs.getD hi []).contains x)) (hs : ms.Pairwise (· ≤ ·)) : Rnd many ps (rs.set hi ms) ∧ (∀ h, h < many → ∀ x ∈ rs.getD h [], x ∈ (rs.set hi ms).getD h []) ∧ ∀ x ∈ rs.getD lo [], x ∈ (rs.set hi ms).getD hi [] := by
  have hlen := hr.len
  have hset : ∀ j, (rs.set hi ms).getD j [] = if hi = j then ms else rs.getD j [] := fun j => getD_set (by omega)
  have nd : ms.Nodup := by
    refine hm.nodup_iff.mpr ?_
    refine List.nodup_append.mpr ⟨nd_le (hr.nd hi hh), (nd_le (hr.nd lo hl)).filter _, fun a ha b hb e => ?_⟩
    subst e
    have := (List.mem_filter.mp hb).2
    simp at this
    exact this ha
  refine ⟨⟨by rw [List.length_set]; exact hlen, fun h hm2 x hx => ?_, fun h hm2 => ?_⟩, fun h hm2 x hx => ?_, fun x hx => ?_⟩
  · rw [hset] at hx
    by_cases e : hi = h
    · rw [if_pos e] at hx
      subst e
      rcases List.mem_append.mp (hm.mem_iff.mp hx) with hx | hx
      · exact hr.up _ hh x hx
      · have := hr.up _ hl x (List.mem_filter.mp hx).1
        exact ⟨this.1, .step this.2 hp⟩
    · rw [if_neg e] at hx
      exact hr.up h hm2 x hx
  · rw [hset]
    by_cases e : hi = h
    · rw [if_pos e]
      exact le_nd hs nd
    · rw [if_neg e]
      exact hr.nd h hm2
  · rw [hset]
    by_cases e : hi = h
    · rw [if_pos e]
      subst e
      exact hm.mem_iff.mpr (List.mem_append_left _ hx)
    · rw [if_neg e]
      exact hx
  · rw [hset, if_pos rfl]
    refine hm.mem_iff.mpr ?_
    by_cases e : (rs.getD hi []).contains x = true
    · exact List.mem_append_left _ (by simpa using e)
    · exact List.mem_append_right _ (List.mem_filter.mpr ⟨hx, by rw [Bool.eq_false_iff.mpr e]; rfl⟩)
def t_closed (K : PySem.W.Frag) : TS :=
  tSeq (tAsg (tLc (iRng1 (tCons (tVar 0) tNil)) (gName 3) tYes (tLst (tCons (tVar 3) tNil)) [3]) (gName 2))
  (tSeq (tFor (iRng1 (tCons (tVar 0) tNil)) (gName 4) (tFor (iAny K (tVar 1)) (gTup K 2 (gCons (gName 5) (gCons (gName 6) gNil))) (tAsg (tCB (rSortedI K) (tCons (tOp (rAddA K) (tOp (rIx K) (tVar 2) (tVar 6)) (tLc (iAny K (tOp (rIx K) (tVar 2) (tVar 5))) (gName 7) (tTest (tOp (rNotInA K) (tVar 7) (tOp (rIx K) (tVar 2) (tVar 6)))) (tVar 7) [7])) tNil)) (gSub (tVar 2) (tVar 6) rSetL))))
  (tRet (tCB (rTup K) (tCons (tLc (iAny K (tVar 2)) (gName 8) tYes (tCB (rTup K) (tCons (tVar 8) tNil)) [8]) tNil))))
theorem vs_closed {C : Cn} {a : Nat × List (Nat × Nat)} (hP : P_closed a) : VS C (t_closed C.K) (slots (A_closed a) 7) { nx := fun _ => R_closed a .none, rt := R_closed a } := by
  obtain ⟨many, ps⟩ := a
  obtain ⟨h1, h2, h3⟩ := hP
  have h1 : many ≤ 100 := h1
  have h2 : ps.length ≤ 1000 := h2
  have h3 : ∀ p ∈ ps, p.1 < many ∧ p.2 < many := h3
  have hst : VL C (tLc (iRng1 (tCons (tVar 0) tNil)) (gName 3) tYes (tLst (tCons (tVar 3) tNil)) [3]) (slots (A_closed (many, ps)) 7) (Is (((List.range many).map fun i => [i]).map lnD)) :=
    (vl_mapM (m := fun (i : Nat) => PyData.int (i : Nat)) (fun i => lnD [i]) (vi_rngM (ve_var rfl) (by omega)) (by rw [List.length_range]; omega) fun i hi => ⟨_, _, vg_name, fun j hj => hj, (vl_lstD (va_consD (ve_var rfl) va_nil)).ed⟩).to (by rw [List.map_map]; rfl)
  refine vq_ownD hst ?_
  have r0 : Rnd many ps ((List.range many).map fun i => [i]) ∧ Full many 0 ps ((List.range many).map fun i => [i]) := by
    have hg : ∀ h, h < many → ((List.range many).map fun i => [i]).getD h [] = [h] := fun h hh => by
      rw [List.getD_eq_getElem?_getD, List.getElem?_map, List.getElem?_range hh]
      rfl
    refine ⟨⟨by rw [List.length_map, List.length_range], fun h hh x hx => ?_, fun h hh => ?_⟩, fun h hh x hx r => ?_⟩
    · rw [hg h hh] at hx
      rw [List.mem_singleton.mp hx]
      exact ⟨hh, .here _⟩
    · rw [hg h hh]
      exact List.pairwise_singleton _ _
    · rw [hg h hh]
      cases r
      exact List.mem_singleton.mpr rfl
  refine vs_seq (fun Γ => ∃ rs s4 s5 s6 s7, Γ = [.dat (.int (many : Nat)), .dat (.list (ps.map prD)), .own (rs.map lnD), .no, s4, s5, s6, s7, .no] ∧ Rnd many ps rs ∧ Full many many ps rs) ?_ ?_
  · refine vs_for (vi_rngM (n := many) (ve_var rfl) (by omega)) fun ds e => ?_
    cases e
    refine ⟨fun t Γ => ∃ rs s4 s5 s6 s7, Γ = [.dat (.int (many : Nat)), .dat (.list (ps.map prD)), .own (rs.map lnD), .no, s4, s5, s6, s7, .no] ∧ Rnd many ps rs ∧ Full many t ps rs, ⟨_, _, _, _, _, rfl, r0.1, r0.2⟩, ?_, fun Γ' h => ?_⟩
    · rintro t d Γ' _ ⟨rs0, s4, s5, s6, s7, rfl, hr0, hf0⟩
      refine ⟨_, _, vg_name, ?_⟩
      refine vs_for (va_listD (ds := ps.map prD) (ve_var rfl)) fun ds e => ?_
      cases e
      refine ⟨fun j Γ => ∃ rs s5 s6 s7, Γ = [.dat (.int (many : Nat)), .dat (.list (ps.map prD)), .own (rs.map lnD), .no, .dat d, s5, s6, s7, .no] ∧ Rnd many ps rs ∧ (∀ h, h < many → ∀ x ∈ rs0.getD h [], x ∈ rs.getD h []) ∧ ∀ i, i < j → ∀ lo hi, ps[i]? = some (lo, hi) → ∀ x ∈ rs0.getD lo [], x ∈ rs.getD hi [],
        ⟨rs0, _, _, _, rfl, hr0, fun _ _ _ h => h, fun i hi => by omega⟩, ?_, fun Γ' h => ?_⟩
      · rintro j d' Γ' hd ⟨rs, s5, s6, s7, rfl, hr, hk, hj⟩
        rw [List.getElem?_map] at hd
        obtain ⟨⟨lo, hi⟩, hp, rfl⟩ := Option.map_eq_some_iff.mp hd
        have hmem := List.mem_of_getElem? hp
        obtain ⟨hlo, hhi⟩ := h3 _ hmem
        have hlo : lo < many := hlo
        have hhi : hi < many := hhi
        have hlen := hr.len
        refine ⟨_, _, vg_tup2 vg_name vg_name, ?_⟩
        have at2 : ∀ {Γ : List Sl} {te : TE} {k : Nat}, k < many → Γ[2]? = some (.own (rs.map lnD)) → VE C te Γ (Is (.int (k : Nat))) → VE C (tOp (rIx C.K) (tVar 2) te) Γ (Is (lnD (rs.getD k []))) := fun {Γ te k} hk h2 ht =>
          ve_opD (vv_own h2) ht.v (od_ixL (atI_pos (by rw [List.getElem?_map, getD_at (d := []) (by omega)]; rfl)))
        have hsz : ∀ k, k < many → (rs.getD k []).length ≤ 100 := fun k hk => by
          have := up_len (hr.nd k hk) (lo := 0) (hi := many) fun x hx => ⟨Nat.zero_le _, (hr.up k hk x hx).1⟩
          omega
        have z1 := hsz hi hhi
        have z2 := hsz lo hlo
        have zf := List.length_filter_le (fun x => !(rs.getD hi []).contains x) (rs.getD lo [])
        refine vs_setAt (i := 2) (k := hi) (z := (hi : Int)) rfl (vl_sortedN (ns := rs.getD hi [] ++ (rs.getD lo []).filter fun x => !(rs.getD hi []).contains x) ?_).e (ve_var rfl) ?_ ?_
        · refine ((vl_opD (at2 hhi rfl (ve_var rfl)).v (vl_lcM (m := fun n : Nat => PyData.int (n : Nat)) (fun x => !(rs.getD hi []).contains x) (fun n => .int (n : Nat)) (va_listD (at2 hlo rfl (ve_var rfl))) (by omega) fun x hx => ⟨_, _, vg_name, fun j hj => hj, ?_, fun _ => ve_var rfl⟩).vd (ol_cat ?_)).to ?_).vd
          · exact vt_testD ((ve_opD (ve_var rfl).v (at2 hhi rfl (ve_var rfl)).v (od_notinL rfl (shaped_ns _))).to (congrArg (fun b => PyData.bool (!b)) (any_ints _ x)))
          · rw [List.length_map, List.length_map]
            omega
          · exact List.map_append.symm
        · rw [List.length_map, hlen]
          unfold ixN
          rw [if_pos (by omega), if_pos (by omega)]
          rfl
        · rintro d ⟨ds, rfl, ms, rfl, hm, hs⟩
          obtain ⟨g1, g2, g3⟩ := rnd_set hr hlo hhi hmem hm hs
          refine ⟨rs.set hi ms, .dat (.int (lo : Nat)), .dat (.int (hi : Nat)), s7, ?_, g1, fun h hh x hx => g2 h hh x (hk h hh x hx), fun i hi' lo' hi2 hpi x hx => ?_⟩
          · rw [List.map_set]
            rfl
          · by_cases e : i = j
            · subst e
              rw [hp] at hpi
              injection hpi with hpi
              injection hpi with e1 e2
              subst e1 e2
              exact g3 x (hk lo hlo x hx)
            · exact g2 hi2 (h3 _ (List.mem_of_getElem? hpi)).2 x (hj i (by omega) lo' hi2 hpi x hx)
      · rw [List.length_map] at h
        obtain ⟨rs, s5, s6, s7, rfl, hr, hk, hj⟩ := h
        refine ⟨rs, _, _, _, _, rfl, hr, fun h hh x hx r => ?_⟩
        rcases r with r | ⟨y, hy, r⟩
        · exact hk h hh x (hf0 h hh x hx r)
        · obtain ⟨i, hi, he⟩ := List.getElem_of_mem hy
          exact hj i hi y h (by rw [List.getElem?_eq_getElem hi, he]) x (hf0 y (h3 _ hy).1 x hx r)
    · rw [List.length_map, List.length_range] at h
      exact h
  · rintro Γ ⟨rs, s4, s5, s6, s7, rfl, hr, hf⟩
    refine vs_freeze 2 rfl ?_
    refine vs_retD (ve_tupL (vl_mapM (m := lnD) (xs := rs) tnD (va_listD (ve_var rfl)) (by rw [hr.len]; omega) fun r hr => ⟨_, _, vg_name, fun j hj => hj, ve_tupL (ve_var rfl).v⟩).vd) ?_
    exact ⟨rs, rfl, hr.len, fun h hh x => ⟨hr.up h hh x, fun ⟨hx, u⟩ => hf h hh x hx (u.many h3 hx)⟩, hr.nd⟩
end Ly

/-! LyS: calls with arguments of which only something is known, checks of small data, numbers drawn. -/
namespace Ly
open PySem PySem.Spec PyProof.Rows L2

theorem A2.map {α β γ : Type} {R : α → β → Prop} {f : γ → β} {Q : γ → Prop} (h : ∀ a b, R a b → ∃ p, b = f p ∧ Q p) : ∀ {as : List α} {bs : List β}, A2 R as bs → ∃ ps : List γ, bs = ps.map f ∧ ps.length = as.length ∧ ∀ p ∈ ps, Q p
  | _, _, .nil => ⟨[], rfl, rfl, fun _ h => nomatch h⟩
  | _, _, .cons r t => by
    obtain ⟨p, rfl, hp⟩ := h _ _ r
    obtain ⟨ps, rfl, hl, hq⟩ := A2.map h t
    refine ⟨p :: ps, rfl, congrArg (· + 1) hl, fun z hz => ?_⟩
    rcases List.mem_cons.mp hz with rfl | hz
    · exact hp
    · exact hq z hz
section
variable {C : Cn} {A : TA} {Γ : List Sl} {α : Type} {g : α → List D} {P : α → Prop} {R : α → D → Prop} {R' : D → Prop} {S : List D → Prop} {E : XK} {i : Nat} {te : TE}
theorem ve_callAx (h : VA C A Γ S) (k : ∀ ds, S ds → ∃ a, ds = g a ∧ P a ∧ ∀ d, R a d → R' d) : VE C (tCallK (Pa C.K g P R) (fun vs _ => vs) E A tNil) Γ R' := fun B H σ F Q q =>
  h B H σ F _ fun ds vs B1 H1 e1 s1 k1 => by
    obtain ⟨a, rfl, hP, hR⟩ := k ds e1
    exact ⟨a, hP, B1, g a, (F.step s1).sub, k1, rfl, fun d v B3 H3 r3 s3 k3 => q d v B3 H3 (hR d r3) (s1.trans F.dlNow s3.any) k3⟩
/-- two arguments: the first told -/
theorem ve_call2x {ta tb : TE} {x : D} {Rb : D → Prop} (h1 : VE C ta Γ (Is x)) (h2 : VE C tb Γ Rb) (k : ∀ y, Rb y → ∃ a, [x, y] = g a ∧ P a ∧ ∀ d, R a d → R' d) : VE C (tCallK (Pa C.K g P R) (fun vs _ => vs) E (tCons ta (tCons tb tNil)) tNil) Γ R' :=
  ve_callAx (va_cons h1 (va_cons h2 va_nil)) fun ds ⟨a, as, e1, ea, b, bs, e2, eb, e3⟩ => by
    cases ea
    cases e3
    subst e1 e2
    exact k b eb
theorem ve_anyN {n : Nat} (h0 : Γ[i]? = some .deal) (h : VE C te Γ (Is (.int (n : Nat)))) (hn : 0 < n) (hm : n < 1000000000000) : VE C (tCallK (De C.K P_any R_any) (fun vs _ => vs) E (tCons (tVar i) (tCons te tNil)) tNil) Γ (fun d => ∃ r : Nat, d = .int (r : Nat) ∧ r < n) :=
  (ve_anyI h0 h (by omega) (by omega)).imp fun d ⟨r, e, h0, h1⟩ => by
    obtain ⟨m, rfl⟩ := Int.eq_ofNat_of_zero_le h0
    exact ⟨m, e, by omega⟩
theorem vt_anyGt {b z : Int} (h0 : Γ[i]? = some .deal) (hb : 0 < b) (hm : b < 1000000000000) : VT C (tTest (tOp (rI0 fun i j => .bl (decide (j < i))) (tCallK (De C.K P_any R_any) (fun vs _ => vs) E (tCons (tVar i) (tCons (tC (.int b)) tNil)) tNil) (tC (.int z)))) Γ (fun _ => True) :=
  vt_test (ve_op (ve_anyI h0 ve_int hb hm).v (Rb := Is (.int z)) ve_int.v fun x y ⟨r, ex, _, _⟩ ey => by
    subst ex ey
    exact od_gt.imp fun d e => ⟨_, e, trivial⟩)
/-- one of a told list -/
theorem ve_ofL {ds : List D} (h0 : Γ[i]? = some .deal) (h : VE C te Γ (Is (.list ds))) (hn : ds ≠ []) (hm : ds.length ≤ 100000) : VE C (tCallK (De C.K P_of R_of) (fun vs _ => vs) E (tCons (tVar i) (tCons te tNil)) tNil) Γ (fun d => d ∈ ds) :=
  (ve_deD h0 (va_consD h va_nil) ⟨ds, Or.inl rfl, hn, hm⟩).imp fun d r => r _ (Or.inl rfl)
/-- tuple of a list of which something is known -/
theorem ve_tupX {S : List D → Prop} (h : VL C te Γ S) : VE C (tCB (rTup C.K) (tCons te tNil)) Γ (fun d => ∃ ds, d = .tuple ds ∧ S ds) := ve_tupN h.v
end
theorem range_ns (n : Nat) : Ly.upTo 0 ((n : Int)).toNat = nsD (List.range n) := by
  unfold Ly.upTo
  rw [Int.toNat_natCast]
  refine List.map_congr_left fun i _ => ?_
  show PyData.int (0 + (i : Nat)) = _
  rw [Int.zero_add]
/-- small data, by a check -/
def smB (d : D) (k n : Nat) : Bool := d.canLay0 && (d.showable && (d.leavesShort 13 && (decide (d.depth ≤ k) && decide (d.weight ≤ n))))
theorem smB_is {d : D} {k n : Nat} (h : smB d k n = true) : Sm d k n := by
  unfold smB at h
  simp only [Bool.and_eq_true, decide_eq_true_eq] at h
  exact ⟨h.1, h.2.1, h.2.2.1, h.2.2.2.1, h.2.2.2.2⟩
theorem sm_ns {ns : List Nat} {m : Nat} (h : ∀ x ∈ ns, x < 1000000000000) (hl : ns.length ≤ m) {n : Nat} (hn : m * 42 ≤ n := by decide) : SmA (nsD ns) 0 n := by
  have : SmA (nsD ns) 0 ((nsD ns).length * (41 + 1)) := SmA.of fun d hd => by
    obtain ⟨x, hx, rfl⟩ := List.mem_map.mp hd
    have := h x hx
    exact sm_int (by rw [Int.natAbs_natCast]; omega)
  refine this.monoW ?_
  rw [List.length_map]
  omega
/-- rows of numbers, at most m of at most l -/
theorem sm_ord {rs : List (List Nat)} {m l : Nat} (h : ∀ r ∈ rs, r.length ≤ l ∧ ∀ x ∈ r, x < 1000000000000) (hm : rs.length ≤ m) {n : Nat} (hn : m * (l * 42 + 1) ≤ n := by decide) : Sm (ordD rs) 2 n := by
  refine Sm.tup ((SmA.of (k := 1) (n := l * 42) fun d hd => ?_).monoW ?_)
  · obtain ⟨r, hr, rfl⟩ := List.mem_map.mp hd
    exact Sm.tup (sm_ns (h r hr).2 (h r hr).1 (Nat.le_refl _))
  · rw [List.length_map]
    exact Nat.le_trans (Nat.mul_le_mul_right _ hm) hn
end Ly

namespace K04
open PySem PySem.Spec PyProof.Rows L2 Ly
abbrev P__law_any := Ly.P_any
abbrev R__law_any := Ly.R_any
abbrev P__law_of := Ly.P_of
abbrev R__law_of := Ly.R_of
abbrev P__law_mixed := Ly.Pm
abbrev R__law_mixed := Ly.R_mixed
abbrev P_is_integer := Ly.P_is1
abbrev R_is_integer := Ly.R_isInt
abbrev P_is_number := Ly.P_is1
abbrev R_is_number := Ly.R_isNum
abbrev P_is_index := Ly.P_isIdx
abbrev R_is_index := Ly.R_isIdx
abbrev P_is_row_of := Ly.P_isRow
abbrev R_is_row_of := Ly.R_isRow
/-! ### orders, inputs, records -/
inductive Deed where
  | out (l v : Nat)
  | fin (t : Nat)
def deedD : Deed → D
  | .out l v => .tuple [.str "out", .int (l : Nat), .int (v : Nat)]
  | .fin t => .tuple [.str "end", .int (t : Nat)]
def evD (p : Nat × Deed) : D := .tuple [.int (p.1 : Nat), deedD p.2]
abbrev recD (r : List (Nat × Deed)) : D := .tuple (r.map evD)
def allNum : D → Bool
  | .tuple ys => ys.all isNum
  | _ => false
def inputOk (n : Nat) : D → Bool
  | .tuple xs => (xs.length == n) && xs.all isTup && xs.all allNum
  | _ => false
def deedOk (n : Nat) : D → Bool
  | .tuple [a, b, c] => PyData.eqv a (.str "out") && (isIdx (n : Nat) b && isNum c)
  | .tuple [a, b] => PyData.eqv a (.str "end") && isNum b
  | _ => false
def evOk (n : Nat) : D → Bool
  | .tuple [t, e] => isNum t && deedOk n e
  | _ => false
def tickOf : D → Int
  | .tuple (.int t :: _) => t
  | _ => 0
def rising (xs : List D) : Bool := (List.range (xs.length - 1)).all fun i => decide (tickOf (xs.getD i .none) ≤ tickOf (xs.getD (i + 1) .none))
def recOk (n : Nat) : D → Bool
  | .tuple xs => xs.all (isRow [2]) && xs.all (evOk n) && rising xs
  | _ => false
def sees (rs ends : List (List Nat)) (level : Nat) : Deed → Bool
  | .out l _ => (rs.getD level []).contains l
  | .fin t => (ends.getD t []).all (rs.getD level []).contains
/-- rows of an order or of ends: few, short, small -/
def Rows (many : Nat) (rs : List (List Nat)) : Prop := rs.length ≤ 1000 ∧ ∀ r ∈ rs, r.length ≤ 1000 ∧ ∀ x ∈ r, x < many
def DeedIn (many threads : Nat) : Deed → Prop
  | .out l v => l < many ∧ v < 1000
  | .fin t => t < threads
abbrev A_lot_within : List (List Nat) × List Nat × Nat → List D := fun a => [ordD a.1, tnD a.2.1, .int (a.2.2 : Nat)]
def P_lot_within : List (List Nat) × List Nat × Nat → Prop := fun a => a.2.2 < a.1.length ∧ (∃ many, Rows many a.1) ∧ a.2.1.length ≤ 1000
def R_lot_within : List (List Nat) × List Nat × Nat → D → Prop := fun a d => d = .bool (a.2.1.all (a.1.getD a.2.2 []).contains)
abbrev A_is_input : List (List Nat) × D → List D := fun a => [ordD a.1, a.2]
def P_is_input : List (List Nat) × D → Prop := fun a => a.1.length ≤ 1000 ∧ Sm a.2 64 100000
def R_is_input : List (List Nat) × D → D → Prop := fun a d => d = .bool (inputOk a.1.length a.2)
abbrev A_alike_inputs : List (List Nat) × Nat × List (List Nat) × List (List Nat) → List D := fun a => [ordD a.1, .int (a.2.1 : Nat), ordD a.2.2.1, ordD a.2.2.2]
def P_alike_inputs : List (List Nat) × Nat × List (List Nat) × List (List Nat) → Prop := fun a => a.2.1 < a.1.length ∧ Rows a.1.length a.1 ∧ a.2.2.1.length = a.1.length ∧ a.2.2.2.length = a.1.length ∧ Sm (ordD a.2.2.1) 64 100000 ∧ Sm (ordD a.2.2.2) 64 100000
def R_alike_inputs : List (List Nat) × Nat × List (List Nat) × List (List Nat) → D → Prop := fun a d => d = .bool ((a.1.getD a.2.1 []).all fun l => a.2.2.1.getD l [] == a.2.2.2.getD l [])
abbrev A_is_deed : List (List Nat) × D → List D := fun a => [ordD a.1, a.2]
def P_is_deed : List (List Nat) × D → Prop := fun a => Sm a.2 64 100000
def R_is_deed : List (List Nat) × D → D → Prop := fun a d => d = .bool (deedOk a.1.length a.2)
abbrev A_is_record : List (List Nat) × D → List D := fun a => [ordD a.1, a.2]
def P_is_record : List (List Nat) × D → Prop := fun a => Sm a.2 64 100000
def R_is_record : List (List Nat) × D → D → Prop := fun a d => d = .bool (recOk a.1.length a.2)
/-- an order, ends, a level -/
structure Sight where
  rs : List (List Nat)
  ends : List (List Nat)
  level : Nat
def Sight.Ok (s : Sight) : Prop := s.level < s.rs.length ∧ Rows s.rs.length s.rs ∧ Rows s.rs.length s.ends
abbrev A_is_seen : Sight × Deed → List D := fun a => [ordD a.1.rs, .int (a.1.level : Nat), ordD a.1.ends, deedD a.2]
def P_is_seen : Sight × Deed → Prop := fun a => a.1.Ok ∧ DeedIn a.1.rs.length a.1.ends.length a.2
def R_is_seen : Sight × Deed → D → Prop := fun a d => d = .bool (sees a.1.rs a.1.ends a.1.level a.2)
abbrev A_seen : Sight × List (Nat × Deed) → List D := fun a => [ordD a.1.rs, .int (a.1.level : Nat), ordD a.1.ends, recD a.2]
def P_seen : Sight × List (Nat × Deed) → Prop := fun a => a.1.Ok ∧ a.2.length ≤ 1000 ∧ ∀ p ∈ a.2, DeedIn a.1.rs.length a.1.ends.length p.2
def R_seen : Sight × List (Nat × Deed) → D → Prop := fun a d => d = recD (a.2.filter fun p => sees a.1.rs a.1.ends a.1.level p.2)
abbrev A_cut_record : List (Nat × Deed) × Nat → List D := fun a => [recD a.1, .int (a.2 : Nat)]
def P_cut_record : List (Nat × Deed) × Nat → Prop := fun a => a.1.length ≤ 1000
def R_cut_record : List (Nat × Deed) × Nat → D → Prop := fun a d => d = recD (a.1.filter fun p => decide (p.1 < a.2))
/-! ### the law's own -/
abbrev A__law_closed := Ly.A_closed
abbrev P__law_closed := Ly.P_closed
abbrev R__law_closed := Ly.R_closed
def P__law_order (ds : List D) : Prop := ds = []
def R__law_order (ds : List D) (d : D) : Prop := ∃ rs ps, d = ordD rs ∧ Closed rs.length ps rs ∧ 1 ≤ rs.length ∧ rs.length ≤ 5
def Rec (many threads : Nat) (r : List (Nat × Deed)) : Prop := r.length ≤ 9 ∧ (∀ p ∈ r, p.1 ≤ 18 ∧ DeedIn many threads p.2) ∧ r.Pairwise fun p q => p.1 ≤ q.1
abbrev A__law_record : Nat × Nat → List D := fun a => [.int (a.1 : Nat), .int (a.2 : Nat)]
def P__law_record : Nat × Nat → Prop := fun a => 0 < a.1 ∧ 0 < a.2 ∧ a.1 ≤ 100 ∧ a.2 ≤ 100
def R__law_record : Nat × Nat → D → Prop := fun a d => ∃ r, d = recD r ∧ Rec a.1 a.2 r
abbrev A__law_seen : Sight × List (Nat × Deed) → List D := A_seen
abbrev P__law_seen : Sight × List (Nat × Deed) → Prop := P_seen
abbrev R__law_seen : Sight × List (Nat × Deed) → D → Prop := R_seen
abbrev A__law_bad_record : List (Nat × Deed) × Nat → List D := fun a => [recD a.1, .int (a.2 : Nat)]
def P__law_bad_record : List (Nat × Deed) × Nat → Prop := fun a => a.2 ≤ 100 ∧ ∃ threads, threads ≤ 100 ∧ Rec a.2 threads a.1
def R__law_bad_record : List (Nat × Deed) × Nat → D → Prop := fun a d => recOk a.2 d = false ∧ Sm d 64 100000
end K04
namespace K04
open PySem PySem.Spec PyProof.Rows L2 Ly
/-! ### the text -/
def topS (i : Nat) : Stmt := PySem.Challenge.pw_lookanyhow_k04_records_and_what_is_seen.main.body.getD i (.Pass ⟨0, 0, 0, 0⟩)
abbrev s_is_integer : Stmt := topS 1
theorem sc_is_integer : FnScope ["value"] ["value"] (defScope s_is_integer) := ⟨rfl, rfl, rfl, by decide +kernel, rfl, by decide +kernel, by decide +kernel⟩
abbrev s_is_number : Stmt := topS 2
theorem sc_is_number : FnScope ["value"] ["value"] (defScope s_is_number) := ⟨rfl, rfl, rfl, by decide +kernel, rfl, by decide +kernel, by decide +kernel⟩
abbrev s_is_index : Stmt := topS 3
theorem sc_is_index : FnScope ["value", "many"] ["value", "many"] (defScope s_is_index) := ⟨rfl, rfl, rfl, by decide +kernel, rfl, by decide +kernel, by decide +kernel⟩
abbrev s_is_row_of : Stmt := topS 4
theorem sc_is_row_of : FnScope ["value", "sizes"] ["value", "sizes"] (defScope s_is_row_of) := ⟨rfl, rfl, rfl, by decide +kernel, rfl, by decide +kernel, by decide +kernel⟩
abbrev s_lot_within : Stmt := topS 6
theorem sc_lot_within : FnScope ["order", "lot", "level", "one"] ["order", "lot", "level"] (defScope s_lot_within) := ⟨rfl, rfl, rfl, by decide +kernel, rfl, by decide +kernel, by decide +kernel⟩
abbrev s_is_input : Stmt := topS 8
theorem sc_is_input : FnScope ["order", "value", "stream", "one"] ["order", "value"] (defScope s_is_input) := ⟨rfl, rfl, rfl, by decide +kernel, rfl, by decide +kernel, by decide +kernel⟩
abbrev s_alike_inputs : Stmt := topS 9
theorem sc_alike_inputs : FnScope ["order", "level", "one", "other", "lower"] ["order", "level", "one", "other"] (defScope s_alike_inputs) := ⟨rfl, rfl, rfl, by decide +kernel, rfl, by decide +kernel, by decide +kernel⟩
abbrev s_is_deed : Stmt := topS 10
theorem sc_is_deed : FnScope ["order", "value"] ["order", "value"] (defScope s_is_deed) := ⟨rfl, rfl, rfl, by decide +kernel, rfl, by decide +kernel, by decide +kernel⟩
abbrev s_is_record : Stmt := topS 11
theorem sc_is_record : FnScope ["order", "value", "pair", "tick", "deed", "at"] ["order", "value"] (defScope s_is_record) := ⟨rfl, rfl, rfl, by decide +kernel, rfl, by decide +kernel, by decide +kernel⟩
abbrev s_is_seen : Stmt := topS 12
theorem sc_is_seen : FnScope ["order", "level", "ends", "deed"] ["order", "level", "ends", "deed"] (defScope s_is_seen) := ⟨rfl, rfl, rfl, by decide +kernel, rfl, by decide +kernel, by decide +kernel⟩
abbrev s_seen : Stmt := topS 13
theorem sc_seen : FnScope ["order", "level", "ends", "record", "pair"] ["order", "level", "ends", "record"] (defScope s_seen) := ⟨rfl, rfl, rfl, by decide +kernel, rfl, by decide +kernel, by decide +kernel⟩
abbrev s_cut_record : Stmt := topS 14
theorem sc_cut_record : FnScope ["record", "tick", "pair"] ["record", "tick"] (defScope s_cut_record) := ⟨rfl, rfl, rfl, by decide +kernel, rfl, by decide +kernel, by decide +kernel⟩
abbrev s__law_draw : Stmt := topS 16
theorem sc__law_draw : FnScope ["script", "salt", "cells", "cell", "blend"] ["script", "salt"] (defScope s__law_draw) := ⟨rfl, rfl, rfl, by decide +kernel, rfl, by decide +kernel, by decide +kernel⟩
abbrev s__law_any : Stmt := topS 17
theorem sc__law_any : FnScope ["deal", "bound", "rest"] ["deal", "bound"] (defScope s__law_any) := ⟨rfl, rfl, rfl, by decide +kernel, rfl, by decide +kernel, by decide +kernel⟩
abbrev s__law_of : Stmt := topS 18
theorem sc__law_of : FnScope ["deal", "some"] ["deal", "some"] (defScope s__law_of) := ⟨rfl, rfl, rfl, by decide +kernel, rfl, by decide +kernel, by decide +kernel⟩
abbrev s__law_mixed : Stmt := topS 19
theorem sc__law_mixed : FnScope ["deal", "some", "left", "found"] ["deal", "some"] (defScope s__law_mixed) := ⟨rfl, rfl, rfl, by decide +kernel, rfl, by decide +kernel, by decide +kernel⟩
abbrev s__law_closed : Stmt := topS 20
theorem sc__law_closed : FnScope ["many", "pairs", "below", "level", "turn", "low", "high", "one", "lot"] ["many", "pairs"] (defScope s__law_closed) := ⟨rfl, rfl, rfl, by decide +kernel, rfl, by decide +kernel, by decide +kernel⟩
abbrev s__law_order : Stmt := topS 21
theorem sc__law_order : FnScope ["deal", "many", "row", "pairs", "a", "b", "turn"] ["deal"] (defScope s__law_order) := ⟨rfl, rfl, rfl, by decide +kernel, rfl, by decide +kernel, by decide +kernel⟩
abbrev s__law_record : Stmt := topS 22
theorem sc__law_record : FnScope ["deal", "many", "threads", "found", "tick", "turn", "deed"] ["deal", "many", "threads"] (defScope s__law_record) := ⟨rfl, rfl, rfl, by decide +kernel, rfl, by decide +kernel, by decide +kernel⟩
abbrev s__law_seen : Stmt := topS 23
theorem sc__law_seen : FnScope ["order", "level", "ends", "record", "found", "tick", "deed", "lot", "one"] ["order", "level", "ends", "record"] (defScope s__law_seen) := ⟨rfl, rfl, rfl, by decide +kernel, rfl, by decide +kernel, by decide +kernel⟩
abbrev s__law_bad_record : Stmt := topS 24
theorem sc__law_bad_record : FnScope ["deal", "record", "many", "at", "odd", "late"] ["deal", "record", "many"] (defScope s__law_bad_record) := ⟨rfl, rfl, rfl, by decide +kernel, rfl, by decide +kernel, by decide +kernel⟩
abbrev s_law : Stmt := topS 25
theorem sc_law : FnScope ["script", "deal", "order", "many", "threads", "one", "turn", "level", "other", "stream", "record", "ends", "thread", "bad", "tick", "cut", "pair", "due", "spot", "sight", "lower"] ["script"] (defScope s_law) := ⟨rfl, rfl, rfl, by decide +kernel, rfl, by decide +kernel, by decide +kernel⟩
/-! ### what stands behind the top -/
structure Top (K : PySem.W.Frag) (mg : Str → Option Value) where
  f_is_integer : Addr
  fd_is_integer : FuncData
  F_is_integer : Fun K "is_integer" "is_integer" s_is_integer f_is_integer fd_is_integer
  g_is_integer : mg "is_integer" = some (.ref f_is_integer)
  f_is_number : Addr
  fd_is_number : FuncData
  F_is_number : Fun K "is_number" "is_number" s_is_number f_is_number fd_is_number
  g_is_number : mg "is_number" = some (.ref f_is_number)
  f_is_index : Addr
  fd_is_index : FuncData
  F_is_index : Fun K "is_index" "is_index" s_is_index f_is_index fd_is_index
  g_is_index : mg "is_index" = some (.ref f_is_index)
  f_is_row_of : Addr
  fd_is_row_of : FuncData
  F_is_row_of : Fun K "is_row_of" "is_row_of" s_is_row_of f_is_row_of fd_is_row_of
  g_is_row_of : mg "is_row_of" = some (.ref f_is_row_of)
  f_lot_within : Addr
  fd_lot_within : FuncData
  F_lot_within : Fun K "lot_within" "lot_within" s_lot_within f_lot_within fd_lot_within
  g_lot_within : mg "lot_within" = some (.ref f_lot_within)
  f_is_input : Addr
  fd_is_input : FuncData
  F_is_input : Fun K "is_input" "is_input" s_is_input f_is_input fd_is_input
  g_is_input : mg "is_input" = some (.ref f_is_input)
  f_alike_inputs : Addr
  fd_alike_inputs : FuncData
  F_alike_inputs : Fun K "alike_inputs" "alike_inputs" s_alike_inputs f_alike_inputs fd_alike_inputs
  g_alike_inputs : mg "alike_inputs" = some (.ref f_alike_inputs)
  f_is_deed : Addr
  fd_is_deed : FuncData
  F_is_deed : Fun K "is_deed" "is_deed" s_is_deed f_is_deed fd_is_deed
  g_is_deed : mg "is_deed" = some (.ref f_is_deed)
  f_is_record : Addr
  fd_is_record : FuncData
  F_is_record : Fun K "is_record" "is_record" s_is_record f_is_record fd_is_record
  g_is_record : mg "is_record" = some (.ref f_is_record)
  f_is_seen : Addr
  fd_is_seen : FuncData
  F_is_seen : Fun K "is_seen" "is_seen" s_is_seen f_is_seen fd_is_seen
  g_is_seen : mg "is_seen" = some (.ref f_is_seen)
  f_seen : Addr
  fd_seen : FuncData
  F_seen : Fun K "seen" "seen" s_seen f_seen fd_seen
  g_seen : mg "seen" = some (.ref f_seen)
  f_cut_record : Addr
  fd_cut_record : FuncData
  F_cut_record : Fun K "cut_record" "cut_record" s_cut_record f_cut_record fd_cut_record
  g_cut_record : mg "cut_record" = some (.ref f_cut_record)
  f__law_draw : Addr
  fd__law_draw : FuncData
  F__law_draw : Fun K "_law_draw" "_law_draw" s__law_draw f__law_draw fd__law_draw
  g__law_draw : mg "_law_draw" = some (.ref f__law_draw)
  f__law_any : Addr
  fd__law_any : FuncData
  F__law_any : Fun K "_law_any" "_law_any" s__law_any f__law_any fd__law_any
  g__law_any : mg "_law_any" = some (.ref f__law_any)
  f__law_of : Addr
  fd__law_of : FuncData
  F__law_of : Fun K "_law_of" "_law_of" s__law_of f__law_of fd__law_of
  g__law_of : mg "_law_of" = some (.ref f__law_of)
  f__law_mixed : Addr
  fd__law_mixed : FuncData
  F__law_mixed : Fun K "_law_mixed" "_law_mixed" s__law_mixed f__law_mixed fd__law_mixed
  g__law_mixed : mg "_law_mixed" = some (.ref f__law_mixed)
  f__law_closed : Addr
  fd__law_closed : FuncData
  F__law_closed : Fun K "_law_closed" "_law_closed" s__law_closed f__law_closed fd__law_closed
  g__law_closed : mg "_law_closed" = some (.ref f__law_closed)
  f__law_order : Addr
  fd__law_order : FuncData
  F__law_order : Fun K "_law_order" "_law_order" s__law_order f__law_order fd__law_order
  g__law_order : mg "_law_order" = some (.ref f__law_order)
  f__law_record : Addr
  fd__law_record : FuncData
  F__law_record : Fun K "_law_record" "_law_record" s__law_record f__law_record fd__law_record
  g__law_record : mg "_law_record" = some (.ref f__law_record)
  f__law_seen : Addr
  fd__law_seen : FuncData
  F__law_seen : Fun K "_law_seen" "_law_seen" s__law_seen f__law_seen fd__law_seen
  g__law_seen : mg "_law_seen" = some (.ref f__law_seen)
  f__law_bad_record : Addr
  fd__law_bad_record : FuncData
  F__law_bad_record : Fun K "_law_bad_record" "_law_bad_record" s__law_bad_record f__law_bad_record fd__law_bad_record
  g__law_bad_record : mg "_law_bad_record" = some (.ref f__law_bad_record)
  f_law : Addr
  fd_law : FuncData
  F_law : Fun K "law" "law" s_law f_law fd_law
  g_law : mg "law" = some (.ref f_law)
  n_isinstance : mg "isinstance" = none
  n_bool : mg "bool" = none
  n_int : mg "int" = none
  n_len : mg "len" = none
  n_tuple : mg "tuple" = none
  n_all : mg "all" = none
  n_range : mg "range" = none
  n_abs : mg "abs" = none
  n_list : mg "list" = none
  n_sorted : mg "sorted" = none
  n_max : mg "max" = none
  n_min : mg "min" = none
  n_repr : mg "repr" = none
section
variable {K : PySem.W.Frag} {f : Addr} {fd : FuncData}
theorem b_is_integer (F : Fun K "is_integer" "is_integer" s_is_integer f fd) : KBinds K fd ["value"] [] (fun us _ => us) (fun vs _ => vs) := binds_pos F fun _ _ _ _ _ _ us hl => match us, hl with | [_], _ => rfl
theorem b_is_number (F : Fun K "is_number" "is_number" s_is_number f fd) : KBinds K fd ["value"] [] (fun us _ => us) (fun vs _ => vs) := binds_pos F fun _ _ _ _ _ _ us hl => match us, hl with | [_], _ => rfl
theorem b_is_index (F : Fun K "is_index" "is_index" s_is_index f fd) : KBinds K fd ["value", "many"] [] (fun us _ => us) (fun vs _ => vs) := binds_pos F fun _ _ _ _ _ _ us hl => match us, hl with | [_, _], _ => rfl
theorem b_is_row_of (F : Fun K "is_row_of" "is_row_of" s_is_row_of f fd) : KBinds K fd ["value", "sizes"] [] (fun us _ => us) (fun vs _ => vs) := binds_pos F fun _ _ _ _ _ _ us hl => match us, hl with | [_, _], _ => rfl
theorem b_lot_within (F : Fun K "lot_within" "lot_within" s_lot_within f fd) : KBinds K fd ["order", "lot", "level"] [] (fun us _ => us) (fun vs _ => vs) := binds_pos F fun _ _ _ _ _ _ us hl => match us, hl with | [_, _, _], _ => rfl
theorem b_is_input (F : Fun K "is_input" "is_input" s_is_input f fd) : KBinds K fd ["order", "value"] [] (fun us _ => us) (fun vs _ => vs) := binds_pos F fun _ _ _ _ _ _ us hl => match us, hl with | [_, _], _ => rfl
theorem b_alike_inputs (F : Fun K "alike_inputs" "alike_inputs" s_alike_inputs f fd) : KBinds K fd ["order", "level", "one", "other"] [] (fun us _ => us) (fun vs _ => vs) := binds_pos F fun _ _ _ _ _ _ us hl => match us, hl with | [_, _, _, _], _ => rfl
theorem b_is_deed (F : Fun K "is_deed" "is_deed" s_is_deed f fd) : KBinds K fd ["order", "value"] [] (fun us _ => us) (fun vs _ => vs) := binds_pos F fun _ _ _ _ _ _ us hl => match us, hl with | [_, _], _ => rfl
theorem b_is_record (F : Fun K "is_record" "is_record" s_is_record f fd) : KBinds K fd ["order", "value"] [] (fun us _ => us) (fun vs _ => vs) := binds_pos F fun _ _ _ _ _ _ us hl => match us, hl with | [_, _], _ => rfl
theorem b_is_seen (F : Fun K "is_seen" "is_seen" s_is_seen f fd) : KBinds K fd ["order", "level", "ends", "deed"] [] (fun us _ => us) (fun vs _ => vs) := binds_pos F fun _ _ _ _ _ _ us hl => match us, hl with | [_, _, _, _], _ => rfl
theorem b_seen (F : Fun K "seen" "seen" s_seen f fd) : KBinds K fd ["order", "level", "ends", "record"] [] (fun us _ => us) (fun vs _ => vs) := binds_pos F fun _ _ _ _ _ _ us hl => match us, hl with | [_, _, _, _], _ => rfl
theorem b_cut_record (F : Fun K "cut_record" "cut_record" s_cut_record f fd) : KBinds K fd ["record", "tick"] [] (fun us _ => us) (fun vs _ => vs) := binds_pos F fun _ _ _ _ _ _ us hl => match us, hl with | [_, _], _ => rfl
theorem b__law_draw (F : Fun K "_law_draw" "_law_draw" s__law_draw f fd) : KBinds K fd ["script", "salt"] [] (fun us _ => us) (fun vs _ => vs) := binds_pos F fun _ _ _ _ _ _ us hl => match us, hl with | [_, _], _ => rfl
theorem b__law_any (F : Fun K "_law_any" "_law_any" s__law_any f fd) : KBinds K fd ["deal", "bound"] [] (fun us _ => us) (fun vs _ => vs) := binds_pos F fun _ _ _ _ _ _ us hl => match us, hl with | [_, _], _ => rfl
theorem b__law_of (F : Fun K "_law_of" "_law_of" s__law_of f fd) : KBinds K fd ["deal", "some"] [] (fun us _ => us) (fun vs _ => vs) := binds_pos F fun _ _ _ _ _ _ us hl => match us, hl with | [_, _], _ => rfl
theorem b__law_mixed (F : Fun K "_law_mixed" "_law_mixed" s__law_mixed f fd) : KBinds K fd ["deal", "some"] [] (fun us _ => us) (fun vs _ => vs) := binds_pos F fun _ _ _ _ _ _ us hl => match us, hl with | [_, _], _ => rfl
theorem b__law_closed (F : Fun K "_law_closed" "_law_closed" s__law_closed f fd) : KBinds K fd ["many", "pairs"] [] (fun us _ => us) (fun vs _ => vs) := binds_pos F fun _ _ _ _ _ _ us hl => match us, hl with | [_, _], _ => rfl
theorem b__law_order (F : Fun K "_law_order" "_law_order" s__law_order f fd) : KBinds K fd ["deal"] [] (fun us _ => us) (fun vs _ => vs) := binds_pos F fun _ _ _ _ _ _ us hl => match us, hl with | [_], _ => rfl
theorem b__law_record (F : Fun K "_law_record" "_law_record" s__law_record f fd) : KBinds K fd ["deal", "many", "threads"] [] (fun us _ => us) (fun vs _ => vs) := binds_pos F fun _ _ _ _ _ _ us hl => match us, hl with | [_, _, _], _ => rfl
theorem b__law_seen (F : Fun K "_law_seen" "_law_seen" s__law_seen f fd) : KBinds K fd ["order", "level", "ends", "record"] [] (fun us _ => us) (fun vs _ => vs) := binds_pos F fun _ _ _ _ _ _ us hl => match us, hl with | [_, _, _, _], _ => rfl
theorem b__law_bad_record (F : Fun K "_law_bad_record" "_law_bad_record" s__law_bad_record f fd) : KBinds K fd ["deal", "record", "many"] [] (fun us _ => us) (fun vs _ => vs) := binds_pos F fun _ _ _ _ _ _ us hl => match us, hl with | [_, _, _], _ => rfl
theorem b_law (F : Fun K "law" "law" s_law f fd) : KBinds K fd ["script"] [] (fun us _ => us) (fun vs _ => vs) := binds_pos F fun _ _ _ _ _ _ us hl => match us, hl with | [_], _ => rfl
def kf_seen_0_record_ends_level_order {α : Type} (us ws : List α) : List α := match us, ws with | [], [k0, k1, k2, k3] => [k3, k2, k1, k0] | _, _ => []
theorem kr_seen_0_record_ends_level_order {vs zs : List V} {us ws : List Value} (h1 : Vals vs us) (h2 : Vals zs ws) : Vals (kf_seen_0_record_ends_level_order vs zs) (kf_seen_0_record_ends_level_order us ws) := by
  cases h1 with
  | nil =>
    cases h2 with
    | nil => first | exact .nil | (cases h2 <;> exact .nil)
    | cons r_record h2 =>
      cases h2 with
      | nil => first | exact .nil | (cases h2 <;> exact .nil)
      | cons r_ends h2 =>
        cases h2 with
        | nil => first | exact .nil | (cases h2 <;> exact .nil)
        | cons r_level h2 =>
          cases h2 with
          | nil => first | exact .nil | (cases h2 <;> exact .nil)
          | cons r_order h2 =>
            cases h2 with
            | nil =>
              exact (.cons r_order (.cons r_level (.cons r_ends (.cons r_record .nil))))
            | cons _ _ => first | exact .nil | (cases h2 <;> exact .nil)
  | cons _ _ => first | exact .nil | (cases h2 <;> exact .nil)
theorem kd_seen_0_record_ends_level_order {H : Hp} {vs zs : List V} {us ws : List D} (h1 : DqAll K H vs us) (h2 : DqAll K H zs ws) : DqAll K H (kf_seen_0_record_ends_level_order vs zs) (kf_seen_0_record_ends_level_order us ws) := by
  cases h1 with
  | nil =>
    cases h2 with
    | nil => first | exact .nil | (cases h2 <;> exact .nil)
    | cons r_record h2 =>
      cases h2 with
      | nil => first | exact .nil | (cases h2 <;> exact .nil)
      | cons r_ends h2 =>
        cases h2 with
        | nil => first | exact .nil | (cases h2 <;> exact .nil)
        | cons r_level h2 =>
          cases h2 with
          | nil => first | exact .nil | (cases h2 <;> exact .nil)
          | cons r_order h2 =>
            cases h2 with
            | nil =>
              exact (.cons r_order (.cons r_level (.cons r_ends (.cons r_record .nil))))
            | cons _ _ => first | exact .nil | (cases h2 <;> exact .nil)
  | cons _ _ => first | exact .nil | (cases h2 <;> exact .nil)
theorem kb_seen_0_record_ends_level_order (F : Fun K "seen" "seen" s_seen f fd) : KBinds K fd ["order", "level", "ends", "record"] ["record", "ends", "level", "order"] (fun us ws => kf_seen_0_record_ends_level_order us ws) (fun vs zs => kf_seen_0_record_ends_level_order vs zs) := by
  refine binds_kw F ["record", "ends", "level", "order"] kf_seen_0_record_ends_level_order kr_seen_0_record_ends_level_order fun _ _ _ _ _ _ us ws hl => ?_
  rcases us with _ | ⟨_, us⟩ <;> rcases ws with _ | ⟨x3, _ | ⟨x2, _ | ⟨x1, _ | ⟨x0, _ | ⟨_, ws⟩⟩⟩⟩⟩ <;> first | rfl | (cases hl; done)
def kf_alike_inputs_0_other_one_level_order {α : Type} (us ws : List α) : List α := match us, ws with | [], [k0, k1, k2, k3] => [k3, k2, k1, k0] | _, _ => []
theorem kr_alike_inputs_0_other_one_level_order {vs zs : List V} {us ws : List Value} (h1 : Vals vs us) (h2 : Vals zs ws) : Vals (kf_alike_inputs_0_other_one_level_order vs zs) (kf_alike_inputs_0_other_one_level_order us ws) := by
  cases h1 with
  | nil =>
    cases h2 with
    | nil => first | exact .nil | (cases h2 <;> exact .nil)
    | cons r_other h2 =>
      cases h2 with
      | nil => first | exact .nil | (cases h2 <;> exact .nil)
      | cons r_one h2 =>
        cases h2 with
        | nil => first | exact .nil | (cases h2 <;> exact .nil)
        | cons r_level h2 =>
          cases h2 with
          | nil => first | exact .nil | (cases h2 <;> exact .nil)
          | cons r_order h2 =>
            cases h2 with
            | nil =>
              exact (.cons r_order (.cons r_level (.cons r_one (.cons r_other .nil))))
            | cons _ _ => first | exact .nil | (cases h2 <;> exact .nil)
  | cons _ _ => first | exact .nil | (cases h2 <;> exact .nil)
theorem kd_alike_inputs_0_other_one_level_order {H : Hp} {vs zs : List V} {us ws : List D} (h1 : DqAll K H vs us) (h2 : DqAll K H zs ws) : DqAll K H (kf_alike_inputs_0_other_one_level_order vs zs) (kf_alike_inputs_0_other_one_level_order us ws) := by
  cases h1 with
  | nil =>
    cases h2 with
    | nil => first | exact .nil | (cases h2 <;> exact .nil)
    | cons r_other h2 =>
      cases h2 with
      | nil => first | exact .nil | (cases h2 <;> exact .nil)
      | cons r_one h2 =>
        cases h2 with
        | nil => first | exact .nil | (cases h2 <;> exact .nil)
        | cons r_level h2 =>
          cases h2 with
          | nil => first | exact .nil | (cases h2 <;> exact .nil)
          | cons r_order h2 =>
            cases h2 with
            | nil =>
              exact (.cons r_order (.cons r_level (.cons r_one (.cons r_other .nil))))
            | cons _ _ => first | exact .nil | (cases h2 <;> exact .nil)
  | cons _ _ => first | exact .nil | (cases h2 <;> exact .nil)
theorem kb_alike_inputs_0_other_one_level_order (F : Fun K "alike_inputs" "alike_inputs" s_alike_inputs f fd) : KBinds K fd ["order", "level", "one", "other"] ["other", "one", "level", "order"] (fun us ws => kf_alike_inputs_0_other_one_level_order us ws) (fun vs zs => kf_alike_inputs_0_other_one_level_order vs zs) := by
  refine binds_kw F ["other", "one", "level", "order"] kf_alike_inputs_0_other_one_level_order kr_alike_inputs_0_other_one_level_order fun _ _ _ _ _ _ us ws hl => ?_
  rcases us with _ | ⟨_, us⟩ <;> rcases ws with _ | ⟨x3, _ | ⟨x2, _ | ⟨x1, _ | ⟨x0, _ | ⟨_, ws⟩⟩⟩⟩⟩ <;> first | rfl | (cases hl; done)
def kf_cut_record_0_tick_record {α : Type} (us ws : List α) : List α := match us, ws with | [], [k0, k1] => [k1, k0] | _, _ => []
theorem kr_cut_record_0_tick_record {vs zs : List V} {us ws : List Value} (h1 : Vals vs us) (h2 : Vals zs ws) : Vals (kf_cut_record_0_tick_record vs zs) (kf_cut_record_0_tick_record us ws) := by
  cases h1 with
  | nil =>
    cases h2 with
    | nil => first | exact .nil | (cases h2 <;> exact .nil)
    | cons r_tick h2 =>
      cases h2 with
      | nil => first | exact .nil | (cases h2 <;> exact .nil)
      | cons r_record h2 =>
        cases h2 with
        | nil =>
          exact (.cons r_record (.cons r_tick .nil))
        | cons _ _ => first | exact .nil | (cases h2 <;> exact .nil)
  | cons _ _ => first | exact .nil | (cases h2 <;> exact .nil)
theorem kd_cut_record_0_tick_record {H : Hp} {vs zs : List V} {us ws : List D} (h1 : DqAll K H vs us) (h2 : DqAll K H zs ws) : DqAll K H (kf_cut_record_0_tick_record vs zs) (kf_cut_record_0_tick_record us ws) := by
  cases h1 with
  | nil =>
    cases h2 with
    | nil => first | exact .nil | (cases h2 <;> exact .nil)
    | cons r_tick h2 =>
      cases h2 with
      | nil => first | exact .nil | (cases h2 <;> exact .nil)
      | cons r_record h2 =>
        cases h2 with
        | nil =>
          exact (.cons r_record (.cons r_tick .nil))
        | cons _ _ => first | exact .nil | (cases h2 <;> exact .nil)
  | cons _ _ => first | exact .nil | (cases h2 <;> exact .nil)
theorem kb_cut_record_0_tick_record (F : Fun K "cut_record" "cut_record" s_cut_record f fd) : KBinds K fd ["record", "tick"] ["tick", "record"] (fun us ws => kf_cut_record_0_tick_record us ws) (fun vs zs => kf_cut_record_0_tick_record vs zs) := by
  refine binds_kw F ["tick", "record"] kf_cut_record_0_tick_record kr_cut_record_0_tick_record fun _ _ _ _ _ _ us ws hl => ?_
  rcases us with _ | ⟨_, us⟩ <;> rcases ws with _ | ⟨x1, _ | ⟨x0, _ | ⟨_, ws⟩⟩⟩ <;> first | rfl | (cases hl; done)
def kf_is_record_0_value_order {α : Type} (us ws : List α) : List α := match us, ws with | [], [k0, k1] => [k1, k0] | _, _ => []
theorem kr_is_record_0_value_order {vs zs : List V} {us ws : List Value} (h1 : Vals vs us) (h2 : Vals zs ws) : Vals (kf_is_record_0_value_order vs zs) (kf_is_record_0_value_order us ws) := by
  cases h1 with
  | nil =>
    cases h2 with
    | nil => first | exact .nil | (cases h2 <;> exact .nil)
    | cons r_value h2 =>
      cases h2 with
      | nil => first | exact .nil | (cases h2 <;> exact .nil)
      | cons r_order h2 =>
        cases h2 with
        | nil =>
          exact (.cons r_order (.cons r_value .nil))
        | cons _ _ => first | exact .nil | (cases h2 <;> exact .nil)
  | cons _ _ => first | exact .nil | (cases h2 <;> exact .nil)
theorem kd_is_record_0_value_order {H : Hp} {vs zs : List V} {us ws : List D} (h1 : DqAll K H vs us) (h2 : DqAll K H zs ws) : DqAll K H (kf_is_record_0_value_order vs zs) (kf_is_record_0_value_order us ws) := by
  cases h1 with
  | nil =>
    cases h2 with
    | nil => first | exact .nil | (cases h2 <;> exact .nil)
    | cons r_value h2 =>
      cases h2 with
      | nil => first | exact .nil | (cases h2 <;> exact .nil)
      | cons r_order h2 =>
        cases h2 with
        | nil =>
          exact (.cons r_order (.cons r_value .nil))
        | cons _ _ => first | exact .nil | (cases h2 <;> exact .nil)
  | cons _ _ => first | exact .nil | (cases h2 <;> exact .nil)
theorem kb_is_record_0_value_order (F : Fun K "is_record" "is_record" s_is_record f fd) : KBinds K fd ["order", "value"] ["value", "order"] (fun us ws => kf_is_record_0_value_order us ws) (fun vs zs => kf_is_record_0_value_order vs zs) := by
  refine binds_kw F ["value", "order"] kf_is_record_0_value_order kr_is_record_0_value_order fun _ _ _ _ _ _ us ws hl => ?_
  rcases us with _ | ⟨_, us⟩ <;> rcases ws with _ | ⟨x1, _ | ⟨x0, _ | ⟨_, ws⟩⟩⟩ <;> first | rfl | (cases hl; done)
def kf_is_input_0_value_order {α : Type} (us ws : List α) : List α := match us, ws with | [], [k0, k1] => [k1, k0] | _, _ => []
theorem kr_is_input_0_value_order {vs zs : List V} {us ws : List Value} (h1 : Vals vs us) (h2 : Vals zs ws) : Vals (kf_is_input_0_value_order vs zs) (kf_is_input_0_value_order us ws) := by
  cases h1 with
  | nil =>
    cases h2 with
    | nil => first | exact .nil | (cases h2 <;> exact .nil)
    | cons r_value h2 =>
      cases h2 with
      | nil => first | exact .nil | (cases h2 <;> exact .nil)
      | cons r_order h2 =>
        cases h2 with
        | nil =>
          exact (.cons r_order (.cons r_value .nil))
        | cons _ _ => first | exact .nil | (cases h2 <;> exact .nil)
  | cons _ _ => first | exact .nil | (cases h2 <;> exact .nil)
theorem kd_is_input_0_value_order {H : Hp} {vs zs : List V} {us ws : List D} (h1 : DqAll K H vs us) (h2 : DqAll K H zs ws) : DqAll K H (kf_is_input_0_value_order vs zs) (kf_is_input_0_value_order us ws) := by
  cases h1 with
  | nil =>
    cases h2 with
    | nil => first | exact .nil | (cases h2 <;> exact .nil)
    | cons r_value h2 =>
      cases h2 with
      | nil => first | exact .nil | (cases h2 <;> exact .nil)
      | cons r_order h2 =>
        cases h2 with
        | nil =>
          exact (.cons r_order (.cons r_value .nil))
        | cons _ _ => first | exact .nil | (cases h2 <;> exact .nil)
  | cons _ _ => first | exact .nil | (cases h2 <;> exact .nil)
theorem kb_is_input_0_value_order (F : Fun K "is_input" "is_input" s_is_input f fd) : KBinds K fd ["order", "value"] ["value", "order"] (fun us ws => kf_is_input_0_value_order us ws) (fun vs zs => kf_is_input_0_value_order vs zs) := by
  refine binds_kw F ["value", "order"] kf_is_input_0_value_order kr_is_input_0_value_order fun _ _ _ _ _ _ us ws hl => ?_
  rcases us with _ | ⟨_, us⟩ <;> rcases ws with _ | ⟨x1, _ | ⟨x0, _ | ⟨_, ws⟩⟩⟩ <;> first | rfl | (cases hl; done)
end
/-! ### promises -/
abbrev sp_is_integer (K : PySem.W.Frag) : Sp := Pu K P_is_integer R_is_integer
abbrev sp_is_number (K : PySem.W.Frag) : Sp := Pu K P_is_number R_is_number
abbrev sp_is_index (K : PySem.W.Frag) : Sp := Pu K P_is_index R_is_index
abbrev sp_is_row_of (K : PySem.W.Frag) : Sp := Pu K P_is_row_of R_is_row_of
abbrev sp_lot_within (K : PySem.W.Frag) : Sp := Pa K A_lot_within P_lot_within R_lot_within
abbrev sp_is_input (K : PySem.W.Frag) : Sp := Pa K A_is_input P_is_input R_is_input
abbrev sp_alike_inputs (K : PySem.W.Frag) : Sp := Pa K A_alike_inputs P_alike_inputs R_alike_inputs
abbrev sp_is_deed (K : PySem.W.Frag) : Sp := Pa K A_is_deed P_is_deed R_is_deed
abbrev sp_is_record (K : PySem.W.Frag) : Sp := Pa K A_is_record P_is_record R_is_record
abbrev sp_is_seen (K : PySem.W.Frag) : Sp := Pa K A_is_seen P_is_seen R_is_seen
abbrev sp_seen (K : PySem.W.Frag) : Sp := Pa K A_seen P_seen R_seen
abbrev sp_cut_record (K : PySem.W.Frag) : Sp := Pa K A_cut_record P_cut_record R_cut_record
abbrev sp__law_draw (K : PySem.W.Frag) : Sp := Dr K
abbrev sp__law_any (K : PySem.W.Frag) : Sp := De K P__law_any R__law_any
abbrev sp__law_of (K : PySem.W.Frag) : Sp := De K P__law_of R__law_of
abbrev sp__law_mixed (K : PySem.W.Frag) : Sp := De K P__law_mixed R__law_mixed
abbrev sp__law_closed (K : PySem.W.Frag) : Sp := Pa K A__law_closed P__law_closed R__law_closed
abbrev sp__law_order (K : PySem.W.Frag) : Sp := De K P__law_order R__law_order
abbrev sp__law_record (K : PySem.W.Frag) : Sp := Da K A__law_record P__law_record R__law_record
abbrev sp__law_seen (K : PySem.W.Frag) : Sp := Pa K A__law_seen P__law_seen R__law_seen
abbrev sp__law_bad_record (K : PySem.W.Frag) : Sp := Da K A__law_bad_record P__law_bad_record R__law_bad_record
abbrev sp_law (K : PySem.W.Frag) : Sp := Lw K
/-! ### readings and derivations -/
section
variable {P0 : Program} {w : World} {K : PySem.W.Frag} {mg : Str → Option Value} {base : Heap}
def t_is_integer (T : Top K mg) : TS :=
      (tRet (tAndV (tCB (rIsAny K) (tCons (tVar 0) (tCons (tC (.ty "int")) tNil))) (tNotV (tCB (rIsAny K) (tCons (tVar 0) (tCons (tC (.ty "bool")) tNil))))))
theorem d_is_integer (T : Top K mg)  (cdv : Value) (A : Around) (outer : List Env) (s : Shared) (H : Hp) (E : XK) (hg : (cxOf CX0 P0 w K mg base ["value"] "is_integer" (defScope s_is_integer) T.f_is_integer cdv A outer s H E).A.guards = some []) (hr : Room 0 (cxOf CX0 P0 w K mg base ["value"] "is_integer" (defScope s_is_integer) T.f_is_integer cdv A outer s H E).A) :
    PSs (cxOf CX0 P0 w K mg base ["value"] "is_integer" (defScope s_is_integer) T.f_is_integer cdv A outer s H E).nox (defBody s_is_integer) (t_is_integer T) :=
      (pss_one (ps_ret (pe_and (pe_callB cq_isi (by rfl) T.n_isinstance (by decide +kernel) (pa_cons (pv 0) (pa_cons (pe_bltn (v := .ty "int") (by rfl) T.n_int (by decide +kernel) rfl) pa_nil))) (pe_one (pe_not (pe_callB cq_isi (by rfl) T.n_isinstance (by decide +kernel) (pa_cons (pv 0) (pa_cons (pe_bltn (v := .ty "bool") (by rfl) T.n_bool (by decide +kernel) rfl) pa_nil))))))))
def t_is_number (T : Top K mg) : TS :=
      (tRet (tAndV (tCallK (sp_is_integer K) (fun vs _ => vs) E0 (tCons (tVar 0) tNil) tNil) (tOp (rI0 fun i j => .bl (decide (j ≤ i))) (tVar 0) (tC (.int 0)))))
theorem d_is_number (T : Top K mg) (G_is_integer : GOk P0 w K mg base CX0 1 T.f_is_integer T.fd_is_integer ["value"] (sp_is_integer K)) (cdv : Value) (A : Around) (outer : List Env) (s : Shared) (H : Hp) (E : XK) (hg : (cxOf CX0 P0 w K mg base ["value"] "is_number" (defScope s_is_number) T.f_is_number cdv A outer s H E).A.guards = some []) (hr : Room 1 (cxOf CX0 P0 w K mg base ["value"] "is_number" (defScope s_is_number) T.f_is_number cdv A outer s H E).A) :
    PSs (cxOf CX0 P0 w K mg base ["value"] "is_number" (defScope s_is_number) T.f_is_number cdv A outer s H E).nox (defBody s_is_number) (t_is_number T) :=
      (pss_one (ps_ret (pe_and (pe_g G_is_integer hg hr (by rfl) T.g_is_integer T.F_is_integer.kp (b_is_integer T.F_is_integer) pass0 (pa_cons (pv 0) pa_nil)) (pe_one (pe_cmpR op_ge (pv 0) pe_int (nomark _))))))
def t_is_index (T : Top K mg) : TS :=
      (tRet (tAndV (tCallK (sp_is_number K) (fun vs _ => vs) E0 (tCons (tVar 0) tNil) tNil) (tOp rLtA (tVar 0) (tVar 1))))
theorem d_is_index (T : Top K mg) (G_is_number : GOk P0 w K mg base CX0 2 T.f_is_number T.fd_is_number ["value"] (sp_is_number K)) (cdv : Value) (A : Around) (outer : List Env) (s : Shared) (H : Hp) (E : XK) (hg : (cxOf CX0 P0 w K mg base ["value", "many"] "is_index" (defScope s_is_index) T.f_is_index cdv A outer s H E).A.guards = some []) (hr : Room 2 (cxOf CX0 P0 w K mg base ["value", "many"] "is_index" (defScope s_is_index) T.f_is_index cdv A outer s H E).A) :
    PSs (cxOf CX0 P0 w K mg base ["value", "many"] "is_index" (defScope s_is_index) T.f_is_index cdv A outer s H E).nox (defBody s_is_index) (t_is_index T) :=
      (pss_one (ps_ret (pe_and (pe_g G_is_number hg hr (by rfl) T.g_is_number T.F_is_number.kp (b_is_number T.F_is_number) pass0 (pa_cons (pv 0) pa_nil)) (pe_one (pe_cmpR oq_lt (pv 0) (pv 1) (nomark _))))))
def t_is_row_of (T : Top K mg) : TS :=
      (tRet (tAndV (tCB (rIsAny K) (tCons (tVar 0) (tCons (tC (.ty "tuple")) tNil))) (tOp (rInA K) (tCB (rLen K) (tCons (tVar 0) tNil)) (tVar 1))))
theorem d_is_row_of (T : Top K mg)  (cdv : Value) (A : Around) (outer : List Env) (s : Shared) (H : Hp) (E : XK) (hg : (cxOf CX0 P0 w K mg base ["value", "sizes"] "is_row_of" (defScope s_is_row_of) T.f_is_row_of cdv A outer s H E).A.guards = some []) (hr : Room 0 (cxOf CX0 P0 w K mg base ["value", "sizes"] "is_row_of" (defScope s_is_row_of) T.f_is_row_of cdv A outer s H E).A) :
    PSs (cxOf CX0 P0 w K mg base ["value", "sizes"] "is_row_of" (defScope s_is_row_of) T.f_is_row_of cdv A outer s H E).nox (defBody s_is_row_of) (t_is_row_of T) :=
      (pss_one (ps_ret (pe_and (pe_callB cq_isi (by rfl) T.n_isinstance (by decide +kernel) (pa_cons (pv 0) (pa_cons (pe_bltn (v := .ty "tuple") (by rfl) T.n_tuple (by decide +kernel) rfl) pa_nil))) (pe_one (pe_cmpR (oq_in hr) (pe_callB cq_len (by rfl) T.n_len (by decide +kernel) (pa_cons (pv 0) pa_nil)) (pv 1) (by rfl))))))
def t_lot_within (T : Top K mg) : TS :=
      (tRet (tCB (rAll K) (tCons (tLc (iAny K (tVar 1)) (gName 3) tYes (tOp (rInA K) (tVar 3) (tOp (rIx K) (tVar 0) (tVar 2))) [3]) tNil)))
theorem d_lot_within (T : Top K mg)  (cdv : Value) (A : Around) (outer : List Env) (s : Shared) (H : Hp) (E : XK) (hg : (cxOf CX0 P0 w K mg base ["order", "lot", "level", "one"] "lot_within" (defScope s_lot_within) T.f_lot_within cdv A outer s H E).A.guards = some []) (hr : Room 0 (cxOf CX0 P0 w K mg base ["order", "lot", "level", "one"] "lot_within" (defScope s_lot_within) T.f_lot_within cdv A outer s H E).A) :
    PSs (cxOf CX0 P0 w K mg base ["order", "lot", "level", "one"] "lot_within" (defScope s_lot_within) T.f_lot_within cdv A outer s H E).nox (defBody s_lot_within) (t_lot_within T) :=
      (pss_one (ps_ret (pe_callB (cr_all rfl) (by rfl) T.n_all (by decide +kernel) (pa_cons (pe_lc (own := [("one", 3)]) (by rfl) sc_lot_within.nd (pi_any (pv 1)) (blkOk_by (own := [("one", 3)]) (N := ["order", "lot", "level", "one"]) (sc := defScope s_lot_within) (by decide +kernel)) (fun _ _ _ _ _ => (pg_name (i := 3) sc_lot_within.nd rfl (.inl rfl))) (fun _ _ _ _ _ => pts_nil) (fun _ _ _ _ _ => (pe_cmpR (oq_in hr) (pv 3) (pe_ix ix_seq (pv 0) (pv 2) (fun _ _ => rfl)) (by rfl)))) pa_nil))))
def t_is_input (T : Top K mg) : TS :=
      (tSeq (tIfS (tOr (tNot (tB (tCallK (sp_is_row_of K) (fun vs _ => vs) E0 (tCons (tVar 1) (tCons (tTup (tCons (tCB (rLen K) (tCons (tVar 0) tNil)) tNil)) tNil)) tNil))) (tNot (tB (tCB (rAll K) (tCons (tLc (iAny K (tVar 1)) (gName 2) tYes (tCB (rIsAny K) (tCons (tVar 2) (tCons (tC (.ty "tuple")) tNil))) [2]) tNil))))) (tRet (tC (.bl false))) tNext)
      (tRet (tCB (rAll K) (tCons (tLc (iAny K (tVar 1)) (gName 2) tYes (tCB (rAll K) (tCons (tLc (iAny K (tVar 2)) (gName 3) tYes (tCallK (sp_is_number K) (fun vs _ => vs) E0 (tCons (tVar 3) tNil) tNil) [3]) tNil)) [2]) tNil))))
theorem d_is_input (T : Top K mg) (G_is_row_of : GOk P0 w K mg base CX0 1 T.f_is_row_of T.fd_is_row_of ["value", "sizes"] (sp_is_row_of K)) (G_is_number : GOk P0 w K mg base CX0 2 T.f_is_number T.fd_is_number ["value"] (sp_is_number K)) (cdv : Value) (A : Around) (outer : List Env) (s : Shared) (H : Hp) (E : XK) (hg : (cxOf CX0 P0 w K mg base ["order", "value", "stream", "one"] "is_input" (defScope s_is_input) T.f_is_input cdv A outer s H E).A.guards = some []) (hr : Room 2 (cxOf CX0 P0 w K mg base ["order", "value", "stream", "one"] "is_input" (defScope s_is_input) T.f_is_input cdv A outer s H E).A) :
    PSs (cxOf CX0 P0 w K mg base ["order", "value", "stream", "one"] "is_input" (defScope s_is_input) T.f_is_input cdv A outer s H E).nox (defBody s_is_input) (t_is_input T) :=
      (pss_cons (ps_if (PW.pt (pw_or (pt_not (pt_val (pe_g G_is_row_of hg (hr.mono (by decide)) (by rfl) T.g_is_row_of T.F_is_row_of.kp (b_is_row_of T.F_is_row_of) pass0 (pa_cons (pv 1) (pa_cons (pe_tup (pa_cons (pe_callB cq_len (by rfl) T.n_len (by decide +kernel) (pa_cons (pv 0) pa_nil)) pa_nil)) pa_nil))))) (pw_or1 (pt_not (pt_val (pe_callB (cr_all rfl) (by rfl) T.n_all (by decide +kernel) (pa_cons (pe_lc (own := [("stream", 2)]) (by rfl) sc_is_input.nd (pi_any (pv 1)) (blkOk_by (own := [("stream", 2)]) (N := ["order", "value", "stream", "one"]) (sc := defScope s_is_input) (by decide +kernel)) (fun _ _ _ _ _ => (pg_name (i := 2) sc_is_input.nd rfl (.inl rfl))) (fun _ _ _ _ _ => pts_nil) (fun _ _ _ _ _ => (pe_callB cq_isi (by rfl) T.n_isinstance (by decide +kernel) (pa_cons (pv 2) (pa_cons (pe_bltn (v := .ty "tuple") (by rfl) T.n_tuple (by decide +kernel) rfl) pa_nil))))) pa_nil))))))) (pss_one (ps_ret pe_bl)) pss_nil)
      (pss_one (ps_ret (pe_callB (cr_all rfl) (by rfl) T.n_all (by decide +kernel) (pa_cons (pe_lc (own := [("stream", 2)]) (by rfl) sc_is_input.nd (pi_any (pv 1)) (blkOk_by (own := [("stream", 2)]) (N := ["order", "value", "stream", "one"]) (sc := defScope s_is_input) (by decide +kernel)) (fun _ _ _ _ _ => (pg_name (i := 2) sc_is_input.nd rfl (.inl rfl))) (fun _ _ _ _ _ => pts_nil) (fun _ _ _ _ _ => (pe_callB (cr_all rfl) (by rfl) T.n_all (by decide +kernel) (pa_cons (pe_lc (own := [("one", 3)]) (by rfl) sc_is_input.nd (pi_any (pv 2)) (blkOk_by (own := [("one", 3)]) (by kernel_rfl)) (fun _ _ _ _ _ => (pg_name (i := 3) sc_is_input.nd rfl (.inl rfl))) (fun _ _ _ _ _ => pts_nil) (fun _ _ _ _ _ => (pe_g G_is_number hg hr (by rfl) T.g_is_number T.F_is_number.kp (b_is_number T.F_is_number) pass0 (pa_cons (pv 3) pa_nil)))) pa_nil)))) pa_nil)))))
def t_alike_inputs (T : Top K mg) : TS :=
      (tRet (tCB (rAll K) (tCons (tLc (iAny K (tOp (rIx K) (tVar 0) (tVar 1))) (gName 4) tYes (tOp (rEqA K) (tOp (rIx K) (tVar 2) (tVar 4)) (tOp (rIx K) (tVar 3) (tVar 4))) [4]) tNil)))
theorem d_alike_inputs (T : Top K mg)  (cdv : Value) (A : Around) (outer : List Env) (s : Shared) (H : Hp) (E : XK) (hg : (cxOf CX0 P0 w K mg base ["order", "level", "one", "other", "lower"] "alike_inputs" (defScope s_alike_inputs) T.f_alike_inputs cdv A outer s H E).A.guards = some []) (hr : Room 0 (cxOf CX0 P0 w K mg base ["order", "level", "one", "other", "lower"] "alike_inputs" (defScope s_alike_inputs) T.f_alike_inputs cdv A outer s H E).A) :
    PSs (cxOf CX0 P0 w K mg base ["order", "level", "one", "other", "lower"] "alike_inputs" (defScope s_alike_inputs) T.f_alike_inputs cdv A outer s H E).nox (defBody s_alike_inputs) (t_alike_inputs T) :=
      (pss_one (ps_ret (pe_callB (cr_all rfl) (by rfl) T.n_all (by decide +kernel) (pa_cons (pe_lc (own := [("lower", 4)]) (by rfl) sc_alike_inputs.nd (pi_any (pe_ix ix_seq (pv 0) (pv 1) (fun _ _ => rfl))) (blkOk_by (own := [("lower", 4)]) (N := ["order", "level", "one", "other", "lower"]) (sc := defScope s_alike_inputs) (by decide +kernel)) (fun _ _ _ _ _ => (pg_name (i := 4) sc_alike_inputs.nd rfl (.inl rfl))) (fun _ _ _ _ _ => pts_nil) (fun _ _ _ _ _ => (pe_cmpR (oq_eq hr) (pe_ix ix_seq (pv 2) (pv 4) (fun _ _ => rfl)) (pe_ix ix_seq (pv 3) (pv 4) (fun _ _ => rfl)) (nomark _)))) pa_nil))))
def t_is_deed (T : Top K mg) : TS :=
      (tSeq (tIfS (tAnd (tB (tCallK (sp_is_row_of K) (fun vs _ => vs) E0 (tCons (tVar 1) (tCons (tTup (tCons (tC (.int 3)) tNil)) tNil)) tNil)) (tTest (tOp (rEqA K) (tOp (rIx K) (tVar 1) (tC (.int 0))) (tC (.str "out"))))) (tRet (tAndV (tCallK (sp_is_index K) (fun vs _ => vs) E0 (tCons (tOp (rIx K) (tVar 1) (tC (.int 1))) (tCons (tCB (rLen K) (tCons (tVar 0) tNil)) tNil)) tNil) (tCallK (sp_is_number K) (fun vs _ => vs) E0 (tCons (tOp (rIx K) (tVar 1) (tC (.int 2))) tNil) tNil))) tNext)
      (tRet (tAndV (tCallK (sp_is_row_of K) (fun vs _ => vs) E0 (tCons (tVar 1) (tCons (tTup (tCons (tC (.int 2)) tNil)) tNil)) tNil) (tAndV (tOp (rEqA K) (tOp (rIx K) (tVar 1) (tC (.int 0))) (tC (.str "end"))) (tCallK (sp_is_number K) (fun vs _ => vs) E0 (tCons (tOp (rIx K) (tVar 1) (tC (.int 1))) tNil) tNil)))))
theorem d_is_deed (T : Top K mg) (G_is_row_of : GOk P0 w K mg base CX0 1 T.f_is_row_of T.fd_is_row_of ["value", "sizes"] (sp_is_row_of K)) (G_is_number : GOk P0 w K mg base CX0 2 T.f_is_number T.fd_is_number ["value"] (sp_is_number K)) (G_is_index : GOk P0 w K mg base CX0 3 T.f_is_index T.fd_is_index ["value", "many"] (sp_is_index K)) (cdv : Value) (A : Around) (outer : List Env) (s : Shared) (H : Hp) (E : XK) (hg : (cxOf CX0 P0 w K mg base ["order", "value"] "is_deed" (defScope s_is_deed) T.f_is_deed cdv A outer s H E).A.guards = some []) (hr : Room 3 (cxOf CX0 P0 w K mg base ["order", "value"] "is_deed" (defScope s_is_deed) T.f_is_deed cdv A outer s H E).A) :
    PSs (cxOf CX0 P0 w K mg base ["order", "value"] "is_deed" (defScope s_is_deed) T.f_is_deed cdv A outer s H E).nox (defBody s_is_deed) (t_is_deed T) :=
      (pss_cons (ps_if (PW.pt (pw_and (pt_val (pe_g G_is_row_of hg (hr.mono (by decide)) (by rfl) T.g_is_row_of T.F_is_row_of.kp (b_is_row_of T.F_is_row_of) pass0 (pa_cons (pv 1) (pa_cons (pe_tup (pa_cons pe_int pa_nil)) pa_nil)))) (pw_and1 (pt_cmpR (oq_eq hr) (pe_ix ix_seq (pv 1) pe_int (fun _ _ => rfl)) pe_str (nomark _))))) (pss_one (ps_ret (pe_and (pe_g G_is_index hg hr (by rfl) T.g_is_index T.F_is_index.kp (b_is_index T.F_is_index) pass0 (pa_cons (pe_ix ix_seq (pv 1) pe_int (fun _ _ => rfl)) (pa_cons (pe_callB cq_len (by rfl) T.n_len (by decide +kernel) (pa_cons (pv 0) pa_nil)) pa_nil))) (pe_one (pe_g G_is_number hg (hr.mono (by decide)) (by rfl) T.g_is_number T.F_is_number.kp (b_is_number T.F_is_number) pass0 (pa_cons (pe_ix ix_seq (pv 1) pe_int (fun _ _ => rfl)) pa_nil)))))) pss_nil)
      (pss_one (ps_ret (pe_and (pe_g G_is_row_of hg (hr.mono (by decide)) (by rfl) T.g_is_row_of T.F_is_row_of.kp (b_is_row_of T.F_is_row_of) pass0 (pa_cons (pv 1) (pa_cons (pe_tup (pa_cons pe_int pa_nil)) pa_nil))) (pe_and (pe_cmpR (oq_eq hr) (pe_ix ix_seq (pv 1) pe_int (fun _ _ => rfl)) pe_str (nomark _)) (pe_one (pe_g G_is_number hg (hr.mono (by decide)) (by rfl) T.g_is_number T.F_is_number.kp (b_is_number T.F_is_number) pass0 (pa_cons (pe_ix ix_seq (pv 1) pe_int (fun _ _ => rfl)) pa_nil))))))))
def t_is_record (T : Top K mg) : TS :=
      (tSeq (tIfS (tOr (tNot (tB (tCB (rIsAny K) (tCons (tVar 1) (tCons (tC (.ty "tuple")) tNil))))) (tNot (tB (tCB (rAll K) (tCons (tLc (iAny K (tVar 1)) (gName 2) tYes (tCallK (sp_is_row_of K) (fun vs _ => vs) E0 (tCons (tVar 2) (tCons (tTup (tCons (tC (.int 2)) tNil)) tNil)) tNil) [2]) tNil))))) (tRet (tC (.bl false))) tNext)
      (tSeq (tIfS (tNot (tB (tCB (rAll K) (tCons (tLc (iAny K (tVar 1)) (gTup K 2 (gCons (gName 3) (gCons (gName 4) gNil))) tYes (tAndV (tCallK (sp_is_number K) (fun vs _ => vs) E0 (tCons (tVar 3) tNil) tNil) (tCallK (sp_is_deed K) (fun vs _ => vs) E0 (tCons (tVar 0) (tCons (tVar 4) tNil)) tNil)) [3, 4]) tNil)))) (tRet (tC (.bl false))) tNext)
      (tRet (tCB (rAll K) (tCons (tLc (iRng1 (tCons (tOp (rI0 fun i j => .int (i - j)) (tCB (rLen K) (tCons (tVar 1) tNil)) (tC (.int 1))) tNil)) (gName 5) tYes (tOp rLeA (tOp (rIx K) (tOp (rIx K) (tVar 1) (tVar 5)) (tC (.int 0))) (tOp (rIx K) (tOp (rIx K) (tVar 1) (tOp (rAddA K) (tVar 5) (tC (.int 1)))) (tC (.int 0)))) [5]) tNil)))))
theorem d_is_record (T : Top K mg) (G_is_row_of : GOk P0 w K mg base CX0 1 T.f_is_row_of T.fd_is_row_of ["value", "sizes"] (sp_is_row_of K)) (G_is_number : GOk P0 w K mg base CX0 2 T.f_is_number T.fd_is_number ["value"] (sp_is_number K)) (G_is_deed : GOk P0 w K mg base CX0 4 T.f_is_deed T.fd_is_deed ["order", "value"] (sp_is_deed K)) (cdv : Value) (A : Around) (outer : List Env) (s : Shared) (H : Hp) (E : XK) (hg : (cxOf CX0 P0 w K mg base ["order", "value", "pair", "tick", "deed", "at"] "is_record" (defScope s_is_record) T.f_is_record cdv A outer s H E).A.guards = some []) (hr : Room 4 (cxOf CX0 P0 w K mg base ["order", "value", "pair", "tick", "deed", "at"] "is_record" (defScope s_is_record) T.f_is_record cdv A outer s H E).A) :
    PSs (cxOf CX0 P0 w K mg base ["order", "value", "pair", "tick", "deed", "at"] "is_record" (defScope s_is_record) T.f_is_record cdv A outer s H E).nox (defBody s_is_record) (t_is_record T) :=
      (pss_cons (ps_if (PW.pt (pw_or (pt_not (pt_val (pe_callB cq_isi (by rfl) T.n_isinstance (by decide +kernel) (pa_cons (pv 1) (pa_cons (pe_bltn (v := .ty "tuple") (by rfl) T.n_tuple (by decide +kernel) rfl) pa_nil))))) (pw_or1 (pt_not (pt_val (pe_callB (cr_all rfl) (by rfl) T.n_all (by decide +kernel) (pa_cons (pe_lc (own := [("pair", 2)]) (by rfl) sc_is_record.nd (pi_any (pv 1)) (blkOk_by (own := [("pair", 2)]) (N := ["order", "value", "pair", "tick", "deed", "at"]) (sc := defScope s_is_record) (by decide +kernel)) (fun _ _ _ _ _ => (pg_name (i := 2) sc_is_record.nd rfl (.inl rfl))) (fun _ _ _ _ _ => pts_nil) (fun _ _ _ _ _ => (pe_g G_is_row_of hg (hr.mono (by decide)) (by rfl) T.g_is_row_of T.F_is_row_of.kp (b_is_row_of T.F_is_row_of) pass0 (pa_cons (pv 2) (pa_cons (pe_tup (pa_cons pe_int pa_nil)) pa_nil))))) pa_nil))))))) (pss_one (ps_ret pe_bl)) pss_nil)
      (pss_cons (ps_if (pt_not (pt_val (pe_callB (cr_all rfl) (by rfl) T.n_all (by decide +kernel) (pa_cons (pe_lc (own := [("tick", 3), ("deed", 4)]) (by rfl) sc_is_record.nd (pi_any (pv 1)) (blkOk_by (own := [("tick", 3), ("deed", 4)]) (N := ["order", "value", "pair", "tick", "deed", "at"]) (sc := defScope s_is_record) (by decide +kernel)) (fun _ _ _ _ _ => (pg_tup (by rfl) (pgs_cons (pg_name (i := 3) sc_is_record.nd rfl (.inl rfl)) (pgs_cons (pg_name (i := 4) sc_is_record.nd rfl (.inl rfl)) pgs_nil)))) (fun _ _ _ _ _ => pts_nil) (fun _ _ _ _ _ => (pe_and (pe_g G_is_number hg (hr.mono (by decide)) (by rfl) T.g_is_number T.F_is_number.kp (b_is_number T.F_is_number) pass0 (pa_cons (pv 3) pa_nil)) (pe_one (pe_g G_is_deed hg hr (by rfl) T.g_is_deed T.F_is_deed.kp (b_is_deed T.F_is_deed) pass0 (pa_cons (pv 0) (pa_cons (pv 4) pa_nil))))))) pa_nil)))) (pss_one (ps_ret pe_bl)) pss_nil)
      (pss_one (ps_ret (pe_callB (cr_all rfl) (by rfl) T.n_all (by decide +kernel) (pa_cons (pe_lc (own := [("at", 5)]) (by rfl) sc_is_record.nd (pi_range1 (by rfl) T.n_range (pa_cons (pe_op op_sub (pe_callB cq_len (by rfl) T.n_len (by decide +kernel) (pa_cons (pv 1) pa_nil)) pe_int) pa_nil)) (blkOk_by (own := [("at", 5)]) (N := ["order", "value", "pair", "tick", "deed", "at"]) (sc := defScope s_is_record) (by decide +kernel)) (fun _ _ _ _ _ => (pg_name (i := 5) sc_is_record.nd rfl (.inl rfl))) (fun _ _ _ _ _ => pts_nil) (fun _ _ _ _ _ => (pe_cmpR oq_le (pe_ix ix_seq (pe_ix ix_seq (pv 1) (pv 5) (fun _ _ => rfl)) pe_int (fun _ _ => rfl)) (pe_ix ix_seq (pe_ix ix_seq (pv 1) (pe_op oq_add (pv 5) pe_int) (fun _ _ => rfl)) pe_int (fun _ _ => rfl)) (nomark _)))) pa_nil))))))
def t_is_seen (T : Top K mg) : TS :=
      (tSeq (tIfS (tTest (tOp (rEqA K) (tOp (rIx K) (tVar 3) (tC (.int 0))) (tC (.str "out")))) (tRet (tOp (rInA K) (tOp (rIx K) (tVar 3) (tC (.int 1))) (tOp (rIx K) (tVar 0) (tVar 1)))) tNext)
      (tRet (tCallK (sp_lot_within K) (fun vs _ => vs) E0 (tCons (tVar 0) (tCons (tOp (rIx K) (tVar 2) (tOp (rIx K) (tVar 3) (tC (.int 1)))) (tCons (tVar 1) tNil))) tNil)))
theorem d_is_seen (T : Top K mg) (G_lot_within : GOk P0 w K mg base CX0 1 T.f_lot_within T.fd_lot_within ["order", "lot", "level"] (sp_lot_within K)) (cdv : Value) (A : Around) (outer : List Env) (s : Shared) (H : Hp) (E : XK) (hg : (cxOf CX0 P0 w K mg base ["order", "level", "ends", "deed"] "is_seen" (defScope s_is_seen) T.f_is_seen cdv A outer s H E).A.guards = some []) (hr : Room 1 (cxOf CX0 P0 w K mg base ["order", "level", "ends", "deed"] "is_seen" (defScope s_is_seen) T.f_is_seen cdv A outer s H E).A) :
    PSs (cxOf CX0 P0 w K mg base ["order", "level", "ends", "deed"] "is_seen" (defScope s_is_seen) T.f_is_seen cdv A outer s H E).nox (defBody s_is_seen) (t_is_seen T) :=
      (pss_cons (ps_if (pt_cmpR (oq_eq hr) (pe_ix ix_seq (pv 3) pe_int (fun _ _ => rfl)) pe_str (nomark _)) (pss_one (ps_ret (pe_cmpR (oq_in hr) (pe_ix ix_seq (pv 3) pe_int (fun _ _ => rfl)) (pe_ix ix_seq (pv 0) (pv 1) (fun _ _ => rfl)) (by rfl)))) pss_nil)
      (pss_one (ps_ret (pe_g G_lot_within hg hr (by rfl) T.g_lot_within T.F_lot_within.kp (b_lot_within T.F_lot_within) pass0 (pa_cons (pv 0) (pa_cons (pe_ix ix_seq (pv 2) (pe_ix ix_seq (pv 3) pe_int (fun _ _ => rfl)) (fun _ _ => rfl)) (pa_cons (pv 1) pa_nil)))))))
def t_seen (T : Top K mg) : TS :=
      (tRet (tCB (rTup K) (tCons (tLc (iAny K (tVar 3)) (gName 4) (tB (tCallK (sp_is_seen K) (fun vs _ => vs) E0 (tCons (tVar 0) (tCons (tVar 1) (tCons (tVar 2) (tCons (tOp (rIx K) (tVar 4) (tC (.int 1))) tNil)))) tNil)) (tVar 4) [4]) tNil)))
theorem d_seen (T : Top K mg) (G_is_seen : GOk P0 w K mg base CX0 2 T.f_is_seen T.fd_is_seen ["order", "level", "ends", "deed"] (sp_is_seen K)) (cdv : Value) (A : Around) (outer : List Env) (s : Shared) (H : Hp) (E : XK) (hg : (cxOf CX0 P0 w K mg base ["order", "level", "ends", "record", "pair"] "seen" (defScope s_seen) T.f_seen cdv A outer s H E).A.guards = some []) (hr : Room 2 (cxOf CX0 P0 w K mg base ["order", "level", "ends", "record", "pair"] "seen" (defScope s_seen) T.f_seen cdv A outer s H E).A) :
    PSs (cxOf CX0 P0 w K mg base ["order", "level", "ends", "record", "pair"] "seen" (defScope s_seen) T.f_seen cdv A outer s H E).nox (defBody s_seen) (t_seen T) :=
      (pss_one (ps_ret (pe_callTy cq_tup (by rfl) T.n_tuple (by decide +kernel) (pa_cons (pe_lc (own := [("pair", 4)]) (by rfl) sc_seen.nd (pi_any (pv 3)) (blkOk_by (own := [("pair", 4)]) (N := ["order", "level", "ends", "record", "pair"]) (sc := defScope s_seen) (by decide +kernel)) (fun _ _ _ _ _ => (pg_name (i := 4) sc_seen.nd rfl (.inl rfl))) (fun _ _ _ _ _ => (pts_one (pt_val (pe_g G_is_seen hg hr (by rfl) T.g_is_seen T.F_is_seen.kp (b_is_seen T.F_is_seen) pass0 (pa_cons (pv 0) (pa_cons (pv 1) (pa_cons (pv 2) (pa_cons (pe_ix ix_seq (pv 4) pe_int (fun _ _ => rfl)) pa_nil)))))))) (fun _ _ _ _ _ => (pv 4))) pa_nil))))
def t_cut_record (T : Top K mg) : TS :=
      (tRet (tCB (rTup K) (tCons (tLc (iAny K (tVar 0)) (gName 2) (tTest (tOp rLtA (tOp (rIx K) (tVar 2) (tC (.int 0))) (tVar 1))) (tVar 2) [2]) tNil)))
theorem d_cut_record (T : Top K mg)  (cdv : Value) (A : Around) (outer : List Env) (s : Shared) (H : Hp) (E : XK) (hg : (cxOf CX0 P0 w K mg base ["record", "tick", "pair"] "cut_record" (defScope s_cut_record) T.f_cut_record cdv A outer s H E).A.guards = some []) (hr : Room 0 (cxOf CX0 P0 w K mg base ["record", "tick", "pair"] "cut_record" (defScope s_cut_record) T.f_cut_record cdv A outer s H E).A) :
    PSs (cxOf CX0 P0 w K mg base ["record", "tick", "pair"] "cut_record" (defScope s_cut_record) T.f_cut_record cdv A outer s H E).nox (defBody s_cut_record) (t_cut_record T) :=
      (pss_one (ps_ret (pe_callTy cq_tup (by rfl) T.n_tuple (by decide +kernel) (pa_cons (pe_lc (own := [("pair", 2)]) (by rfl) sc_cut_record.nd (pi_any (pv 0)) (blkOk_by (own := [("pair", 2)]) (N := ["record", "tick", "pair"]) (sc := defScope s_cut_record) (by decide +kernel)) (fun _ _ _ _ _ => (pg_name (i := 2) sc_cut_record.nd rfl (.inl rfl))) (fun _ _ _ _ _ => (pts_one (pt_cmpR oq_lt (pe_ix ix_seq (pv 2) pe_int (fun _ _ => rfl)) (pv 1) (nomark _)))) (fun _ _ _ _ _ => (pv 2))) pa_nil))))
def t__law_draw (T : Top K mg) : TS :=
      (tSeq (tAsg (tLc (iAny K (tSl (rSlany K) (tVar 0) tNoPart (tPart (tC (.int 48))))) (gName 3) tYes (tCB rAbs (tCons (tCB rInt1 (tCons (tVar 3) tNil)) tNil)) [3]) (gName 2))
      (tSeq (tAsg (tOp (rAddA K) (tC (.int 7919)) (tOp (rI CMulW fun i j => .int (i * j)) (tC (.int 104729)) (tVar 1))) (gName 4))
      (tSeq (tFor (iAny K (tVar 2)) (gName 3) (tAsg (tOp (rI (fun _ j => 0 < j) fun i j => .int (i % j)) (tCB rInt1 (tCons (tOp (rAddA K) (tOp (rAddA K) (tOp (rI CMulW fun i j => .int (i * j)) (tVar 4) (tC (.int 48271))) (tOp (rI (fun _ j => 0 < j) fun i j => .int (i % j)) (tVar 3) (tC (.int 2147483549)))) (tC (.int 11))) tNil)) (tC (.int 2147483647))) (gName 4)))
      (tRet (tLst (tCons (tRevL K (tLc (iAny K (tVar 2)) (gName 3) (tTest (tOp (rI0 fun i j => .bl (decide (j ≤ i))) (tVar 3) (tOp (rI CPow fun i j => .int (i ^ j.toNat)) (tC (.int 10)) (tC (.int 18))))) (tVar 3) [3])) (tCons (tVar 4) tNil)))))))
theorem d__law_draw (T : Top K mg)  (cdv : Value) (A : Around) (outer : List Env) (s : Shared) (H : Hp) (E : XK) (hg : (cxOf CX0 P0 w K mg base ["script", "salt", "cells", "cell", "blend"] "_law_draw" (defScope s__law_draw) T.f__law_draw cdv A outer s H E).A.guards = some []) (hr : Room 0 (cxOf CX0 P0 w K mg base ["script", "salt", "cells", "cell", "blend"] "_law_draw" (defScope s__law_draw) T.f__law_draw cdv A outer s H E).A) :
    PSs (cxOf CX0 P0 w K mg base ["script", "salt", "cells", "cell", "blend"] "_law_draw" (defScope s__law_draw) T.f__law_draw cdv A outer s H E).nox (defBody s__law_draw) (t__law_draw T) :=
      (pss_cons (ps_setLc (i := 2) (own := [("cell", 3)]) (by rfl) sc__law_draw.nd rfl rfl (sw_true rfl rfl rfl (by decide +kernel)) (pi_any (pe_slice sq_any (pv 0) po_none (po_some pe_int))) (blkOk_by (own := [("cell", 3)]) (N := ["script", "salt", "cells", "cell", "blend"]) (sc := defScope s__law_draw) (by decide +kernel)) (fun _ _ _ _ _ => (pg_name (i := 3) sc__law_draw.nd rfl (.inl rfl))) (fun _ _ _ _ _ => pts_nil) (fun _ _ _ _ _ => (pe_callB cq_abs (by rfl) T.n_abs (by decide +kernel) (pa_cons (pe_callTy cq_int (by rfl) T.n_int (by decide +kernel) (pa_cons (pv 3) pa_nil)) pa_nil))))
      (pss_cons (ps_set (i := 4) sc__law_draw.nd rfl (.inl rfl) (pe_op oq_add pe_int (pe_op op_mulW pe_int (pv 1))))
      (pss_cons (ps_for PassesOwn.never rfl (pi_any (pv 2)) (pg_name (i := 3) sc__law_draw.nd rfl (.inl rfl)) (pss_one (ps_set (i := 4) sc__law_draw.nd rfl (.inl rfl) (pe_op op_mod (pe_callTy cq_int (by rfl) T.n_int (by decide +kernel) (pa_cons (pe_op oq_add (pe_op oq_add (pe_op op_mulW (pv 4) pe_int) (pe_op op_mod (pv 3) pe_int)) pe_int) pa_nil)) pe_int))))
      (pss_one (ps_ret (pe_lst (pa_cons (pe_revL (pe_lc (own := [("cell", 3)]) (by rfl) sc__law_draw.nd (pi_any (pv 2)) (blkOk_by (own := [("cell", 3)]) (N := ["script", "salt", "cells", "cell", "blend"]) (sc := defScope s__law_draw) (by decide +kernel)) (fun _ _ _ _ _ => (pg_name (i := 3) sc__law_draw.nd rfl (.inl rfl))) (fun _ _ _ _ _ => (pts_one (pt_cmpR op_ge (pv 3) (pe_op op_pow pe_int pe_int) (nomark _)))) (fun _ _ _ _ _ => (pv 3)))) (pa_cons (pv 4) pa_nil))))))))
def t__law_any (T : Top K mg) : TS :=
      (tSeq (tWhile (tAnd (tTest (tOp (rNeA K) (tOp (rIx K) (tVar 0) (tC (.int 0))) (tLst tNil))) (tTest (tOp (rEqA K) (tOp (rIx K) (tOp (rIx K) (tVar 0) (tC (.int 0))) (tUn (rU fun i => .int (-i)) (tC (.int 1)))) (tC (.int 0))))) (tDrop (tBM0 K "list" rPop (tOp (rIx K) (tVar 0) (tC (.int 0))))))
      (tSeq (tIfS (tTest (tOp (rNeA K) (tOp (rIx K) (tVar 0) (tC (.int 0))) (tLst tNil))) (tSeq (tAsg (tCB rInt1 (tCons (tBM0 K "list" rPop (tOp (rIx K) (tVar 0) (tC (.int 0)))) tNil)) (gName 2))
        (tSeq (tDrop (tBM K "list" rAppend (tOp (rIx K) (tVar 0) (tC (.int 0))) (tCons (tOp (rI CDivW fun i j => .int (i / j)) (tVar 2) (tVar 1)) tNil)))
        (tRet (tOp (rI (fun _ j => 0 < j) fun i j => .int (i % j)) (tVar 2) (tVar 1))))) tNext)
      (tSeq (tAsg (tOp (rI (fun _ j => 0 < j) fun i j => .int (i % j)) (tCB rInt1 (tCons (tOp (rAddA K) (tOp (rI CMulW fun i j => .int (i * j)) (tOp (rIx K) (tVar 0) (tC (.int 1))) (tC (.int 40693))) (tC (.int 71))) tNil)) (tC (.int 2147483647))) (gSub (tVar 0) (tC (.int 1)) rSetL))
      (tRet (tOp (rI (fun _ j => 0 < j) fun i j => .int (i % j)) (tCB rInt1 (tCons (tOp (rI CDivW fun i j => .int (i / j)) (tOp (rIx K) (tVar 0) (tC (.int 1))) (tC (.int 64))) tNil)) (tVar 1))))))
theorem d__law_any (T : Top K mg)  (cdv : Value) (A : Around) (outer : List Env) (s : Shared) (H : Hp) (E : XK) (hg : (cxOf CX0 P0 w K mg base ["deal", "bound", "rest"] "_law_any" (defScope s__law_any) T.f__law_any cdv A outer s H E).A.guards = some []) (hr : Room 0 (cxOf CX0 P0 w K mg base ["deal", "bound", "rest"] "_law_any" (defScope s__law_any) T.f__law_any cdv A outer s H E).A) :
    PSs (cxOf CX0 P0 w K mg base ["deal", "bound", "rest"] "_law_any" (defScope s__law_any) T.f__law_any cdv A outer s H E).nox (defBody s__law_any) (t__law_any T) :=
      (pss_cons (ps_while PassesOwn.never (PW.pt (pw_and (pt_cmpR (oq_ne hr) (pe_ix ix_seq (pv 0) pe_int (fun _ _ => rfl)) (pe_lst pa_nil) (nomark _)) (pw_and1 (pt_cmpR (oq_eq hr) (pe_ix ix_seq (pe_ix ix_seq (pv 0) pe_int (fun _ _ => rfl)) (pe_un un_neg pe_int) (fun _ _ => rfl)) pe_int (nomark _))))) (pss_one (ps_expr (pe_bm0 PySem.F.plainAttrs_list PySem.F.slot_list_pop PySem.F.type_list_pop mt_pop (pe_ix ix_seq (pv 0) pe_int (fun _ _ => rfl))))))
      (pss_cons (ps_if (pt_cmpR (oq_ne hr) (pe_ix ix_seq (pv 0) pe_int (fun _ _ => rfl)) (pe_lst pa_nil) (nomark _)) (pss_cons (ps_set (i := 2) sc__law_any.nd rfl (.inl rfl) (pe_callTy cq_int (by rfl) T.n_int (by decide +kernel) (pa_cons (pe_bm0 PySem.F.plainAttrs_list PySem.F.slot_list_pop PySem.F.type_list_pop mt_pop (pe_ix ix_seq (pv 0) pe_int (fun _ _ => rfl))) pa_nil)))
        (pss_cons (ps_expr (pe_bm PySem.F.plainAttrs_list PySem.F.slot_list_append PySem.F.type_list_append mt_append (pe_ix ix_seq (pv 0) pe_int (fun _ _ => rfl)) (pa_cons (pe_op op_fdivW (pv 2) (pv 1)) pa_nil)))
        (pss_one (ps_ret (pe_op op_mod (pv 2) (pv 1)))))) pss_nil)
      (pss_cons (ps_asg (pe_op op_mod (pe_callTy cq_int (by rfl) T.n_int (by decide +kernel) (pa_cons (pe_op oq_add (pe_op op_mulW (pe_ix ix_seq (pv 0) pe_int (fun _ _ => rfl)) pe_int) pe_int) pa_nil)) pe_int) (pg_sub (pv 0) pe_int set_list))
      (pss_one (ps_ret (pe_op op_mod (pe_callTy cq_int (by rfl) T.n_int (by decide +kernel) (pa_cons (pe_op op_fdivW (pe_ix ix_seq (pv 0) pe_int (fun _ _ => rfl)) pe_int) pa_nil)) (pv 1)))))))
def t__law_of (T : Top K mg) : TS :=
      (tRet (tOp (rIx K) (tVar 1) (tCallK (sp__law_any K) (fun vs _ => vs) E0 (tCons (tVar 0) (tCons (tCB (rLen K) (tCons (tVar 1) tNil)) tNil)) tNil)))
theorem d__law_of (T : Top K mg) (G__law_any : GOk P0 w K mg base CX0 1 T.f__law_any T.fd__law_any ["deal", "bound"] (sp__law_any K)) (cdv : Value) (A : Around) (outer : List Env) (s : Shared) (H : Hp) (E : XK) (hg : (cxOf CX0 P0 w K mg base ["deal", "some"] "_law_of" (defScope s__law_of) T.f__law_of cdv A outer s H E).A.guards = some []) (hr : Room 1 (cxOf CX0 P0 w K mg base ["deal", "some"] "_law_of" (defScope s__law_of) T.f__law_of cdv A outer s H E).A) :
    PSs (cxOf CX0 P0 w K mg base ["deal", "some"] "_law_of" (defScope s__law_of) T.f__law_of cdv A outer s H E).nox (defBody s__law_of) (t__law_of T) :=
      (pss_one (ps_ret (pe_ix ix_seq (pv 1) (pe_g G__law_any hg hr (by rfl) T.g__law_any T.F__law_any.kp (b__law_any T.F__law_any) pass0 (pa_cons (pv 0) (pa_cons (pe_callB cq_len (by rfl) T.n_len (by decide +kernel) (pa_cons (pv 1) pa_nil)) pa_nil))) (fun _ _ => rfl))))
def t__law_mixed (T : Top K mg) : TS :=
      (tSeq (tPar 2 3 (tCons (tCB (rList K) (tCons (tVar 1) tNil)) (tCons (tLst tNil) tNil)))
      (tSeq (tWhile (tTest (tOp (rNeA K) (tVar 2) (tLst tNil))) (tDrop (tBM K "list" rAppend (tVar 3) (tCons (tBM K "list" rPopAt (tVar 2) (tCons (tCallK (sp__law_any K) (fun vs _ => vs) E0 (tCons (tVar 0) (tCons (tCB (rLen K) (tCons (tVar 2) tNil)) tNil)) tNil) tNil)) tNil))))
      (tRet (tVar 3))))
theorem d__law_mixed (T : Top K mg) (G__law_any : GOk P0 w K mg base CX0 1 T.f__law_any T.fd__law_any ["deal", "bound"] (sp__law_any K)) (cdv : Value) (A : Around) (outer : List Env) (s : Shared) (H : Hp) (E : XK) (hg : (cxOf CX0 P0 w K mg base ["deal", "some", "left", "found"] "_law_mixed" (defScope s__law_mixed) T.f__law_mixed cdv A outer s H E).A.guards = some []) (hr : Room 1 (cxOf CX0 P0 w K mg base ["deal", "some", "left", "found"] "_law_mixed" (defScope s__law_mixed) T.f__law_mixed cdv A outer s H E).A) :
    PSs (cxOf CX0 P0 w K mg base ["deal", "some", "left", "found"] "_law_mixed" (defScope s__law_mixed) T.f__law_mixed cdv A outer s H E).nox (defBody s__law_mixed) (t__law_mixed T) :=
      (pss_cons (ps_par (i := 2) (j := 3) (by rfl) sc__law_mixed.nd rfl rfl (by decide) rfl rfl (pa_cons (pe_callTy cq_list (by rfl) T.n_list (by decide +kernel) (pa_cons (pv 1) pa_nil)) (pa_cons (pe_lst pa_nil) pa_nil)) (by rfl))
      (pss_cons (ps_while PassesOwn.never (pt_cmpR (oq_ne hr) (pv 2) (pe_lst pa_nil) (nomark _)) (pss_one (ps_expr (pe_bm PySem.F.plainAttrs_list PySem.F.slot_list_append PySem.F.type_list_append mt_append (pv 3) (pa_cons (pe_bm PySem.F.plainAttrs_list PySem.F.slot_list_pop PySem.F.type_list_pop mt_popAt (pv 2) (pa_cons (pe_g G__law_any hg hr (by rfl) T.g__law_any T.F__law_any.kp (b__law_any T.F__law_any) pass0 (pa_cons (pv 0) (pa_cons (pe_callB cq_len (by rfl) T.n_len (by decide +kernel) (pa_cons (pv 2) pa_nil)) pa_nil))) pa_nil)) pa_nil)))))
      (pss_one (ps_ret (pv 3)))))
def t__law_closed (T : Top K mg) : TS :=
      (tSeq (tAsg (tLc (iRng1 (tCons (tVar 0) tNil)) (gName 3) tYes (tLst (tCons (tVar 3) tNil)) [3]) (gName 2))
      (tSeq (tFor (iRng1 (tCons (tVar 0) tNil)) (gName 4) (tFor (iAny K (tVar 1)) (gTup K 2 (gCons (gName 5) (gCons (gName 6) gNil))) (tAsg (tCB (rSortedI K) (tCons (tOp (rAddA K) (tOp (rIx K) (tVar 2) (tVar 6)) (tLc (iAny K (tOp (rIx K) (tVar 2) (tVar 5))) (gName 7) (tTest (tOp (rNotInA K) (tVar 7) (tOp (rIx K) (tVar 2) (tVar 6)))) (tVar 7) [7])) tNil)) (gSub (tVar 2) (tVar 6) rSetL))))
      (tRet (tCB (rTup K) (tCons (tLc (iAny K (tVar 2)) (gName 8) tYes (tCB (rTup K) (tCons (tVar 8) tNil)) [8]) tNil)))))
theorem d__law_closed (T : Top K mg)  (cdv : Value) (A : Around) (outer : List Env) (s : Shared) (H : Hp) (E : XK) (hg : (cxOf CX0 P0 w K mg base ["many", "pairs", "below", "level", "turn", "low", "high", "one", "lot"] "_law_closed" (defScope s__law_closed) T.f__law_closed cdv A outer s H E).A.guards = some []) (hr : Room 0 (cxOf CX0 P0 w K mg base ["many", "pairs", "below", "level", "turn", "low", "high", "one", "lot"] "_law_closed" (defScope s__law_closed) T.f__law_closed cdv A outer s H E).A) :
    PSs (cxOf CX0 P0 w K mg base ["many", "pairs", "below", "level", "turn", "low", "high", "one", "lot"] "_law_closed" (defScope s__law_closed) T.f__law_closed cdv A outer s H E).nox (defBody s__law_closed) (t__law_closed T) :=
      (pss_cons (ps_set (i := 2) sc__law_closed.nd rfl (.inr rfl) (pe_lc (own := [("level", 3)]) (by rfl) sc__law_closed.nd (pi_range1 (by rfl) T.n_range (pa_cons (pv 0) pa_nil)) (blkOk_by (own := [("level", 3)]) (N := ["many", "pairs", "below", "level", "turn", "low", "high", "one", "lot"]) (sc := defScope s__law_closed) (by decide +kernel)) (fun _ _ _ _ _ => (pg_name (i := 3) sc__law_closed.nd rfl (.inl rfl))) (fun _ _ _ _ _ => pts_nil) (fun _ _ _ _ _ => (pe_lst (pa_cons (pv 3) pa_nil)))))
      (pss_cons (ps_for PassesOwn.never rfl (pi_range1 (by rfl) T.n_range (pa_cons (pv 0) pa_nil)) (pg_name (i := 4) sc__law_closed.nd rfl (.inl rfl)) (pss_one (ps_for PassesOwn.never rfl (pi_any (pv 1)) (pg_tup (by rfl) (pgs_cons (pg_name (i := 5) sc__law_closed.nd rfl (.inl rfl)) (pgs_cons (pg_name (i := 6) sc__law_closed.nd rfl (.inr rfl)) pgs_nil))) (pss_one (ps_asg (pe_callB cr_sortedI (by rfl) T.n_sorted (by decide +kernel) (pa_cons (pe_op oq_add (pe_ix ix_seq (pv 2) (pv 6) (fun _ _ => rfl)) (pe_lc (own := [("one", 7)]) (by rfl) sc__law_closed.nd (pi_any (pe_ix ix_seq (pv 2) (pv 5) (fun _ _ => rfl))) (blkOk_by (own := [("one", 7)]) (N := ["many", "pairs", "below", "level", "turn", "low", "high", "one", "lot"]) (sc := defScope s__law_closed) (by decide +kernel)) (fun _ _ _ _ _ => (pg_name (i := 7) sc__law_closed.nd rfl (.inl rfl))) (fun _ _ _ _ _ => (pts_one (pt_cmpR (oq_notin hr) (pv 7) (pe_ix ix_seq (pv 2) (pv 6) (fun _ _ => rfl)) (by rfl)))) (fun _ _ _ _ _ => (pv 7)))) pa_nil)) (pg_sub (pv 2) (pv 6) set_list))))))
      (pss_one (ps_ret (pe_callTy cq_tup (by rfl) T.n_tuple (by decide +kernel) (pa_cons (pe_lc (own := [("lot", 8)]) (by rfl) sc__law_closed.nd (pi_any (pv 2)) (blkOk_by (own := [("lot", 8)]) (N := ["many", "pairs", "below", "level", "turn", "low", "high", "one", "lot"]) (sc := defScope s__law_closed) (by decide +kernel)) (fun _ _ _ _ _ => (pg_name (i := 8) sc__law_closed.nd rfl (.inl rfl))) (fun _ _ _ _ _ => pts_nil) (fun _ _ _ _ _ => (pe_callTy cq_tup (by rfl) T.n_tuple (by decide +kernel) (pa_cons (pv 8) pa_nil)))) pa_nil))))))
def t__law_order (T : Top K mg) : TS :=
      (tSeq (tAsg (tOp (rAddA K) (tC (.int 1)) (tCallK (sp__law_any K) (fun vs _ => vs) E0 (tCons (tVar 0) (tCons (tC (.int 5)) tNil)) tNil)) (gName 1))
      (tSeq (tAsg (tCallK (sp__law_mixed K) (fun vs _ => vs) E0 (tCons (tVar 0) (tCons (tLstRg (tRg1 (tVar 1))) tNil)) tNil) (gName 2))
      (tSeq (tAsg (tLc (iAny K (tLc (iRng1 (tCons (tCallK (sp__law_any K) (fun vs _ => vs) E0 (tCons (tVar 0) (tCons (tOp (rI CMulW fun i j => .int (i * j)) (tC (.int 2)) (tVar 1)) tNil)) tNil) tNil)) (gName 6) tYes (tTup (tCons (tCallK (sp__law_any K) (fun vs _ => vs) E0 (tCons (tVar 0) (tCons (tVar 1) tNil)) tNil) (tCons (tCallK (sp__law_any K) (fun vs _ => vs) E0 (tCons (tVar 0) (tCons (tVar 1) tNil)) tNil) tNil))) [6])) (gTup K 2 (gCons (gName 4) (gCons (gName 5) gNil))) tYes (tTup (tCons (tOp (rIx K) (tVar 2) (tCB rMn (tCons (tVar 4) (tCons (tVar 5) tNil)))) (tCons (tOp (rIx K) (tVar 2) (tCB rMx (tCons (tVar 4) (tCons (tVar 5) tNil)))) tNil))) [4, 5]) (gName 3))
      (tRet (tCallK (sp__law_closed K) (fun vs _ => vs) E0 (tCons (tVar 1) (tCons (tVar 3) tNil)) tNil)))))
theorem d__law_order (T : Top K mg) (G__law_mixed : GOk P0 w K mg base CX0 2 T.f__law_mixed T.fd__law_mixed ["deal", "some"] (sp__law_mixed K)) (G__law_closed : GOk P0 w K mg base CX0 1 T.f__law_closed T.fd__law_closed ["many", "pairs"] (sp__law_closed K)) (G__law_any : GOk P0 w K mg base CX0 1 T.f__law_any T.fd__law_any ["deal", "bound"] (sp__law_any K)) (cdv : Value) (A : Around) (outer : List Env) (s : Shared) (H : Hp) (E : XK) (hg : (cxOf CX0 P0 w K mg base ["deal", "many", "row", "pairs", "a", "b", "turn"] "_law_order" (defScope s__law_order) T.f__law_order cdv A outer s H E).A.guards = some []) (hr : Room 2 (cxOf CX0 P0 w K mg base ["deal", "many", "row", "pairs", "a", "b", "turn"] "_law_order" (defScope s__law_order) T.f__law_order cdv A outer s H E).A) :
    PSs (cxOf CX0 P0 w K mg base ["deal", "many", "row", "pairs", "a", "b", "turn"] "_law_order" (defScope s__law_order) T.f__law_order cdv A outer s H E).nox (defBody s__law_order) (t__law_order T) :=
      (pss_cons (ps_set (i := 1) sc__law_order.nd rfl (.inr rfl) (pe_op oq_add pe_int (pe_g G__law_any hg (hr.mono (by decide)) (by rfl) T.g__law_any T.F__law_any.kp (b__law_any T.F__law_any) pass0 (pa_cons (pv 0) (pa_cons pe_int pa_nil)))))
      (pss_cons (ps_set (i := 2) sc__law_order.nd rfl (.inr rfl) (pe_g G__law_mixed hg hr (by rfl) T.g__law_mixed T.F__law_mixed.kp (b__law_mixed T.F__law_mixed) pass0 (pa_cons (pv 0) (pa_cons (pe_listRg rfl (by rfl) T.n_list (prg_1 (by rfl) T.n_range (pv 1))) pa_nil))))
      (pss_cons (ps_setLc (i := 3) (own := [("a", 4), ("b", 5)]) (by rfl) sc__law_order.nd rfl rfl (sw_true rfl rfl rfl (by decide +kernel)) (pi_any (pe_lc (own := [("turn", 6)]) (by rfl) sc__law_order.nd (pi_range1 (by rfl) T.n_range (pa_cons (pe_g G__law_any hg (hr.mono (by decide)) (by rfl) T.g__law_any T.F__law_any.kp (b__law_any T.F__law_any) pass0 (pa_cons (pv 0) (pa_cons (pe_op op_mulW pe_int (pv 1)) pa_nil))) pa_nil)) (blkOk_by (own := [("turn", 6)]) (N := ["deal", "many", "row", "pairs", "a", "b", "turn"]) (sc := defScope s__law_order) (by decide +kernel)) (fun _ _ _ _ _ => (pg_name (i := 6) sc__law_order.nd rfl (.inl rfl))) (fun _ _ _ _ _ => pts_nil) (fun _ _ _ _ _ => (pe_tup (pa_cons (pe_g G__law_any hg (hr.mono (by decide)) (by rfl) T.g__law_any T.F__law_any.kp (b__law_any T.F__law_any) pass0 (pa_cons (pv 0) (pa_cons (pv 1) pa_nil))) (pa_cons (pe_g G__law_any hg (hr.mono (by decide)) (by rfl) T.g__law_any T.F__law_any.kp (b__law_any T.F__law_any) pass0 (pa_cons (pv 0) (pa_cons (pv 1) pa_nil))) pa_nil)))))) (blkOk_by (own := [("a", 4), ("b", 5)]) (N := ["deal", "many", "row", "pairs", "a", "b", "turn"]) (sc := defScope s__law_order) (by decide +kernel)) (fun _ _ _ _ _ => (pg_tup (by rfl) (pgs_cons (pg_name (i := 4) sc__law_order.nd rfl (.inl rfl)) (pgs_cons (pg_name (i := 5) sc__law_order.nd rfl (.inl rfl)) pgs_nil)))) (fun _ _ _ _ _ => pts_nil) (fun _ _ _ _ _ => (pe_tup (pa_cons (pe_ix ix_seq (pv 2) (pe_callB (cq_min rfl) (by rfl) T.n_min (by decide +kernel) (pa_cons (pv 4) (pa_cons (pv 5) pa_nil))) (fun _ _ => rfl)) (pa_cons (pe_ix ix_seq (pv 2) (pe_callB (cq_max rfl) (by rfl) T.n_max (by decide +kernel) (pa_cons (pv 4) (pa_cons (pv 5) pa_nil))) (fun _ _ => rfl)) pa_nil)))))
      (pss_one (ps_ret (pe_g G__law_closed hg (hr.mono (by decide)) (by rfl) T.g__law_closed T.F__law_closed.kp (b__law_closed T.F__law_closed) pass0 (pa_cons (pv 1) (pa_cons (pv 3) pa_nil))))))))
def t__law_record (T : Top K mg) : TS :=
      (tSeq (tPar 3 4 (tCons (tLst tNil) (tCons (tC (.int 0)) tNil)))
      (tSeq (tFor (iRng1 (tCons (tCallK (sp__law_any K) (fun vs _ => vs) E0 (tCons (tVar 0) (tCons (tC (.int 9)) tNil)) tNil) tNil)) (gName 5) (tSeq (tAsg (tOp (rAddA K) (tVar 4) (tCallK (sp__law_any K) (fun vs _ => vs) E0 (tCons (tVar 0) (tCons (tC (.int 3)) tNil)) tNil)) (gName 4))
        (tSeq (tAsg (tIf (tTest (tOp (rEqA K) (tCallK (sp__law_any K) (fun vs _ => vs) E0 (tCons (tVar 0) (tCons (tC (.int 4)) tNil)) tNil) (tC (.int 0)))) (tTup (tCons (tC (.str "end")) (tCons (tCallK (sp__law_any K) (fun vs _ => vs) E0 (tCons (tVar 0) (tCons (tVar 2) tNil)) tNil) tNil))) (tTup (tCons (tC (.str "out")) (tCons (tCallK (sp__law_any K) (fun vs _ => vs) E0 (tCons (tVar 0) (tCons (tVar 1) tNil)) tNil) (tCons (tCallK (sp__law_any K) (fun vs _ => vs) E0 (tCons (tVar 0) (tCons (tC (.int 5)) tNil)) tNil) tNil))))) (gName 6))
        (tDrop (tBM K "list" rAppend (tVar 3) (tCons (tTup (tCons (tVar 4) (tCons (tVar 6) tNil))) tNil))))))
      (tRet (tCB (rTup K) (tCons (tVar 3) tNil)))))
theorem d__law_record (T : Top K mg) (G__law_any : GOk P0 w K mg base CX0 1 T.f__law_any T.fd__law_any ["deal", "bound"] (sp__law_any K)) (cdv : Value) (A : Around) (outer : List Env) (s : Shared) (H : Hp) (E : XK) (hg : (cxOf CX0 P0 w K mg base ["deal", "many", "threads", "found", "tick", "turn", "deed"] "_law_record" (defScope s__law_record) T.f__law_record cdv A outer s H E).A.guards = some []) (hr : Room 1 (cxOf CX0 P0 w K mg base ["deal", "many", "threads", "found", "tick", "turn", "deed"] "_law_record" (defScope s__law_record) T.f__law_record cdv A outer s H E).A) :
    PSs (cxOf CX0 P0 w K mg base ["deal", "many", "threads", "found", "tick", "turn", "deed"] "_law_record" (defScope s__law_record) T.f__law_record cdv A outer s H E).nox (defBody s__law_record) (t__law_record T) :=
      (pss_cons (ps_par (i := 3) (j := 4) (by rfl) sc__law_record.nd rfl rfl (by decide) rfl rfl (pa_cons (pe_lst pa_nil) (pa_cons pe_int pa_nil)) (by rfl))
      (pss_cons (ps_for PassesOwn.never rfl (pi_range1 (by rfl) T.n_range (pa_cons (pe_g G__law_any hg hr (by rfl) T.g__law_any T.F__law_any.kp (b__law_any T.F__law_any) pass0 (pa_cons (pv 0) (pa_cons pe_int pa_nil))) pa_nil)) (pg_name (i := 5) sc__law_record.nd rfl (.inl rfl)) (pss_cons (ps_set (i := 4) sc__law_record.nd rfl (.inl rfl) (pe_op oq_add (pv 4) (pe_g G__law_any hg hr (by rfl) T.g__law_any T.F__law_any.kp (b__law_any T.F__law_any) pass0 (pa_cons (pv 0) (pa_cons pe_int pa_nil)))))
        (pss_cons (ps_set (i := 6) sc__law_record.nd rfl (.inl rfl) (pe_ifExp (pt_cmpR (oq_eq hr) (pe_g G__law_any hg hr (by rfl) T.g__law_any T.F__law_any.kp (b__law_any T.F__law_any) pass0 (pa_cons (pv 0) (pa_cons pe_int pa_nil))) pe_int (nomark _)) (pe_tup (pa_cons pe_str (pa_cons (pe_g G__law_any hg hr (by rfl) T.g__law_any T.F__law_any.kp (b__law_any T.F__law_any) pass0 (pa_cons (pv 0) (pa_cons (pv 2) pa_nil))) pa_nil))) (pe_tup (pa_cons pe_str (pa_cons (pe_g G__law_any hg hr (by rfl) T.g__law_any T.F__law_any.kp (b__law_any T.F__law_any) pass0 (pa_cons (pv 0) (pa_cons (pv 1) pa_nil))) (pa_cons (pe_g G__law_any hg hr (by rfl) T.g__law_any T.F__law_any.kp (b__law_any T.F__law_any) pass0 (pa_cons (pv 0) (pa_cons pe_int pa_nil))) pa_nil))))))
        (pss_one (ps_expr (pe_bm PySem.F.plainAttrs_list PySem.F.slot_list_append PySem.F.type_list_append mt_append (pv 3) (pa_cons (pe_tup (pa_cons (pv 4) (pa_cons (pv 6) pa_nil))) pa_nil)))))))
      (pss_one (ps_ret (pe_callTy cq_tup (by rfl) T.n_tuple (by decide +kernel) (pa_cons (pv 3) pa_nil))))))
def t__law_seen (T : Top K mg) : TS :=
      (tSeq (tAsg (tLst tNil) (gName 4))
      (tSeq (tFor (iAny K (tVar 3)) (gTup K 2 (gCons (gName 5) (gCons (gName 6) gNil))) (tSeq (tAsg (tIf (tTest (tOp (rEqA K) (tOp (rIx K) (tVar 6) (tC (.int 0))) (tC (.str "out")))) (tLst (tCons (tOp (rIx K) (tVar 6) (tC (.int 1))) tNil)) (tCB (rList K) (tCons (tOp (rIx K) (tVar 2) (tOp (rIx K) (tVar 6) (tC (.int 1)))) tNil))) (gName 7))
        (tIfS (tTest (tOp (rEqA K) (tLc (iAny K (tVar 7)) (gName 8) (tTest (tOp (rNotInA K) (tVar 8) (tOp (rIx K) (tVar 0) (tVar 1)))) (tVar 8) [8]) (tLst tNil))) (tDrop (tBM K "list" rAppend (tVar 4) (tCons (tTup (tCons (tVar 5) (tCons (tVar 6) tNil))) tNil))) tNext)))
      (tRet (tCB (rTup K) (tCons (tVar 4) tNil)))))
theorem d__law_seen (T : Top K mg)  (cdv : Value) (A : Around) (outer : List Env) (s : Shared) (H : Hp) (E : XK) (hg : (cxOf CX0 P0 w K mg base ["order", "level", "ends", "record", "found", "tick", "deed", "lot", "one"] "_law_seen" (defScope s__law_seen) T.f__law_seen cdv A outer s H E).A.guards = some []) (hr : Room 0 (cxOf CX0 P0 w K mg base ["order", "level", "ends", "record", "found", "tick", "deed", "lot", "one"] "_law_seen" (defScope s__law_seen) T.f__law_seen cdv A outer s H E).A) :
    PSs (cxOf CX0 P0 w K mg base ["order", "level", "ends", "record", "found", "tick", "deed", "lot", "one"] "_law_seen" (defScope s__law_seen) T.f__law_seen cdv A outer s H E).nox (defBody s__law_seen) (t__law_seen T) :=
      (pss_cons (ps_set (i := 4) sc__law_seen.nd rfl (.inl rfl) (pe_lst pa_nil))
      (pss_cons (ps_for PassesOwn.never rfl (pi_any (pv 3)) (pg_tup (by rfl) (pgs_cons (pg_name (i := 5) sc__law_seen.nd rfl (.inl rfl)) (pgs_cons (pg_name (i := 6) sc__law_seen.nd rfl (.inl rfl)) pgs_nil))) (pss_cons (ps_set (i := 7) sc__law_seen.nd rfl (.inl rfl) (pe_ifExp (pt_cmpR (oq_eq hr) (pe_ix ix_seq (pv 6) pe_int (fun _ _ => rfl)) pe_str (nomark _)) (pe_lst (pa_cons (pe_ix ix_seq (pv 6) pe_int (fun _ _ => rfl)) pa_nil)) (pe_callTy cq_list (by rfl) T.n_list (by decide +kernel) (pa_cons (pe_ix ix_seq (pv 2) (pe_ix ix_seq (pv 6) pe_int (fun _ _ => rfl)) (fun _ _ => rfl)) pa_nil))))
        (pss_one (ps_if (pt_cmpR (oq_eq hr) (pe_lc (own := [("one", 8)]) (by rfl) sc__law_seen.nd (pi_any (pv 7)) (blkOk_by (own := [("one", 8)]) (N := ["order", "level", "ends", "record", "found", "tick", "deed", "lot", "one"]) (sc := defScope s__law_seen) (by decide +kernel)) (fun _ _ _ _ _ => (pg_name (i := 8) sc__law_seen.nd rfl (.inl rfl))) (fun _ _ _ _ _ => (pts_one (pt_cmpR (oq_notin hr) (pv 8) (pe_ix ix_seq (pv 0) (pv 1) (fun _ _ => rfl)) (by rfl)))) (fun _ _ _ _ _ => (pv 8))) (pe_lst pa_nil) (nomark _)) (pss_one (ps_expr (pe_bm PySem.F.plainAttrs_list PySem.F.slot_list_append PySem.F.type_list_append mt_append (pv 4) (pa_cons (pe_tup (pa_cons (pv 5) (pa_cons (pv 6) pa_nil))) pa_nil)))) pss_nil))))
      (pss_one (ps_ret (pe_callTy cq_tup (by rfl) T.n_tuple (by decide +kernel) (pa_cons (pv 4) pa_nil))))))
def t__law_bad_record (T : Top K mg) : TS :=
      (tSeq (tAsg (tCallK (sp__law_any K) (fun vs _ => vs) E0 (tCons (tVar 0) (tCons (tOp (rAddA K) (tCB (rLen K) (tCons (tVar 1) tNil)) (tC (.int 1))) tNil)) tNil) (gName 3))
      (tSeq (tAsg (tLst (tCons (tTup (tCons (tC (.int 3)) tNil)) (tCons (tTup (tCons (tC (.int 0)) (tCons (tTup (tCons (tC (.str "out")) (tCons (tVar 2) (tCons (tC (.int 1)) tNil)))) tNil))) (tCons (tTup (tCons (tC (.int 0)) (tCons (tTup (tCons (tC (.str "out")) (tCons (tC (.int 0)) (tCons (tUn (rU fun i => .int (-i)) (tC (.int 1))) tNil)))) tNil))) (tCons (tTup (tCons (tC (.int 0)) (tCons (tTup (tCons (tC (.str "end")) (tCons (tC .non) tNil))) tNil))) (tCons (tTup (tCons (tC (.int 0)) (tCons (tTup (tCons (tC (.str "End")) (tCons (tC (.int 0)) tNil))) tNil))) (tCons (tTup (tCons (tC (.bl true)) (tCons (tTup (tCons (tC (.str "end")) (tCons (tC (.int 0)) tNil))) tNil))) (tCons (tLst (tCons (tC (.int 0)) (tCons (tTup (tCons (tC (.str "end")) (tCons (tC (.int 0)) tNil))) tNil))) (tCons (tTup (tCons (tC (.int 0)) (tCons (tLst (tCons (tC (.str "end")) (tCons (tC (.int 0)) tNil))) tNil))) tNil))))))))) (gName 4))
      (tSeq (tAsg (tOp (rAddA K) (tVar 4) (tLst (tCons (tTup (tCons (tUn (rU fun i => .int (-i)) (tC (.int 1))) (tCons (tTup (tCons (tC (.str "end")) (tCons (tC (.int 0)) tNil))) tNil))) (tCons (tTup (tCons (tC (.int 0)) (tCons (tTup (tCons (tC (.str "out")) (tCons (tC (.bl true)) (tCons (tC (.int 1)) tNil)))) tNil))) (tCons (tTup (tCons (tC (.int 0)) (tCons (tTup (tCons (tC (.str "out")) (tCons (tC (.int 0)) (tCons (tC (.bl false)) tNil)))) tNil))) (tCons (tTup (tCons (tC (.int 0)) (tCons (tTup (tCons (tC (.str "end")) (tCons (tUn (rU fun i => .int (-i)) (tC (.int 1))) tNil))) tNil))) (tCons (tTup (tCons (tC (.int 0)) (tCons (tTup (tCons (tC (.str "out")) (tCons (tC (.int 0)) tNil))) tNil))) (tCons (tTup (tCons (tC (.int 0)) (tCons (tTup (tCons (tC (.str "end")) (tCons (tC (.int 0)) (tCons (tC (.int 0)) tNil)))) tNil))) tNil)))))))) (gName 4))
      (tSeq (tAsg (tTup (tCons (tTup (tCons (tC (.int 9)) (tCons (tTup (tCons (tC (.str "end")) (tCons (tC (.int 0)) tNil))) tNil))) (tCons (tTup (tCons (tC (.int 8)) (tCons (tTup (tCons (tC (.str "end")) (tCons (tC (.int 0)) tNil))) tNil))) tNil))) (gName 5))
      (tRet (tCallK (sp__law_of K) (fun vs _ => vs) E0 (tCons (tVar 0) (tCons (tLst (tCons (tOp (rAddA K) (tOp (rAddA K) (tSl (rSlany K) (tVar 1) tNoPart (tPart (tVar 3))) (tTup (tCons (tCallK (sp__law_of K) (fun vs _ => vs) E0 (tCons (tVar 0) (tCons (tVar 4) tNil)) tNil) tNil))) (tSl (rSlany K) (tVar 1) (tPart (tVar 3)) tNoPart)) (tCons (tCB (rList K) (tCons (tVar 1) tNil)) (tCons (tC .non) (tCons (tOp (rAddA K) (tVar 1) (tVar 5)) tNil))))) tNil)) tNil))))))
theorem d__law_bad_record (T : Top K mg) (G__law_any : GOk P0 w K mg base CX0 1 T.f__law_any T.fd__law_any ["deal", "bound"] (sp__law_any K)) (G__law_of : GOk P0 w K mg base CX0 2 T.f__law_of T.fd__law_of ["deal", "some"] (sp__law_of K)) (cdv : Value) (A : Around) (outer : List Env) (s : Shared) (H : Hp) (E : XK) (hg : (cxOf CX0 P0 w K mg base ["deal", "record", "many", "at", "odd", "late"] "_law_bad_record" (defScope s__law_bad_record) T.f__law_bad_record cdv A outer s H E).A.guards = some []) (hr : Room 2 (cxOf CX0 P0 w K mg base ["deal", "record", "many", "at", "odd", "late"] "_law_bad_record" (defScope s__law_bad_record) T.f__law_bad_record cdv A outer s H E).A) :
    PSs (cxOf CX0 P0 w K mg base ["deal", "record", "many", "at", "odd", "late"] "_law_bad_record" (defScope s__law_bad_record) T.f__law_bad_record cdv A outer s H E).nox (defBody s__law_bad_record) (t__law_bad_record T) :=
      (pss_cons (ps_set (i := 3) sc__law_bad_record.nd rfl (.inl rfl) (pe_g G__law_any hg (hr.mono (by decide)) (by rfl) T.g__law_any T.F__law_any.kp (b__law_any T.F__law_any) pass0 (pa_cons (pv 0) (pa_cons (pe_op oq_add (pe_callB cq_len (by rfl) T.n_len (by decide +kernel) (pa_cons (pv 1) pa_nil)) pe_int) pa_nil))))
      (pss_cons (ps_set (i := 4) sc__law_bad_record.nd rfl (.inl rfl) (pe_lst (pa_cons (pe_tup (pa_cons pe_int pa_nil)) (pa_cons (pe_tup (pa_cons pe_int (pa_cons (pe_tup (pa_cons pe_str (pa_cons (pv 2) (pa_cons pe_int pa_nil)))) pa_nil))) (pa_cons (pe_tup (pa_cons pe_int (pa_cons (pe_tup (pa_cons pe_str (pa_cons pe_int (pa_cons (pe_un un_neg pe_int) pa_nil)))) pa_nil))) (pa_cons (pe_tup (pa_cons pe_int (pa_cons (pe_tup (pa_cons pe_str (pa_cons pe_non pa_nil))) pa_nil))) (pa_cons (pe_tup (pa_cons pe_int (pa_cons (pe_tup (pa_cons pe_str (pa_cons pe_int pa_nil))) pa_nil))) (pa_cons (pe_tup (pa_cons pe_bl (pa_cons (pe_tup (pa_cons pe_str (pa_cons pe_int pa_nil))) pa_nil))) (pa_cons (pe_lst (pa_cons pe_int (pa_cons (pe_tup (pa_cons pe_str (pa_cons pe_int pa_nil))) pa_nil))) (pa_cons (pe_tup (pa_cons pe_int (pa_cons (pe_lst (pa_cons pe_str (pa_cons pe_int pa_nil))) pa_nil))) pa_nil))))))))))
      (pss_cons (ps_set (i := 4) sc__law_bad_record.nd rfl (.inl rfl) (pe_op oq_add (pv 4) (pe_lst (pa_cons (pe_tup (pa_cons (pe_un un_neg pe_int) (pa_cons (pe_tup (pa_cons pe_str (pa_cons pe_int pa_nil))) pa_nil))) (pa_cons (pe_tup (pa_cons pe_int (pa_cons (pe_tup (pa_cons pe_str (pa_cons pe_bl (pa_cons pe_int pa_nil)))) pa_nil))) (pa_cons (pe_tup (pa_cons pe_int (pa_cons (pe_tup (pa_cons pe_str (pa_cons pe_int (pa_cons pe_bl pa_nil)))) pa_nil))) (pa_cons (pe_tup (pa_cons pe_int (pa_cons (pe_tup (pa_cons pe_str (pa_cons (pe_un un_neg pe_int) pa_nil))) pa_nil))) (pa_cons (pe_tup (pa_cons pe_int (pa_cons (pe_tup (pa_cons pe_str (pa_cons pe_int pa_nil))) pa_nil))) (pa_cons (pe_tup (pa_cons pe_int (pa_cons (pe_tup (pa_cons pe_str (pa_cons pe_int (pa_cons pe_int pa_nil)))) pa_nil))) pa_nil)))))))))
      (pss_cons (ps_set (i := 5) sc__law_bad_record.nd rfl (.inl rfl) (pe_tup (pa_cons (pe_tup (pa_cons pe_int (pa_cons (pe_tup (pa_cons pe_str (pa_cons pe_int pa_nil))) pa_nil))) (pa_cons (pe_tup (pa_cons pe_int (pa_cons (pe_tup (pa_cons pe_str (pa_cons pe_int pa_nil))) pa_nil))) pa_nil))))
      (pss_one (ps_ret (pe_g G__law_of hg hr (by rfl) T.g__law_of T.F__law_of.kp (b__law_of T.F__law_of) pass0 (pa_cons (pv 0) (pa_cons (pe_lst (pa_cons (pe_op oq_add (pe_op oq_add (pe_slice sq_any (pv 1) po_none (po_some (pv 3))) (pe_tup (pa_cons (pe_g G__law_of hg hr (by rfl) T.g__law_of T.F__law_of.kp (b__law_of T.F__law_of) pass0 (pa_cons (pv 0) (pa_cons (pv 4) pa_nil))) pa_nil))) (pe_slice sq_any (pv 1) (po_some (pv 3)) po_none)) (pa_cons (pe_callTy cq_list (by rfl) T.n_list (by decide +kernel) (pa_cons (pv 1) pa_nil)) (pa_cons pe_non (pa_cons (pe_op oq_add (pv 1) (pv 5)) pa_nil))))) pa_nil)))))))))
def t_law (T : Top K mg) : TS :=
      (tSeq (tAsg (tCallK (sp__law_draw K) (fun vs _ => vs) E0 (tCons (tVar 0) (tCons (tC (.int 4)) tNil)) tNil) (gName 1))
      (tSeq (tAsg (tCallK (sp__law_order K) (fun vs _ => vs) E0 (tCons (tVar 1) tNil) tNil) (gName 2))
      (tSeq (tAsg (tTup (tCons (tCB (rLen K) (tCons (tVar 2) tNil)) (tCons (tOp (rAddA K) (tC (.int 1)) (tCallK (sp__law_any K) (fun vs _ => vs) E0 (tCons (tVar 1) (tCons (tC (.int 3)) tNil)) tNil)) tNil))) (gTup K 2 (gCons (gName 3) (gCons (gName 4) gNil))))
      (tSeq (tAsg (tCB (rTup K) (tCons (tLc (iRng1 (tCons (tVar 3) tNil)) (gName 7) tYes (tCB (rTup K) (tCons (tLc (iRng1 (tCons (tCallK (sp__law_any K) (fun vs _ => vs) E0 (tCons (tVar 1) (tCons (tC (.int 3)) tNil)) tNil) tNil)) (gName 6) tYes (tCallK (sp__law_any K) (fun vs _ => vs) E0 (tCons (tVar 1) (tCons (tC (.int 4)) tNil)) tNil) [6]) tNil)) [7]) tNil)) (gName 5))
      (tSeq (tAsg (tCB (rTup K) (tCons (tLc (iAny K (tVar 5)) (gName 9) tYes (tIf (tTest (tOp (rI0 fun i j => .bl (decide (j < i))) (tCallK (sp__law_any K) (fun vs _ => vs) E0 (tCons (tVar 1) (tCons (tC (.int 3)) tNil)) tNil) (tC (.int 0)))) (tVar 9) (tOp (rAddA K) (tVar 9) (tTup (tCons (tC (.int 1)) tNil)))) [9]) tNil)) (gName 8))
      (tSeq (tAsg (tCallK (sp__law_record K) (fun vs _ => vs) E0 (tCons (tVar 1) (tCons (tVar 3) (tCons (tVar 4) tNil))) tNil) (gName 10))
      (tSeq (tAsg (tCB (rTup K) (tCons (tLc (iRng1 (tCons (tVar 4) tNil)) (gName 12) tYes (tCB (rTup K) (tCons (tLc (iRng1 (tCons (tVar 3) tNil)) (gName 7) (tTest (tOp (rEqA K) (tCallK (sp__law_any K) (fun vs _ => vs) E0 (tCons (tVar 1) (tCons (tC (.int 3)) tNil)) tNil) (tC (.int 0)))) (tVar 7) [7]) tNil)) [12]) tNil)) (gName 11))
      (tSeq (tIfS (tOr (tTest (tOp rNotB (tCallK (sp_is_input K) (fun vs zs => kf_is_input_0_value_order vs zs) E0 tNil (tCons (tVar 5) (tCons (tVar 2) tNil))) (tC (.bl true)))) (tTest (tOp rNotB (tCallK (sp_is_record K) (fun vs zs => kf_is_record_0_value_order vs zs) E0 tNil (tCons (tVar 10) (tCons (tVar 2) tNil))) (tC (.bl true))))) (tRet (tC (.bl false))) tNext)
      (tSeq (tAsg (tLst (tCons (tCB (rList K) (tCons (tVar 5) tNil)) (tCons (tOp (rAddA K) (tVar 5) (tTup (tCons (tTup tNil) tNil))) (tCons (tSl (rSlany K) (tVar 5) (tPart (tC (.int 1))) tNoPart) (tCons (tOp (rMulT K) (tTup (tCons (tC .non) tNil)) (tVar 3)) (tCons (tOp (rAddA K) (tSl (rSlany K) (tVar 5) (tPart (tC (.int 1))) tNoPart) (tTup (tCons (tTup (tCons (tUn (rU fun i => .int (-i)) (tC (.int 1))) tNil)) tNil))) (tCons (tOp (rAddA K) (tSl (rSlany K) (tVar 5) (tPart (tC (.int 1))) tNoPart) (tTup (tCons (tTup (tCons (tC (.bl true)) tNil)) tNil))) (tCons (tOp (rAddA K) (tSl (rSlany K) (tVar 5) (tPart (tC (.int 1))) tNoPart) (tTup (tCons (tLst (tCons (tC (.int 0)) tNil)) tNil))) (tCons (tC .non) tNil))))))))) (gName 13))
      (tSeq (tIfS (tOr (tTest (tOp rNotB (tCallK (sp_is_input K) (fun vs _ => vs) E0 (tCons (tVar 2) (tCons (tCallK (sp__law_of K) (fun vs _ => vs) E0 (tCons (tVar 1) (tCons (tVar 13) tNil)) tNil) tNil)) tNil) (tC (.bl false)))) (tTest (tOp rNotB (tCallK (sp_is_record K) (fun vs _ => vs) E0 (tCons (tVar 2) (tCons (tCallK (sp__law_bad_record K) (fun vs _ => vs) E0 (tCons (tVar 1) (tCons (tVar 10) (tCons (tVar 3) tNil))) tNil) tNil)) tNil) (tC (.bl false))))) (tRet (tC (.bl false))) tNext)
      (tSeq (tAsg (tCallK (sp__law_any K) (fun vs _ => vs) E0 (tCons (tVar 1) (tCons (tC (.int 12)) tNil)) tNil) (gName 14))
      (tSeq (tAsg (tCB (rTup K) (tCons (tLc (iAny K (tVar 10)) (gName 16) (tTest (tOp rLtA (tOp (rIx K) (tVar 16) (tC (.int 0))) (tVar 14))) (tVar 16) [16]) tNil)) (gName 15))
      (tSeq (tIfS (tTest (tOp (rNeA K) (tCB (rRepr K) (tCons (tCallK (sp_cut_record K) (fun vs zs => kf_cut_record_0_tick_record vs zs) E0 tNil (tCons (tVar 14) (tCons (tVar 10) tNil))) tNil)) (tCB (rRepr K) (tCons (tVar 15) tNil)))) (tRet (tC (.bl false))) tNext)
      (tSeq (tFor (iRng1 (tCons (tVar 3) tNil)) (gName 7) (tSeq (tAsg (tOp (rEqA K) (tLc (iAny K (tOp (rIx K) (tVar 2) (tVar 7))) (gName 18) (tTest (tOp (rNeA K) (tOp (rIx K) (tVar 5) (tVar 18)) (tOp (rIx K) (tVar 8) (tVar 18)))) (tVar 18) [18]) (tLst tNil)) (gName 17))
        (tSeq (tIfS (tTest (tOp (rNeA K) (tCB (rRepr K) (tCons (tCallK (sp_alike_inputs K) (fun vs zs => kf_alike_inputs_0_other_one_level_order vs zs) E0 tNil (tCons (tVar 8) (tCons (tVar 5) (tCons (tVar 7) (tCons (tVar 2) tNil))))) tNil)) (tCB (rRepr K) (tCons (tVar 17) tNil)))) (tRet (tC (.bl false))) tNext)
        (tSeq (tAsg (tCallK (sp__law_seen K) (fun vs _ => vs) E0 (tCons (tVar 2) (tCons (tVar 7) (tCons (tVar 11) (tCons (tVar 10) tNil)))) tNil) (gName 19))
        (tSeq (tIfS (tTest (tOp (rNeA K) (tCB (rRepr K) (tCons (tCallK (sp_seen K) (fun vs zs => kf_seen_0_record_ends_level_order vs zs) E0 tNil (tCons (tVar 10) (tCons (tVar 11) (tCons (tVar 7) (tCons (tVar 2) tNil))))) tNil)) (tCB (rRepr K) (tCons (tVar 19) tNil)))) (tRet (tC (.bl false))) tNext)
        (tSeq (tIfS (tTest (tOp (rNeA K) (tCallK (sp_seen K) (fun vs _ => vs) E0 (tCons (tVar 2) (tCons (tVar 7) (tCons (tVar 11) (tCons (tCallK (sp_cut_record K) (fun vs _ => vs) E0 (tCons (tVar 10) (tCons (tVar 14) tNil)) tNil) tNil)))) tNil) (tCallK (sp_cut_record K) (fun vs _ => vs) E0 (tCons (tVar 19) (tCons (tVar 14) tNil)) tNil))) (tRet (tC (.bl false))) tNext)
        (tFor (iAny K (tOp (rIx K) (tVar 2) (tVar 7))) (gName 20) (tIfS (tTest (tOp (rNeA K) (tCallK (sp_seen K) (fun vs _ => vs) E0 (tCons (tVar 2) (tCons (tVar 20) (tCons (tVar 11) (tCons (tCallK (sp_seen K) (fun vs _ => vs) E0 (tCons (tVar 2) (tCons (tVar 7) (tCons (tVar 11) (tCons (tVar 10) tNil)))) tNil) tNil)))) tNil) (tCallK (sp__law_seen K) (fun vs _ => vs) E0 (tCons (tVar 2) (tCons (tVar 20) (tCons (tVar 11) (tCons (tVar 10) tNil)))) tNil))) (tRet (tC (.bl false))) tNext))))))))
      (tRet (tC (.bl true)))))))))))))))))
theorem d_law (T : Top K mg) (G__law_draw : GOk P0 w K mg base CX0 1 T.f__law_draw T.fd__law_draw ["script", "salt"] (sp__law_draw K)) (G__law_order : GOk P0 w K mg base CX0 3 T.f__law_order T.fd__law_order ["deal"] (sp__law_order K)) (G__law_record : GOk P0 w K mg base CX0 2 T.f__law_record T.fd__law_record ["deal", "many", "threads"] (sp__law_record K)) (G__law_any : GOk P0 w K mg base CX0 1 T.f__law_any T.fd__law_any ["deal", "bound"] (sp__law_any K)) (G__law_seen : GOk P0 w K mg base CX0 1 T.f__law_seen T.fd__law_seen ["order", "level", "ends", "record"] (sp__law_seen K)) (G_is_input : GOk P0 w K mg base CX0 3 T.f_is_input T.fd_is_input ["order", "value"] (sp_is_input K)) (G_is_record : GOk P0 w K mg base CX0 5 T.f_is_record T.fd_is_record ["order", "value"] (sp_is_record K)) (G_cut_record : GOk P0 w K mg base CX0 1 T.f_cut_record T.fd_cut_record ["record", "tick"] (sp_cut_record K)) (G_seen : GOk P0 w K mg base CX0 3 T.f_seen T.fd_seen ["order", "level", "ends", "record"] (sp_seen K)) (G__law_of : GOk P0 w K mg base CX0 2 T.f__law_of T.fd__law_of ["deal", "some"] (sp__law_of K)) (G__law_bad_record : GOk P0 w K mg base CX0 3 T.f__law_bad_record T.fd__law_bad_record ["deal", "record", "many"] (sp__law_bad_record K)) (G_alike_inputs : GOk P0 w K mg base CX0 1 T.f_alike_inputs T.fd_alike_inputs ["order", "level", "one", "other"] (sp_alike_inputs K)) (cdv : Value) (A : Around) (outer : List Env) (s : Shared) (H : Hp) (E : XK) (hg : (cxOf CX0 P0 w K mg base ["script", "deal", "order", "many", "threads", "one", "turn", "level", "other", "stream", "record", "ends", "thread", "bad", "tick", "cut", "pair", "due", "spot", "sight", "lower"] "law" (defScope s_law) T.f_law cdv A outer s H E).A.guards = some []) (hr : Room 5 (cxOf CX0 P0 w K mg base ["script", "deal", "order", "many", "threads", "one", "turn", "level", "other", "stream", "record", "ends", "thread", "bad", "tick", "cut", "pair", "due", "spot", "sight", "lower"] "law" (defScope s_law) T.f_law cdv A outer s H E).A) :
    PSs (cxOf CX0 P0 w K mg base ["script", "deal", "order", "many", "threads", "one", "turn", "level", "other", "stream", "record", "ends", "thread", "bad", "tick", "cut", "pair", "due", "spot", "sight", "lower"] "law" (defScope s_law) T.f_law cdv A outer s H E).nox (defBody s_law) (t_law T) :=
      (pss_cons (ps_set (i := 1) sc_law.nd rfl (.inr rfl) (pe_g G__law_draw hg (hr.mono (by decide)) (by rfl) T.g__law_draw T.F__law_draw.kp (b__law_draw T.F__law_draw) pass0 (pa_cons (pv 0) (pa_cons pe_int pa_nil))))
      (pss_cons (ps_set (i := 2) sc_law.nd rfl (.inl rfl) (pe_g G__law_order hg (hr.mono (by decide)) (by rfl) T.g__law_order T.F__law_order.kp (b__law_order T.F__law_order) pass0 (pa_cons (pv 1) pa_nil)))
      (pss_cons (ps_asg (pe_tup (pa_cons (pe_callB cq_len (by rfl) T.n_len (by decide +kernel) (pa_cons (pv 2) pa_nil)) (pa_cons (pe_op oq_add pe_int (pe_g G__law_any hg (hr.mono (by decide)) (by rfl) T.g__law_any T.F__law_any.kp (b__law_any T.F__law_any) pass0 (pa_cons (pv 1) (pa_cons pe_int pa_nil)))) pa_nil))) (pg_tup (by rfl) (pgs_cons (pg_name (i := 3) sc_law.nd rfl (.inr rfl)) (pgs_cons (pg_name (i := 4) sc_law.nd rfl (.inl rfl)) pgs_nil))))
      (pss_cons (ps_set (i := 5) sc_law.nd rfl (.inr rfl) (pe_callTy cq_tup (by rfl) T.n_tuple (by decide +kernel) (pa_cons (pe_lc (own := [("level", 7)]) (by rfl) sc_law.nd (pi_range1 (by rfl) T.n_range (pa_cons (pv 3) pa_nil)) (blkOk_by (own := [("level", 7)]) (N := ["script", "deal", "order", "many", "threads", "one", "turn", "level", "other", "stream", "record", "ends", "thread", "bad", "tick", "cut", "pair", "due", "spot", "sight", "lower"]) (sc := defScope s_law) (by decide +kernel)) (fun _ _ _ _ _ => (pg_name (i := 7) sc_law.nd rfl (.inl rfl))) (fun _ _ _ _ _ => pts_nil) (fun _ _ _ _ _ => (pe_callTy cq_tup (by rfl) T.n_tuple (by decide +kernel) (pa_cons (pe_lc (own := [("turn", 6)]) (by rfl) sc_law.nd (pi_range1 (by rfl) T.n_range (pa_cons (pe_g G__law_any hg (hr.mono (by decide)) (by rfl) T.g__law_any T.F__law_any.kp (b__law_any T.F__law_any) pass0 (pa_cons (pv 1) (pa_cons pe_int pa_nil))) pa_nil)) (blkOk_by (own := [("turn", 6)]) (by kernel_rfl)) (fun _ _ _ _ _ => (pg_name (i := 6) sc_law.nd rfl (.inl rfl))) (fun _ _ _ _ _ => pts_nil) (fun _ _ _ _ _ => (pe_g G__law_any hg (hr.mono (by decide)) (by rfl) T.g__law_any T.F__law_any.kp (b__law_any T.F__law_any) pass0 (pa_cons (pv 1) (pa_cons pe_int pa_nil))))) pa_nil)))) pa_nil)))
      (pss_cons (ps_set (i := 8) sc_law.nd rfl (.inr rfl) (pe_callTy cq_tup (by rfl) T.n_tuple (by decide +kernel) (pa_cons (pe_lc (own := [("stream", 9)]) (by rfl) sc_law.nd (pi_any (pv 5)) (blkOk_by (own := [("stream", 9)]) (N := ["script", "deal", "order", "many", "threads", "one", "turn", "level", "other", "stream", "record", "ends", "thread", "bad", "tick", "cut", "pair", "due", "spot", "sight", "lower"]) (sc := defScope s_law) (by decide +kernel)) (fun _ _ _ _ _ => (pg_name (i := 9) sc_law.nd rfl (.inl rfl))) (fun _ _ _ _ _ => pts_nil) (fun _ _ _ _ _ => (pe_ifExp (pt_cmpR op_gt (pe_g G__law_any hg (hr.mono (by decide)) (by rfl) T.g__law_any T.F__law_any.kp (b__law_any T.F__law_any) pass0 (pa_cons (pv 1) (pa_cons pe_int pa_nil))) pe_int (nomark _)) (pv 9) (pe_op oq_add (pv 9) (pe_tup (pa_cons pe_int pa_nil)))))) pa_nil)))
      (pss_cons (ps_set (i := 10) sc_law.nd rfl (.inl rfl) (pe_g G__law_record hg (hr.mono (by decide)) (by rfl) T.g__law_record T.F__law_record.kp (b__law_record T.F__law_record) pass0 (pa_cons (pv 1) (pa_cons (pv 3) (pa_cons (pv 4) pa_nil)))))
      (pss_cons (ps_set (i := 11) sc_law.nd rfl (.inl rfl) (pe_callTy cq_tup (by rfl) T.n_tuple (by decide +kernel) (pa_cons (pe_lc (own := [("thread", 12)]) (by rfl) sc_law.nd (pi_range1 (by rfl) T.n_range (pa_cons (pv 4) pa_nil)) (blkOk_by (own := [("thread", 12)]) (N := ["script", "deal", "order", "many", "threads", "one", "turn", "level", "other", "stream", "record", "ends", "thread", "bad", "tick", "cut", "pair", "due", "spot", "sight", "lower"]) (sc := defScope s_law) (by decide +kernel)) (fun _ _ _ _ _ => (pg_name (i := 12) sc_law.nd rfl (.inl rfl))) (fun _ _ _ _ _ => pts_nil) (fun _ _ _ _ _ => (pe_callTy cq_tup (by rfl) T.n_tuple (by decide +kernel) (pa_cons (pe_lc (own := [("level", 7)]) (by rfl) sc_law.nd (pi_range1 (by rfl) T.n_range (pa_cons (pv 3) pa_nil)) (blkOk_by (own := [("level", 7)]) (by kernel_rfl)) (fun _ _ _ _ _ => (pg_name (i := 7) sc_law.nd rfl (.inl rfl))) (fun _ _ _ _ _ => (pts_one (pt_cmpR (oq_eq hr) (pe_g G__law_any hg (hr.mono (by decide)) (by rfl) T.g__law_any T.F__law_any.kp (b__law_any T.F__law_any) pass0 (pa_cons (pv 1) (pa_cons pe_int pa_nil))) pe_int (nomark _)))) (fun _ _ _ _ _ => (pv 7))) pa_nil)))) pa_nil)))
      (pss_cons (ps_if (PW.pt (pw_or (pt_cmpR op_notBl (pe_gk0 G_is_input hg (hr.mono (by decide)) (by rfl) T.g_is_input T.F_is_input.kp (kb_is_input_0_value_order T.F_is_input) pass0 (pk_cons (pv 5) (pk_cons (pv 2) pk_nil))) pe_bl (nomark _)) (pw_or1 (pt_cmpR op_notBl (pe_gk0 G_is_record hg hr (by rfl) T.g_is_record T.F_is_record.kp (kb_is_record_0_value_order T.F_is_record) pass0 (pk_cons (pv 10) (pk_cons (pv 2) pk_nil))) pe_bl (nomark _))))) (pss_one (ps_ret pe_bl)) pss_nil)
      (pss_cons (ps_set (i := 13) sc_law.nd rfl (.inl rfl) (pe_lst (pa_cons (pe_callTy cq_list (by rfl) T.n_list (by decide +kernel) (pa_cons (pv 5) pa_nil)) (pa_cons (pe_op oq_add (pv 5) (pe_tup (pa_cons (pe_tup pa_nil) pa_nil))) (pa_cons (pe_slice sq_any (pv 5) (po_some pe_int) po_none) (pa_cons (pe_op oq_mulT (pe_tup (pa_cons pe_non pa_nil)) (pv 3)) (pa_cons (pe_op oq_add (pe_slice sq_any (pv 5) (po_some pe_int) po_none) (pe_tup (pa_cons (pe_tup (pa_cons (pe_un un_neg pe_int) pa_nil)) pa_nil))) (pa_cons (pe_op oq_add (pe_slice sq_any (pv 5) (po_some pe_int) po_none) (pe_tup (pa_cons (pe_tup (pa_cons pe_bl pa_nil)) pa_nil))) (pa_cons (pe_op oq_add (pe_slice sq_any (pv 5) (po_some pe_int) po_none) (pe_tup (pa_cons (pe_lst (pa_cons pe_int pa_nil)) pa_nil))) (pa_cons pe_non pa_nil))))))))))
      (pss_cons (ps_if (PW.pt (pw_or (pt_cmpR op_notBl (pe_g G_is_input hg (hr.mono (by decide)) (by rfl) T.g_is_input T.F_is_input.kp (b_is_input T.F_is_input) pass0 (pa_cons (pv 2) (pa_cons (pe_g G__law_of hg (hr.mono (by decide)) (by rfl) T.g__law_of T.F__law_of.kp (b__law_of T.F__law_of) pass0 (pa_cons (pv 1) (pa_cons (pv 13) pa_nil))) pa_nil))) pe_bl (nomark _)) (pw_or1 (pt_cmpR op_notBl (pe_g G_is_record hg hr (by rfl) T.g_is_record T.F_is_record.kp (b_is_record T.F_is_record) pass0 (pa_cons (pv 2) (pa_cons (pe_g G__law_bad_record hg (hr.mono (by decide)) (by rfl) T.g__law_bad_record T.F__law_bad_record.kp (b__law_bad_record T.F__law_bad_record) pass0 (pa_cons (pv 1) (pa_cons (pv 10) (pa_cons (pv 3) pa_nil)))) pa_nil))) pe_bl (nomark _))))) (pss_one (ps_ret pe_bl)) pss_nil)
      (pss_cons (ps_set (i := 14) sc_law.nd rfl (.inr rfl) (pe_g G__law_any hg (hr.mono (by decide)) (by rfl) T.g__law_any T.F__law_any.kp (b__law_any T.F__law_any) pass0 (pa_cons (pv 1) (pa_cons pe_int pa_nil))))
      (pss_cons (ps_set (i := 15) sc_law.nd rfl (.inl rfl) (pe_callTy cq_tup (by rfl) T.n_tuple (by decide +kernel) (pa_cons (pe_lc (own := [("pair", 16)]) (by rfl) sc_law.nd (pi_any (pv 10)) (blkOk_by (own := [("pair", 16)]) (N := ["script", "deal", "order", "many", "threads", "one", "turn", "level", "other", "stream", "record", "ends", "thread", "bad", "tick", "cut", "pair", "due", "spot", "sight", "lower"]) (sc := defScope s_law) (by decide +kernel)) (fun _ _ _ _ _ => (pg_name (i := 16) sc_law.nd rfl (.inl rfl))) (fun _ _ _ _ _ => (pts_one (pt_cmpR oq_lt (pe_ix ix_seq (pv 16) pe_int (fun _ _ => rfl)) (pv 14) (nomark _)))) (fun _ _ _ _ _ => (pv 16))) pa_nil)))
      (pss_cons (ps_if (pt_cmpR (oq_ne hr) (pe_callB (cq_repr hg hr) (by rfl) T.n_repr (by decide +kernel) (pa_cons (pe_gk0 G_cut_record hg (hr.mono (by decide)) (by rfl) T.g_cut_record T.F_cut_record.kp (kb_cut_record_0_tick_record T.F_cut_record) pass0 (pk_cons (pv 14) (pk_cons (pv 10) pk_nil))) pa_nil)) (pe_callB (cq_repr hg hr) (by rfl) T.n_repr (by decide +kernel) (pa_cons (pv 15) pa_nil)) (nomark _)) (pss_one (ps_ret pe_bl)) pss_nil)
      (pss_cons (ps_for PassesOwn.never rfl (pi_range1 (by rfl) T.n_range (pa_cons (pv 3) pa_nil)) (pg_name (i := 7) sc_law.nd rfl (.inl rfl)) (pss_cons (ps_set (i := 17) sc_law.nd rfl (.inl rfl) (pe_cmpR (oq_eq hr) (pe_lc (own := [("spot", 18)]) (by rfl) sc_law.nd (pi_any (pe_ix ix_seq (pv 2) (pv 7) (fun _ _ => rfl))) (blkOk_by (own := [("spot", 18)]) (N := ["script", "deal", "order", "many", "threads", "one", "turn", "level", "other", "stream", "record", "ends", "thread", "bad", "tick", "cut", "pair", "due", "spot", "sight", "lower"]) (sc := defScope s_law) (by decide +kernel)) (fun _ _ _ _ _ => (pg_name (i := 18) sc_law.nd rfl (.inl rfl))) (fun _ _ _ _ _ => (pts_one (pt_cmpR (oq_ne hr) (pe_ix ix_seq (pv 5) (pv 18) (fun _ _ => rfl)) (pe_ix ix_seq (pv 8) (pv 18) (fun _ _ => rfl)) (nomark _)))) (fun _ _ _ _ _ => (pv 18))) (pe_lst pa_nil) (nomark _)))
        (pss_cons (ps_if (pt_cmpR (oq_ne hr) (pe_callB (cq_repr hg hr) (by rfl) T.n_repr (by decide +kernel) (pa_cons (pe_gk0 G_alike_inputs hg (hr.mono (by decide)) (by rfl) T.g_alike_inputs T.F_alike_inputs.kp (kb_alike_inputs_0_other_one_level_order T.F_alike_inputs) pass0 (pk_cons (pv 8) (pk_cons (pv 5) (pk_cons (pv 7) (pk_cons (pv 2) pk_nil))))) pa_nil)) (pe_callB (cq_repr hg hr) (by rfl) T.n_repr (by decide +kernel) (pa_cons (pv 17) pa_nil)) (nomark _)) (pss_one (ps_ret pe_bl)) pss_nil)
        (pss_cons (ps_set (i := 19) sc_law.nd rfl (.inl rfl) (pe_g G__law_seen hg (hr.mono (by decide)) (by rfl) T.g__law_seen T.F__law_seen.kp (b__law_seen T.F__law_seen) pass0 (pa_cons (pv 2) (pa_cons (pv 7) (pa_cons (pv 11) (pa_cons (pv 10) pa_nil))))))
        (pss_cons (ps_if (pt_cmpR (oq_ne hr) (pe_callB (cq_repr hg hr) (by rfl) T.n_repr (by decide +kernel) (pa_cons (pe_gk0 G_seen hg (hr.mono (by decide)) (by rfl) T.g_seen T.F_seen.kp (kb_seen_0_record_ends_level_order T.F_seen) pass0 (pk_cons (pv 10) (pk_cons (pv 11) (pk_cons (pv 7) (pk_cons (pv 2) pk_nil))))) pa_nil)) (pe_callB (cq_repr hg hr) (by rfl) T.n_repr (by decide +kernel) (pa_cons (pv 19) pa_nil)) (nomark _)) (pss_one (ps_ret pe_bl)) pss_nil)
        (pss_cons (ps_if (pt_cmpR (oq_ne hr) (pe_g G_seen hg (hr.mono (by decide)) (by rfl) T.g_seen T.F_seen.kp (b_seen T.F_seen) pass0 (pa_cons (pv 2) (pa_cons (pv 7) (pa_cons (pv 11) (pa_cons (pe_g G_cut_record hg (hr.mono (by decide)) (by rfl) T.g_cut_record T.F_cut_record.kp (b_cut_record T.F_cut_record) pass0 (pa_cons (pv 10) (pa_cons (pv 14) pa_nil))) pa_nil))))) (pe_g G_cut_record hg (hr.mono (by decide)) (by rfl) T.g_cut_record T.F_cut_record.kp (b_cut_record T.F_cut_record) pass0 (pa_cons (pv 19) (pa_cons (pv 14) pa_nil))) (nomark _)) (pss_one (ps_ret pe_bl)) pss_nil)
        (pss_one (ps_for PassesOwn.never rfl (pi_any (pe_ix ix_seq (pv 2) (pv 7) (fun _ _ => rfl))) (pg_name (i := 20) sc_law.nd rfl (.inl rfl)) (pss_one (ps_if (pt_cmpR (oq_ne hr) (pe_g G_seen hg (hr.mono (by decide)) (by rfl) T.g_seen T.F_seen.kp (b_seen T.F_seen) pass0 (pa_cons (pv 2) (pa_cons (pv 20) (pa_cons (pv 11) (pa_cons (pe_g G_seen hg (hr.mono (by decide)) (by rfl) T.g_seen T.F_seen.kp (b_seen T.F_seen) pass0 (pa_cons (pv 2) (pa_cons (pv 7) (pa_cons (pv 11) (pa_cons (pv 10) pa_nil))))) pa_nil))))) (pe_g G__law_seen hg (hr.mono (by decide)) (by rfl) T.g__law_seen T.F__law_seen.kp (b__law_seen T.F__law_seen) pass0 (pa_cons (pv 2) (pa_cons (pv 20) (pa_cons (pv 11) (pa_cons (pv 10) pa_nil))))) (nomark _)) (pss_one (ps_ret pe_bl)) pss_nil))))))))))
      (pss_one (ps_ret pe_bl))))))))))))))))
end
/-! ### the top -/
theorem top_mk {K : PySem.W.Frag} {h : Heap} {mg : Str → Option Value} {fa : Addr} (X : K.In h) (G : h.Ns mainGlobals mg) (hfa : mg "law" = some (.ref fa))
    {f0 : Addr} {od0 an0 : Option Addr} {sl0 : Array (Option Value)} {oc0 kV0 dc0 pm0 cd0 ct0 : Value}
    {f1 : Addr} {od1 an1 : Option Addr} {sl1 : Array (Option Value)} {oc1 kV1 dc1 pm1 cd1 ct1 : Value}
    {f2 : Addr} {od2 an2 : Option Addr} {sl2 : Array (Option Value)} {oc2 kV2 dc2 pm2 cd2 ct2 : Value}
    {f3 : Addr} {od3 an3 : Option Addr} {sl3 : Array (Option Value)} {oc3 kV3 dc3 pm3 cd3 ct3 : Value}
    {f4 : Addr} {od4 an4 : Option Addr} {sl4 : Array (Option Value)} {oc4 kV4 dc4 pm4 cd4 ct4 : Value}
    {f5 : Addr} {od5 an5 : Option Addr} {sl5 : Array (Option Value)} {oc5 kV5 dc5 pm5 cd5 ct5 : Value}
    {f6 : Addr} {od6 an6 : Option Addr} {sl6 : Array (Option Value)} {oc6 kV6 dc6 pm6 cd6 ct6 : Value}
    {f7 : Addr} {od7 an7 : Option Addr} {sl7 : Array (Option Value)} {oc7 kV7 dc7 pm7 cd7 ct7 : Value}
    {f8 : Addr} {od8 an8 : Option Addr} {sl8 : Array (Option Value)} {oc8 kV8 dc8 pm8 cd8 ct8 : Value}
    {f9 : Addr} {od9 an9 : Option Addr} {sl9 : Array (Option Value)} {oc9 kV9 dc9 pm9 cd9 ct9 : Value}
    {f10 : Addr} {od10 an10 : Option Addr} {sl10 : Array (Option Value)} {oc10 kV10 dc10 pm10 cd10 ct10 : Value}
    {f11 : Addr} {od11 an11 : Option Addr} {sl11 : Array (Option Value)} {oc11 kV11 dc11 pm11 cd11 ct11 : Value}
    {f12 : Addr} {od12 an12 : Option Addr} {sl12 : Array (Option Value)} {oc12 kV12 dc12 pm12 cd12 ct12 : Value}
    {f13 : Addr} {od13 an13 : Option Addr} {sl13 : Array (Option Value)} {oc13 kV13 dc13 pm13 cd13 ct13 : Value}
    {f14 : Addr} {od14 an14 : Option Addr} {sl14 : Array (Option Value)} {oc14 kV14 dc14 pm14 cd14 ct14 : Value}
    {f15 : Addr} {od15 an15 : Option Addr} {sl15 : Array (Option Value)} {oc15 kV15 dc15 pm15 cd15 ct15 : Value}
    {f16 : Addr} {od16 an16 : Option Addr} {sl16 : Array (Option Value)} {oc16 kV16 dc16 pm16 cd16 ct16 : Value}
    {f17 : Addr} {od17 an17 : Option Addr} {sl17 : Array (Option Value)} {oc17 kV17 dc17 pm17 cd17 ct17 : Value}
    {f18 : Addr} {od18 an18 : Option Addr} {sl18 : Array (Option Value)} {oc18 kV18 dc18 pm18 cd18 ct18 : Value}
    {f19 : Addr} {od19 an19 : Option Addr} {sl19 : Array (Option Value)} {oc19 kV19 dc19 pm19 cd19 ct19 : Value}
    {f20 : Addr} {od20 an20 : Option Addr} {sl20 : Array (Option Value)} {oc20 kV20 dc20 pm20 cd20 ct20 : Value}
    {f21 : Addr} {od21 an21 : Option Addr} {sl21 : Array (Option Value)} {oc21 kV21 dc21 pm21 cd21 ct21 : Value}
    (a0 : PySem.W.nsIn K mainGlobals "is_integer" = some (some (.ref f0))) (l0 : K.lookup f0 = some ⟨oc0, od0, .func (PySem.W.fnOf "is_integer" "is_integer" (defArgs s_is_integer) (defBody s_is_integer) (defScope s_is_integer) .none kV0 dc0 pm0 an0 cd0 ct0), sl0⟩) (c0 : PySem.W.codeIn K cd0 "is_integer" = true) (k0 : PySem.W.keepIn K (.ref f0) = true)
    (a1 : PySem.W.nsIn K mainGlobals "is_number" = some (some (.ref f1))) (l1 : K.lookup f1 = some ⟨oc1, od1, .func (PySem.W.fnOf "is_number" "is_number" (defArgs s_is_number) (defBody s_is_number) (defScope s_is_number) .none kV1 dc1 pm1 an1 cd1 ct1), sl1⟩) (c1 : PySem.W.codeIn K cd1 "is_number" = true) (k1 : PySem.W.keepIn K (.ref f1) = true)
    (a2 : PySem.W.nsIn K mainGlobals "is_index" = some (some (.ref f2))) (l2 : K.lookup f2 = some ⟨oc2, od2, .func (PySem.W.fnOf "is_index" "is_index" (defArgs s_is_index) (defBody s_is_index) (defScope s_is_index) .none kV2 dc2 pm2 an2 cd2 ct2), sl2⟩) (c2 : PySem.W.codeIn K cd2 "is_index" = true) (k2 : PySem.W.keepIn K (.ref f2) = true)
    (a3 : PySem.W.nsIn K mainGlobals "is_row_of" = some (some (.ref f3))) (l3 : K.lookup f3 = some ⟨oc3, od3, .func (PySem.W.fnOf "is_row_of" "is_row_of" (defArgs s_is_row_of) (defBody s_is_row_of) (defScope s_is_row_of) .none kV3 dc3 pm3 an3 cd3 ct3), sl3⟩) (c3 : PySem.W.codeIn K cd3 "is_row_of" = true) (k3 : PySem.W.keepIn K (.ref f3) = true)
    (a4 : PySem.W.nsIn K mainGlobals "lot_within" = some (some (.ref f4))) (l4 : K.lookup f4 = some ⟨oc4, od4, .func (PySem.W.fnOf "lot_within" "lot_within" (defArgs s_lot_within) (defBody s_lot_within) (defScope s_lot_within) .none kV4 dc4 pm4 an4 cd4 ct4), sl4⟩) (c4 : PySem.W.codeIn K cd4 "lot_within" = true) (k4 : PySem.W.keepIn K (.ref f4) = true)
    (a5 : PySem.W.nsIn K mainGlobals "is_input" = some (some (.ref f5))) (l5 : K.lookup f5 = some ⟨oc5, od5, .func (PySem.W.fnOf "is_input" "is_input" (defArgs s_is_input) (defBody s_is_input) (defScope s_is_input) .none kV5 dc5 pm5 an5 cd5 ct5), sl5⟩) (c5 : PySem.W.codeIn K cd5 "is_input" = true) (k5 : PySem.W.keepIn K (.ref f5) = true)
    (a6 : PySem.W.nsIn K mainGlobals "alike_inputs" = some (some (.ref f6))) (l6 : K.lookup f6 = some ⟨oc6, od6, .func (PySem.W.fnOf "alike_inputs" "alike_inputs" (defArgs s_alike_inputs) (defBody s_alike_inputs) (defScope s_alike_inputs) .none kV6 dc6 pm6 an6 cd6 ct6), sl6⟩) (c6 : PySem.W.codeIn K cd6 "alike_inputs" = true) (k6 : PySem.W.keepIn K (.ref f6) = true)
    (a7 : PySem.W.nsIn K mainGlobals "is_deed" = some (some (.ref f7))) (l7 : K.lookup f7 = some ⟨oc7, od7, .func (PySem.W.fnOf "is_deed" "is_deed" (defArgs s_is_deed) (defBody s_is_deed) (defScope s_is_deed) .none kV7 dc7 pm7 an7 cd7 ct7), sl7⟩) (c7 : PySem.W.codeIn K cd7 "is_deed" = true) (k7 : PySem.W.keepIn K (.ref f7) = true)
    (a8 : PySem.W.nsIn K mainGlobals "is_record" = some (some (.ref f8))) (l8 : K.lookup f8 = some ⟨oc8, od8, .func (PySem.W.fnOf "is_record" "is_record" (defArgs s_is_record) (defBody s_is_record) (defScope s_is_record) .none kV8 dc8 pm8 an8 cd8 ct8), sl8⟩) (c8 : PySem.W.codeIn K cd8 "is_record" = true) (k8 : PySem.W.keepIn K (.ref f8) = true)
    (a9 : PySem.W.nsIn K mainGlobals "is_seen" = some (some (.ref f9))) (l9 : K.lookup f9 = some ⟨oc9, od9, .func (PySem.W.fnOf "is_seen" "is_seen" (defArgs s_is_seen) (defBody s_is_seen) (defScope s_is_seen) .none kV9 dc9 pm9 an9 cd9 ct9), sl9⟩) (c9 : PySem.W.codeIn K cd9 "is_seen" = true) (k9 : PySem.W.keepIn K (.ref f9) = true)
    (a10 : PySem.W.nsIn K mainGlobals "seen" = some (some (.ref f10))) (l10 : K.lookup f10 = some ⟨oc10, od10, .func (PySem.W.fnOf "seen" "seen" (defArgs s_seen) (defBody s_seen) (defScope s_seen) .none kV10 dc10 pm10 an10 cd10 ct10), sl10⟩) (c10 : PySem.W.codeIn K cd10 "seen" = true) (k10 : PySem.W.keepIn K (.ref f10) = true)
    (a11 : PySem.W.nsIn K mainGlobals "cut_record" = some (some (.ref f11))) (l11 : K.lookup f11 = some ⟨oc11, od11, .func (PySem.W.fnOf "cut_record" "cut_record" (defArgs s_cut_record) (defBody s_cut_record) (defScope s_cut_record) .none kV11 dc11 pm11 an11 cd11 ct11), sl11⟩) (c11 : PySem.W.codeIn K cd11 "cut_record" = true) (k11 : PySem.W.keepIn K (.ref f11) = true)
    (a12 : PySem.W.nsIn K mainGlobals "_law_draw" = some (some (.ref f12))) (l12 : K.lookup f12 = some ⟨oc12, od12, .func (PySem.W.fnOf "_law_draw" "_law_draw" (defArgs s__law_draw) (defBody s__law_draw) (defScope s__law_draw) .none kV12 dc12 pm12 an12 cd12 ct12), sl12⟩) (c12 : PySem.W.codeIn K cd12 "_law_draw" = true) (k12 : PySem.W.keepIn K (.ref f12) = true)
    (a13 : PySem.W.nsIn K mainGlobals "_law_any" = some (some (.ref f13))) (l13 : K.lookup f13 = some ⟨oc13, od13, .func (PySem.W.fnOf "_law_any" "_law_any" (defArgs s__law_any) (defBody s__law_any) (defScope s__law_any) .none kV13 dc13 pm13 an13 cd13 ct13), sl13⟩) (c13 : PySem.W.codeIn K cd13 "_law_any" = true) (k13 : PySem.W.keepIn K (.ref f13) = true)
    (a14 : PySem.W.nsIn K mainGlobals "_law_of" = some (some (.ref f14))) (l14 : K.lookup f14 = some ⟨oc14, od14, .func (PySem.W.fnOf "_law_of" "_law_of" (defArgs s__law_of) (defBody s__law_of) (defScope s__law_of) .none kV14 dc14 pm14 an14 cd14 ct14), sl14⟩) (c14 : PySem.W.codeIn K cd14 "_law_of" = true) (k14 : PySem.W.keepIn K (.ref f14) = true)
    (a15 : PySem.W.nsIn K mainGlobals "_law_mixed" = some (some (.ref f15))) (l15 : K.lookup f15 = some ⟨oc15, od15, .func (PySem.W.fnOf "_law_mixed" "_law_mixed" (defArgs s__law_mixed) (defBody s__law_mixed) (defScope s__law_mixed) .none kV15 dc15 pm15 an15 cd15 ct15), sl15⟩) (c15 : PySem.W.codeIn K cd15 "_law_mixed" = true) (k15 : PySem.W.keepIn K (.ref f15) = true)
    (a16 : PySem.W.nsIn K mainGlobals "_law_closed" = some (some (.ref f16))) (l16 : K.lookup f16 = some ⟨oc16, od16, .func (PySem.W.fnOf "_law_closed" "_law_closed" (defArgs s__law_closed) (defBody s__law_closed) (defScope s__law_closed) .none kV16 dc16 pm16 an16 cd16 ct16), sl16⟩) (c16 : PySem.W.codeIn K cd16 "_law_closed" = true) (k16 : PySem.W.keepIn K (.ref f16) = true)
    (a17 : PySem.W.nsIn K mainGlobals "_law_order" = some (some (.ref f17))) (l17 : K.lookup f17 = some ⟨oc17, od17, .func (PySem.W.fnOf "_law_order" "_law_order" (defArgs s__law_order) (defBody s__law_order) (defScope s__law_order) .none kV17 dc17 pm17 an17 cd17 ct17), sl17⟩) (c17 : PySem.W.codeIn K cd17 "_law_order" = true) (k17 : PySem.W.keepIn K (.ref f17) = true)
    (a18 : PySem.W.nsIn K mainGlobals "_law_record" = some (some (.ref f18))) (l18 : K.lookup f18 = some ⟨oc18, od18, .func (PySem.W.fnOf "_law_record" "_law_record" (defArgs s__law_record) (defBody s__law_record) (defScope s__law_record) .none kV18 dc18 pm18 an18 cd18 ct18), sl18⟩) (c18 : PySem.W.codeIn K cd18 "_law_record" = true) (k18 : PySem.W.keepIn K (.ref f18) = true)
    (a19 : PySem.W.nsIn K mainGlobals "_law_seen" = some (some (.ref f19))) (l19 : K.lookup f19 = some ⟨oc19, od19, .func (PySem.W.fnOf "_law_seen" "_law_seen" (defArgs s__law_seen) (defBody s__law_seen) (defScope s__law_seen) .none kV19 dc19 pm19 an19 cd19 ct19), sl19⟩) (c19 : PySem.W.codeIn K cd19 "_law_seen" = true) (k19 : PySem.W.keepIn K (.ref f19) = true)
    (a20 : PySem.W.nsIn K mainGlobals "_law_bad_record" = some (some (.ref f20))) (l20 : K.lookup f20 = some ⟨oc20, od20, .func (PySem.W.fnOf "_law_bad_record" "_law_bad_record" (defArgs s__law_bad_record) (defBody s__law_bad_record) (defScope s__law_bad_record) .none kV20 dc20 pm20 an20 cd20 ct20), sl20⟩) (c20 : PySem.W.codeIn K cd20 "_law_bad_record" = true) (k20 : PySem.W.keepIn K (.ref f20) = true)
    (a21 : PySem.W.nsIn K mainGlobals "law" = some (some (.ref f21))) (l21 : K.lookup f21 = some ⟨oc21, od21, .func (PySem.W.fnOf "law" "law" (defArgs s_law) (defBody s_law) (defScope s_law) .none kV21 dc21 pm21 an21 cd21 ct21), sl21⟩) (c21 : PySem.W.codeIn K cd21 "law" = true) (k21 : PySem.W.keepIn K (.ref f21) = true)
    (z_isinstance : PySem.W.nsIn K mainGlobals "isinstance" = some none)
    (z_bool : PySem.W.nsIn K mainGlobals "bool" = some none)
    (z_int : PySem.W.nsIn K mainGlobals "int" = some none)
    (z_len : PySem.W.nsIn K mainGlobals "len" = some none)
    (z_tuple : PySem.W.nsIn K mainGlobals "tuple" = some none)
    (z_all : PySem.W.nsIn K mainGlobals "all" = some none)
    (z_range : PySem.W.nsIn K mainGlobals "range" = some none)
    (z_abs : PySem.W.nsIn K mainGlobals "abs" = some none)
    (z_list : PySem.W.nsIn K mainGlobals "list" = some none)
    (z_sorted : PySem.W.nsIn K mainGlobals "sorted" = some none)
    (z_max : PySem.W.nsIn K mainGlobals "max" = some none)
    (z_min : PySem.W.nsIn K mainGlobals "min" = some none)
    (z_repr : PySem.W.nsIn K mainGlobals "repr" = some none) :
    ∃ T : Top K mg, T.f_law = fa ∧ ∀ (s : Shared) (u : Value), BindsTo s T.fd_law ⟨[u], []⟩ [("script", u)] := by
  have e := hfa.symm.trans (PySem.W.mg_of X G a21)
  cases e
  exact ⟨{ f_is_integer := f0, fd_is_integer := _, F_is_integer := fun_mk l0 c0 k0, g_is_integer := PySem.W.mg_of X G a0, f_is_number := f1, fd_is_number := _, F_is_number := fun_mk l1 c1 k1, g_is_number := PySem.W.mg_of X G a1, f_is_index := f2, fd_is_index := _, F_is_index := fun_mk l2 c2 k2, g_is_index := PySem.W.mg_of X G a2, f_is_row_of := f3, fd_is_row_of := _, F_is_row_of := fun_mk l3 c3 k3, g_is_row_of := PySem.W.mg_of X G a3, f_lot_within := f4, fd_lot_within := _, F_lot_within := fun_mk l4 c4 k4, g_lot_within := PySem.W.mg_of X G a4, f_is_input := f5, fd_is_input := _, F_is_input := fun_mk l5 c5 k5, g_is_input := PySem.W.mg_of X G a5, f_alike_inputs := f6, fd_alike_inputs := _, F_alike_inputs := fun_mk l6 c6 k6, g_alike_inputs := PySem.W.mg_of X G a6, f_is_deed := f7, fd_is_deed := _, F_is_deed := fun_mk l7 c7 k7, g_is_deed := PySem.W.mg_of X G a7, f_is_record := f8, fd_is_record := _, F_is_record := fun_mk l8 c8 k8, g_is_record := PySem.W.mg_of X G a8, f_is_seen := f9, fd_is_seen := _, F_is_seen := fun_mk l9 c9 k9, g_is_seen := PySem.W.mg_of X G a9, f_seen := f10, fd_seen := _, F_seen := fun_mk l10 c10 k10, g_seen := PySem.W.mg_of X G a10, f_cut_record := f11, fd_cut_record := _, F_cut_record := fun_mk l11 c11 k11, g_cut_record := PySem.W.mg_of X G a11, f__law_draw := f12, fd__law_draw := _, F__law_draw := fun_mk l12 c12 k12, g__law_draw := PySem.W.mg_of X G a12, f__law_any := f13, fd__law_any := _, F__law_any := fun_mk l13 c13 k13, g__law_any := PySem.W.mg_of X G a13, f__law_of := f14, fd__law_of := _, F__law_of := fun_mk l14 c14 k14, g__law_of := PySem.W.mg_of X G a14, f__law_mixed := f15, fd__law_mixed := _, F__law_mixed := fun_mk l15 c15 k15, g__law_mixed := PySem.W.mg_of X G a15, f__law_closed := f16, fd__law_closed := _, F__law_closed := fun_mk l16 c16 k16, g__law_closed := PySem.W.mg_of X G a16, f__law_order := f17, fd__law_order := _, F__law_order := fun_mk l17 c17 k17, g__law_order := PySem.W.mg_of X G a17, f__law_record := f18, fd__law_record := _, F__law_record := fun_mk l18 c18 k18, g__law_record := PySem.W.mg_of X G a18, f__law_seen := f19, fd__law_seen := _, F__law_seen := fun_mk l19 c19 k19, g__law_seen := PySem.W.mg_of X G a19, f__law_bad_record := f20, fd__law_bad_record := _, F__law_bad_record := fun_mk l20 c20 k20, g__law_bad_record := PySem.W.mg_of X G a20, f_law := _, fd_law := _, F_law := fun_mk l21 c21 k21, g_law := PySem.W.mg_of X G a21, n_isinstance := PySem.W.mg_none_of X G z_isinstance, n_bool := PySem.W.mg_none_of X G z_bool, n_int := PySem.W.mg_none_of X G z_int, n_len := PySem.W.mg_none_of X G z_len, n_tuple := PySem.W.mg_none_of X G z_tuple, n_all := PySem.W.mg_none_of X G z_all, n_range := PySem.W.mg_none_of X G z_range, n_abs := PySem.W.mg_none_of X G z_abs, n_list := PySem.W.mg_none_of X G z_list, n_sorted := PySem.W.mg_none_of X G z_sorted, n_max := PySem.W.mg_none_of X G z_max, n_min := PySem.W.mg_none_of X G z_min, n_repr := PySem.W.mg_none_of X G z_repr }, rfl, fun s u => .of_eq rfl⟩
end K04
namespace K04
open PySem PySem.Spec PyProof.Rows L2 Ly
section
variable {P0 : Program} {w : World} {K : PySem.W.Frag} {mg : Str → Option Value} {base : Heap} {B H : Hp}
theorem ok__law_draw (T : Top K mg) : GOk P0 w K mg base CX0 1 T.f__law_draw T.fd__law_draw ["script", "salt"] (sp__law_draw K) :=
  draw_ok T.F__law_draw sc__law_draw rfl fun cdv A outer s H E hg hr => d__law_draw T cdv A outer s H E hg hr
theorem ok__law_any (T : Top K mg) : GOk P0 w K mg base CX0 1 T.f__law_any T.fd__law_any ["deal", "bound"] (sp__law_any K) :=
  de_ok 1 T.F__law_any sc__law_any (fun ds ⟨b, e, _⟩ => by rw [e]; rfl) rfl fun cdv A outer s H E hg hr => ⟨_, d__law_any T cdv A outer s H E hg hr, fun B H p q ds hP => vs_any hP⟩
theorem ok__law_of (T : Top K mg) : GOk P0 w K mg base CX0 2 T.f__law_of T.fd__law_of ["deal", "some"] (sp__law_of K) :=
  de_ok 0 T.F__law_of sc__law_of (fun ds ⟨xs, e, _⟩ => by rcases e with rfl | rfl <;> rfl) rfl fun cdv A outer s H E hg hr => ⟨_, d__law_of T (ok__law_any T) cdv A outer s H E hg hr, fun B H p q ds hP => vs_of hP⟩
theorem ok__law_mixed (T : Top K mg) : GOk P0 w K mg base CX0 2 T.f__law_mixed T.fd__law_mixed ["deal", "some"] (sp__law_mixed K) :=
  de_ok 2 T.F__law_mixed sc__law_mixed (fun ds ⟨xs, e, _⟩ => by rcases e with rfl | rfl <;> rfl) rfl fun cdv A outer s H E hg hr => ⟨_, d__law_mixed T (ok__law_any T) cdv A outer s H E hg hr, fun B H p q ds hP => vs_mixed hP⟩
theorem ok_is_integer (T : Top K mg) : GOk P0 w K mg base CX0 1 T.f_is_integer T.fd_is_integer ["value"] (sp_is_integer K) :=
  pu_ok 0 T.F_is_integer sc_is_integer (fun ds ⟨d, e⟩ => by rw [e]; rfl) rfl fun cdv A outer s H E hg hr => ⟨_, d_is_integer T cdv A outer s H E hg hr, fun B H ds hP => vs_isInt hP⟩
theorem ok_is_number (T : Top K mg) : GOk P0 w K mg base CX0 2 T.f_is_number T.fd_is_number ["value"] (sp_is_number K) :=
  pu_ok 0 T.F_is_number sc_is_number (fun ds ⟨d, e⟩ => by rw [e]; rfl) rfl fun cdv A outer s H E hg hr => ⟨_, d_is_number T (ok_is_integer T) cdv A outer s H E hg hr, fun B H ds hP => vs_isNum hP⟩
theorem ok_is_index (T : Top K mg) : GOk P0 w K mg base CX0 3 T.f_is_index T.fd_is_index ["value", "many"] (sp_is_index K) :=
  pu_ok 0 T.F_is_index sc_is_index (fun ds ⟨d, n, e⟩ => by rw [e]; rfl) rfl fun cdv A outer s H E hg hr => ⟨_, d_is_index T (ok_is_number T) cdv A outer s H E hg hr, fun B H ds hP => vs_isIdx hP⟩
theorem ok_is_row_of (T : Top K mg) : GOk P0 w K mg base CX0 1 T.f_is_row_of T.fd_is_row_of ["value", "sizes"] (sp_is_row_of K) :=
  pu_ok 0 T.F_is_row_of sc_is_row_of (fun ds ⟨d, n, e⟩ => by rw [e]; rfl) rfl fun cdv A outer s H E hg hr => ⟨_, d_is_row_of T cdv A outer s H E hg hr, fun B H ds hP => vs_isRow hP⟩
/-! rows -/
theorem row_at {rs : List (List Nat)} {i : Nat} (h : i < rs.length) : (rs.map tnD)[i]? = some (tnD (rs.getD i [])) := by
  rw [List.getElem?_map, List.getElem?_eq_getElem h, List.getD_eq_getElem?_getD, List.getElem?_eq_getElem h]
  rfl
theorem row_mem {rs : List (List Nat)} {i : Nat} (h : i < rs.length) : rs.getD i [] ∈ rs := by
  rw [List.getD_eq_getElem?_getD, List.getElem?_eq_getElem h]
  exact List.getElem_mem h
section
variable {C : Cn} {te t2 : TE} {Γ : List Sl}
theorem ve_row {rs : List (List Nat)} {i : Nat} (h : VE C te Γ (Is (ordD rs))) (h2 : VE C t2 Γ (Is (.int (i : Nat)))) (hi : i < rs.length) : VE C (tOp (rIx C.K) te t2) Γ (Is (tnD (rs.getD i []))) := ve_opD h.v h2.v (od_ixT (atI_pos (row_at hi)))
theorem ve_inRow {r : List Nat} {x : Nat} (h : VE C te Γ (Is (.int (x : Nat)))) (h2 : VE C t2 Γ (Is (tnD r))) : VE C (tOp (rInA C.K) te t2) Γ (Is (.bool (r.contains x))) := (ve_opD h.v h2.v (od_inT rfl (flat_ints r))).to (congrArg PyData.bool (any_ints r x))
end
theorem vs_lot_within (T : Top K mg) {a : List (List Nat) × List Nat × Nat} (hP : P_lot_within a) : VS ⟨K, B, H, none⟩ (t_lot_within T) (slots (A_lot_within a) 1) { nx := fun _ => R_lot_within a .none, rt := R_lot_within a } := by
  obtain ⟨rs, lot, level⟩ := a
  obtain ⟨h1, _, h3⟩ := hP
  have h3 : lot.length ≤ 1000 := h3
  refine vs_retD (ve_allM (rs.getD level []).contains (va_tupD (ve_var rfl)) (by omega) fun x hx => ⟨_, _, vg_name, fun j hj => hj, ve_inRow (ve_var rfl) (ve_row (ve_var rfl) (ve_var rfl) h1)⟩) rfl
theorem ok_lot_within (T : Top K mg) : GOk P0 w K mg base CX0 1 T.f_lot_within T.fd_lot_within ["order", "lot", "level"] (sp_lot_within K) :=
  pa_ok 1 T.F_lot_within sc_lot_within (fun _ => rfl) rfl fun cdv A outer s H E hg hr => ⟨_, d_lot_within T cdv A outer s H E hg hr, fun B H a hP => vs_lot_within T hP⟩
theorem not_row {ns : List Nat} {x : D} (h : isTup x = false) : isRow ns x = false := by
  cases x <;> first | rfl | cases h
theorem isTup_is {x : D} (h : isTup x = true) : ∃ xs, x = .tuple xs := by
  cases x <;> first | exact ⟨_, rfl⟩ | cases h
theorem vs_is_input (T : Top K mg) {a : List (List Nat) × D} (hP : P_is_input a) : VS ⟨K, B, H, none⟩ (t_is_input T) (slots (A_is_input a) 2) { nx := fun _ => R_is_input a .none, rt := R_is_input a } := by
  obtain ⟨rs, x⟩ := a
  obtain ⟨h1, h2⟩ := hP
  have hr : VT ⟨K, B, H, none⟩ (tNot (tB (tCallK (sp_is_row_of K) (fun vs _ => vs) E0 (tCons (tVar 1) (tCons (tTup (tCons (tCB (rLen K) (tCons (tVar 0) tNil)) tNil)) tNil)) tNil))) [.dat (ordD rs), .dat x, .no, .no] (Is (!isRow [rs.length] x)) :=
    vt_notD (vt_BD (call_isRow [rs.length] (ve_var rfl) ((ve_tupD (va_consD ((ve_lenT (ve_var rfl)).to (y := .int (rs.length : Nat)) (by rw [List.length_map])) va_nil)).to rfl)))
  have out : (!isRow [rs.length] x) = true → inputOk rs.length x = false := by
    intro h
    cases x with
    | tuple xs =>
      have : (xs.length == rs.length) = false := by
        have h : (!([rs.length].contains xs.length)) = true := h
        simpa using h
      show ((xs.length == rs.length) && _ && _) = false
      rw [this]
      rfl
    | _ => rfl
  by_cases hx : isTup x = true
  · obtain ⟨xs, rfl⟩ := isTup_is hx
    have hl := h2.tupL
    refine vq_ifD (vt_orD hr fun _ => vt_notD (vt_BD (ve_allM (m := id) isTup (va_tupI (ve_var rfl)) (by omega) fun y _ => ⟨_, _, vg_name, fun j hj => hj, ve_isTup (ve_var rfl).v⟩))) (fun h => ?_) fun h => ?_
    · refine vq_leave (vs_retD ve_bl ?_)
      show PyData.bool false = .bool (inputOk rs.length (.tuple xs))
      cases hh : isRow [rs.length] (.tuple xs) with
      | false => rw [out (by rw [hh]; rfl)]
      | true =>
        rw [hh] at h
        have h : (xs.all isTup) = false := by simpa using h
        show _ = PyData.bool ((xs.length == rs.length) && xs.all isTup && _)
        rw [h, Bool.and_false, Bool.false_and]
    · refine vq_next ?_
      have hh : isRow [rs.length] (.tuple xs) = true ∧ xs.all isTup = true := by simpa using h
      refine vs_retD (ve_allM (m := id) allNum (va_tupI (ve_var rfl)) (by omega) fun y hy => ?_) ?_
      · obtain ⟨ys, rfl⟩ := isTup_is (List.all_eq_true.mp hh.2 y hy)
        have hyl := (h2.tupM hy).tupL
        exact ⟨_, _, vg_name, fun j hj => hj, ve_allM (m := id) isNum (va_tupI (ve_var rfl)) (by omega) fun z _ => ⟨_, _, vg_name, fun j hj => hj, call_isNum (ve_var rfl)⟩⟩
      · have e : (xs.length == rs.length) = true := by
          have h : [rs.length].contains xs.length = true := hh.1
          simpa using h
        show _ = PyData.bool ((xs.length == rs.length) && xs.all isTup && _)
        rw [e, hh.2]
        rfl
  · have hx := Bool.eq_false_iff.mpr hx
    have e := not_row (ns := [rs.length]) hx
    refine vq_ifD ((vt_orD (c := true) hr fun h => by rw [e] at h; cases h).to (by rw [e])) (fun _ => vq_leave (vs_retD ve_bl ?_)) (fun h => by cases h)
    show _ = PyData.bool _
    rw [out (by rw [e]; rfl)]
theorem ok_is_input (T : Top K mg) : GOk P0 w K mg base CX0 3 T.f_is_input T.fd_is_input ["order", "value"] (sp_is_input K) :=
  pa_ok 2 T.F_is_input sc_is_input (fun _ => rfl) rfl fun cdv A outer s H E hg hr => ⟨_, d_is_input T (ok_is_row_of T) (ok_is_number T) cdv A outer s H E hg hr, fun B H a hP => vs_is_input T hP⟩
theorem eqv_nums : ∀ a b : List Nat, PyData.eqvAll (nsD a) (nsD b) = (a == b)
  | [], [] => rfl
  | [], _ :: _ => rfl
  | _ :: _, [] => rfl
  | x :: a, y :: b => by
    show PyData.eqvAll (.int (x : Nat) :: nsD a) (.int (y : Nat) :: nsD b) = _
    rw [PyData.eqvAll, eqv_nums a b, PyData.eqv]
    show _ = (x == y && a == b)
    congr 1
    by_cases h : x = y
    · rw [h]; simp
    · rw [beq_eq_false_iff_ne.mpr h, beq_eq_false_iff_ne.mpr (by omega)]
theorem vs_alike_inputs (T : Top K mg) {a : List (List Nat) × Nat × List (List Nat) × List (List Nat)} (hP : P_alike_inputs a) : VS ⟨K, B, H, none⟩ (t_alike_inputs T) (slots (A_alike_inputs a) 1) { nx := fun _ => R_alike_inputs a .none, rt := R_alike_inputs a } := by
  obtain ⟨rs, level, one, other⟩ := a
  obtain ⟨h1, h2, h3, h4, h5, h6⟩ := hP
  have h1 : level < rs.length := h1
  have h3 : one.length = rs.length := h3
  have h4 : other.length = rs.length := h4
  obtain ⟨hz, hm⟩ := h2.2 _ (row_mem h1)
  refine vs_retD (ve_allM (fun l => one.getD l [] == other.getD l []) (va_tupD (ve_row (ve_var rfl) (ve_var rfl) h1)) (Nat.le_trans hz (by decide)) fun x hx => ⟨_, _, vg_name, fun j hj => hj, ?_⟩) rfl
  have hxm : x < rs.length := hm x hx
  have k1 := (h5.tupM (List.mem_of_getElem? (row_at (rs := one) (i := x) (by omega)))).shaped
  have k2 := (h6.tupM (List.mem_of_getElem? (row_at (rs := other) (i := x) (by omega)))).shaped
  refine (ve_opD (ve_row (ve_var rfl) (ve_var rfl) (by omega)).v (ve_row (ve_var rfl) (ve_var rfl) (by omega)).v (od_eq k1 k2)).to ?_
  exact congrArg PyData.bool (eqv_nums _ _)
theorem ok_alike_inputs (T : Top K mg) : GOk P0 w K mg base CX0 1 T.f_alike_inputs T.fd_alike_inputs ["order", "level", "one", "other"] (sp_alike_inputs K) :=
  pa_ok 1 T.F_alike_inputs sc_alike_inputs (fun _ => rfl) rfl fun cdv A outer s H E hg hr => ⟨_, d_alike_inputs T cdv A outer s H E hg hr, fun B H a hP => vs_alike_inputs T hP⟩
theorem row3 {x : D} (h : isRow [3] x = true) : ∃ a b c, x = .tuple [a, b, c] := by
  cases x with
  | tuple xs =>
    have h : [3].contains xs.length = true := h
    have h : xs.length = 3 := by simpa using h
    match xs, h with
    | [a, b, c], _ => exact ⟨a, b, c, rfl⟩
  | _ => cases h
theorem row2 {x : D} (h : isRow [2] x = true) : ∃ a b, x = .tuple [a, b] := by
  cases x with
  | tuple xs =>
    have h : [2].contains xs.length = true := h
    have h : xs.length = 2 := by simpa using h
    match xs, h with
    | [a, b], _ => exact ⟨a, b, rfl⟩
  | _ => cases h
theorem deed_no {n : Nat} {x : D} (h3 : isRow [3] x = false) (h2 : isRow [2] x = false) : deedOk n x = false := by
  unfold deedOk
  split
  · cases h3
  · cases h2
  · rfl
theorem vs_is_deed (T : Top K mg) {a : List (List Nat) × D} (hP : P_is_deed a) : VS ⟨K, B, H, none⟩ (t_is_deed T) (slots (A_is_deed a) 0) { nx := fun _ => R_is_deed a .none, rt := R_is_deed a } := by
  obtain ⟨rs, x⟩ := a
  have hP : Sm x 64 100000 := hP
  have r3 : VT ⟨K, B, H, none⟩ (tB (tCallK (sp_is_row_of K) (fun vs _ => vs) E0 (tCons (tVar 1) (tCons (tTup (tCons (tC (.int 3)) tNil)) tNil)) tNil)) [.dat (ordD rs), .dat x] (Is (isRow [3] x)) := vt_BD (call_isRow [3] (ve_var rfl) (ve_tupD (va_consD ve_int va_nil)))
  have r2 : VE ⟨K, B, H, none⟩ (tCallK (sp_is_row_of K) (fun vs _ => vs) E0 (tCons (tVar 1) (tCons (tTup (tCons (tC (.int 2)) tNil)) tNil)) tNil) [.dat (ordD rs), .dat x] (Is (.bool (isRow [2] x))) := call_isRow [2] (ve_var rfl) (ve_tupD (va_consD ve_int va_nil))
  have len : VE ⟨K, B, H, none⟩ (tCB (rLen K) (tCons (tVar 0) tNil)) [.dat (ordD rs), .dat x] (Is (.int (rs.length : Nat))) := (ve_lenT (ve_var rfl)).to (by rw [List.length_map])
  by_cases h3 : isRow [3] x = true
  · obtain ⟨a, b, c, rfl⟩ := row3 h3
    have sa := (hP.tupM (x := a) (by simp)).shaped
    have ix : ∀ {i : Int} {d : D}, atI [a, b, c] i = some d → VE ⟨K, B, H, none⟩ (tOp (rIx K) (tVar 1) (tC (.int i))) [.dat (ordD rs), .dat (.tuple [a, b, c])] (Is d) := fun h => ve_opD (ve_var rfl).v ve_int.v (od_ixT h)
    refine vq_ifD (vt_andD r3 fun _ => vt_testD (ve_opD (ix (i := 0) (d := a) rfl).v ve_str.v (od_eq sa (by decide +kernel)))) (fun h => ?_) fun h => ?_
    · have he : PyData.eqv a (.str "out") = true := by simpa [h3] using h
      refine vq_leave (vs_retD (ve_andD (call_isIdx (ix (d := b) rfl) len) fun _ => call_isNum (ix (d := c) rfl)) ?_)
      show _ = PyData.bool (PyData.eqv a (.str "out") && _)
      rw [he]
      rfl
    · have he : PyData.eqv a (.str "out") = false := by simpa [h3] using h
      refine vq_next (vs_retD (ve_andD (c := false) r2 fun h => by cases h) ?_)
      show _ = PyData.bool (PyData.eqv a (.str "out") && _)
      rw [he]
      rfl
  · have h3 := Bool.eq_false_iff.mpr h3
    refine vq_ifD ((vt_andD (c := false) r3 fun h => by rw [h3] at h; cases h).to (Bool.and_false _)) (fun h => by cases h) fun _ => vq_next ?_
    by_cases h2 : isRow [2] x = true
    · obtain ⟨a, b, rfl⟩ := row2 h2
      have sa := (hP.tupM (x := a) (by simp)).shaped
      have ix : ∀ {i : Int} {d : D}, atI [a, b] i = some d → VE ⟨K, B, H, none⟩ (tOp (rIx K) (tVar 1) (tC (.int i))) [.dat (ordD rs), .dat (.tuple [a, b])] (Is d) := fun h => ve_opD (ve_var rfl).v ve_int.v (od_ixT h)
      refine vs_retD (ve_andD r2 fun _ => ve_andD (ve_opD (ix (i := 0) (d := a) rfl).v ve_str.v (od_eq sa (by decide +kernel))) fun _ => call_isNum (ix (d := b) rfl)) ?_
      rfl
    · have h2 := Bool.eq_false_iff.mpr h2
      refine vs_retD (ve_andD (c := false) r2 fun h => by rw [h2] at h; cases h) ?_
      show _ = PyData.bool _
      rw [h2, deed_no h3 h2]
      rfl
theorem ok_is_deed (T : Top K mg) : GOk P0 w K mg base CX0 4 T.f_is_deed T.fd_is_deed ["order", "value"] (sp_is_deed K) :=
  pa_ok 0 T.F_is_deed sc_is_deed (fun _ => rfl) rfl fun cdv A outer s H E hg hr => ⟨_, d_is_deed T (ok_is_row_of T) (ok_is_number T) (ok_is_index T) cdv A outer s H E hg hr, fun B H a hP => vs_is_deed T hP⟩
theorem evOk_is {n : Nat} {x : D} (h : evOk n x = true) : ∃ (t : Int) (e : D), x = .tuple [.int t, e] ∧ 0 ≤ t := by
  unfold evOk at h
  split at h
  · rename_i t e
    rw [Bool.and_eq_true] at h
    cases t with
    | int i => exact ⟨i, e, rfl, of_decide_eq_true h.1⟩
    | _ => cases h.1
  · cases h
theorem vs_is_record (T : Top K mg) {a : List (List Nat) × D} (hP : P_is_record a) : VS ⟨K, B, H, none⟩ (t_is_record T) (slots (A_is_record a) 4) { nx := fun _ => R_is_record a .none, rt := R_is_record a } := by
  obtain ⟨rs, x⟩ := a
  have hP : Sm x 64 100000 := hP
  have tp : VT ⟨K, B, H, none⟩ (tNot (tB (tCB (rIsAny K) (tCons (tVar 1) (tCons (tC (.ty "tuple")) tNil))))) [.dat (ordD rs), .dat x, .no, .no, .no, .no] (Is (!isTup x)) := vt_notD (vt_BD (ve_isTup (ve_var rfl).v))
  by_cases hx : isTup x = true
  · obtain ⟨xs, rfl⟩ := isTup_is hx
    have hl := hP.tupL
    refine vq_ifD (vt_orD tp fun _ => vt_notD (vt_BD (ve_allM (m := id) (isRow [2]) (va_tupI (ve_var rfl)) (by omega) fun y _ => ⟨_, _, vg_name, fun j hj => hj, call_isRow [2] (ve_var rfl) (ve_tupD (va_consD ve_int va_nil))⟩))) (fun h => ?_) fun h => ?_
    · have h : (xs.all (isRow [2])) = false := by simpa [isTup] using h
      refine vq_leave (vs_retD ve_bl ?_)
      show _ = PyData.bool (xs.all (isRow [2]) && _ && _)
      rw [h]
      rfl
    · have h1 : (xs.all (isRow [2])) = true := by simpa [isTup] using h
      refine vq_next ?_
      refine vq_ifD (vt_notD (vt_BD (ve_allM (m := id) (evOk rs.length) (va_tupI (ve_var rfl)) (by omega) fun y hy => ?_))) (fun h => ?_) fun h => ?_
      · obtain ⟨t, e, rfl⟩ := row2 (List.all_eq_true.mp h1 y hy)
        refine ⟨_, _, vg_tup2 vg_name vg_name, fun j hj => hj, (ve_andD (call_isNum (ve_var rfl)) fun _ => ve_callA (rs, e) (va_consD (ve_var rfl) (va_consD (ve_var rfl) va_nil)) ((hP.tupM hy).tupM (by simp))).to rfl⟩
      · have h : (xs.all (evOk rs.length)) = false := by simpa using h
        refine vq_leave (vs_retD ve_bl ?_)
        show _ = PyData.bool (xs.all (isRow [2]) && xs.all (evOk rs.length) && _)
        rw [h, Bool.and_false]
        rfl
      · have h2 : (xs.all (evOk rs.length)) = true := by simpa using h
        refine vq_next (vs_retD (ve_allM (m := fun i : Nat => PyData.int (i : Nat)) (xs := List.range (xs.length - 1)) (fun i => decide (tickOf (xs.getD i .none) ≤ tickOf (xs.getD (i + 1) .none))) ?_ ?_ fun i hi => ⟨_, _, vg_name, fun j hj => hj, ?_⟩) ?_)
        · have e : (List.range (xs.length - 1)).map (fun i : Nat => PyData.int (i : Nat)) = Ly.upTo 0 ((xs.length : Int) - 1).toNat := by
            unfold Ly.upTo
            rw [show ((xs.length : Int) - 1).toNat = xs.length - 1 by omega]
            refine List.map_congr_left fun i _ => ?_
            show _ = PyData.int (0 + (i : Nat))
            rw [Int.zero_add]
          rw [e]
          exact vi_rng1D (ve_opD (ve_lenT (ve_var rfl)).v ve_int.v od_sub)
        · rw [List.length_range]
          omega
        · have hi : i + 1 < xs.length := by have := List.mem_range.mp hi; omega
          have at1 : ∀ {j : Nat} {te : TE} {Γ : List Sl}, j < xs.length → Γ[1]? = some (.dat (.tuple xs)) → VE ⟨K, B, H, none⟩ te Γ (Is (.int (j : Nat))) → VE ⟨K, B, H, none⟩ (tOp (rIx K) (tOp (rIx K) (tVar 1) te) (tC (.int 0))) Γ (Is (.int (tickOf (xs.getD j .none)))) := fun {j te Γ} hj hg ht => by
            obtain ⟨t, e, he, _⟩ := evOk_is (List.all_eq_true.mp h2 _ (List.getElem_mem hj))
            have e1 : xs[j]? = some (.tuple [.int t, e]) := by rw [List.getElem?_eq_getElem hj, he]
            have e2 : xs.getD j .none = .tuple [.int t, e] := by rw [List.getD_eq_getElem?_getD, e1]; rfl
            rw [e2]
            exact ve_opD (ve_opD (ve_var hg).v ht.v (od_ixT (atI_pos e1))).v ve_int.v (od_ixT rfl)
          exact ve_opD (at1 (by omega) rfl (ve_var rfl)).v (at1 hi rfl (ve_opD (ve_var rfl).v ve_int.v od_add)).v od_le
        · show _ = PyData.bool (xs.all (isRow [2]) && xs.all (evOk rs.length) && rising xs)
          rw [h1, h2]
          rfl
  · have hx := Bool.eq_false_iff.mpr hx
    refine vq_ifD ((vt_orD (c := true) tp fun h => by rw [hx] at h; cases h).to (by rw [hx])) (fun _ => vq_leave (vs_retD ve_bl ?_)) (fun h => by cases h)
    show _ = PyData.bool (recOk rs.length x)
    cases x <;> first | rfl | cases hx
theorem ok_is_record (T : Top K mg) : GOk P0 w K mg base CX0 5 T.f_is_record T.fd_is_record ["order", "value"] (sp_is_record K) :=
  pa_ok 4 T.F_is_record sc_is_record (fun _ => rfl) rfl fun cdv A outer s H E hg hr => ⟨_, d_is_record T (ok_is_row_of T) (ok_is_number T) (ok_is_deed T) cdv A outer s H E hg hr, fun B H a hP => vs_is_record T hP⟩
end
end K04
namespace K04
open PySem PySem.Spec PyProof.Rows L2 Ly
section
variable {P0 : Program} {w : World} {K : PySem.W.Frag} {mg : Str → Option Value} {base : Heap} {B H : Hp}
def isOut : Deed → Bool
  | .out _ _ => true
  | .fin _ => false
theorem eq_out {C : Cn} {te : TE} {Γ : List Sl} (e : Deed) (h : VE C te Γ (Is (deedD e))) : VE C (tOp (rEqA C.K) (tOp (rIx C.K) te (tC (.int 0))) (tC (.str "out"))) Γ (Is (.bool (isOut e))) := by
  cases e with
  | out l v => exact (ve_opD (ve_opD h.v ve_int.v (od_ixT (z := .str "out") rfl)).v ve_str.v od_eqS).to (congrArg PyData.bool (show decide (("out" : Str) = "out") = true by decide +kernel))
  | fin t => exact (ve_opD (ve_opD h.v ve_int.v (od_ixT (z := .str "end") rfl)).v ve_str.v od_eqS).to (congrArg PyData.bool (show decide (("end" : Str) = "out") = false by decide +kernel))
theorem vs_is_seen (T : Top K mg) {a : Sight × Deed} (hP : P_is_seen a) : VS ⟨K, B, H, none⟩ (t_is_seen T) (slots (A_is_seen a) 0) { nx := fun _ => R_is_seen a .none, rt := R_is_seen a } := by
  obtain ⟨⟨rs, ends, level⟩, e⟩ := a
  obtain ⟨⟨h1, h2, h3⟩, h4⟩ := hP
  refine vq_ifD (vt_testD (eq_out e (ve_var rfl))) (fun h => ?_) fun h => ?_
  · cases e with
    | fin t => cases h
    | out l v => exact vq_leave (vs_retD (ve_inRow (ve_opD (ve_var rfl).v ve_int.v (od_ixT (z := .int (l : Nat)) rfl)) (ve_row (ve_var rfl) (ve_var rfl) h1)) rfl)
  · cases e with
    | out l v => cases h
    | fin t =>
      have h4 : t < ends.length := h4
      refine vq_next (vs_ret ((ve_callA (rs, ends.getD t [], level) (va_consD (ve_var rfl) (va_consD (ve_row (ve_var rfl) (ve_opD (ve_var rfl).v ve_int.v (od_ixT (z := .int (t : Nat)) rfl)) h4) (va_consD (ve_var rfl) va_nil))) ⟨h1, ⟨_, h2⟩, (h3.2 _ (row_mem h4)).1⟩).imp fun d r => r))
theorem ok_is_seen (T : Top K mg) : GOk P0 w K mg base CX0 2 T.f_is_seen T.fd_is_seen ["order", "level", "ends", "deed"] (sp_is_seen K) :=
  pa_ok 0 T.F_is_seen sc_is_seen (fun _ => rfl) rfl fun cdv A outer s H E hg hr => ⟨_, d_is_seen T (ok_lot_within T) cdv A outer s H E hg hr, fun B H a hP => vs_is_seen T hP⟩
theorem vs_seen (T : Top K mg) {a : Sight × List (Nat × Deed)} (hP : P_seen a) : VS ⟨K, B, H, none⟩ (t_seen T) (slots (A_seen a) 1) { nx := fun _ => R_seen a .none, rt := R_seen a } := by
  obtain ⟨S, r⟩ := a
  obtain ⟨h1, h2, h3⟩ := hP
  have h2 : r.length ≤ 1000 := h2
  refine vs_retD (ve_tupM (m := evD) (fun p => sees S.rs S.ends S.level p.2) evD (va_tupD (ve_var rfl)) (by omega) fun p hp => ⟨_, _, vg_name, fun j hj => hj, vt_BD ?_, fun _ => ve_var rfl⟩) rfl
  exact ve_callA (S, p.2) (va_consD (ve_var rfl) (va_consD (ve_var rfl) (va_consD (ve_var rfl) (va_consD (ve_opD (ve_var rfl).v ve_int.v (od_ixT (z := deedD p.2) rfl)) va_nil)))) ⟨h1, h3 p hp⟩
theorem ok_seen (T : Top K mg) : GOk P0 w K mg base CX0 3 T.f_seen T.fd_seen ["order", "level", "ends", "record"] (sp_seen K) :=
  pa_ok 1 T.F_seen sc_seen (fun _ => rfl) rfl fun cdv A outer s H E hg hr => ⟨_, d_seen T (ok_is_seen T) cdv A outer s H E hg hr, fun B H a hP => vs_seen T hP⟩
theorem lt_nat (a b : Nat) : decide ((a : Int) < (b : Int)) = decide (a < b) := by
  apply decide_eq_decide.mpr
  omega
theorem ve_cut {C : Cn} {Γ : List Sl} {te t2 : TE} {j : Nat} {r : List (Nat × Deed)} {tick : Nat} (h : VE C te Γ (Is (recD r))) (hl : r.length ≤ 1000) (hj : j < Γ.length) (h2 : ∀ p ∈ r, VE C t2 ((wipeS Γ [j]).set j (.dat (evD p))) (Is (.int (tick : Nat)))) :
    VE C (tCB (rTup C.K) (tCons (tLc (iAny C.K te) (gName j) (tTest (tOp rLtA (tOp (rIx C.K) (tVar j) (tC (.int 0))) t2)) (tVar j) [j]) tNil)) Γ (Is (recD (r.filter fun p => decide (p.1 < tick)))) := by
  have hw : j < (wipeS Γ [j]).length := by
    show j < (Γ.set j .no).length
    rw [List.length_set]
    exact hj
  have hv : ∀ p : Nat × Deed, VE C (tVar j) ((wipeS Γ [j]).set j (.dat (evD p))) (Is (evD p)) := fun p => ve_var (List.getElem?_set_self hw)
  exact ve_tupM (m := evD) (fun p => decide (p.1 < tick)) evD (va_tupD h) (by omega) fun p hp => ⟨_, _, vg_name, fun j hj => hj, (vt_testD (ve_opD (ve_opD (hv p).v ve_int.v (od_ixT (z := .int (p.1 : Nat)) rfl)).v (h2 p hp).v od_lt)).to (lt_nat _ _), fun _ => hv p⟩
theorem vs_cut_record (T : Top K mg) {a : List (Nat × Deed) × Nat} (hP : P_cut_record a) : VS ⟨K, B, H, none⟩ (t_cut_record T) (slots (A_cut_record a) 1) { nx := fun _ => R_cut_record a .none, rt := R_cut_record a } := by
  obtain ⟨r, tick⟩ := a
  exact vs_retD (ve_cut (j := 2) (ve_var rfl) hP (by show 2 < 3; decide) fun p _ => ve_var rfl) rfl
theorem ok_cut_record (T : Top K mg) : GOk P0 w K mg base CX0 1 T.f_cut_record T.fd_cut_record ["record", "tick"] (sp_cut_record K) :=
  pa_ok 1 T.F_cut_record sc_cut_record (fun _ => rfl) rfl fun cdv A outer s H E hg hr => ⟨_, d_cut_record T cdv A outer s H E hg hr, fun B H a hP => vs_cut_record T hP⟩
/-! the law's own -/
theorem filter_nil_all {α : Type} (xs : List α) (f : α → Bool) : (xs.filter fun x => !f x).isEmpty = xs.all f := by
  induction xs with
  | nil => rfl
  | cons x xs ih =>
    rw [List.filter_cons, List.all_cons]
    cases h : f x with
    | false => rfl
    | true => exact ih
theorem vs__law_seen (T : Top K mg) {a : Sight × List (Nat × Deed)} (hP : P_seen a) : VS ⟨K, B, H, none⟩ (t__law_seen T) (slots (A_seen a) 5) { nx := fun _ => R_seen a .none, rt := R_seen a } := by
  obtain ⟨⟨rs, ends, level⟩, r⟩ := a
  obtain ⟨⟨h1, h2, h3⟩, h4, h5⟩ := hP
  have h4 : r.length ≤ 1000 := h4
  have h1 : level < rs.length := h1
  have h2 : Rows rs.length rs := h2
  have h3 : Rows rs.length ends := h3
  have h5 : ∀ p ∈ r, DeedIn rs.length ends.length p.2 := h5
  refine vq_ownD (vl_lstD va_nil) ?_
  refine vs_seq (fun Γ => ∃ s5 s6 s7 s8, Γ = [.dat (ordD rs), .dat (.int (level : Nat)), .dat (ordD ends), .dat (recD r), .own ((r.filter fun p => sees rs ends level p.2).map evD), s5, s6, s7, s8]) ?_ ?_
  · refine vs_for (va_tupD (ds := r.map evD) (ve_var rfl)) fun ds e => ?_
    cases e
    refine ⟨fun i Γ => ∃ s5 s6 s7 s8, Γ = [.dat (ordD rs), .dat (.int (level : Nat)), .dat (ordD ends), .dat (recD r), .own (((r.take i).filter fun p => sees rs ends level p.2).map evD), s5, s6, s7, s8], ⟨_, _, _, _, rfl⟩, ?_, fun Γ' h => ?_⟩
    · rintro i d Γ' hd ⟨s5, s6, s7, s8, rfl⟩
      rw [List.getElem?_map] at hd
      obtain ⟨p, hp, rfl⟩ := Option.map_eq_some_iff.mp hd
      obtain ⟨tick, e⟩ := p
      have hin := h5 _ (List.mem_of_getElem? hp)
      have hil : i < r.length := (List.getElem?_eq_some_iff.mp hp).1
      refine ⟨_, _, vg_tup2 vg_name vg_name, ?_⟩
      let lot : List Nat := match e with
        | .out l _ => [l]
        | .fin t => ends.getD t []
      have hlot : lot.length ≤ 1000 := by
        cases e with
        | out l v => exact (by decide : 1 ≤ 1000)
        | fin t => exact (h3.2 _ (row_mem (show t < ends.length from hin))).1
      have hsee : sees rs ends level e = lot.all (rs.getD level []).contains := by
        cases e with
        | out l v =>
          show (rs.getD level []).contains l = [l].all _
          rw [List.all_cons, List.all_nil, Bool.and_true]
        | fin t => rfl
      have hL : VE ⟨K, B, H, none⟩ (tIf (tTest (tOp (rEqA K) (tOp (rIx K) (tVar 6) (tC (.int 0))) (tC (.str "out")))) (tLst (tCons (tOp (rIx K) (tVar 6) (tC (.int 1))) tNil)) (tCB (rList K) (tCons (tOp (rIx K) (tVar 2) (tOp (rIx K) (tVar 6) (tC (.int 1)))) tNil)))
          [.dat (ordD rs), .dat (.int (level : Nat)), .dat (ordD ends), .dat (recD r), .own (((r.take i).filter fun p => sees rs ends level p.2).map evD), .dat (.int (tick : Nat)), .dat (deedD e), s7, s8] (Is (.list (nsD lot))) := by
        refine ve_if (vt_testD (eq_out e (ve_var rfl))) (fun h => ?_) fun h => ?_
        · cases e with
          | fin t => cases h
          | out l v => exact (vl_lstD (va_consD (ve_opD (ve_var rfl).v ve_int.v (od_ixT (z := .int (l : Nat)) rfl)) va_nil)).ed
        · cases e with
          | out l v => cases h
          | fin t => exact (vl_listT (ve_row (ve_var rfl) (ve_opD (ve_var rfl).v ve_int.v (od_ixT (z := .int (t : Nat)) rfl)) hin)).ed
      refine vq_asgD hL ?_
      have hempty : ∀ xs : List Nat, SeqAt.shaped (.list (nsD xs)) = true := fun xs => by
        refine shaped_sub (xs := nsD xs) ?_ fun y hy => hy
        unfold SeqAt.shaped
        rw [Bool.and_eq_true, decide_eq_true_eq, PyData.canLay0, PyData.depth, canLayAll_mem]
        refine ⟨fun x hx => ?_, ?_⟩
        · obtain ⟨n, _, rfl⟩ := List.mem_map.mp hx
          rfl
        · have : PyData.depthAll (nsD xs) ≤ 0 := depthAll_mem.mpr fun x hx => by
            obtain ⟨n, _, rfl⟩ := List.mem_map.mp hx
            exact Nat.le_refl _
          omega
      refine vs_ifD ((vt_testD (ve_opD (vl_lcM (m := fun n : Nat => PyData.int (n : Nat)) (fun x => !(rs.getD level []).contains x) (fun n => .int (n : Nat)) (va_listD (ve_var rfl)) (by omega) fun x hx => ⟨_, _, vg_name, fun j hj => hj, vt_testD ((ve_opD (ve_var rfl).v (ve_row (ve_var rfl) (ve_var rfl) h1).v (od_notinT rfl (flat_ints _))).to (congrArg (fun b => PyData.bool (!b)) (any_ints _ x))), fun _ => ve_var rfl⟩).vd (vl_lstD va_nil).vd (od_eq (hempty _) rfl))).to (c := sees rs ends level e) ?_) (fun h => ?_) fun h => ?_
      · rw [hsee, ← filter_nil_all]
        show PyData.eqvAll (nsD _) [] = _
        cases (lot.filter fun x => !(rs.getD level []).contains x) <;> rfl
      · refine vs_app (i := 4) rfl (ve_tupD (va_consD (ve_var rfl) (va_consD (ve_var rfl) va_nil))) ?_ fun d ed => ?_
        · rw [List.length_map]
          have := List.length_filter_le (fun p => sees rs ends level p.2) (r.take i)
          rw [List.length_take] at this
          omega
        · cases ed
          have key : ((r.take (i + 1)).filter fun p => sees rs ends level p.2).map evD = ((r.take i).filter fun p => sees rs ends level p.2).map evD ++ [evD (tick, e)] := by
            have e1 : List.filter (fun p => sees rs ends level p.2) [(tick, e)] = [(tick, e)] := by rw [List.filter_cons, if_pos h]; rfl
            rw [List.take_add_one, hp, List.filter_append, List.map_append]
            show _ ++ List.map evD (List.filter (fun p => sees rs ends level p.2) [(tick, e)]) = _
            rw [e1]
            rfl
          exact ⟨.dat (.int (tick : Nat)), .dat (deedD e), .dat (.list (nsD lot)), s8, by rw [key]; rfl⟩
      · have key : ((r.take (i + 1)).filter fun p => sees rs ends level p.2).map evD = ((r.take i).filter fun p => sees rs ends level p.2).map evD := by
          have e1 : List.filter (fun p => sees rs ends level p.2) [(tick, e)] = [] := by rw [List.filter_cons, if_neg (by show ¬ sees rs ends level e = true; rw [h]; decide)]; rfl
          rw [List.take_add_one, hp, List.filter_append, List.map_append]
          show _ ++ List.map evD (List.filter (fun p => sees rs ends level p.2) [(tick, e)]) = _
          rw [e1]
          exact List.append_nil _
        exact vs_next ⟨.dat (.int (tick : Nat)), .dat (deedD e), .dat (.list (nsD lot)), s8, by rw [key]; rfl⟩
    · rw [List.length_map, List.take_length] at h
      exact h
  · rintro Γ ⟨s5, s6, s7, s8, rfl⟩
    exact vs_retD (ve_tupL (vv_own rfl)) rfl
theorem ok__law_seen (T : Top K mg) : GOk P0 w K mg base CX0 1 T.f__law_seen T.fd__law_seen ["order", "level", "ends", "record"] (sp__law_seen K) :=
  pa_ok 5 T.F__law_seen sc__law_seen (fun _ => rfl) rfl fun cdv A outer s H E hg hr => ⟨_, d__law_seen T cdv A outer s H E hg hr, fun B H a hP => vs__law_seen T hP⟩
end
end K04
namespace K04
open PySem PySem.Spec PyProof.Rows L2 Ly
section
variable {P0 : Program} {w : World} {K : PySem.W.Frag} {mg : Str → Option Value} {base : Heap} {B H : Hp} {p q : Addr}
theorem ok__law_closed (T : Top K mg) : GOk P0 w K mg base CX0 1 T.f__law_closed T.fd__law_closed ["many", "pairs"] (sp__law_closed K) :=
  pa_ok 7 T.F__law_closed sc__law_closed (fun _ => rfl) rfl fun cdv A outer s H E hg hr => ⟨_, d__law_closed T cdv A outer s H E hg hr, fun B H a hP => vs_closed hP⟩
theorem vs__law_order (T : Top K mg) : VS ⟨K, B, H, some (p, q)⟩ (t__law_order T) [.deal, .no, .no, .no, .no, .no, .no] { nx := fun _ => R__law_order [] .none, rt := R__law_order [] } := by
  refine vq_asg (R := fun d => ∃ many : Nat, d = .int (many : Nat) ∧ 1 ≤ many ∧ many ≤ 5) (ve_op (Ra := Is (.int 1)) ve_int.v (ve_anyN (i := 0) (n := 5) rfl ve_int (by decide) (by decide)).v fun x y ex ⟨r, ey, hr⟩ => ?_) fun d ⟨many, ed, m1, m2⟩ => ?_
  · subst ex ey
    exact od_add.imp fun d e => ⟨1 + r, by rw [e]; rfl, by omega, by omega⟩
  subst ed
  refine vq_asg (R := fun d => ∃ row : List Nat, d = lnD row ∧ row.Perm (List.range many)) ((ve_deD (i := 0) rfl (va_consD ((vl_listRg (ve_var rfl) (by omega) (by omega)).to (range_ns many)).ed va_nil) ⟨nsD (List.range many), Or.inl rfl, by rw [List.length_map, List.length_range]; omega, shaped_ns _⟩).imp fun d r => ?_) fun d ⟨row, ed, hrow⟩ => ?_
  · obtain ⟨ys, e, hp⟩ := r _ (Or.inl rfl)
    obtain ⟨zs, rfl, hz⟩ := perm_map_inv hp _ rfl
    exact ⟨zs, e, hz⟩
  subst ed
  have hlen : row.length = many := by rw [hrow.length_eq, List.length_range]
  have hat : ∀ k : Nat, k < many → ∃ x, row[k]? = some x ∧ x < many := fun k hk => by
    refine ⟨row[k]'(by omega), List.getElem?_eq_getElem _, ?_⟩
    exact List.mem_range.mp (hrow.mem_iff.mp (List.getElem_mem _))
  -- pairs
  have inner : VL ⟨K, B, H, some (p, q)⟩ (tLc (iRng1 (tCons (tCallK (sp__law_any K) (fun vs _ => vs) E0 (tCons (tVar 0) (tCons (tOp (rI CMulW fun i j => .int (i * j)) (tC (.int 2)) (tVar 1)) tNil)) tNil) tNil)) (gName 6) tYes (tTup (tCons (tCallK (sp__law_any K) (fun vs _ => vs) E0 (tCons (tVar 0) (tCons (tVar 1) tNil)) tNil) (tCons (tCallK (sp__law_any K) (fun vs _ => vs) E0 (tCons (tVar 0) (tCons (tVar 1) tNil)) tNil) tNil))) [6])
      [.deal, .dat (.int (many : Nat)), .dat (lnD row), .no, .no, .no, .no] (fun es => es.length ≤ 10 ∧ ∀ y ∈ es, ∃ z : Nat × Nat, y = Ly.prD z ∧ z.1 < many ∧ z.2 < many) := by
    refine vl_lcA (S := fun es => es.length ≤ 10) (T := Is true) _ (vi_rng1 (ve_anyI (i := 0) rfl (ve_opD ve_int.v (ve_var rfl).v (od_mul (wide_mul (a := 10) (b := 10) (by decide) (by rw [Int.natAbs_natCast]; exact Nat.lt_of_le_of_lt m2 (by decide)) (by decide) (by decide) (by decide)))) (by omega) (by omega)) fun n ⟨h0, h1⟩ => ⟨by omega, by omega, by rw [upTo_len]; omega⟩) (fun _ h => h) (by decide) fun ds hds d hd => ?_
    refine ⟨_, _, vg_name, fun j hj => hj, vt_yes, ?_⟩
    refine ve_tup (va_cons (ve_anyN (i := 0) rfl (ve_var rfl) (by omega) (by omega)) (va_cons (ve_anyN (i := 0) rfl (ve_var rfl) (by omega) (by omega)) va_nil)) fun es ⟨a, as, e1, ⟨m, ea, hm⟩, b, bs, e2, ⟨n, eb, hn⟩, e3⟩ => ?_
    subst e1 e2 ea eb
    cases e3
    exact ⟨by show 2 ≤ 100000; decide, (m, n), rfl, hm, hn⟩
  refine vq_asg (R := fun d => ∃ ps : List (Nat × Nat), d = .list (ps.map Ly.prD) ∧ ps.length ≤ 10 ∧ ∀ z ∈ ps, z.1 < many ∧ z.2 < many) ((vl_lcA (S := fun es => es.length ≤ 10 ∧ ∀ y ∈ es, ∃ z : Nat × Nat, y = Ly.prD z ∧ z.1 < many ∧ z.2 < many) (T := Is true) (fun y => ∃ z : Nat × Nat, y = Ly.prD z ∧ z.1 < many ∧ z.2 < many) (va_list inner.e) (n := 10) (fun _ h => h.1) (by decide) fun ds hds d hd => ?_).e.imp fun d ⟨es, e, hn, h⟩ => ?_) fun d ⟨ps, ed, hl, hps⟩ => ?_
  · obtain ⟨⟨x, y⟩, rfl, hx, hy⟩ := hds.2 d hd
    have hx : x < many := hx
    have hy : y < many := hy
    refine ⟨_, _, vg_tup2 vg_name vg_name, fun j hj => hj, vt_yes, ?_⟩
    obtain ⟨u, hu, hu2⟩ := hat (if (y : Int) < (x : Int) then y else x) (by split <;> omega)
    obtain ⟨v, hv, hv2⟩ := hat (if (y : Int) > (x : Int) then y else x) (by split <;> omega)
    have eu : (if (y : Int) < (x : Int) then (y : Int) else (x : Int)) = (((if (y : Int) < (x : Int) then y else x) : Nat) : Int) := by split <;> rfl
    have ev : (if (y : Int) > (x : Int) then (y : Int) else (x : Int)) = (((if (y : Int) > (x : Int) then y else x) : Nat) : Int) := by split <;> rfl
    refine (ve_tupD (va_consD (ve_opD (ve_var rfl).v ((ve_min (ve_var rfl) (ve_var rfl)).to (congrArg PyData.int eu)).v (od_ixL (z := .int (u : Nat)) (atI_pos (by rw [List.getElem?_map, hu]; rfl)))) (va_consD (ve_opD (ve_var rfl).v ((ve_max (ve_var rfl) (ve_var rfl)).to (congrArg PyData.int ev)).v (od_ixL (z := .int (v : Nat)) (atI_pos (by rw [List.getElem?_map, hv]; rfl)))) va_nil))).imp fun r er => ⟨(u, v), er, hu2, hv2⟩
  · subst e
    obtain ⟨ps, rfl, hps⟩ := all_map h
    exact ⟨ps, rfl, by rw [List.length_map] at hn; exact hn, hps⟩
  subst ed
  refine vs_ret ((ve_callA (many, ps) (va_consD (ve_var rfl) (va_consD (ve_var rfl) va_nil)) ⟨by show many ≤ 100; omega, by show ps.length ≤ 1000; omega, hps⟩).imp fun d ⟨rs, e, hc⟩ => ?_)
  have hcl : rs.length = many := hc.len
  exact ⟨rs, ps, e, by rw [hcl]; exact hc, by omega, by omega⟩
theorem ok__law_order (T : Top K mg) : GOk P0 w K mg base CX0 3 T.f__law_order T.fd__law_order ["deal"] (sp__law_order K) :=
  de_ok 6 T.F__law_order sc__law_order (fun ds e => by rw [e]; rfl) rfl fun cdv A outer s H E hg hr => ⟨_, d__law_order T (ok__law_mixed T) (ok__law_closed T) (ok__law_any T) cdv A outer s H E hg hr, fun B H p q ds hP => by
    obtain rfl : ds = [] := hP
    exact vs__law_order T⟩
def RecAt (many threads i : Nat) (Γ : List Sl) : Prop := ∃ (r : List (Nat × Deed)) (tick : Nat) (s5 s6 : Sl), Γ = [.deal, .dat (.int (many : Nat)), .dat (.int (threads : Nat)), .own (r.map evD), .dat (.int (tick : Nat)), s5, s6] ∧
  r.length ≤ i ∧ tick ≤ 2 * i ∧ (∀ p ∈ r, p.1 ≤ tick ∧ DeedIn many threads p.2) ∧ r.Pairwise fun p q => p.1 ≤ q.1
theorem vs__law_record (T : Top K mg) {a : Nat × Nat} (hP : P__law_record a) : VS ⟨K, B, H, some (p, q)⟩ (t__law_record T) (.deal :: slots (A__law_record a) 4) { nx := fun _ => R__law_record a .none, rt := R__law_record a } := by
  obtain ⟨many, threads⟩ := a
  obtain ⟨h1, h2, h3, h4⟩ := hP
  have h1 : 0 < many := h1
  have h2 : 0 < threads := h2
  have h3 : many ≤ 100 := h3
  have h4 : threads ≤ 100 := h4
  refine vs_seq (fun Γ => Γ = [.deal, .dat (.int (many : Nat)), .dat (.int (threads : Nat)), .own [], .dat (.int (0 : Nat)), .no, .no]) (vs_parLE (vl_lstD va_nil) ve_int fun x y ex ey => by cases ex; cases ey; rfl) ?_
  rintro Γ rfl
  refine vs_seq (fun Γ => ∃ i, i ≤ 9 ∧ RecAt many threads i Γ) ?_ ?_
  · refine vs_for (S := fun es => es.length ≤ 9) (vi_rng1 (ve_anyI (i := 0) rfl ve_int (by decide) (by decide)) fun n ⟨h0, h1⟩ => ⟨by omega, by omega, by rw [upTo_len]; omega⟩) fun ds hds => ?_
    refine ⟨RecAt many threads, ⟨[], 0, _, _, rfl, Nat.le_refl _, Nat.le_refl _, (fun _ h => nomatch h), .nil⟩, ?_, fun Γ' h => ⟨_, hds, h⟩⟩
    rintro i d Γ' hd ⟨r, tick, s5, s6, rfl, hr, ht, hp, hw⟩
    have hi : i < 9 := Nat.lt_of_lt_of_le (List.getElem?_eq_some_iff.mp hd).1 hds
    refine ⟨_, _, vg_name, ?_⟩
    refine vq_asg (R := fun d => ∃ t : Nat, d = .int (t : Nat) ∧ tick ≤ t ∧ t ≤ tick + 2) (ve_op (Ra := Is (.int (tick : Nat))) (ve_var rfl).v (ve_anyN (i := 0) (n := 3) rfl ve_int (by decide) (by decide)).v fun x y ex ⟨m, ey, hm⟩ => ?_) fun d ⟨t, ed, t1, t2⟩ => ?_
    · subst ex ey
      exact od_add.imp fun d e => ⟨tick + m, e, by omega, by omega⟩
    subst ed
    refine vq_asg (R := fun d => ∃ e, d = deedD e ∧ DeedIn many threads e) (ve_if (vt_anyEq (i := 0) rfl (by decide) (by decide)) (fun _ => ?_) fun _ => ?_) fun d ⟨e, ed, he⟩ => ?_
    · refine ve_tup (va_cons (R := Is (.str "end")) ve_str (va_cons (ve_anyN (i := 0) rfl (ve_var rfl) h2 (by omega)) va_nil)) fun es ⟨a, as, e1, ea, b, bs, e2, ⟨n, eb, hn⟩, e3⟩ => ?_
      subst e1 e2 eb ea
      cases e3
      exact ⟨by show 2 ≤ 100000; decide, .fin n, rfl, hn⟩
    · refine ve_tup (va_cons (R := Is (.str "out")) ve_str (va_cons (ve_anyN (i := 0) rfl (ve_var rfl) h1 (by omega)) (va_cons (ve_anyN (i := 0) (n := 5) rfl ve_int (by decide) (by decide)) va_nil))) fun es ⟨a, as, e1, ea, b, bs, e2, ⟨n, eb, hn⟩, c, cs, e4, ⟨v, ec, hv⟩, e3⟩ => ?_
      subst e1 e2 eb ea e4 ec
      cases e3
      exact ⟨by show 3 ≤ 100000; decide, .out n v, rfl, hn, by omega⟩
    subst ed
    refine vs_app (i := 3) rfl (ve_tupD (va_consD (ve_var rfl) (va_consD (ve_var rfl) va_nil))) (by rw [List.length_map]; omega) fun d ed => ?_
    subst ed
    refine ⟨r ++ [(t, e)], t, .dat d, .dat (deedD e), ?_, by rw [List.length_append]; exact Nat.succ_le_succ hr, by omega, fun z hz => ?_, ?_⟩
    · rw [List.map_append]
      rfl
    · rcases List.mem_append.mp hz with hz | hz
      · exact ⟨Nat.le_trans (hp z hz).1 t1, (hp z hz).2⟩
      · rw [List.mem_singleton.mp hz]
        exact ⟨Nat.le_refl _, he⟩
    · refine List.pairwise_append.mpr ⟨hw, List.pairwise_singleton _ _, fun z hz y hy => ?_⟩
      rw [List.mem_singleton.mp hy]
      exact Nat.le_trans (hp z hz).1 t1
  · rintro Γ ⟨i, hi, r, tick, s5, s6, rfl, hr, ht, hp, hw⟩
    exact vs_retD (ve_tupL (vv_own rfl)) ⟨r, rfl, by omega, fun z hz => ⟨by have := (hp z hz).1; omega, (hp z hz).2⟩, hw⟩
theorem ok__law_record (T : Top K mg) : GOk P0 w K mg base CX0 2 T.f__law_record T.fd__law_record ["deal", "many", "threads"] (sp__law_record K) :=
  da_ok 4 T.F__law_record sc__law_record (fun _ => rfl) rfl fun cdv A outer s H E hg hr => ⟨_, d__law_record T (ok__law_any T) cdv A outer s H E hg hr, fun B H p q a hP => vs__law_record T hP⟩
end
end K04
namespace K04
open PySem PySem.Spec PyProof.Rows L2 Ly
section
variable {P0 : Program} {w : World} {K : PySem.W.Frag} {mg : Str → Option Value} {base : Heap} {B H : Hp} {p q : Addr}
abbrev endD (t : D) : D := .tuple [.str "end", t]
abbrev evT (t e : D) : D := .tuple [t, e]
def odd1 (many : Nat) : List D := [.tuple [.int 3], evT (.int 0) (.tuple [.str "out", .int (many : Nat), .int 1]), evT (.int 0) (.tuple [.str "out", .int 0, .int (-1)]), evT (.int 0) (endD .none), evT (.int 0) (.tuple [.str "End", .int 0]), evT (.bool true) (endD (.int 0)),
  .list [.int 0, endD (.int 0)], evT (.int 0) (.list [.str "end", .int 0])]
def odd2 : List D := [evT (.int (-1)) (endD (.int 0)), evT (.int 0) (.tuple [.str "out", .bool true, .int 1]), evT (.int 0) (.tuple [.str "out", .int 0, .bool false]), evT (.int 0) (endD (.int (-1))), evT (.int 0) (.tuple [.str "out", .int 0]), evT (.int 0) (.tuple [.str "end", .int 0, .int 0])]
def late : List D := [evT (.int 9) (endD (.int 0)), evT (.int 8) (endD (.int 0))]
theorem odd_bad {many : Nat} (hm : many ≤ 100) : ∀ x ∈ odd1 many ++ odd2, evOk many x = false ∧ Sm x 3 200 := by
  intro x hx
  have e1 : PyData.eqv (.str "end") (.str "out") = false := by decide +kernel
  have e2 : PyData.eqv (.str "out") (.str "end") = false := by decide +kernel
  have e3 : PyData.eqv (.str "End") (.str "end") = false := by decide +kernel
  simp only [odd1, odd2, List.cons_append, List.nil_append, List.mem_cons, List.not_mem_nil, or_false] at hx
  rcases hx with rfl | rfl | rfl | rfl | rfl | rfl | rfl | rfl | rfl | rfl | rfl | rfl | rfl | rfl
  · exact ⟨rfl, smB_is (by decide +kernel)⟩
  · refine ⟨?_, ?_⟩
    · show (true && (_ && ((decide (0 ≤ (many : Int)) && decide ((many : Int) < (many : Int))) && _))) = false
      rw [decide_eq_false (Int.lt_irrefl _)]
      simp
    · refine (Sm.tup (SmA.cons (k := 2) (n := 0) (smB_is (by decide +kernel)) (SmA.cons (n := 100) (Sm.tup (SmA.cons (k := 1) (n := 3) (smB_is (by decide +kernel)) (SmA.cons (n := 41) (sm_int (by rw [Int.natAbs_natCast]; omega)) (SmA.cons (n := 1) (smB_is (by decide +kernel)) (SmA.nil (n := 0)))))).mono (SmA.nil (n := 0))))).mono
  · exact ⟨by decide +kernel +revert, smB_is (by decide +kernel)⟩
  · exact ⟨by decide +kernel +revert, smB_is (by decide +kernel)⟩
  · exact ⟨by decide +kernel +revert, smB_is (by decide +kernel)⟩
  · exact ⟨by decide +kernel +revert, smB_is (by decide +kernel)⟩
  · exact ⟨by decide +kernel +revert, smB_is (by decide +kernel)⟩
  · exact ⟨by decide +kernel +revert, smB_is (by decide +kernel)⟩
  · exact ⟨by decide +kernel +revert, smB_is (by decide +kernel)⟩
  · exact ⟨by decide +kernel +revert, smB_is (by decide +kernel)⟩
  · exact ⟨by decide +kernel +revert, smB_is (by decide +kernel)⟩
  · exact ⟨by decide +kernel +revert, smB_is (by decide +kernel)⟩
  · exact ⟨by decide +kernel +revert, smB_is (by decide +kernel)⟩
  · exact ⟨by decide +kernel +revert, smB_is (by decide +kernel)⟩
theorem rec_odd {many : Nat} {a b : List D} {x : D} (h : evOk many x = false) : recOk many (.tuple (a ++ [x] ++ b)) = false := by
  have e : (a ++ [x] ++ b).all (evOk many) = false := by
    rw [List.all_append, List.all_append, List.all_cons, h]
    simp
  show (_ && (a ++ [x] ++ b).all (evOk many) && _) = false
  rw [e]
  simp
theorem rec_late {many : Nat} (a : List D) : recOk many (.tuple (a ++ late)) = false := by
  show (_ && rising (a ++ late)) = false
  have : rising (a ++ late) = false := by
    unfold rising
    rw [List.all_eq_false]
    refine ⟨a.length, List.mem_range.mpr ?_, ?_⟩
    · rw [List.length_append]
      show a.length < a.length + 2 - 1
      omega
    · have e1 : (a ++ late).getD a.length .none = evT (.int 9) (endD (.int 0)) := by
        rw [List.getD_eq_getElem?_getD, List.getElem?_append_right (Nat.le_refl _), Nat.sub_self]
        rfl
      have e2 : (a ++ late).getD (a.length + 1) .none = evT (.int 8) (endD (.int 0)) := by
        rw [List.getD_eq_getElem?_getD, List.getElem?_append_right (by omega), Nat.add_sub_cancel_left]
        rfl
      rw [e1, e2]
      decide
  rw [this, Bool.and_false]
theorem sm_ev {many threads : Nat} {z : Nat × Deed} (h1 : z.1 ≤ 18) (hm : many ≤ 100) (ht : threads ≤ 100) (h : DeedIn many threads z.2) : Sm (evD z) 3 200 := by
  obtain ⟨t, e⟩ := z
  have hd : Sm (deedD e) 2 150 := by
    cases e with
    | out l v =>
      have h : l < many ∧ v < 1000 := h
      exact (Sm.tup (SmA.cons (k := 1) (n := 3) (smB_is (by decide +kernel)) (SmA.cons (n := 41) (sm_int (by rw [Int.natAbs_natCast]; omega)) (SmA.cons (n := 41) (sm_int (by rw [Int.natAbs_natCast]; omega)) (SmA.nil (n := 0)))))).mono
    | fin t =>
      have h : t < threads := h
      exact (Sm.tup (SmA.cons (k := 1) (n := 3) (smB_is (by decide +kernel)) (SmA.cons (n := 41) (sm_int (by rw [Int.natAbs_natCast]; omega)) (SmA.nil (n := 0))))).mono
  exact (Sm.tup (SmA.cons (k := 2) (n := 41) (sm_int (by rw [Int.natAbs_natCast]; have h1 : t ≤ 18 := h1; omega)) (SmA.cons (n := 150) hd (SmA.nil (n := 0))))).mono
theorem sm_list {ds : List D} (h : ∀ d ∈ ds, Sm d 3 200) (hl : ds.length ≤ 400) : SmA ds 3 100000 := (SmA.of h).monoW (by omega)
theorem vs__law_bad_record (T : Top K mg) {a : List (Nat × Deed) × Nat} (hP : P__law_bad_record a) : VS ⟨K, B, H, some (p, q)⟩ (t__law_bad_record T) (.deal :: slots (A__law_bad_record a) 3) { nx := fun _ => R__law_bad_record a .none, rt := R__law_bad_record a } := by
  obtain ⟨r, many⟩ := a
  obtain ⟨h1, threads, h2, h3, h4, h5⟩ := hP
  have h1 : many ≤ 100 := h1
  have h3 : r.length ≤ 9 := h3
  have hsm : ∀ d ∈ r.map evD, Sm d 3 200 := fun d hd => by
    obtain ⟨z, hz, rfl⟩ := List.mem_map.mp hd
    exact sm_ev (h4 z hz).1 h1 h2 (h4 z hz).2
  have hodd := odd_bad h1
  have hlen : VE ⟨K, B, H, some (p, q)⟩ (tOp (rAddA K) (tCB (rLen K) (tCons (tVar 1) tNil)) (tC (.int 1))) [.deal, .dat (recD r), .dat (.int (many : Nat)), .no, .no, .no] (Is (.int ((r.length + 1 : Nat) : Int))) := (ve_opD (ve_lenT (ve_var rfl)).v ve_int.v od_add).to (by rw [List.length_map]; rfl)
  refine vq_asg (ve_anyN (i := 0) rfl hlen (by omega) (by omega)) fun d ⟨k, ed, hk⟩ => ?_
  subst ed
  have ne1 : ∀ {Γ : List Sl}, VE ⟨K, B, H, some (p, q)⟩ (tUn (rU fun i => .int (-i)) (tC (.int 1))) Γ (Is (.int (-1))) := ve_neg ve_int
  have en : ∀ {Γ : List Sl} {te : TE} {x : D}, VE ⟨K, B, H, some (p, q)⟩ te Γ (Is x) → VE ⟨K, B, H, some (p, q)⟩ (tTup (tCons (tC (.str "end")) (tCons te tNil))) Γ (Is (endD x)) := fun h => ve_tupD (va_consD ve_str (va_consD h va_nil)) (by show 2 ≤ 100000; decide)
  have ev : ∀ {Γ : List Sl} {te t2 : TE} {x y : D}, VE ⟨K, B, H, some (p, q)⟩ te Γ (Is x) → VE ⟨K, B, H, some (p, q)⟩ t2 Γ (Is y) → VE ⟨K, B, H, some (p, q)⟩ (tTup (tCons te (tCons t2 tNil))) Γ (Is (evT x y)) := fun h h2 => ve_tupD (va_consD h (va_consD h2 va_nil)) (by show 2 ≤ 100000; decide)
  have o3 : ∀ {Γ : List Sl} {te t2 t3 : TE} {x y z : D}, VE ⟨K, B, H, some (p, q)⟩ te Γ (Is x) → VE ⟨K, B, H, some (p, q)⟩ t2 Γ (Is y) → VE ⟨K, B, H, some (p, q)⟩ t3 Γ (Is z) → VE ⟨K, B, H, some (p, q)⟩ (tTup (tCons te (tCons t2 (tCons t3 tNil)))) Γ (Is (.tuple [x, y, z])) := fun h h2 h3 => ve_tupD (va_consD h (va_consD h2 (va_consD h3 va_nil))) (by show 3 ≤ 100000; decide)
  refine vq_asgD (d := .list (odd1 many)) (vl_lstD (ds := odd1 many) (va_consD (ve_tupD (va_consD ve_int va_nil)) (va_consD (ev ve_int (o3 ve_str (ve_var rfl) ve_int)) (va_consD (ev ve_int (o3 ve_str ve_int ne1)) (va_consD (ev ve_int (en ve_non)) (va_consD (ev ve_int (ve_tupD (va_consD ve_str (va_consD ve_int va_nil))))
    (va_consD (ev ve_bl (en ve_int)) (va_consD (vl_lstD (va_consD ve_int (va_consD (en ve_int) va_nil))).ed (va_consD (ev ve_int (vl_lstD (va_consD ve_str (va_consD ve_int va_nil))).ed) va_nil)))))))) (by show 8 ≤ 100000; decide)).ed ?_
  refine vq_asgD (d := .list (odd1 many ++ odd2)) (vl_opD (ve_var rfl).v (vl_lstD (ds := odd2) (va_consD (ev ne1 (en ve_int)) (va_consD (ev ve_int (o3 ve_str ve_bl ve_int)) (va_consD (ev ve_int (o3 ve_str ve_int ve_bl)) (va_consD (ev ve_int (en ne1)) (va_consD (ev ve_int (ve_tupD (va_consD ve_str (va_consD ve_int va_nil)))) (va_consD (ev ve_int (o3 ve_str ve_int ve_int)) va_nil)))))) (by show 6 ≤ 100000; decide)).vd (ol_cat (by show 14 ≤ 100000; decide))).ed ?_
  refine vq_asgD (d := .tuple late) (ev (ev ve_int (en ve_int)) (ev ve_int (en ve_int))) ?_
  let X : D → List D := fun x => [.tuple ((r.map evD).take k ++ [x] ++ (r.map evD).drop k), .list (r.map evD), .none, .tuple (r.map evD ++ late)]
  have hx : VE ⟨K, B, H, some (p, q)⟩ (tLst (tCons (tOp (rAddA K) (tOp (rAddA K) (tSl (rSlany K) (tVar 1) tNoPart (tPart (tVar 3))) (tTup (tCons (tCallK (sp__law_of K) (fun vs _ => vs) E0 (tCons (tVar 0) (tCons (tVar 4) tNil)) tNil) tNil))) (tSl (rSlany K) (tVar 1) (tPart (tVar 3)) tNoPart)) (tCons (tCB (rList K) (tCons (tVar 1) tNil)) (tCons (tC .non) (tCons (tOp (rAddA K) (tVar 1) (tVar 5)) tNil)))))
      [.deal, .dat (recD r), .dat (.int (many : Nat)), .dat (.int (k : Nat)), .dat (.list (odd1 many ++ odd2)), .dat (.tuple late)] (fun d => ∃ x, x ∈ odd1 many ++ odd2 ∧ d = .list (X x)) := by
    have h1 : VE ⟨K, B, H, some (p, q)⟩ (tOp (rAddA K) (tOp (rAddA K) (tSl (rSlany K) (tVar 1) tNoPart (tPart (tVar 3))) (tTup (tCons (tCallK (sp__law_of K) (fun vs _ => vs) E0 (tCons (tVar 0) (tCons (tVar 4) tNil)) tNil) tNil))) (tSl (rSlany K) (tVar 1) (tPart (tVar 3)) tNoPart))
        [.deal, .dat (recD r), .dat (.int (many : Nat)), .dat (.int (k : Nat)), .dat (.list (odd1 many ++ odd2)), .dat (.tuple late)] (fun d => ∃ x, x ∈ odd1 many ++ odd2 ∧ d = .tuple ((r.map evD).take k ++ [x] ++ (r.map evD).drop k)) := by
      have g0 : VE ⟨K, B, H, some (p, q)⟩ (tTup (tCons (tCallK (sp__law_of K) (fun vs _ => vs) E0 (tCons (tVar 0) (tCons (tVar 4) tNil)) tNil) tNil)) [.deal, .dat (recD r), .dat (.int (many : Nat)), .dat (.int (k : Nat)), .dat (.list (odd1 many ++ odd2)), .dat (.tuple late)] (fun d => ∃ x, x ∈ odd1 many ++ odd2 ∧ d = .tuple [x]) :=
        ve_tup (va_cons (ve_ofL (i := 0) rfl (ve_var rfl) (by simp [odd1]) (by show 14 ≤ 100000; decide)) va_nil) fun es ⟨x, xs, e, hx, e2⟩ => by
          cases e2
          subst e
          exact ⟨by show 1 ≤ 100000; decide, x, hx, rfl⟩
      have g1 := ve_op (r := rAddA K) (R := fun d => ∃ x, x ∈ odd1 many ++ odd2 ∧ d = .tuple ((r.map evD).take k ++ [x])) (Ra := Is (.tuple ((r.map evD).take k))) ((ve_slT (lo := none) (hi := some (k : Int)) (ve_var (C := ⟨K, B, H, some (p, q)⟩) (i := 1) (Γ := [.deal, .dat (recD r), .dat (.int (many : Nat)), .dat (.int (k : Nat)), .dat (.list (odd1 many ++ odd2)), .dat (.tuple late)]) rfl) vo_none (vo_someD (ve_var (i := 3) rfl))).to (congrArg PyData.tuple (cut_to _ _))).v g0.v fun x y ex ⟨z, hz, ey⟩ => by
        subst ex ey
        exact (od_catT (by rw [List.length_take, List.length_map]; show _ + 1 ≤ _; omega)).imp fun d e => ⟨z, hz, e⟩
      refine ve_op g1.v ((ve_slT (ve_var rfl) (vo_someD (ve_var rfl)) vo_none).to (congrArg PyData.tuple (cut_from _ _))).v fun x y ⟨z, hz, ex⟩ ey => ?_
      subst ex ey
      exact (od_catT (by rw [List.length_append, List.length_take, List.length_drop, List.length_map]; show _ + 1 + _ ≤ _; omega)).imp fun d e => ⟨z, hz, e⟩
    refine (vl_lst (S := fun es => ∃ x, x ∈ odd1 many ++ odd2 ∧ es = X x) ((va_cons h1 (va_consD (vl_listT (ve_var rfl)).ed (va_consD ve_non (va_consD (ve_opD (ve_var rfl).v (ve_var rfl).v (od_catT (by rw [List.length_map]; show _ + 2 ≤ _; omega))) va_nil)))).imp fun es ⟨d, ds, e, ⟨x, hx, ed⟩, e2⟩ => ?_) fun es ⟨x, _, e⟩ => ?_).e.imp fun d ⟨es, e, x, hx, e2⟩ => ⟨x, hx, by rw [e, e2]⟩
    · subst e
      show 4 ≤ 100000
      decide
    · cases e2
      subst e ed
      exact ⟨x, hx, rfl⟩
  refine vs_ret (ve_de (i := 0) rfl (va_cons hx va_nil) fun ds ⟨d, es, e, ⟨x, hx, ed⟩, e2⟩ => ?_)
  cases e2
  subst e ed
  refine ⟨⟨X x, Or.inl rfl, by simp [X], by show 4 ≤ 100000; decide⟩, fun d hd => ?_⟩
  have hd := hd _ (Or.inl rfl)
  have hlate : ∀ y ∈ late, Sm y 3 200 := by
    intro y hy
    simp only [late, List.mem_cons, List.not_mem_nil, or_false] at hy
    rcases hy with rfl | rfl <;> exact smB_is (by decide +kernel)
  simp only [X, List.mem_cons, List.not_mem_nil, or_false] at hd
  rcases hd with rfl | rfl | rfl | rfl
  · refine ⟨rec_odd (hodd x hx).1, (Sm.tup (sm_list (fun y hy => ?_) ?_)).mono⟩
    · rcases List.mem_append.mp hy with hy | hy
      · rcases List.mem_append.mp hy with hy | hy
        · exact hsm y (List.mem_of_mem_take hy)
        · rw [List.mem_singleton.mp hy]
          exact (hodd x hx).2
      · exact hsm y (List.mem_of_mem_drop hy)
    · rw [List.length_append, List.length_append, List.length_take, List.length_drop, List.length_map]
      show _ + 1 + _ ≤ _
      omega
  · exact ⟨rfl, (Sm.list (sm_list hsm (by rw [List.length_map]; omega))).mono⟩
  · exact ⟨rfl, sm_non⟩
  · refine ⟨rec_late _, (Sm.tup (sm_list (fun y hy => ?_) ?_)).mono⟩
    · rcases List.mem_append.mp hy with hy | hy
      · exact hsm y hy
      · exact hlate y hy
    · rw [List.length_append, List.length_map]
      show _ + 2 ≤ _
      omega
theorem ok__law_bad_record (T : Top K mg) : GOk P0 w K mg base CX0 3 T.f__law_bad_record T.fd__law_bad_record ["deal", "record", "many"] (sp__law_bad_record K) :=
  da_ok 3 T.F__law_bad_record sc__law_bad_record (fun _ => rfl) rfl fun cdv A outer s H E hg hr => ⟨_, d__law_bad_record T (ok__law_any T) (ok__law_of T) cdv A outer s H E hg hr, fun B H p q a hP => vs__law_bad_record T hP⟩
end
end K04
namespace K04
open PySem PySem.Spec PyProof.Rows L2 Ly
section
variable {P0 : Program} {w : World} {K : PySem.W.Frag} {mg : Str → Option Value} {base : Heap} {B H : Hp} {p q : Addr}
theorem input_no {n : Nat} {xs : List D} (h : xs.length ≠ n ∨ (∃ x ∈ xs, isTup x = false) ∨ ∃ x ∈ xs, allNum x = false) : inputOk n (.tuple xs) = false := by
  show ((xs.length == n) && xs.all isTup && xs.all allNum) = false
  rcases h with h | ⟨x, hx, h⟩ | ⟨x, hx, h⟩
  · rw [beq_eq_false_iff_ne.mpr h]
    rfl
  · have : xs.all isTup = false := List.all_eq_false.mpr ⟨x, hx, by rw [h]; decide⟩
    rw [this]
    simp
  · have : xs.all allNum = false := List.all_eq_false.mpr ⟨x, hx, by rw [h]; decide⟩
    rw [this]
    simp
theorem input_yes (rs : List (List Nat)) : inputOk rs.length (ordD rs) = true := by
  show (((rs.map tnD).length == rs.length) && (rs.map tnD).all isTup && (rs.map tnD).all allNum) = true
  have e1 : (rs.map tnD).all isTup = true := by
    rw [List.all_map, List.all_eq_true]
    exact fun _ _ => rfl
  have e2 : (rs.map tnD).all allNum = true := by
    rw [List.all_map, List.all_eq_true]
    intro r _
    show (nsD r).all isNum = true
    rw [List.all_map, List.all_eq_true]
    exact fun x _ => decide_eq_true (Int.natCast_nonneg x)
  rw [e1, e2, List.length_map]
  simp
theorem rec_yes {many threads : Nat} {r : List (Nat × Deed)} (h : Rec many threads r) : recOk many (recD r) = true := by
  obtain ⟨_, h2, h3⟩ := h
  show ((r.map evD).all (isRow [2]) && (r.map evD).all (evOk many) && rising (r.map evD)) = true
  have e1 : (r.map evD).all (isRow [2]) = true := by
    rw [List.all_map, List.all_eq_true]
    exact fun _ _ => rfl
  have e2 : (r.map evD).all (evOk many) = true := by
    rw [List.all_map, List.all_eq_true]
    intro z hz
    obtain ⟨t, e⟩ := z
    have hin := (h2 _ hz).2
    show (decide (0 ≤ (t : Int)) && deedOk many (deedD e)) = true
    rw [decide_eq_true (Int.natCast_nonneg t), Bool.true_and]
    cases e with
    | out l v =>
      have hin : l < many ∧ v < 1000 := hin
      show (PyData.eqv (.str "out") (.str "out") && ((decide (0 ≤ (l : Int)) && decide ((l : Int) < (many : Int))) && decide (0 ≤ (v : Int)))) = true
      rw [decide_eq_true (Int.natCast_nonneg l), decide_eq_true (Int.natCast_nonneg v), decide_eq_true (by omega : (l : Int) < (many : Int))]
      decide +kernel
    | fin t =>
      show (PyData.eqv (.str "end") (.str "end") && decide (0 ≤ (t : Int))) = true
      rw [decide_eq_true (Int.natCast_nonneg t)]
      decide +kernel
  have e3 : rising (r.map evD) = true := by
    unfold rising
    rw [List.all_eq_true]
    intro i hi
    rw [List.mem_range, List.length_map] at hi
    have tk : ∀ j (hj : j < r.length), tickOf ((r.map evD).getD j .none) = ((r[j]).1 : Nat) := fun j hj => by
      rw [List.getD_eq_getElem?_getD, List.getElem?_map, List.getElem?_eq_getElem hj]
      rfl
    rw [tk i (by omega), tk (i + 1) (by omega)]
    have := List.pairwise_iff_getElem.mp h3 i (i + 1) (by omega) (by omega) (by omega)
    exact decide_eq_true (by omega)
  rw [e1, e2, e3]
  rfl
def badL (many : Nat) (one : List (List Nat)) : List D := [.list (one.map tnD), .tuple (one.map tnD ++ [.tuple []]), .tuple ((one.map tnD).drop 1), .tuple (List.replicate many [.none]).flatten, .tuple ((one.map tnD).drop 1 ++ [.tuple [.int (-1)]]), .tuple ((one.map tnD).drop 1 ++ [.tuple [.bool true]]),
  .tuple ((one.map tnD).drop 1 ++ [.list [.int 0]]), .none]
theorem bad_in {one : List (List Nat)} (h1 : 1 ≤ one.length) (h2 : one.length ≤ 5) (h : ∀ r ∈ one, r.length ≤ 2 ∧ ∀ x ∈ r, x < 4) : ∀ x ∈ badL one.length one, inputOk one.length x = false ∧ Sm x 64 100000 := by
  have sm : ∀ d ∈ one.map tnD, Sm d 3 200 := fun d hd => by
    obtain ⟨r, hr, rfl⟩ := List.mem_map.mp hd
    exact (Sm.tup (sm_ns (m := 2) (n := 84) (fun x hx => Nat.lt_trans ((h r hr).2 x hx) (by decide)) (h r hr).1)).mono
  have smd : ∀ d ∈ (one.map tnD).drop 1, Sm d 3 200 := fun d hd => sm d (List.mem_of_mem_drop hd)
  have ld : ((one.map tnD).drop 1).length = one.length - 1 := by rw [List.length_drop, List.length_map]
  have add : ∀ {xs : List D} {y : D}, (∀ d ∈ xs, Sm d 3 200) → xs.length ≤ 5 → Sm y 3 200 → Sm (.tuple (xs ++ [y])) 64 100000 := fun {xs y} hx hl hy => (Sm.tup (sm_list (fun d hd => by
    rcases List.mem_append.mp hd with hd | hd
    · exact hx d hd
    · rw [List.mem_singleton.mp hd]
      exact hy) (by rw [List.length_append]; show _ + 1 ≤ _; omega))).mono
  intro x hx
  simp only [badL, List.mem_cons, List.not_mem_nil, or_false] at hx
  rcases hx with rfl | rfl | rfl | rfl | rfl | rfl | rfl | rfl
  · exact ⟨rfl, (Sm.list (sm_list sm (by rw [List.length_map]; omega))).mono⟩
  · exact ⟨input_no (Or.inl (by rw [List.length_append, List.length_map]; show _ + 1 ≠ _; omega)), add sm (by rw [List.length_map]; omega) (smB_is (by decide +kernel))⟩
  · exact ⟨input_no (Or.inl (by rw [ld]; omega)), (Sm.tup (sm_list smd (by omega))).mono⟩
  · have e : (List.replicate one.length [PyData.none]).flatten = List.replicate one.length .none := by
      induction one.length with
      | zero => rfl
      | succ n ih => rw [List.replicate_succ, List.flatten_cons, ih]; rfl
    rw [e]
    refine ⟨input_no (Or.inr (Or.inl ⟨.none, List.mem_replicate.mpr ⟨by omega, rfl⟩, rfl⟩)), (Sm.tup (sm_list (fun d hd => ?_) (by rw [List.length_replicate]; omega))).mono⟩
    rw [(List.mem_replicate.mp hd).2]
    exact sm_non
  · exact ⟨input_no (Or.inr (Or.inr ⟨_, List.mem_append_right _ (List.mem_singleton.mpr rfl), by decide⟩)), add smd (by omega) (smB_is (by decide +kernel))⟩
  · exact ⟨input_no (Or.inr (Or.inr ⟨_, List.mem_append_right _ (List.mem_singleton.mpr rfl), by decide⟩)), add smd (by omega) (smB_is (by decide +kernel))⟩
  · exact ⟨input_no (Or.inr (Or.inl ⟨_, List.mem_append_right _ (List.mem_singleton.mpr rfl), by decide⟩)), add smd (by omega) (smB_is (by decide +kernel))⟩
  · exact ⟨rfl, sm_non⟩
/-- what the names hold -/
abbrev G4 (ns : List Int) (rs : List (List Nat)) (th : Nat) (s5 s6 s7 s8 s9 s10 s11 s12 s13 s14 s15 s16 s17 s18 s19 s20 : Sl) : List Sl :=
  [.rd (ns.map V.int), .deal, .dat (ordD rs), .dat (.int (rs.length : Nat)), .dat (.int (th : Nat)), s5, s6, s7, s8, s9, s10, s11, s12, s13, s14, s15, s16, s17, s18, s19, s20]
theorem filter_comm {α : Type} (f g : α → Bool) (xs : List α) : (xs.filter f).filter g = (xs.filter g).filter f := by
  rw [List.filter_filter, List.filter_filter]
  congr 1
  funext x
  exact Bool.and_comm _ _
theorem vs_law (T : Top K mg) {ns : List Int} (hn : ns.length ≤ 63) : VS ⟨K, H, H, none⟩ (t_law T) (.rd (ns.map V.int) :: List.replicate 20 .no) { nx := fun _ => False, rt := Is (.bool true) } := by
  refine vs_begin (s := 4) (n := 19) hn (k := fun B H p q => ?_)
  refine vq_asg (ve_deD (i := 1) rfl va_nil rfl) fun d ⟨rs, ps, ed, hcl, m1, m2⟩ => ?_
  subst ed
  refine vs_seq (fun Γ => ∃ th : Nat, Γ = G4 ns rs th .no .no .no .no .no .no .no .no .no .no .no .no .no .no .no .no ∧ 1 ≤ th ∧ th ≤ 3) (vs_asgG (R := fun d => ∃ th : Nat, d = .tuple [.int (rs.length : Nat), .int (th : Nat)] ∧ 1 ≤ th ∧ th ≤ 3)
    (ve_tup (va_cons (R := Is (.int (rs.length : Nat))) ((ve_lenT (ve_var rfl)).to (by rw [List.length_map])) (va_cons (R := fun d => ∃ th : Nat, d = .int (th : Nat) ∧ 1 ≤ th ∧ th ≤ 3) (ve_op (Ra := Is (.int 1)) ve_int.v (ve_anyN (i := 1) (n := 3) rfl ve_int (by decide) (by decide)).v fun x y ex ⟨r, ey, hr⟩ => by
      subst ex ey
      exact od_add.imp fun d e => ⟨1 + r, by rw [e]; rfl, by omega, by omega⟩) va_nil)) fun es ⟨a, as, e1, ea, b, bs, e2, ⟨th, eb, t1, t2⟩, e3⟩ => by
        cases e3
        subst ea eb e1 e2
        exact ⟨by show 2 ≤ 100000; decide, th, rfl, t1, t2⟩) fun d ⟨th, ed, t1, t2⟩ => by
      subst ed
      exact ⟨_, _, vg_tup2 vg_name vg_name, th, rfl, t1, t2⟩) ?_
  rintro Γ ⟨th, rfl, t1, t2⟩
  -- inputs
  refine vq_asg (R := fun d => ∃ one : List (List Nat), d = ordD one ∧ one.length = rs.length ∧ ∀ r ∈ one, r.length ≤ 2 ∧ ∀ x ∈ r, x < 4) ((ve_tupX (vl_mapR (fun _ y => ∃ row : List Nat, y = tnD row ∧ row.length ≤ 2 ∧ ∀ x ∈ row, x < 4) (vi_rngM (n := rs.length) (ve_var rfl) (by omega)) (by rw [List.length_map, List.length_range]; omega) fun d hd => ⟨_, _, vg_name, fun j hj => hj, ?_⟩)).imp fun d ⟨ds, e, h⟩ => ?_) fun d ⟨one, ed, o1, o2⟩ => ?_
  · refine (ve_tupX (vl_lcA (S := fun es => es.length ≤ 2) (T := Is true) (fun y => ∃ x : Nat, y = .int (x : Nat) ∧ x < 4) (vi_rng1 (ve_anyI (i := 1) (n := 3) rfl ve_int (by decide) (by decide)) fun n ⟨h0, h1⟩ => ⟨by omega, by omega, by rw [upTo_len]; omega⟩) (n := 2) (fun _ h => h) (by decide) fun ds hds d hd => ⟨_, _, vg_name, fun j hj => hj, vt_yes, ve_anyN (i := 1) (n := 4) rfl ve_int (by decide) (by decide)⟩)).imp fun y ⟨es, e, hl, h⟩ => ?_
    obtain ⟨row, rfl, hr⟩ := all_map h
    exact ⟨row, e, by rw [List.length_map] at hl; exact hl, hr⟩
  · obtain ⟨one, rfl, hl, hq⟩ := A2.map (fun a b h => h) h
    exact ⟨one, e, by rw [hl, List.length_map, List.length_range], hq⟩
  subst ed
  refine vq_asg (R := fun d => ∃ other : List (List Nat), d = ordD other ∧ other.length = one.length ∧ ∀ r ∈ other, r.length ≤ 3 ∧ ∀ x ∈ r, x < 4) ((ve_tupX (vl_mapR (fun _ y => ∃ row : List Nat, y = tnD row ∧ row.length ≤ 3 ∧ ∀ x ∈ row, x < 4) (va_tupD (ds := one.map tnD) (ve_var rfl)) (by rw [List.length_map]; omega) fun d hd => ?_)).imp fun d ⟨ds, e, h⟩ => ?_) fun d ⟨other, ed, u1, u2⟩ => ?_
  · obtain ⟨row, hrow, rfl⟩ := List.mem_map.mp hd
    obtain ⟨h1, h2⟩ := o2 row hrow
    refine ⟨_, _, vg_name, fun j hj => hj, ve_if (vt_anyGt (i := 1) rfl (by decide) (by decide)) (fun _ => (ve_var (d := tnD row) rfl).imp fun y e => ⟨row, e, by omega, h2⟩) fun _ => (ve_opD (ve_var (d := tnD row) rfl).v (ve_tupD (va_consD ve_int va_nil)).v (od_catT (by rw [List.length_map]; show _ + 1 ≤ _; omega))).imp fun y e => ⟨row ++ [1], ?_, ?_, fun x hx => ?_⟩⟩
    · rw [e]
      show PyData.tuple (nsD row ++ nsD [1]) = .tuple (nsD (row ++ [1]))
      exact congrArg PyData.tuple List.map_append.symm
    · rw [List.length_append]
      show _ + 1 ≤ _
      omega
    · rcases List.mem_append.mp hx with hx | hx
      · exact h2 x hx
      · rw [List.mem_singleton.mp hx]
        decide
  · obtain ⟨other, rfl, hl, hq⟩ := A2.map (fun a b h => h) h
    exact ⟨other, e, by rw [hl, List.length_map], hq⟩
  subst ed
  -- the record, the ends
  refine vq_asg (ve_callDa (i := 1) (rs.length, th) rfl (va_consD (ve_var rfl) (va_consD (ve_var rfl) va_nil)) ⟨m1, t1, by show rs.length ≤ 100; omega, by show th ≤ 100; omega⟩) fun d ⟨r, ed, hr⟩ => ?_
  subst ed
  have hr : Rec rs.length th r := hr
  refine vq_asg (R := fun d => ∃ ends : List (List Nat), d = ordD ends ∧ ends.length = th ∧ ∀ e ∈ ends, e.length ≤ rs.length ∧ ∀ x ∈ e, x < rs.length) ((ve_tupX (vl_mapR (fun _ y => ∃ row : List Nat, y = tnD row ∧ row.length ≤ rs.length ∧ ∀ x ∈ row, x < rs.length) (vi_rngM (n := th) (ve_var rfl) (by omega)) (by rw [List.length_map, List.length_range]; omega) fun d hd => ⟨_, _, vg_name, fun j hj => hj, ?_⟩)).imp fun d ⟨ds, e, h⟩ => ?_) fun d ⟨ends, ed, n1, n2⟩ => ?_
  · refine (ve_tupX (vl_lcA (T := fun _ => True) (fun y => ∃ x : Nat, y = .int (x : Nat) ∧ x < rs.length) (vi_rngM (n := rs.length) (ve_var rfl) (by omega)) (n := rs.length) (fun ds h => by cases h; rw [List.length_map, List.length_range]; exact Nat.le_refl _) (by omega) fun ds hds d hd => ?_)).imp fun y ⟨es, e, hl, h⟩ => ?_
    · cases hds
      obtain ⟨x, hx, rfl⟩ := List.mem_map.mp hd
      exact ⟨_, _, vg_name, fun j hj => hj, vt_anyEq (i := 1) rfl (by decide) (by decide), (ve_var (d := .int (x : Nat)) rfl).imp fun y e => ⟨x, e, List.mem_range.mp hx⟩⟩
    · obtain ⟨row, rfl, hr⟩ := all_map h
      exact ⟨row, e, by rw [List.length_map] at hl; exact hl, hr⟩
  · obtain ⟨ends, rfl, hl, hq⟩ := A2.map (fun a b h => h) h
    exact ⟨ends, e, by rw [hl, List.length_map, List.length_range], hq⟩
  subst ed
  have smO : Sm (ordD one) 64 100000 := (sm_ord (m := 5) (l := 2) (n := 425) (fun r hr => ⟨(o2 r hr).1, fun x hx => Nat.lt_trans ((o2 r hr).2 x hx) (by decide)⟩) (by omega)).mono
  have smU : Sm (ordD other) 64 100000 := (sm_ord (m := 5) (l := 3) (n := 635) (fun r hr => ⟨(u2 r hr).1, fun x hx => Nat.lt_trans ((u2 r hr).2 x hx) (by decide)⟩) (by omega)).mono
  have smE : ∀ z ∈ r, Sm (evD z) 3 200 := fun z hz => sm_ev (hr.2.1 z hz).1 (many := rs.length) (threads := th) (by omega) (by omega) (hr.2.1 z hz).2
  have smR : ∀ xs : List (Nat × Deed), (∀ z ∈ xs, z ∈ r) → xs.length ≤ 9 → Sm (recD xs) 4 100000 := fun xs h hl => Sm.tup (sm_list (fun d hd => by
    obtain ⟨z, hz, rfl⟩ := List.mem_map.mp hd
    exact smE z (h z hz)) (by rw [List.length_map]; omega))
  have hrl : r.length ≤ 9 := hr.1
  have rowsR : Rows rs.length rs := by
    refine ⟨by omega, fun row hrow => ?_⟩
    obtain ⟨i, hi, rfl⟩ := List.getElem_of_mem hrow
    have e : rs.getD i [] = rs[i] := by rw [List.getD_eq_getElem?_getD, List.getElem?_eq_getElem hi]; rfl
    have hnd := hcl.nd i hi
    have his := hcl.is i hi
    rw [e] at hnd his
    refine ⟨?_, fun x hx => ((his x).mp hx).1⟩
    have := up_len hnd (lo := 0) (hi := rs.length) fun x hx => ⟨Nat.zero_le _, ((his x).mp hx).1⟩
    omega
  have rowsE : Rows rs.length ends := ⟨by omega, fun e he => ⟨by have := (n2 e he).1; omega, (n2 e he).2⟩⟩
  -- it is an input, it is a record
  refine vq_ifD (x := false) ((vt_orD (b := false) (c := false) (vt_isnt (a := true) ((ve_kwA (rs, ordD one) (gD := kf_is_input_0_value_order) kd_is_input_0_value_order va_nil (va_consD (ve_var rfl) (va_consD (ve_var rfl) va_nil)) rfl ⟨by show rs.length ≤ 1000; omega, smO⟩).imp fun d e => e.trans (by show PyData.bool (inputOk rs.length (ordD one)) = _; rw [← o1, input_yes])))
    fun _ => vt_isnt (a := true) ((ve_kwA (rs, recD r) (gD := kf_is_record_0_value_order) kd_is_record_0_value_order va_nil (va_consD (ve_var rfl) (va_consD (ve_var rfl) va_nil)) rfl (smR r (fun _ h => h) hrl).mono).imp fun d e => e.trans (by show PyData.bool (recOk rs.length (recD r)) = _; rw [rec_yes hr]))).to rfl) (fun h => by cases h) fun _ => vq_next ?_
  have d1 : ∀ {Γ : List Sl}, Γ[5]? = some (.dat (ordD one)) → VE ⟨K, B, H, some (p, q)⟩ (tSl (rSlany K) (tVar 5) (tPart (tC (.int 1))) tNoPart) Γ (Is (.tuple ((one.map tnD).drop 1))) := fun h => (ve_slT (ve_var h) (vo_someD ve_int) vo_none).to (congrArg PyData.tuple (cut_from (one.map tnD) 1))
  have hol : (one.map tnD).length = one.length := List.length_map ..
  have hdl : ((one.map tnD).drop 1).length ≤ 5 := by rw [List.length_drop, hol]; omega
  have cat : ∀ {Γ : List Sl} {te : TE} {y : D}, Γ[5]? = some (.dat (ordD one)) → VE ⟨K, B, H, some (p, q)⟩ te Γ (Is y) → VE ⟨K, B, H, some (p, q)⟩ (tOp (rAddA K) (tSl (rSlany K) (tVar 5) (tPart (tC (.int 1))) tNoPart) (tTup (tCons te tNil))) Γ (Is (.tuple ((one.map tnD).drop 1 ++ [y]))) := fun h hy =>
    ve_opD (d1 h).v (ve_tupD (va_consD hy va_nil) (by show 1 ≤ 100000; decide)).v (od_catT (by show _ + 1 ≤ _; omega))
  refine vq_asgD (d := .list (badL rs.length one)) (vl_lstD (ds := badL rs.length one) (va_consD (vl_listT (ve_var rfl)).ed (va_consD (ve_opD (ve_var rfl).v (ve_tupD (va_consD (ve_tupD va_nil) va_nil)).v (od_catT (by show _ + 1 ≤ _; omega))) (va_consD (d1 rfl) (va_consD (ve_opD (ve_tupD (va_consD ve_non va_nil)).v (ve_var rfl).v (od_mulT (ds := [.none]) (k := (rs.length : Nat)) (by simp) (by omega) (by omega) (by decide)))
    (va_consD (cat rfl (ve_tupD (va_consD (ve_neg ve_int) va_nil))) (va_consD (cat rfl (ve_tupD (va_consD ve_bl va_nil))) (va_consD (cat rfl (vl_lstD (va_consD ve_int va_nil)).ed) (va_consD ve_non va_nil)))))))) (by show 8 ≤ 100000; decide)).ed ?_
  have hbad := bad_in (one := one) (by omega) (by omega) o2
  have hbad2 : ∀ y ∈ badL rs.length one, inputOk rs.length y = false ∧ Sm y 64 100000 := by
    rw [← o1]
    exact hbad
  refine vq_ifD (x := false) ((vt_orD (b := false) (c := false) (vt_isnt (a := false) (ve_call2x (x := ordD rs) (ve_var rfl) (ve_ofL (i := 1) rfl (ve_var rfl) (by simp [badL]) (by show 8 ≤ 100000; decide)) fun y hy => ⟨(rs, y), rfl, ⟨by show rs.length ≤ 1000; omega, (hbad2 y hy).2⟩, fun d e => e.trans (congrArg PyData.bool (hbad2 y hy).1)⟩))
    fun _ => vt_isnt (a := false) (ve_call2x (x := ordD rs) (ve_var rfl) (ve_callDa (i := 1) (r, rs.length) rfl (va_consD (ve_var rfl) (va_consD (ve_var rfl) va_nil)) ⟨by show rs.length ≤ 100; omega, th, by omega, hr⟩) fun y hy => ⟨(rs, y), rfl, hy.2, fun d e => e.trans (congrArg PyData.bool hy.1)⟩)).to rfl) (fun h => by cases h) fun _ => vq_next ?_
  refine vq_asg (ve_anyN (i := 1) (n := 12) rfl ve_int (by decide) (by decide)) fun d ⟨tick, ed, htick⟩ => ?_
  subst ed
  refine vq_asgD (ve_cut (j := 16) (r := r) (tick := tick) (ve_var rfl) (by omega) (by show 16 < 21; decide) fun z _ => ve_var rfl) ?_
  have smC : Sm (recD (r.filter fun z => decide (z.1 < tick))) 4 100000 := smR _ (fun z hz => (List.mem_filter.mp hz).1) (Nat.le_trans (List.length_filter_le _ _) hrl)
  refine vq_ifD (x := false) (vt_testD (ve_opD (ve_reprS (ve_kwA (r, tick) (gD := kf_cut_record_0_tick_record) kd_cut_record_0_tick_record va_nil (va_consD (ve_var rfl) (va_consD (ve_var rfl) va_nil)) rfl (by show r.length ≤ 1000; omega)).v smC).v (ve_reprS (ve_var rfl).v smC).v (od_neSSame rfl))) (fun h => by cases h) fun _ => vq_next ?_
  -- level by level
  refine vs_seq (fun _ => True) ?_ fun Γ _ => vs_retD ve_bl rfl
  refine vs_for (vi_rngM (n := rs.length) (ve_var rfl) (by omega)) fun ds e => ?_
  cases e
  refine ⟨fun _ Γ => ∃ s7 s17 s19 s20, Γ = G4 ns rs th (.dat (ordD one)) .no s7 (.dat (ordD other)) .no (.dat (recD r)) (.dat (ordD ends)) .no (.dat (.list (badL rs.length one))) (.dat (.int (tick : Nat))) (.dat (recD (r.filter fun z => decide (z.1 < tick)))) .no s17 .no s19 s20, ⟨_, _, _, _, rfl⟩, ?_, fun _ _ => trivial⟩
  rintro i0 d Γ' hd ⟨s7, s17, s19, s20, rfl⟩
  rw [List.getElem?_map] at hd
  obtain ⟨lv, hlv, rfl⟩ := Option.map_eq_some_iff.mp hd
  have hlv : lv < rs.length := List.mem_range.mp (List.mem_of_getElem? hlv)
  obtain ⟨z1, z2⟩ := rowsR.2 _ (row_mem hlv)
  refine ⟨_, _, vg_name, ?_⟩
  have ieq : ∀ l, l < rs.length → PyData.eqvAll (nsD (one.getD l [])) (nsD (other.getD l [])) = (one.getD l [] == other.getD l []) := fun l _ => eqv_nums _ _
  have shO : ∀ l, l < rs.length → SeqAt.shaped (tnD (one.getD l [])) = true := fun l hl => (smO.tupM (List.mem_of_getElem? (row_at (rs := one) (i := l) (by omega)))).shaped
  have shU : ∀ l, l < rs.length → SeqAt.shaped (tnD (other.getD l [])) = true := fun l hl => (smU.tupM (List.mem_of_getElem? (row_at (rs := other) (i := l) (by omega)))).shaped
  refine vq_asgD (d := .bool ((rs.getD lv []).all fun l => one.getD l [] == other.getD l [])) ((ve_opD (vl_lcM (m := fun n : Nat => PyData.int (n : Nat)) (fun l => !(one.getD l [] == other.getD l [])) (fun n => .int (n : Nat)) (va_tupD (ve_row (ve_var rfl) (ve_var rfl) hlv)) (Nat.le_trans z1 (by decide)) fun l hl => ⟨_, _, vg_name, fun j hj => hj, (vt_testD (ve_opD (ve_row (ve_var rfl) (ve_var rfl) (by rw [o1]; exact z2 l hl)).v (ve_row (ve_var rfl) (ve_var rfl) (by rw [u1, o1]; exact z2 l hl)).v (od_neD (shO l (z2 l hl)) (shU l (z2 l hl)) (ieq l (z2 l hl))))), fun _ => ve_var rfl⟩).vd (vl_lstD va_nil).vd (od_eq (shaped_ns _) rfl)).to (congrArg PyData.bool ?_)) ?_
  · rw [← filter_nil_all]
    show PyData.eqvAll (nsD _) [] = _
    cases ((rs.getD lv []).filter fun l => !(one.getD l [] == other.getD l [])) <;> rfl
  refine vq_ifD (x := false) (vt_testD (ve_opD (ve_reprS (k := 0) (n := 0) (ve_kwA (rs, lv, one, other) (gD := kf_alike_inputs_0_other_one_level_order) kd_alike_inputs_0_other_one_level_order va_nil (va_consD (ve_var rfl) (va_consD (ve_var rfl) (va_consD (ve_var rfl) (va_consD (ve_var rfl) va_nil)))) rfl ⟨hlv, rowsR, o1, by show other.length = rs.length; omega, smO, smU⟩).v sm_bool).v (ve_reprS (k := 0) (n := 0) (ve_var rfl).v sm_bool).v (od_neSSame rfl))) (fun h => by cases h) fun _ => vq_next ?_
  have okS : ∀ l, l < rs.length → (Sight.mk rs ends l).Ok := fun l hl => ⟨hl, rowsR, rowsE⟩
  have hin : ∀ z ∈ r, DeedIn rs.length ends.length z.2 := fun z hz => by rw [n1]; exact (hr.2.1 z hz).2
  have smS : ∀ f : Nat × Deed → Bool, Sm (recD (r.filter f)) 4 100000 := fun f => smR _ (fun z hz => (List.mem_filter.mp hz).1) (Nat.le_trans (List.length_filter_le _ _) hrl)
  have fl : ∀ f : Nat × Deed → Bool, (r.filter f).length ≤ 1000 := fun f => Nat.le_trans (List.length_filter_le _ _) (by omega)
  refine vq_asgD ((ve_callA (Sight.mk rs ends lv, r) (va_consD (ve_var rfl) (va_consD (ve_var rfl) (va_consD (ve_var rfl) (va_consD (ve_var rfl) va_nil)))) ⟨okS lv hlv, by show r.length ≤ 1000; omega, hin⟩).imp fun d e => (e : d = recD (r.filter fun z => sees rs ends lv z.2))) ?_
  refine vq_ifD (x := false) (vt_testD (ve_opD (ve_reprS (ve_kwA (Sight.mk rs ends lv, r) (gD := kf_seen_0_record_ends_level_order) kd_seen_0_record_ends_level_order va_nil (va_consD (ve_var rfl) (va_consD (ve_var rfl) (va_consD (ve_var rfl) (va_consD (ve_var rfl) va_nil)))) rfl ⟨okS lv hlv, by show r.length ≤ 1000; omega, hin⟩).v (smS _)).v (ve_reprS (ve_var rfl).v (smS _)).v (od_neSSame rfl))) (fun h => by cases h) fun _ => vq_next ?_
  refine vq_ifD (x := false) (vt_testD (ve_opD (x := recD ((r.filter fun z => decide (z.1 < tick)).filter fun z => sees rs ends lv z.2)) (y := recD ((r.filter fun z => sees rs ends lv z.2).filter fun z => decide (z.1 < tick)))
    ((ve_callA (Sight.mk rs ends lv, r.filter fun z => decide (z.1 < tick)) (va_consD (ve_var rfl) (va_consD (ve_var rfl) (va_consD (ve_var rfl) (va_consD ((ve_callA (r, tick) (va_consD (ve_var rfl) (va_consD (ve_var rfl) va_nil)) (by show r.length ≤ 1000; omega)).imp fun d e => (e : d = recD (r.filter fun z => decide (z.1 < tick)))) va_nil)))) ⟨okS lv hlv, fl _, fun z hz => hin z (List.mem_filter.mp hz).1⟩).imp fun d e => e).v
    ((ve_callA (r.filter fun z => sees rs ends lv z.2, tick) (va_consD (ve_var rfl) (va_consD (ve_var rfl) va_nil)) (fl _)).imp fun d e => e).v ?_)) (fun h => by cases h) fun _ => vq_next ?_
  · refine od_neSame (k := 4) (n := 100000) (smR _ (fun z hz => (List.mem_filter.mp (List.mem_filter.mp hz).1).1) (Nat.le_trans (List.length_filter_le _ _) (Nat.le_trans (List.length_filter_le _ _) hrl))) ?_
    rw [filter_comm]
  refine vs_for (va_tupD (ds := nsD (rs.getD lv [])) (ve_row (ve_var rfl) (ve_var rfl) hlv)) fun ds e => ?_
  cases e
  refine ⟨fun _ Γ => ∃ s20, Γ = G4 ns rs th (.dat (ordD one)) .no (.dat (.int (lv : Nat))) (.dat (ordD other)) .no (.dat (recD r)) (.dat (ordD ends)) .no (.dat (.list (badL rs.length one))) (.dat (.int (tick : Nat))) (.dat (recD (r.filter fun z => decide (z.1 < tick)))) .no (.dat (.bool ((rs.getD lv []).all fun l => one.getD l [] == other.getD l []))) .no (.dat (recD (r.filter fun z => sees rs ends lv z.2))) s20, ⟨_, rfl⟩, ?_, fun Γ' ⟨s, e⟩ => ⟨_, _, _, _, e⟩⟩
  rintro j0 d Γ' hd ⟨s20', rfl⟩
  rw [List.getElem?_map] at hd
  obtain ⟨lo, hlo, rfl⟩ := Option.map_eq_some_iff.mp hd
  have hlo := List.mem_of_getElem? hlo
  have hlo2 : lo < rs.length := z2 lo hlo
  refine ⟨_, _, vg_name, ?_⟩
  have sub : ∀ x ∈ rs.getD lo [], x ∈ rs.getD lv [] := fun x hx => by
    have k1 := (hcl.is lo hlo2 x).mp hx
    have k2 := (hcl.is lv hlv lo).mp hlo
    exact (hcl.is lv hlv x).mpr ⟨k1.1, k1.2.trans k2.2⟩
  have mono : ∀ e, sees rs ends lo e = true → sees rs ends lv e = true := fun e h => by
    cases e with
    | out l v =>
      have h : (rs.getD lo []).contains l = true := h
      show (rs.getD lv []).contains l = true
      rw [List.contains_iff_mem] at h ⊢
      exact sub l h
    | fin t =>
      have h : (ends.getD t []).all (rs.getD lo []).contains = true := h
      show (ends.getD t []).all (rs.getD lv []).contains = true
      rw [List.all_eq_true] at h ⊢
      intro x hx
      have := h x hx
      rw [List.contains_iff_mem] at this ⊢
      exact sub x this
  refine vs_ifD (x := false) (vt_testD (ve_opD (x := recD ((r.filter fun z => sees rs ends lv z.2).filter fun z => sees rs ends lo z.2)) (y := recD (r.filter fun z => sees rs ends lo z.2))
    ((ve_callA (Sight.mk rs ends lo, r.filter fun z => sees rs ends lv z.2) (va_consD (ve_var rfl) (va_consD (ve_var rfl) (va_consD (ve_var rfl) (va_consD ((ve_callA (Sight.mk rs ends lv, r) (va_consD (ve_var rfl) (va_consD (ve_var rfl) (va_consD (ve_var rfl) (va_consD (ve_var rfl) va_nil)))) ⟨okS lv hlv, by show r.length ≤ 1000; omega, hin⟩).imp fun d e => (e : d = recD (r.filter fun z => sees rs ends lv z.2))) va_nil)))) ⟨okS lo hlo2, fl _, fun z hz => hin z (List.mem_filter.mp hz).1⟩).imp fun d e => e).v
    ((ve_callA (Sight.mk rs ends lo, r) (va_consD (ve_var rfl) (va_consD (ve_var rfl) (va_consD (ve_var rfl) (va_consD (ve_var rfl) va_nil)))) ⟨okS lo hlo2, by show r.length ≤ 1000; omega, hin⟩).imp fun d e => e).v ?_)) (fun h => by cases h) fun _ => vs_next ⟨_, rfl⟩
  refine od_neSame (k := 4) (n := 100000) (smR _ (fun z hz => (List.mem_filter.mp (List.mem_filter.mp hz).1).1) (Nat.le_trans (List.length_filter_le _ _) (Nat.le_trans (List.length_filter_le _ _) hrl))) ?_
  rw [List.filter_filter]
  congr 2
  funext z
  cases h : sees rs ends lo z.2 with
  | false => rfl
  | true => rw [mono _ h]; rfl
theorem ok_law (T : Top K mg) : GOk P0 w K mg base CX0 6 T.f_law T.fd_law ["script"] (sp_law K) :=
  law_ok 20 T.F_law sc_law rfl fun cdv A outer s H E hg hr => ⟨_, d_law T (ok__law_draw T) (ok__law_order T) (ok__law_record T) (ok__law_any T) (ok__law_seen T) (ok_is_input T) (ok_is_record T) (ok_cut_record T) (ok_seen T) (ok__law_of T) (ok__law_bad_record T) (ok_alike_inputs T) cdv A outer s H E hg hr, fun H ns hn => vs_law T hn⟩
end
end K04
open PySem PySem.W PyProof.Rows
set_option maxRecDepth 100000 in
set_option maxHeartbeats 0 in
theorem PySem.Challenge.cw_lookanyhow_k04_records_and_what_is_seen_holds : PySem.Challenge.rw_lookanyhow_k04_records_and_what_is_seen.Holds := by
  w_on; o_law; k_head; (case hw => w_witness2)
  k_fill
  refine Ly.walk_g (l := PySem.Challenge.rw_lookanyhow_k04_records_and_what_is_seen) (n := 63) (k := 6) (x := "script") (sp := Ly.Lw) rfl (by decide) rfl ⟨rfl, by decide, by decide⟩ (fun w h Y => PySem.W.kIn_of Y) ?F (fun K H a ns hl hS => ⟨a, ns, rfl, hS, hl, fun _ => rfl⟩)
  case F =>
    intro w mg fa h KX G hmg
    obtain ⟨T, e, hb⟩ : ∃ T : K04.Top _ mg, T.f_law = fa ∧ ∀ (s : Shared) (u : Value), BindsTo s T.fd_law ⟨[u], []⟩ [("script", u)] := by
      refine' K04.top_mk KX G hmg ?a0 ?l0 ?c0 ?k0 ?a1 ?l1 ?c1 ?k1 ?a2 ?l2 ?c2 ?k2 ?a3 ?l3 ?c3 ?k3 ?a4 ?l4 ?c4 ?k4 ?a5 ?l5 ?c5 ?k5 ?a6 ?l6 ?c6 ?k6 ?a7 ?l7 ?c7 ?k7 ?a8 ?l8 ?c8 ?k8 ?a9 ?l9 ?c9 ?k9 ?a10 ?l10 ?c10 ?k10 ?a11 ?l11 ?c11 ?k11 ?a12 ?l12 ?c12 ?k12 ?a13 ?l13 ?c13 ?k13 ?a14 ?l14 ?c14 ?k14 ?a15 ?l15 ?c15 ?k15 ?a16 ?l16 ?c16 ?k16 ?a17 ?l17 ?c17 ?k17 ?a18 ?l18 ?c18 ?k18 ?a19 ?l19 ?c19 ?k19 ?a20 ?l20 ?c20 ?k20 ?a21 ?l21 ?c21 ?k21 ?z_isinstance ?z_bool ?z_int ?z_len ?z_tuple ?z_all ?z_range ?z_abs ?z_list ?z_sorted ?z_max ?z_min ?z_repr
      (case a0 => k_is)
      (case l0 => k_is)
      (case c0 => k_is)
      (case k0 => k_is)
      (case a1 => k_is)
      (case l1 => k_is)
      (case c1 => k_is)
      (case k1 => k_is)
      (case a2 => k_is)
      (case l2 => k_is)
      (case c2 => k_is)
      (case k2 => k_is)
      (case a3 => k_is)
      (case l3 => k_is)
      (case c3 => k_is)
      (case k3 => k_is)
      (case a4 => k_is)
      (case l4 => k_is)
      (case c4 => k_is)
      (case k4 => k_is)
      (case a5 => k_is)
      (case l5 => k_is)
      (case c5 => k_is)
      (case k5 => k_is)
      (case a6 => k_is)
      (case l6 => k_is)
      (case c6 => k_is)
      (case k6 => k_is)
      (case a7 => k_is)
      (case l7 => k_is)
      (case c7 => k_is)
      (case k7 => k_is)
      (case a8 => k_is)
      (case l8 => k_is)
      (case c8 => k_is)
      (case k8 => k_is)
      (case a9 => k_is)
      (case l9 => k_is)
      (case c9 => k_is)
      (case k9 => k_is)
      (case a10 => k_is)
      (case l10 => k_is)
      (case c10 => k_is)
      (case k10 => k_is)
      (case a11 => k_is)
      (case l11 => k_is)
      (case c11 => k_is)
      (case k11 => k_is)
      (case a12 => k_is)
      (case l12 => k_is)
      (case c12 => k_is)
      (case k12 => k_is)
      (case a13 => k_is)
      (case l13 => k_is)
      (case c13 => k_is)
      (case k13 => k_is)
      (case a14 => k_is)
      (case l14 => k_is)
      (case c14 => k_is)
      (case k14 => k_is)
      (case a15 => k_is)
      (case l15 => k_is)
      (case c15 => k_is)
      (case k15 => k_is)
      (case a16 => k_is)
      (case l16 => k_is)
      (case c16 => k_is)
      (case k16 => k_is)
      (case a17 => k_is)
      (case l17 => k_is)
      (case c17 => k_is)
      (case k17 => k_is)
      (case a18 => k_is)
      (case l18 => k_is)
      (case c18 => k_is)
      (case k18 => k_is)
      (case a19 => k_is)
      (case l19 => k_is)
      (case c19 => k_is)
      (case k19 => k_is)
      (case a20 => k_is)
      (case l20 => k_is)
      (case c20 => k_is)
      (case k20 => k_is)
      (case a21 => k_is)
      (case l21 => k_is)
      (case c21 => k_is)
      (case k21 => k_is)
      (case z_isinstance => k_is)
      (case z_bool => k_is)
      (case z_int => k_is)
      (case z_len => k_is)
      (case z_tuple => k_is)
      (case z_all => k_is)
      (case z_range => k_is)
      (case z_abs => k_is)
      (case z_list => k_is)
      (case z_sorted => k_is)
      (case z_max => k_is)
      (case z_min => k_is)
      (case z_repr => k_is)
    subst e
    exact ⟨T.fd_law, hb, fun base _ _ => K04.ok_law T⟩
