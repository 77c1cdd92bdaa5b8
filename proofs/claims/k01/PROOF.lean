import PyProof.Rows.All
import Wide.All
import OpenK.AllK
import Wide.FinOn
import HandS.Deep
import HandS.Defaults
import HandS.Exc
import HandS.Flow
import HandS.ForMost
import HandS.IsInst
import HandS.NoneIn
import HandS.Style
import HandS.TupAny
import HandS.Wide
import HandS.WordsExc
import OpenK.AllK
import PyProof.ReprRoads
import PyProof.Rows.All
import Wide.All
import Wide.FinOn
import PySem.Challenge.RW_typedcurve_k01_what_any_value_is
set_option Elab.async false
set_option linter.all false
set_option maxRecDepth 100000
set_option maxHeartbeats 4000000
/-! T1: promises of defs that also know that no repr is under way (guards = some []). -/
namespace DL
open PySem PySem.Spec PyProof.Rows L2

/-- as the layer's promise, but the callee may use that no guard is under way -/
structure FnG (P : Program) (w : World) (K : PySem.W.Frag) (mg : Str → Option Value) (base : Heap) (CX : CXT) (k : Nat) (f : Addr) (fd : FuncData) (ps : List Str) (sp : Sp) : Prop where
  ln : ∀ vs H Q E, sp vs H Q E → vs.length = ps.length
  go : ∀ (A : Around) (outer : List Env) (s : Shared) (H : Hp) (args : Args) (us : List Value) (vs : List V) (Q : VK) (E : XK),
    Room k A → A.guards = some [] → Env0 P w K mg base A outer s H → BindsTo s fd args (ps.zip us) → Vals vs us → sp vs H Q E →
    codeAny (model P w) A (.call (.ref f) args) (CR CX outer P w H s Q E) s

section
variable {P : Program} {w : World} {K : PySem.W.Frag} {mg : Str → Option Value} {base : Heap} {CX : CXT} {k : Nat} {f : Addr} {fd : FuncData} {ps : List Str} {sp : Sp}
theorem FnG.of (F : FnOk P w K mg base CX k f fd ps sp) : FnG P w K mg base CX k f fd ps sp :=
  ⟨F.len, fun A outer s H args us vs Q E hr _ => F.run A outer s H args us vs Q E hr⟩
theorem FnG.up {j : Nat} (F : FnG P w K mg base CX j f fd ps sp) (h : j ≤ k) : FnG P w K mg base CX k f fd ps sp :=
  ⟨F.ln, fun A outer s H args us vs Q E hr => F.go A outer s H args us vs Q E (hr.mono h)⟩
theorem FnG.weaker {sp' : Sp} (F : FnG P w K mg base CX k f fd ps sp) (h : ∀ vs H Q E, sp' vs H Q E → sp vs H Q E) : FnG P w K mg base CX k f fd ps sp' :=
  ⟨fun vs H Q E q => F.ln vs H Q E (h _ _ _ _ q), fun A outer s H args us vs Q E hr hg he hb hv hs => F.go A outer s H args us vs Q E hr hg he hb hv (h _ _ _ _ hs)⟩
end

/-- a def by its body, the guards known -/
theorem fnG_of {CX : CXT} {P : Program} {w : World} {K : PySem.W.Frag} {mg : Str → Option Value} {base : Heap} {k : Nat} {f : Addr} {fd : FuncData} {x qual : Str} {st : Stmt} {N ps : List Str} {sp : Sp}
    (F : Fun K x qual st f fd) (S : FnScope N ps (defScope st)) (ln : ∀ vs H Q E, sp vs H Q E → vs.length = ps.length)
    (body : ∀ (cdv : Value) (A : Around) (outer : List Env) (s : Shared) (H : Hp) (vs : List V) (Q : VK) (E : XK),
      Room k (A.deeper (envOfC qual (defScope st) s.heap.objs.size f cdv)) → A.guards = some [] → sp vs H Q E →
      ∃ t, PSs (cxOf CX P w K mg base N qual (defScope st) f cdv A outer s H E) (defBody st) t ∧ t { nx := fun _ H' => Q .non H', rt := Q } (start N vs) H) :
    FnG P w K mg base CX (k + 1) f fd ps sp := by
  obtain ⟨oc, od, kV, doc, pm, an, cdv, ct, osl, rfl, lk, hcd⟩ := F.ex
  constructor
  · exact ln
  intro A outer s H args us vs Q E hr hg e0 hb r hsp
  have lnEq := ln _ _ _ _ hsp
  have inK : K.In s.heap := e0.mod.kin.keeps fun b o e => (e0.bs b o e).1
  have noLim : s.heap.NoLimit := e0.mod.nolimit.keeps fun b o e => (e0.bs b o e).1
  have kinds : ∀ y ∈ ps.zip us, (defScope st).names.lookup y.1 = some .local ∨
      ((defScope st).names.lookup y.1 = some .cell ∧ ((cellsFrom (s.heap.objs.size + 1) (defScope st).names []).lookup y.1).isSome = true) := by
    intro ⟨n, v⟩ hy
    cases S.par n (List.of_mem_zip hy).1 with
    | inl q => exact .inl q
    | inr q => exact .inr ⟨q, PySem.W.cellsFrom_some _ _ _ (.inl q)⟩
  apply codeAny_call_function hr.depth (inK _ _ lk) rfl S.co S.gen rfl (PySem.W.codeRec_of inK hcd)
  apply hb
  apply wpAny_newFunctionEnv_cells S.kind kinds
  intro env he s1 x
  subst he
  refine ⟨noLim.keeps x.toInCall.keep, codeAny_func ?_⟩
  obtain ⟨t, ht, hq⟩ := body cdv A outer s H vs Q E (hr.deeper _) hg hsp
  have I := inv_start (CX := CX) (E := E) S hr.hd e0 lnEq r x
  apply wpAny_mono (ht.run [] s1 (start N vs) H _ I hq)
  · intro fl s' hs
    cases fl with
    | ret u =>
      obtain ⟨v, σ', H', J, rv, q⟩ := hs
      exact (⟨v, H', J.os, J.bare, J.base, J.hok, rv, q⟩ : CE outer P w H s Q u s')
    | next =>
      obtain ⟨σ', H', J, q⟩ := hs
      exact (⟨V.non, H', J.os, J.bare, J.base, J.hok, rfl, q⟩ : CE outer P w H s Q Value.none s')
    | brk =>
      obtain ⟨_, _, _, q⟩ := hs
      exact False.elim q
    | cont =>
      obtain ⟨_, _, _, q⟩ := hs
      exact False.elim q
  · intro e s' hs
    exact hs

section
variable {X : Cx} {CX : CXT} {k : Nat} {f : Addr} {fd : FuncData} {ps ks : List Str} {sp : Sp} {dvs : List V} {ds : List Value} {E : XK} {x : Str} {p pos : Pos} {e : Expr} {es : List Expr} {kws : List Keyword} {t tk : TA}
  {g : List Value → List Value → List Value} {gV : List V → List V → List V}

/-- what comes back from the callee -/
theorem back_of {pins : List (Addr × Obj)} {σ : L2.St} {H : Hp} {s : Shared} {Q : VK} {r : Result} {s' : Shared} (hx : Passes CX X E) (I : Inv X pins σ H s) (hq : CR CX X.stack X.prog X.w H s Q E r s') :
    match r with
    | .ok (.ret u) => EP X pins σ Q u s'
    | .ok _ => False
    | .error e => X.xe e s' := by
  cases r with
  | error e => exact hx pins σ H s e s' I hq
  | ok fl =>
    cases fl with
    | ret u => exact I.after hq
    | next => exact hq
    | brk => exact hq
    | cont => exact hq

theorem runG {pins : List (Addr × Obj)} {σ : L2.St} {H : Hp} {s : Shared} {Q : VK} {args us : List Value} {kw : List (Str × Value)} {vs : List V} (F : FnG X.prog X.w X.K X.mg X.base CX k f fd ps sp) (hr : Room k X.A) (hgd : X.A.guards = some [])
    (hx : Passes CX X E) (I : Inv X pins σ H s) (hb : BindsTo s fd ⟨args, kw⟩ (ps.zip us)) (r : Vals vs us) (h : sp vs H Q E) :
    wpAny (model X.prog X.w) X.A (call (.ref f) args kw) (EP X pins σ Q) X.xe s := by
  apply wpAny_call
  apply codeAny_mono (F.go X.A X.stack s H ⟨args, kw⟩ us vs Q E hr hgd I.env0 hb r h)
  intro r s' hq
  have z := back_of hx I hq
  cases r with
  | error e => exact z
  | ok fl =>
    cases fl with
    | ret u => exact z
    | next => exact z.elim
    | brk => exact z.elim
    | cont => exact z.elim

/-- f(e, ..) -/
theorem pe_callG (F : FnG X.prog X.w X.K X.mg X.base CX k f fd ps sp) (hr : Room k X.A) (hgd : X.A.guards = some []) (hg : Gl X x) (hm : X.mg x = some (.ref f)) (hk : PySem.W.keepIn X.K (.ref f) = true) (hb : Binds X.K fd ps ds) (hd : Vals dvs ds) (hx : Passes CX X E)
    (ha : PA X (e :: es) t) (hdb : (x == ("__debug__" : Str)) = false := by decide) (he : starEach (e :: es) X.env = (false, eval e X.env) :: starEach es X.env := by rfl) (hpl : (backTo pos (starEach es X.env)).any (·.1) = false := by rfl) :
    PE X (.Call (.Name x p) (e :: es) [] pos) (tCall sp dvs E t) := by
  constructor
  intro pins s σ H Q I h
  apply wpAny_Call_Name_kw (ld_glob I hg hm ?_ hdb)
  apply PySem.W.callWith_K (h₀ := X.base) I.ok.mod.kin hk (thn (ha.run pos pins s σ H _ I h) ?_) he hpl
  intro us s1 ⟨vs, H1, I1, r, q⟩
  have r2 : Vals (vs ++ dvs) (us ++ ds) := r.append hd
  have ln : (us ++ ds).length = ps.length := r2.length.symm.trans (F.ln _ _ _ _ q)
  exact ⟨I1.kIn, runG F hr hgd hx I1 (hb s1 us I1.kIn ln) r2 q⟩
/-- f() -/
theorem pe_callG0 (F : FnG X.prog X.w X.K X.mg X.base CX k f fd ps sp) (hr : Room k X.A) (hgd : X.A.guards = some []) (hg : Gl X x) (hm : X.mg x = some (.ref f)) (hk : PySem.W.keepIn X.K (.ref f) = true) (hb : Binds X.K fd ps ds) (hd : Vals dvs ds) (hx : Passes CX X E)
    (hdb : (x == ("__debug__" : Str)) = false := by decide) : PE X (.Call (.Name x p) [] [] pos) (tCall sp dvs E tNil) := by
  constructor
  intro pins s σ H Q I h
  apply wpAny_Call_Name_kw (ld_glob I hg hm ?_ hdb)
  apply PySem.W.callWith_K0 I.kIn hk
  have h2 : sp dvs H Q E := h
  have ln : ([] ++ ds).length = ps.length := hd.length.symm.trans (F.ln _ _ _ _ h2)
  exact runG F hr hgd hx I (hb s [] I.kIn ln) hd h2
/-- f(e, .., k = v, ..) -/
theorem pe_callGK (F : FnG X.prog X.w X.K X.mg X.base CX k f fd ps sp) (hr : Room k X.A) (hgd : X.A.guards = some []) (hg : Gl X x) (hm : X.mg x = some (.ref f)) (hk : PySem.W.keepIn X.K (.ref f) = true) (hb : KBinds X.K fd ps ks g gV) (hx : Passes CX X E)
    (ha : PA X (e :: es) t) (hkw : PK X kws tk) (hall : (backToKw pos (keywordEach kws X.env)).all (·.1.isSome) = true := by rfl) (hks : (backToKw pos (keywordEach kws X.env)).filterMap (·.1) = ks := by rfl)
    (hdb : (x == ("__debug__" : Str)) = false := by decide) (he : starEach (e :: es) X.env = (false, eval e X.env) :: starEach es X.env := by rfl)
    (hpl : ((backTo pos (starEach (e :: es) X.env)).any (·.1) || (backToKw pos (keywordEach kws X.env)).any (·.1.isNone)) = false := by rfl) :
    PE X (.Call (.Name x p) (e :: es) kws pos) (tCallK sp gV E t tk) := by
  constructor
  intro pins s σ H Q I h
  apply wpAny_Call_Name_kw (ld_glob I hg hm ?_ hdb)
  apply PySem.W.callWith_KW (h₀ := X.base) I.ok.mod.kin hk hall (thn (ha.run pos pins s σ H _ I h) ?_) hpl he
  intro us s1 ⟨vs, H1, I1, r, q⟩
  apply thn (hkw.run pos pins s1 σ H1 _ I1 q)
  intro ws s2 ⟨zs, H2, I2, rz, q2⟩
  refine ⟨I2.kIn, ?_⟩
  rw [hks]
  have r2 := hb.rel r rz
  have ln : (g us ws).length = ps.length := r2.length.symm.trans (F.ln _ _ _ _ q2)
  exact runG F hr hgd hx I2 (hb.to s2 us ws I2.kIn ln) r2 q2
/-- f(k = v, ..) -/
theorem pe_callGK0 (F : FnG X.prog X.w X.K X.mg X.base CX k f fd ps sp) (hr : Room k X.A) (hgd : X.A.guards = some []) (hg : Gl X x) (hm : X.mg x = some (.ref f)) (hk : PySem.W.keepIn X.K (.ref f) = true) (hb : KBinds X.K fd ps ks g gV) (hx : Passes CX X E)
    (hkw : PK X kws tk) (hall : (backToKw pos (keywordEach kws X.env)).all (·.1.isSome) = true := by rfl) (hks : (backToKw pos (keywordEach kws X.env)).filterMap (·.1) = ks := by rfl)
    (hdb : (x == ("__debug__" : Str)) = false := by decide)
    (hpl : ((backTo pos (starEach [] X.env)).any (·.1) || (backToKw pos (keywordEach kws X.env)).any (·.1.isNone)) = false := by rfl) :
    PE X (.Call (.Name x p) [] kws pos) (tCallK sp gV E tNil tk) := by
  constructor
  intro pins s σ H Q I h
  apply wpAny_Call_Name_kw (ld_glob I hg hm ?_ hdb)
  apply PySem.W.callWith_KW0 (h₀ := X.base) I.ok.mod.kin hk hall ?_ hpl
  apply thn (hkw.run pos pins s σ H _ I h)
  intro ws s2 ⟨zs, H2, I2, rz, q2⟩
  refine ⟨I2.kIn, ?_⟩
  rw [hks]
  have r2 := hb.rel (.nil : Vals [] []) rz
  have ln : (g [] ws).length = ps.length := r2.length.symm.trans (F.ln _ _ _ _ q2)
  exact runG F hr hgd hx I2 (hb.to s2 [] ws I2.kIn ln) r2 q2
end

/-- keywords alone, or all positional ones first: the keywords' values by a function on the two lists -/
theorem KBinds.mk' {K : PySem.W.Frag} {fd : FuncData} {ps ks : List Str} (g : {α : Type} → List α → List α → List α) (n : Nat)
    (hlen : ∀ us ws : List Value, (g us ws).length = ps.length → us.length = n ∧ ws.length = ks.length)
    (h : ∀ us ws : List Value, us.length = n → ws.length = ks.length → bindArgs fd ⟨us, ks.zip ws⟩ = pure (ps.zip (g us ws)))
    (rel : ∀ {vs : List V} {us : List Value} {zs : List V} {ws : List Value}, Vals vs us → Vals zs ws → Vals (g vs zs) (g us ws)) : KBinds K fd ps ks g g :=
  ⟨fun s us ws _ hl => .of_eq (h us ws (hlen us ws hl).1 (hlen us ws hl).2), fun r z => rel r z⟩
end DL
/-! T2: data, what stands for it, slots, the relation of slots and heap. -/
namespace DL
open PySem PySem.Spec L2

/-- data, whole -/
inductive D where
  | non | bl (b : Bool) | int (i : Int) | str (x : Str)
  | lst (xs : List D) | tup (xs : List D) | dct (kvs : List (Key × D))
  | drum (ms : List Int)
  | scr (ns : List Int)
  | ob (C : Addr) (fs : List (Str × D))
/-- an own error: its class, its fields -/
structure Er where
  cls : Addr
  fs : List (Str × D)

/-- what draws: its address, its cells -/
abbrev Dq := Option (Addr × List Int)
abbrev qa (q : Dq) : Option Addr := q.map Prod.fst
/-- what is not hidden -/
def NE : HO → Prop
  | .ext _ => False
  | _ => True
/-- all that is not hidden stays -/
def FrX (H H' : Hp) : Prop := ∀ b o, H b = some o → NE o → H' b = some o
theorem FrX.refl (H : Hp) : FrX H H := fun _ _ e _ => e
theorem FrX.trans {H H1 H2 : Hp} (a : FrX H H1) (b : FrX H1 H2) : FrX H H2 := fun c o e n => b c o (a c o e n) n
theorem FrX.of_same {H H' : Hp} (a : Same H H') : FrX H H' := fun c o e _ => a c o e
theorem same_upd {H : Hp} {p : Addr} {o : HO} (h : H p = none) : Same H (upd H p o) := fun b u e => by
  rw [upd_ne (ne_of_none e h)]; exact e

section
variable (K : PySem.W.Frag) (q : Dq)
mutual
inductive Dt (H : Hp) : V → D → Prop
  | non : Dt H .non .non
  | bl (b : Bool) : Dt H (.bl b) (.bl b)
  | int (i : Int) : Dt H (.int i) (.int i)
  | str (x : Str) : Dt H (.str x) (.str x)
  | lst {a : Addr} {vs : List V} {ds : List D} : H a = some (.lst vs) → DtAll H vs ds → Dt H (.ref a) (.lst ds)
  | tup {a : Addr} {vs : List V} {ds : List D} : SqT K H a vs → DtAll H vs ds → Dt H (.ref a) (.tup ds)
  | dct {a : Addr} {vs : List (Key × V)} {ds : List (Key × D)} : H a = some (.dK vs) → DtKv H vs ds → Dt H (.ref a) (.dct ds)
  | drum {a : Addr} {ms : List Int} : q = some (a, ms) → Dt H (.ref a) (.drum ms)
  | scr {a : Addr} {ns : List Int} : SqL K H a (ns.map V.int) → Dt H (.ref a) (.scr ns)
  | ob {a C dx : Addr} {vs : List (Str × V)} {ds : List (Str × D)} : H a = some (.ins C dx vs) → DtFs H vs ds → Dt H (.ref a) (.ob C ds)
inductive DtAll (H : Hp) : List V → List D → Prop
  | nil : DtAll H [] []
  | cons {v : V} {vs : List V} {d : D} {ds : List D} : Dt H v d → DtAll H vs ds → DtAll H (v :: vs) (d :: ds)
inductive DtKv (H : Hp) : List (Key × V) → List (Key × D) → Prop
  | nil : DtKv H [] []
  | cons {k : Key} {v : V} {vs : List (Key × V)} {d : D} {ds : List (Key × D)} : Dt H v d → DtKv H vs ds → DtKv H ((k, v) :: vs) ((k, d) :: ds)
inductive DtFs (H : Hp) : List (Str × V) → List (Str × D) → Prop
  | nil : DtFs H [] []
  | cons {k : Str} {v : V} {vs : List (Str × V)} {d : D} {ds : List (Str × D)} : Dt H v d → DtFs H vs ds → DtFs H ((k, v) :: vs) ((k, d) :: ds)
end
end

section
variable {K : PySem.W.Frag} {q : Dq} {H H' : Hp}
theorem sqT_up (f : FrX H H') {a : Addr} {vs : List V} (h : SqT K H a vs) : SqT K H' a vs := by
  rcases h with (h | ⟨o, h⟩) | h
  · exact .inl (.inl (f _ _ h True.intro))
  · exact .inl (.inr ⟨o, f _ _ h True.intro⟩)
  · exact .inr h
theorem sqL_up (f : FrX H H') {a : Addr} {vs : List V} (h : SqL K H a vs) : SqL K H' a vs := by
  rcases h with (h | ⟨o, h⟩) | h
  · exact .inl (.inl (f _ _ h True.intro))
  · exact .inl (.inr ⟨o, f _ _ h True.intro⟩)
  · exact .inr h
mutual
theorem Dt.up (f : FrX H H') : ∀ {v : V} {d : D}, Dt K q H v d → Dt K q H' v d
  | _, _, .non => .non
  | _, _, .bl b => .bl b
  | _, _, .int i => .int i
  | _, _, .str x => .str x
  | _, _, .lst h a => .lst (f _ _ h True.intro) (a.up f)
  | _, _, .tup h a => .tup (sqT_up f h) (a.up f)
  | _, _, .dct h a => .dct (f _ _ h True.intro) (a.up f)
  | _, _, .drum h => .drum h
  | _, _, .scr h => .scr (sqL_up f h)
  | _, _, .ob h a => .ob (f _ _ h True.intro) (a.up f)
theorem DtAll.up (f : FrX H H') : ∀ {vs : List V} {ds : List D}, DtAll K q H vs ds → DtAll K q H' vs ds
  | _, _, .nil => .nil
  | _, _, .cons h t => .cons (h.up f) (t.up f)
theorem DtKv.up (f : FrX H H') : ∀ {vs : List (Key × V)} {ds : List (Key × D)}, DtKv K q H vs ds → DtKv K q H' vs ds
  | _, _, .nil => .nil
  | _, _, .cons h t => .cons (h.up f) (t.up f)
theorem DtFs.up (f : FrX H H') : ∀ {vs : List (Str × V)} {ds : List (Str × D)}, DtFs K q H vs ds → DtFs K q H' vs ds
  | _, _, .nil => .nil
  | _, _, .cons h t => .cons (h.up f) (t.up f)
end
theorem DtAll.length : ∀ {vs : List V} {ds : List D}, DtAll K q H vs ds → vs.length = ds.length
  | _, _, .nil => rfl
  | _, _, .cons _ t => congrArg Nat.succ t.length
theorem DtAll.get : ∀ {vs : List V} {ds : List D} {i : Nat} {d : D}, DtAll K q H vs ds → ds[i]? = some d → ∃ v, vs[i]? = some v ∧ Dt K q H v d
  | _, _, _, _, .nil, e => by simp at e
  | _, _, 0, _, .cons h _, e => by simp at e; subst e; exact ⟨_, rfl, h⟩
  | _, _, i + 1, _, .cons _ t, e => by
    obtain ⟨v, e1, h1⟩ := t.get (i := i) (by simpa using e)
    exact ⟨v, by simpa using e1, h1⟩
theorem DtAll.getV : ∀ {vs : List V} {ds : List D} {i : Nat} {v : V}, DtAll K q H vs ds → vs[i]? = some v → ∃ d, ds[i]? = some d ∧ Dt K q H v d
  | _, _, _, _, .nil, e => by simp at e
  | _, _, 0, _, .cons h _, e => by simp at e; subst e; exact ⟨_, rfl, h⟩
  | _, _, i + 1, _, .cons _ t, e => by
    obtain ⟨v, e1, h1⟩ := t.getV (i := i) (by simpa using e)
    exact ⟨v, by simpa using e1, h1⟩
theorem DtAll.append : ∀ {vs ws : List V} {ds es : List D}, DtAll K q H vs ds → DtAll K q H ws es → DtAll K q H (vs ++ ws) (ds ++ es)
  | _, _, _, _, .nil, s => s
  | _, _, _, _, .cons h t, s => .cons h (t.append s)
theorem DtAll.set : ∀ {vs : List V} {ds : List D} {v : V} {d : D} (i : Nat), Dt K q H v d → DtAll K q H vs ds → DtAll K q H (vs.set i v) (ds.set i d)
  | _, _, _, _, _, _, .nil => .nil
  | _, _, _, _, 0, h, .cons _ t => .cons h t
  | _, _, _, _, i + 1, h, .cons g t => .cons g (t.set i h)
theorem DtAll.take : ∀ {vs : List V} {ds : List D} (i : Nat), DtAll K q H vs ds → DtAll K q H (vs.take i) (ds.take i)
  | _, _, 0, _ => .nil
  | _, _, _ + 1, .nil => .nil
  | _, _, i + 1, .cons h t => .cons h (t.take i)
theorem DtAll.drop : ∀ {vs : List V} {ds : List D} (i : Nat), DtAll K q H vs ds → DtAll K q H (vs.drop i) (ds.drop i)
  | _, _, 0, t => t
  | _, _, _ + 1, .nil => .nil
  | _, _, i + 1, .cons _ t => t.drop i
end

/-! ### what is hidden: a list that only one slot holds; what draws -/
def MutL (p : Addr) (vs : List V) : HO := .ext fun h => vs.length ≤ sizeLine ∧ ∃ (its : List Value) (n : Nat), Vals vs its ∧ h.get? p = some { cls := .type "list", data := .seq its.toArray n }
/-- the list [cells, turn, rest]; the turn is at most k -/
def DrO (a c : Addr) (k : Nat) : HO := .ext fun h => ∃ (t r : Int) (u v : Tok) (n : Nat), 0 ≤ t ∧ t ≤ k ∧ h.get? a = some { cls := .type "list", data := .seq #[.ref c, .int t u, .int r v] n }
def Dr (K : PySem.W.Frag) (q : Dq) (n : Nat) (H : Hp) : Prop :=
  match q with
  | none => True
  | some z => ∃ (c : Addr) (k : Nat), k ≤ n ∧ H z.1 = some (DrO z.1 c k) ∧ H c = some (.lst (z.2.map V.int))
/-- all but what draws stays -/
def Fr (q : Dq) (H H' : Hp) : Prop := ∀ b o, H b = some o → some b ≠ qa q → H' b = some o
theorem Fr.refl {q : Dq} (H : Hp) : Fr q H H := fun _ _ e _ => e
theorem Fr.trans {q : Dq} {H H1 H2 : Hp} (a : Fr q H H1) (b : Fr q H1 H2) : Fr q H H2 := fun c o e n => b c o (a c o e n) n
theorem Fr.of_same {q : Dq} {H H' : Hp} (a : Same H H') : Fr q H H' := fun c o e _ => a c o e
theorem Fr.x {K : PySem.W.Frag} {q : Dq} {n : Nat} {H H' : Hp} (a : Fr q H H') (d : Dr K q n H) : FrX H H' := fun b o e ne => by
  cases q with
  | none => exact a b o e (by simp)
  | some z =>
    obtain ⟨c, k, _, e1, _⟩ := d
    refine a b o e fun w => ?_
    have w' : b = z.1 := Option.some.inj w
    subst w'
    rw [e1] at e
    cases e
    exact ne
theorem Dr.same {K : PySem.W.Frag} {q : Dq} {n : Nat} {H H' : Hp} (a : Same H H') (d : Dr K q n H) : Dr K q n H' := by
  cases q with
  | none => exact True.intro
  | some z =>
    obtain ⟨c, k, h1, e1, e2⟩ := d
    exact ⟨c, k, h1, a _ _ e1, a _ _ e2⟩
theorem Dr.le {K : PySem.W.Frag} {q : Dq} {n m : Nat} {H : Hp} (h : n ≤ m) (d : Dr K q n H) : Dr K q m H := by
  cases q with
  | none => exact True.intro
  | some z =>
    obtain ⟨c, k, h1, e⟩ := d
    exact ⟨c, k, Nat.le_trans h1 h, e⟩

theorem dr_not {K : PySem.W.Frag} {q : Dq} {n : Nat} {H : Hp} {A : Addr} (d : Dr K q n H) (h : H A = none) : some A ≠ qa q := fun z => by
  cases q with
  | none => cases z
  | some y =>
    obtain ⟨c, k, _, e, _⟩ := d
    have w : A = y.1 := Option.some.inj z
    rw [← w, h] at e
    cases e

/-! ### slots -/
inductive Slot where
  | d (x : D)
  | own (ds : List D)
  | no
abbrev SEnv := List Slot

structure Rel (K : PySem.W.Frag) (q : Dq) (H0 : Hp) (ρ : SEnv) (n : Nat) (σ : L2.St) (H : Hp) : Prop where
  len : ρ.length = σ.length
  d : ∀ (i : Nat) (x : D), ρ[i]? = some (Slot.d x) → ∃ v, σ[i]? = some (some v) ∧ Dt K q H v x
  own : ∀ (i : Nat) (ds : List D), ρ[i]? = some (Slot.own ds) → ∃ p vs, σ[i]? = some (some (V.ref p)) ∧ H p = some (MutL p vs) ∧ H0 p = none ∧ DtAll K q H vs ds
  apart : ∀ (i j : Nat) (ds es : List D) (p : Addr), ρ[i]? = some (Slot.own ds) → ρ[j]? = some (Slot.own es) → σ[i]? = some (some (V.ref p)) → σ[j]? = some (some (V.ref p)) → i = j
  dr : Dr K q n H
  fr : Fr q H0 H
  q0 : ∀ a, qa q = some a → H0 a ≠ none

section
variable {K : PySem.W.Frag} {q : Dq} {H0 H H' : Hp} {ρ : SEnv} {n : Nat} {σ : L2.St}
/-- behind a call: all but what draws stayed -/
theorem Rel.up {n' : Nat} (R : Rel K q H0 ρ n σ H) (f : Fr q H H') (dr : Dr K q n' H') : Rel K q H0 ρ n' σ H' := by
  have fx := f.x R.dr
  refine ⟨R.len, fun i x e => ?_, fun i ds e => ?_, R.apart, dr, R.fr.trans f, R.q0⟩
  · obtain ⟨v, e1, h⟩ := R.d i x e
    exact ⟨v, e1, h.up fx⟩
  · obtain ⟨p, vs, e1, e2, e3, h⟩ := R.own i ds e
    refine ⟨p, vs, e1, f p _ e2 fun z => ?_, e3, h.up fx⟩
    exact R.q0 p z.symm e3
theorem Rel.same (R : Rel K q H0 ρ n σ H) (f : Same H H') : Rel K q H0 ρ n σ H' := R.up (.of_same f) (R.dr.same f)
theorem Rel.le {n' : Nat} (R : Rel K q H0 ρ n σ H) (h : n ≤ n') : Rel K q H0 ρ n' σ H := ⟨R.len, R.d, R.own, R.apart, R.dr.le h, R.fr, R.q0⟩
/-- a slot takes data -/
theorem Rel.set {i : Nat} {v : V} {x : D} (R : Rel K q H0 ρ n σ H) (h : Dt K q H v x) (hi : i < σ.length) : Rel K q H0 (ρ.set i (.d x)) n (σ.set i (some v)) H := by
  have hl := R.len
  refine ⟨by simp [hl], fun j y e => ?_, fun j ds e => ?_, fun j k ds es p e1 e2 e3 e4 => ?_, R.dr, R.fr, R.q0⟩
  · by_cases hj : i = j
    · subst hj
      rw [List.getElem?_set_self (by omega)] at e
      cases e
      exact ⟨v, List.getElem?_set_self hi, h⟩
    · rw [List.getElem?_set_ne hj] at e ⊢
      exact R.d j y e
  · by_cases hj : i = j
    · subst hj
      rw [List.getElem?_set_self (by omega)] at e
      cases e
    · rw [List.getElem?_set_ne hj] at e ⊢
      exact R.own j ds e
  · have nj : i ≠ j := fun z => by subst z; rw [List.getElem?_set_self (by omega)] at e1; cases e1
    have nk : i ≠ k := fun z => by subst z; rw [List.getElem?_set_self (by omega)] at e2; cases e2
    rw [List.getElem?_set_ne nj] at e1 e3
    rw [List.getElem?_set_ne nk] at e2 e4
    exact R.apart j k ds es p e1 e2 e3 e4
end

/-! ### ghost steps: a tracked list is hidden, or shown again -/
section
variable {X : Cx} {pins : List (Addr × Obj)} {σ : L2.St} {H : Hp} {s : Shared} {p : Addr} {vs : List V}
theorem inv_hide (I : Inv X pins σ H s) (e : H p = some (.lst vs)) : Inv X pins σ (upd H p (MutL p vs)) s := by
  obtain ⟨z, its, n, r, g⟩ := (show ObjOk X.prog X.w H s.heap p (.lst vs) from I.hok p _ e)
  refine Inv.write (h' := s.heap) (t' := s.toks) (x := p) (e := p) I (by rw [e]; exact True.intro) (.inl rfl) (fun b u _ h => h) ⟨_, g⟩ ?_
  exact ⟨⟨z, its, n, r, g⟩, ⟨_, g⟩, fun h1 h2 ⟨z, its, n, r, g1⟩ k => ⟨z, its, n, r, k _ g1⟩⟩
theorem inv_show (I : Inv X pins σ H s) (e : H p = some (MutL p vs)) : Inv X pins σ (upd H p (.lst vs)) s := by
  obtain ⟨⟨z, its, n, r, g⟩, _, _⟩ := (show ObjOk X.prog X.w H s.heap p (MutL p vs) from I.hok p _ e)
  exact Inv.write (h' := s.heap) (t' := s.toks) (x := p) (e := p) I (by rw [e]; exact True.intro) (.inl rfl) (fun b u _ h => h) ⟨_, g⟩ ⟨z, its, n, r, g⟩
end

/-! ### readings over data -/
abbrev QD := D → Nat → Prop
abbrev QE := Er → Nat → Prop
abbrev DT := SEnv → Nat → QD → QE → Prop
abbrev DTT := SEnv → Nat → (Bool → Nat → Prop) → QE → Prop
abbrev DTA := SEnv → Nat → (List D → Nat → Prop) → QE → Prop
structure EndsD where
  nx : SEnv → Nat → Prop
  rt : QD
  bk : SEnv → Nat → Prop := fun _ _ => False
  ct : SEnv → Nat → Prop := fun _ _ => False
  ex : QE := fun _ _ => False
abbrev DS := EndsD → SEnv → Nat → Prop
abbrev DG := D → SEnv → Nat → (SEnv → Nat → Prop) → Prop

/-- an own error lies there: its class, its own dict -/
def ErAt (K : PySem.W.Frag) (q : Dq) (H : Hp) (cls : Value) (od : Option Addr) (r : Er) : Prop :=
  cls = .ref r.cls ∧ ∃ d vs, od = some d ∧ H d = some (.xd vs) ∧ DtFs K q H vs r.fs
/-- what is wanted of an error is met -/
def ErOk (K : PySem.W.Frag) (q : Dq) (H0 : Hp) (F : QE) (E : XK) : Prop :=
  ∀ r n cls od H', ErAt K q H' cls od r → Fr q H0 H' → Dr K q n H' → F r n → E cls od H'

section
variable (K : PySem.W.Frag) (q : Dq) (H0 : Hp) (E : XK)
def dTE (t : DT) : TE := fun σ H Q => ∃ ρ n Q0 F, Rel K q H0 ρ n σ H ∧ t ρ n Q0 F ∧
  (∀ v H' d n', Dt K q H' v d → Fr q H H' → Rel K q H0 ρ n' σ H' → Q0 d n' → Q v H') ∧ ErOk K q H0 F E
def dTT (t : DTT) : TT := fun σ H Q => ∃ ρ n Q0 F, Rel K q H0 ρ n σ H ∧ t ρ n Q0 F ∧
  (∀ b H' n', Fr q H H' → Rel K q H0 ρ n' σ H' → Q0 b n' → Q b H') ∧ ErOk K q H0 F E
def dTA (t : DTA) : TA := fun σ H Q => ∃ ρ n Q0 F, Rel K q H0 ρ n σ H ∧ t ρ n Q0 F ∧
  (∀ vs H' ds n', DtAll K q H' vs ds → Fr q H H' → Rel K q H0 ρ n' σ H' → Q0 ds n' → Q vs H') ∧ ErOk K q H0 F E
def dTS (t : DS) : TS := fun D σ H => ∃ (ρ : SEnv) (n : Nat) (G : EndsD), Rel K q H0 ρ n σ H ∧ t G ρ n ∧
  (∀ σ' H' ρ' n', FrX H H' → Rel K q H0 ρ' n' σ' H' → G.nx ρ' n' → D.nx σ' H') ∧
  (∀ v H' d n', Dt K q H' v d → FrX H H' → Fr q H0 H' → Dr K q n' H' → G.rt d n' → D.rt v H') ∧
  (∀ σ' H' ρ' n', FrX H H' → Rel K q H0 ρ' n' σ' H' → G.bk ρ' n' → D.bk σ' H') ∧
  (∀ σ' H' ρ' n', FrX H H' → Rel K q H0 ρ' n' σ' H' → G.ct ρ' n' → D.ct σ' H') ∧ ErOk K q H0 G.ex E
/-- a target that stores into the slots ow alone -/
def dTG (ow : List Nat) (g : DG) : TG := fun v σ H Q => ∃ ρ n d R, Rel K q H0 ρ n σ H ∧ Dt K q H v d ∧ g d ρ n R ∧
  ∀ σ' H' ρ' n', FrX H H' → Same H H' → Rel K q H0 ρ' n' σ' H' → σ'.length = σ.length → (∀ j, j ∉ ow → σ'[j]? = σ[j]?) → R ρ' n' → Q σ' H'
end

section
variable (X : Cx) (q : Dq) (H0 : Hp) (E : XK)
structure DE (e : Expr) (t : DT) : Prop where
  pe : PE X e (dTE X.K q H0 E t)
structure DTe (e : Expr) (t : DTT) : Prop where
  pt : PT X e (dTT X.K q H0 E t)
structure DWe (e : Expr) (t : DTT) : Prop where
  pw : PW X e (dTT X.K q H0 E t)
structure DA (es : List Expr) (t : DTA) : Prop where
  pa : PA X es (dTA X.K q H0 E t)
structure DSt (st : Stmt) (t : DS) : Prop where
  ps : PS X st (dTS X.K q H0 E t)
structure DSs (sts : List Stmt) (t : DS) : Prop where
  pss : PSs X sts (dTS X.K q H0 E t)
structure DGt (ow : List Nat) (tg : Expr) (g : DG) : Prop where
  pg : PG X tg (dTG X.K q H0 ow g)
end

theorem _root_.L2.PE.imp {X : Cx} {e : Expr} {t t' : TE} (h : PE X e t) (i : ∀ σ H Q, t' σ H Q → t σ H Q) : PE X e t' := ⟨fun pins s σ H Q I hw => h.run pins s σ H Q I (i σ H Q hw)⟩
theorem _root_.L2.PT.imp {X : Cx} {e : Expr} {t t' : TT} (h : PT X e t) (i : ∀ σ H Q, t' σ H Q → t σ H Q) : PT X e t' := ⟨fun pins s σ H Q I hw => h.run pins s σ H Q I (i σ H Q hw)⟩
theorem _root_.L2.PW.imp {X : Cx} {e : Expr} {t t' : TT} (h : PW X e t) (i : ∀ σ H Q, t' σ H Q → t σ H Q) : PW X e t' := ⟨fun wh pins s σ H Q I hw => h.run wh pins s σ H Q I (i σ H Q hw)⟩
theorem _root_.L2.PA.imp {X : Cx} {e : List Expr} {t t' : TA} (h : PA X e t) (i : ∀ σ H Q, t' σ H Q → t σ H Q) : PA X e t' := ⟨fun pos pins s σ H Q I hw => h.run pos pins s σ H Q I (i σ H Q hw)⟩
theorem _root_.L2.PS.imp {X : Cx} {e : Stmt} {t t' : TS} (h : PS X e t) (i : ∀ D σ H, t' D σ H → t D σ H) : PS X e t' := ⟨fun pins s σ H D I hw => h.run pins s σ H D I (i D σ H hw)⟩
theorem _root_.L2.PSs.imp {X : Cx} {e : List Stmt} {t t' : TS} (h : PSs X e t) (i : ∀ D σ H, t' D σ H → t D σ H) : PSs X e t' := ⟨fun pins s σ H D I hw => h.run pins s σ H D I (i D σ H hw)⟩
theorem _root_.L2.PG.imp {X : Cx} {e : Expr} {t t' : TG} (h : PG X e t) (i : ∀ v σ H Q, t' v σ H Q → t v σ H Q) : PG X e t' := ⟨fun pins s σ H v u Q I r hw => h.run pins s σ H v u Q I r (i v σ H Q hw)⟩
end DL
/-! T3: the rules over data: expressions. -/
namespace DL
open PySem PySem.Spec L2

/-! ### data as the library's data -/
mutual
def D.py : D → PyData
  | .non => .none
  | .bl b => .bool b
  | .int i => .int i
  | .str x => .str x
  | .lst xs => .list (D.pys xs)
  | .tup xs => .tuple (D.pys xs)
  | .dct kvs => .dict (D.pyk kvs)
  | .drum _ => .none
  | .scr _ => .none
  | .ob _ _ => .none
def D.pys : List D → List PyData
  | [] => []
  | x :: xs => x.py :: D.pys xs
def D.pyk : List (Key × D) → List (PyData × PyData)
  | [] => []
  | (.inl i, x) :: xs => (.int i, x.py) :: D.pyk xs
  | (.inr s, x) :: xs => (.str s, x.py) :: D.pyk xs
end
mutual
/-- plain data without dicts: None, truths, ints, texts, lists, tuples -/
def D.plain : D → Bool
  | .non | .bl _ | .int _ | .str _ => true
  | .lst xs | .tup xs => D.plains xs
  | _ => false
def D.plains : List D → Bool
  | [] => true
  | x :: xs => x.plain && D.plains xs
end
mutual
theorem Dt.dp {K : PySem.W.Frag} {q : Dq} {H : Hp} : ∀ {v : V} {d : D}, Dt K q H v d → d.plain = true → Dp K H v d.py
  | _, _, .non, _ => .non
  | _, _, .bl b, _ => .bl b
  | _, _, .int b, _ => .int b
  | _, _, .str b, _ => .str b
  | _, _, .lst h a, p => .lst (.inl (.inl h)) (a.dp (by simpa [D.plain] using p))
  | _, _, .tup h a, p => .tup h (a.dp (by simpa [D.plain] using p))
  | _, _, .dct _ _, p => by simp [D.plain] at p
  | _, _, .drum _, p => by simp [D.plain] at p
  | _, _, .scr _, p => by simp [D.plain] at p
  | _, _, .ob _ _, p => by simp [D.plain] at p
theorem DtAll.dp {K : PySem.W.Frag} {q : Dq} {H : Hp} : ∀ {vs : List V} {ds : List D}, DtAll K q H vs ds → D.plains ds = true → DpAll K H vs (D.pys ds)
  | _, _, .nil, _ => .nil
  | _, _, .cons h t, p => by
    simp only [D.plains, Bool.and_eq_true] at p
    exact .cons (h.dp p.1) (t.dp p.2)
end

/-! ### combinators -/
def dVar (i : Nat) : DT := fun ρ n Q _ => ∃ x, ρ[i]? = some (Slot.d x) ∧ Q x n
def dC (x : D) : DT := fun _ n Q _ => Q x n
def dBin (od : D → D → (D → Prop) → Prop) (ta tb : DT) : DT := fun ρ n Q F => ta ρ n (fun x n1 => tb ρ n1 (fun y n2 => od x y (fun z => Q z n2)) F) F
def dUn (od : D → (D → Prop) → Prop) (ta : DT) : DT := fun ρ n Q F => ta ρ n (fun x n1 => od x (fun z => Q z n1)) F
def dAndV (ta tb : DT) : DT := fun ρ n Q F => ta ρ n (fun x n1 => ∃ c, x = .bl c ∧ if c = true then tb ρ n1 Q F else Q (.bl false) n1) F
def dOrV (ta tb : DT) : DT := fun ρ n Q F => ta ρ n (fun x n1 => ∃ c, x = .bl c ∧ if c = true then Q (.bl true) n1 else tb ρ n1 Q F) F
def dNotV (ta : DT) : DT := fun ρ n Q F => ta ρ n (fun x n1 => ∃ c, x = .bl c ∧ Q (.bl (!c)) n1) F
def dIf (tc : DTT) (ta tb : DT) : DT := fun ρ n Q F => tc ρ n (fun c n1 => if c = true then ta ρ n1 Q F else tb ρ n1 Q F) F
def dVal (ta : DT) : DTT := fun ρ n Q F => ta ρ n (fun x n1 => ∃ c, x = .bl c ∧ Q c n1) F
def dAndT (ta tb : DTT) : DTT := fun ρ n Q F => ta ρ n (fun c n1 => if c = true then tb ρ n1 Q F else Q false n1) F
def dOrT (ta tb : DTT) : DTT := fun ρ n Q F => ta ρ n (fun c n1 => if c = true then Q true n1 else tb ρ n1 Q F) F
def dNotT (ta : DTT) : DTT := fun ρ n Q F => ta ρ n (fun c n1 => Q (!c) n1) F
def dNil : DTA := fun _ n Q _ => Q [] n
def dCons (ta : DT) (tr : DTA) : DTA := fun ρ n Q F => ta ρ n (fun x n1 => tr ρ n1 (fun xs n2 => Q (x :: xs) n2) F) F
def dTupE (ts : DTA) : DT := fun ρ n Q F => ts ρ n (fun xs n1 => xs.length ≤ sizeLine ∧ Q (.tup xs) n1) F
def dLstE (ts : DTA) : DT := fun ρ n Q F => ts ρ n (fun xs n1 => xs.length ≤ sizeLine ∧ Q (.lst xs) n1) F

section
variable {X : Cx} {q : Dq} {H0 : Hp} {E : XK} {e a b : Expr} {es : List Expr} {t ta tb : DT} {tt tu : DTT} {ts : DTA} {pos : Pos}

theorem dTE_mk {K : PySem.W.Frag} {ρ : SEnv} {n : Nat} {σ : L2.St} {H : Hp} {Q : VK} {Q0 : QD} {F : QE} (R : Rel K q H0 ρ n σ H) (h : t ρ n Q0 F) (c : ∀ v H' d n', Dt K q H' v d → Fr q H H' → Rel K q H0 ρ n' σ H' → Q0 d n' → Q v H') (o : ErOk K q H0 F E) : dTE K q H0 E t σ H Q := ⟨ρ, n, Q0, F, R, h, c, o⟩
theorem dTT_mk {K : PySem.W.Frag} {ρ : SEnv} {n : Nat} {σ : L2.St} {H : Hp} {Q : Bool → Hp → Prop} {Q0 : Bool → Nat → Prop} {F : QE} (R : Rel K q H0 ρ n σ H) (h : tt ρ n Q0 F) (c : ∀ b H' n', Fr q H H' → Rel K q H0 ρ n' σ H' → Q0 b n' → Q b H') (o : ErOk K q H0 F E) : dTT K q H0 E tt σ H Q := ⟨ρ, n, Q0, F, R, h, c, o⟩
theorem dTA_mk {K : PySem.W.Frag} {ρ : SEnv} {n : Nat} {σ : L2.St} {H : Hp} {Q : List V → Hp → Prop} {Q0 : List D → Nat → Prop} {F : QE} (R : Rel K q H0 ρ n σ H) (h : ts ρ n Q0 F) (c : ∀ vs H' ds n', DtAll K q H' vs ds → Fr q H H' → Rel K q H0 ρ n' σ H' → Q0 ds n' → Q vs H') (o : ErOk K q H0 F E) : dTA K q H0 E ts σ H Q := ⟨ρ, n, Q0, F, R, h, c, o⟩

theorem de_var (i : Nat) {x : Str} (hN : X.N[i]? = some x := by rfl) (hv : Vis X.env.scope x := by first | exact Or.inl rfl | exact Or.inr (Or.inl rfl) | exact Or.inr (Or.inr rfl)) (hd : (x == ("__debug__" : Str)) = false := by decide)
    (hcd : (x == ("__classdict__" : Str)) = false := by decide) : DE X q H0 E (.Name x pos) (dVar i) :=
  ⟨(pe_var hN hv hd hcd).imp fun σ H Q ⟨ρ, n, Q0, F, R, ⟨x, e1, h⟩, c, _⟩ => by
    obtain ⟨v, e2, d⟩ := R.d i x e1
    exact ⟨v, e2, c v H x n d (.refl _) R h⟩⟩
theorem de_int {i j} : DE X q H0 E (.Constant (.int i) j pos) (dC (.int i)) := ⟨pe_int.imp fun σ H Q ⟨ρ, n, Q0, F, R, h, c, _⟩ => c _ H _ n (.int i) (.refl _) R h⟩
theorem de_bl {i j} : DE X q H0 E (.Constant (.bool i) j pos) (dC (.bl i)) := ⟨pe_bl.imp fun σ H Q ⟨ρ, n, Q0, F, R, h, c, _⟩ => c _ H _ n (.bl i) (.refl _) R h⟩
theorem de_non {j} : DE X q H0 E (.Constant .none j pos) (dC .non) := ⟨pe_non.imp fun σ H Q ⟨ρ, n, Q0, F, R, h, c, _⟩ => c _ H _ n .non (.refl _) R h⟩
theorem de_str {i j} : DE X q H0 E (.Constant (.str i) j pos) (dC (.str i)) := ⟨pe_str.imp fun σ H Q ⟨ρ, n, Q0, F, R, h, c, _⟩ => c _ H _ n (.str i) (.refl _) R h⟩
/-- a constant of the module's top, whose data is known of the written part -/
theorem de_glob {x : Str} {v : V} {u : Value} {d : D} (hg : Gl X x) (hm : X.mg x = some u) (r : RelV v u) (hd : ∀ H, Dt X.K q H v d) (hdb : (x == ("__debug__" : Str)) = false := by decide) : DE X q H0 E (.Name x pos) (dC d) :=
  ⟨(pe_glob hg hm r hdb).imp fun σ H Q ⟨ρ, n, Q0, F, R, h, c, _⟩ => c _ H _ n (hd H) (.refl _) R h⟩

/-- two expressions, then an operation on their values -/
theorem dBin_core {K : PySem.W.Frag} {od : D → D → (D → Prop) → Prop} {r : R2} (ho : ∀ H x y dx dy (Q0 : D → Prop) (Q : VK), Dt K q H x dx → Dt K q H y dy → od dx dy Q0 → (∀ v H' d, Dt K q H' v d → Same H H' → Q0 d → Q v H') → r x y H Q)
    {σ : L2.St} {H : Hp} {Q : VK} (h : dTE K q H0 E (dBin od ta tb) σ H Q) : tOp r (dTE K q H0 E ta) (dTE K q H0 E tb) σ H Q := by
  obtain ⟨ρ, n, Q0, F, R, h, c, o⟩ := h
  refine dTE_mk R h (fun x H1 dx n1 hx f1 R1 h1 => ?_) o
  refine dTE_mk R1 h1 (fun y H2 dy n2 hy f2 R2 h2 => ?_) o
  exact ho H2 x y dx dy _ _ (hx.up (f2.x R1.dr)) hy h2 fun v H' d hd hs hq => c v H' d n2 hd ((f1.trans f2).trans (.of_same hs)) (R2.same hs) hq

structure OpD (X : Cx) (q : Dq) (f : Value → Value → Sem Value) (od : D → D → (D → Prop) → Prop) : Prop where
  ex : ∃ r : R2, OpR X f r ∧ ∀ H x y dx dy (Q0 : D → Prop) (Q : VK), Dt X.K q H x dx → Dt X.K q H y dy → od dx dy Q0 → (∀ v H' d, Dt X.K q H' v d → Same H H' → Q0 d → Q v H') → r x y H Q
theorem OpD.or {f : Value → Value → Sem Value} {o o' od : D → D → (D → Prop) → Prop} (h : OpD X q f o) (h' : OpD X q f o') (i : ∀ x y Q, od x y Q → o x y Q ∨ o' x y Q) : OpD X q f od := by
  obtain ⟨r, p, k⟩ := h.ex
  obtain ⟨r', p', k'⟩ := h'.ex
  refine ⟨_, p.or p', fun H x y dx dy Q0 Q hx hy ho c => ?_⟩
  rcases i _ _ _ ho with z | z
  · exact .inl (k H x y dx dy Q0 Q hx hy z c)
  · exact .inr (k' H x y dx dy Q0 Q hx hy z c)
theorem de_bin {op : Operator} {od : D → D → (D → Prop) → Prop} (ho : OpD X q (binaryOp op) od) (ha : DE X q H0 E a ta) (hb : DE X q H0 E b tb) : DE X q H0 E (.BinOp a op b pos) (dBin od ta tb) := by
  obtain ⟨r, p, k⟩ := ho.ex
  exact ⟨(pe_op p ha.pe hb.pe).imp fun σ H Q h => dBin_core k h⟩
theorem de_cmp {op : CmpOp} {od : D → D → (D → Prop) → Prop} (ho : OpD X q (compareOp op) od) (ha : DE X q H0 E a ta) (hb : DE X q H0 E b tb) (hm : behindInMarks op b = false := by first | exact nomark _ | rfl) : DE X q H0 E (.Compare a [op] [b] pos) (dBin od ta tb) := by
  obtain ⟨r, p, k⟩ := ho.ex
  exact ⟨(pe_cmpR p ha.pe hb.pe hm).imp fun σ H Q h => dBin_core k h⟩
/-- xs[i] -/
theorem de_ix {od : D → D → (D → Prop) → Prop} {r : R2} (p : IxR X r) (k : ∀ H x y dx dy (Q0 : D → Prop) (Q : VK), Dt X.K q H x dx → Dt X.K q H y dy → od dx dy Q0 → (∀ v H' d, Dt X.K q H' v d → Same H H' → Q0 d → Q v H') → r x y H Q)
    (ha : DE X q H0 E a ta) (hb : DE X q H0 E b tb) (hs : PlainIx b) : DE X q H0 E (.Subscript a b pos) (dBin od ta tb) :=
  ⟨(pe_ix p ha.pe hb.pe hs).imp fun σ H Q h => dBin_core k h⟩

structure UnD (X : Cx) (q : Dq) (f : Value → Sem Value) (od : D → (D → Prop) → Prop) : Prop where
  ex : ∃ r, UnR X f r ∧ ∀ H x dx (Q0 : D → Prop) (Q : VK), Dt X.K q H x dx → od dx Q0 → (∀ v H' d, Dt X.K q H' v d → Same H H' → Q0 d → Q v H') → r x H Q
theorem de_un {op : UnaryOp} {od : D → (D → Prop) → Prop} (ho : UnD X q (unaryOp op) od) (ha : DE X q H0 E a ta) : DE X q H0 E (.UnaryOp op a pos) (dUn od ta) := by
  obtain ⟨r, p, k⟩ := ho.ex
  refine ⟨(pe_un p ha.pe).imp fun σ H Q ⟨ρ, n, Q0, F, R, h, c, o⟩ => ?_⟩
  refine dTE_mk R h (fun x H1 dx n1 hx f1 R1 h1 => ?_) o
  exact k H1 x dx _ _ hx h1 fun v H' d hd hs hq => c v H' d n1 hd (f1.trans (.of_same hs)) (R1.same hs) hq
def oNeg : D → (D → Prop) → Prop
  | .int i, Q => Q (.int (-i))
  | _, _ => False
theorem un_negD : UnD X q (unaryOp .USub) oNeg := ⟨_, un_neg, fun H x dx Q0 Q hx h c => by
  cases hx <;> simp only [oNeg] at h
  exact ⟨_, rfl, c _ H _ (.int _) (.refl _) h⟩⟩

/-! tests -/
theorem de_and {rest : List Expr} (ha : DE X q H0 E a ta) (hb : DE X q H0 E (.BoolOp .And (b :: rest) pos) tb) : DE X q H0 E (.BoolOp .And (a :: b :: rest) pos) (dAndV ta tb) := by
  refine ⟨(pe_and ha.pe hb.pe).imp fun σ H Q ⟨ρ, n, Q0, F, R, h, c, o⟩ => ?_⟩
  refine dTE_mk R h (fun x H1 dx n1 hx f1 R1 ⟨k, e, h1⟩ => ?_) o
  subst e
  cases hx
  refine ⟨k, rfl, ?_⟩
  cases k with
  | true => exact dTE_mk R1 h1 (fun v H' d n' hd f2 R2 hq => c v H' d n' hd (f1.trans f2) R2 hq) o
  | false => exact c _ H1 _ n1 (.bl false) f1 R1 h1
theorem de_or {rest : List Expr} (ha : DE X q H0 E a ta) (hb : DE X q H0 E (.BoolOp .Or (b :: rest) pos) tb) : DE X q H0 E (.BoolOp .Or (a :: b :: rest) pos) (dOrV ta tb) := by
  refine ⟨(pe_or ha.pe hb.pe).imp fun σ H Q ⟨ρ, n, Q0, F, R, h, c, o⟩ => ?_⟩
  refine dTE_mk R h (fun x H1 dx n1 hx f1 R1 ⟨k, e, h1⟩ => ?_) o
  subst e
  cases hx
  refine ⟨k, rfl, ?_⟩
  cases k with
  | true => exact c _ H1 _ n1 (.bl true) f1 R1 h1
  | false => exact dTE_mk R1 h1 (fun v H' d n' hd f2 R2 hq => c v H' d n' hd (f1.trans f2) R2 hq) o
theorem de_one {op} (h : DE X q H0 E a ta) : DE X q H0 E (.BoolOp op [a] pos) ta := ⟨pe_one h.pe⟩
theorem de_not (ha : DE X q H0 E a ta) : DE X q H0 E (.UnaryOp .Not a pos) (dNotV ta) := by
  refine ⟨(pe_not ha.pe).imp fun σ H Q ⟨ρ, n, Q0, F, R, h, c, o⟩ => ?_⟩
  refine dTE_mk R h (fun x H1 dx n1 hx f1 R1 ⟨k, e, h1⟩ => ?_) o
  subst e
  cases hx
  exact ⟨k, rfl, c _ H1 _ n1 (.bl _) f1 R1 h1⟩
theorem dt_val (ha : DE X q H0 E a ta) (he : ∀ whole, isTrue a X.env whole = (do let v ← whole; standAt a.pos; holding [v] (truthy v)) := by intro _; rfl) : DTe X q H0 E a (dVal ta) := by
  refine ⟨(pt_val ha.pe he).imp fun σ H Q ⟨ρ, n, Q0, F, R, h, c, o⟩ => ?_⟩
  refine dTE_mk R h (fun x H1 dx n1 hx f1 R1 ⟨k, e, h1⟩ => ?_) o
  subst e
  cases hx
  exact ⟨k, rfl, c _ H1 n1 f1 R1 h1⟩
theorem dt_cmp {op : CmpOp} {od : D → D → (D → Prop) → Prop} (ho : OpD X q (compareOp op) od) (ha : DE X q H0 E a ta) (hb : DE X q H0 E b tb) (hm : behindInMarks op b = false := by first | exact nomark _ | rfl) : DTe X q H0 E (.Compare a [op] [b] pos) (dVal (dBin od ta tb)) := by
  obtain ⟨r, p, k⟩ := ho.ex
  refine ⟨(pt_cmpR p ha.pe hb.pe hm).imp fun σ H Q ⟨ρ, n, Q0, F, R, h, c, o⟩ => ?_⟩
  refine dBin_core k (dTE_mk (t := dBin od ta tb) R h (fun x H1 dx n1 hx f1 R1 ⟨k, e, h1⟩ => ?_) o)
  subst e
  cases hx
  exact ⟨k, rfl, c _ H1 n1 f1 R1 h1⟩
theorem dw_and1 (ha : DTe X q H0 E a tt) : DWe X q H0 E (.BoolOp .And [a] pos) tt := ⟨pw_and1 ha.pt⟩
theorem dw_or1 (ha : DTe X q H0 E a tt) : DWe X q H0 E (.BoolOp .Or [a] pos) tt := ⟨pw_or1 ha.pt⟩
theorem dw_and {rest : List Expr} (ha : DTe X q H0 E a tt) (hb : DWe X q H0 E (.BoolOp .And (b :: rest) pos) tu) : DWe X q H0 E (.BoolOp .And (a :: b :: rest) pos) (dAndT tt tu) := by
  refine ⟨(pw_and ha.pt hb.pw).imp fun σ H Q ⟨ρ, n, Q0, F, R, h, c, o⟩ => ?_⟩
  refine dTT_mk R h (fun k H1 n1 f1 R1 h1 => ?_) o
  cases k with
  | true => exact dTT_mk R1 h1 (fun b H' n' f2 R2 hq => c b H' n' (f1.trans f2) R2 hq) o
  | false => exact c _ H1 n1 f1 R1 h1
theorem dw_or {rest : List Expr} (ha : DTe X q H0 E a tt) (hb : DWe X q H0 E (.BoolOp .Or (b :: rest) pos) tu) : DWe X q H0 E (.BoolOp .Or (a :: b :: rest) pos) (dOrT tt tu) := by
  refine ⟨(pw_or ha.pt hb.pw).imp fun σ H Q ⟨ρ, n, Q0, F, R, h, c, o⟩ => ?_⟩
  refine dTT_mk R h (fun k H1 n1 f1 R1 h1 => ?_) o
  cases k with
  | true => exact c _ H1 n1 f1 R1 h1
  | false => exact dTT_mk R1 h1 (fun b H' n' f2 R2 hq => c b H' n' (f1.trans f2) R2 hq) o
theorem dw_t (h : DWe X q H0 E a tt) : DTe X q H0 E a tt := ⟨h.pw.pt⟩
theorem dt_not (ha : DTe X q H0 E a tt) : DTe X q H0 E (.UnaryOp .Not a pos) (dNotT tt) := by
  refine ⟨(pt_not ha.pt).imp fun σ H Q ⟨ρ, n, Q0, F, R, h, c, o⟩ => ?_⟩
  exact dTT_mk R h (fun k H1 n1 f1 R1 h1 => c _ H1 n1 f1 R1 h1) o
theorem de_if {c : Expr} (hc : DTe X q H0 E c tt) (ha : DE X q H0 E a ta) (hb : DE X q H0 E b tb) : DE X q H0 E (.IfExp c a b pos) (dIf tt ta tb) := by
  refine ⟨(pe_ifExp hc.pt ha.pe hb.pe).imp fun σ H Q ⟨ρ, n, Q0, F, R, h, c, o⟩ => ?_⟩
  refine dTT_mk R h (fun k H1 n1 f1 R1 h1 => ?_) o
  cases k with
  | true => exact dTE_mk R1 h1 (fun v H' d n' hd f2 R2 hq => c v H' d n' hd (f1.trans f2) R2 hq) o
  | false => exact dTE_mk R1 h1 (fun v H' d n' hd f2 R2 hq => c v H' d n' hd (f1.trans f2) R2 hq) o

/-! lists of expressions, displays -/
theorem da_nil : DA X q H0 E [] dNil := ⟨pa_nil.imp fun σ H Q ⟨ρ, n, Q0, F, R, h, c, o⟩ => c [] H [] n .nil (.refl _) R h⟩
theorem da_cons (ha : DE X q H0 E e t) (hr : DA X q H0 E es ts) (hs : starEach (e :: es) X.env = (false, eval e X.env) :: starEach es X.env := by rfl) : DA X q H0 E (e :: es) (dCons t ts) := by
  refine ⟨(pa_cons ha.pe hr.pa hs).imp fun σ H Q ⟨ρ, n, Q0, F, R, h, c, o⟩ => ?_⟩
  refine dTE_mk R h (fun x H1 dx n1 hx f1 R1 h1 => ?_) o
  exact dTA_mk R1 h1 (fun vs H2 ds n2 hds f2 R2 h2 => c (x :: vs) H2 (dx :: ds) n2 (.cons (hx.up (f2.x R1.dr)) hds) (f1.trans f2) R2 h2) o
theorem de_tup {x1} (h : DA X q H0 E es ts) : DE X q H0 E (.Tuple es x1 pos) (dTupE ts) := by
  refine ⟨(pe_tup h.pa).imp fun σ H Q ⟨ρ, n, Q0, F, R, h, c, o⟩ => ?_⟩
  refine dTA_mk R h (fun vs H1 ds n1 hds f1 R1 ⟨z, h1⟩ => ⟨by rw [hds.length]; exact z, fun p hp => ?_⟩) o
  have s := same_upd (o := .tup vs) hp
  exact c _ _ (.tup ds) n1 (.tup (SqT.of upd_same) (hds.up (.of_same s))) (f1.trans (.of_same s)) (R1.same s) h1
theorem de_lst (h : DA X q H0 E es ts) : DE X q H0 E (.List es pos) (dLstE ts) := by
  refine ⟨(pe_lst h.pa).imp fun σ H Q ⟨ρ, n, Q0, F, R, h, c, o⟩ => ?_⟩
  refine dTA_mk R h (fun vs H1 ds n1 hds f1 R1 ⟨z, h1⟩ => ⟨by rw [hds.length]; exact z, fun p hp => ?_⟩) o
  have s := same_upd (o := .lst vs) hp
  exact c _ _ (.lst ds) n1 (.lst upd_same (hds.up (.of_same s))) (f1.trans (.of_same s)) (R1.same s) h1
/-- {} -/
theorem de_dnew : DE X q H0 E (.Dict [] [] pos) (dC (.dct [])) := by
  refine ⟨pe_dnewK.imp fun σ H Q ⟨ρ, n, Q0, F, R, h, c, o⟩ p hp => ?_⟩
  have s := same_upd (o := .dK []) hp
  exact c _ _ (.dct []) n (.dct upd_same .nil) (.of_same s) (R.same s) h
end
end DL
/-! T4: operations on data, calls of the text's own defs, built-in functions. -/
namespace DL
open PySem PySem.Spec L2

/-! ### operators -/
/-- what a product may be -/
abbrev MulOk (i j : Int) : Prop := IntMulOk i j
theorem mulOk_l {i j : Int} (h1 : -(2 ^ 64) < i) (h2 : i < 2 ^ 64) : MulOk i j := CMul.ok (.inl ⟨h1, h2⟩)
theorem mulOk_r {i j : Int} (h1 : -(2 ^ 64) < j) (h2 : j < 2 ^ 64) : MulOk i j := CMul.ok (.inr ⟨h1, h2⟩)
theorem mulOk_w {i j : Int} (a b : Nat) (ha : i.natAbs < 2 ^ a) (hb : j.natAbs < 2 ^ b) (h0 : 0 < a := by decide) (h1 : 0 < b := by decide) (h : a + b ≤ 1000000 := by decide) : MulOk i j := (wide_mul ha hb h0 h1 h).ok
def oAdd : D → D → (D → Prop) → Prop
  | .int i, .int j, Q => Q (.int (i + j))
  | .str x, .str y, Q => x.length + y.length ≤ sizeLine ∧ Q (.str (x ++ y))
  | .tup xs, .tup ys, Q => xs.length + ys.length ≤ sizeLine ∧ Q (.tup (xs ++ ys))
  | .lst xs, .lst ys, Q => xs.length + ys.length ≤ sizeLine ∧ Q (.lst (xs ++ ys))
  | _, _, _ => False
def oSub : D → D → (D → Prop) → Prop
  | .int i, .int j, Q => Q (.int (i - j))
  | _, _, _ => False
def oMul : D → D → (D → Prop) → Prop
  | .int i, .int j, Q => MulOk i j ∧ Q (.int (i * j))
  | _, _, _ => False
def oDiv : D → D → (D → Prop) → Prop
  | .int i, .int j, Q => (j ≠ 0 ∧ j.natAbs.log2 < 9000) ∧ Q (.int (i.fdiv j))
  | _, _, _ => False
def oMod : D → D → (D → Prop) → Prop
  | .int i, .int j, Q => j ≠ 0 ∧ Q (.int (i.fmod j))
  | _, _, _ => False
def oPow : D → D → (D → Prop) → Prop
  | .int i, .int j, Q => (0 ≤ j ∧ j ≤ 1000000 ∧ i.natAbs < 2 ^ 64) ∧ Q (.int (i ^ j.toNat))
  | _, _, _ => False
def oBand : D → D → (D → Prop) → Prop
  | .int i, .int j, Q => Q (.int (Builtin.bitAnd i j))
  | _, _, _ => False
def rMulA : R2 := fun x y H Q => ∃ i j, x = V.int i ∧ y = V.int j ∧ MulOk i j ∧ Q (.int (i * j)) H
def rDivA : R2 := fun x y H Q => ∃ i j : Int, x = V.int i ∧ y = V.int j ∧ (j ≠ 0 ∧ j.natAbs.log2 < 9000) ∧ Q (.int (i.fdiv j)) H
section
variable {X : Cx} {q : Dq} {H0 : Hp} {E : XK}
theorem op_mulA : OpR X (binaryOp .Mult) rMulA := by
  intro pins s σ H x y v u Q I rx ry h
  obtain ⟨i, j, rfl, rfl, z, h⟩ := h
  obtain ⟨t, rfl⟩ := rx
  obtain ⟨t', rfl⟩ := ry
  exact PyProof.Rows.mul_int ⟨.int _, H, I.tok _, ⟨_, rfl⟩, h⟩ z
theorem op_divA : OpR X (binaryOp .FloorDiv) rDivA := by
  intro pins s σ H x y v u Q I rx ry h
  obtain ⟨i, j, rfl, rfl, ⟨z1, z2⟩, h⟩ := h
  obtain ⟨t, rfl⟩ := rx
  obtain ⟨t', rfl⟩ := ry
  exact PyProof.Rows.floordiv_int z1 ⟨.int _, H, I.tok _, ⟨_, rfl⟩, h⟩ (.inl (PyProof.noPylong_of_log2 z2))

theorem od_add : OpD X q (binaryOp .Add) oAdd := by
  refine ⟨_, op_add.or (op_add_str.or (op_catA.or op_cat)), fun H x y dx dy Q0 Q hx hy h c => ?_⟩
  cases hx with
  | int i =>
    cases hy <;> simp only [oAdd] at h
    exact .inl ⟨_, _, rfl, rfl, c _ H _ (.int _) (.refl _) h⟩
  | str i =>
    cases hy <;> simp only [oAdd] at h
    exact .inr (.inl ⟨_, _, rfl, rfl, h.1, c _ H _ (.str _) (.refl _) h.2⟩)
  | @tup a vs ds ha va =>
    cases hy <;> simp only [oAdd] at h
    rename_i b ws es hb vb
    refine .inr (.inr (.inl ⟨a, b, vs, ws, rfl, rfl, ha, hb, by rw [va.length, vb.length]; exact h.1, fun e => ?_, fun _ e => ?_, fun _ _ p hp => ?_⟩))
    · subst e
      cases va
      exact c _ H _ (.tup hb vb) (.refl _) h.2
    · subst e
      cases vb
      have h2 := h.2
      rw [List.append_nil] at h2
      exact c _ H _ (.tup ha va) (.refl _) h2
    · have s := same_upd (o := .tup (vs ++ ws)) hp
      exact c _ _ _ (.tup (SqT.of upd_same) ((va.append vb).up (.of_same s))) s h.2
  | @lst a vs ds ha va =>
    cases hy <;> simp only [oAdd] at h
    rename_i b ws es hb vb
    refine .inr (.inr (.inr ⟨a, b, vs, ws, rfl, rfl, ha, hb, by rw [va.length, vb.length]; exact h.1, fun p hp => ?_⟩))
    have s := same_upd (o := .lst (vs ++ ws)) hp
    exact c _ _ _ (.lst upd_same ((va.append vb).up (.of_same s))) s h.2
  | non => simp only [oAdd] at h
  | bl b => simp only [oAdd] at h
  | dct _ _ => simp only [oAdd] at h
  | drum _ => simp only [oAdd] at h
  | scr _ => simp only [oAdd] at h
  | ob _ _ => simp only [oAdd] at h
theorem od_sub : OpD X q (binaryOp .Sub) oSub := ⟨_, op_sub, fun H x y dx dy Q0 Q hx hy h c => by
  cases hx <;> cases hy <;> simp only [oSub] at h
  exact ⟨_, _, rfl, rfl, c _ H _ (.int _) (.refl _) h⟩⟩
theorem od_mul : OpD X q (binaryOp .Mult) oMul := ⟨_, op_mulA, fun H x y dx dy Q0 Q hx hy h c => by
  cases hx <;> cases hy <;> simp only [oMul] at h
  exact ⟨_, _, rfl, rfl, h.1, c _ H _ (.int _) (.refl _) h.2⟩⟩
theorem od_div : OpD X q (binaryOp .FloorDiv) oDiv := ⟨_, op_divA, fun H x y dx dy Q0 Q hx hy h c => by
  cases hx <;> cases hy <;> simp only [oDiv] at h
  exact ⟨_, _, rfl, rfl, h.1, c _ H _ (.int _) (.refl _) h.2⟩⟩
theorem od_mod : OpD X q (binaryOp .Mod) oMod := ⟨_, op_modN, fun H x y dx dy Q0 Q hx hy h c => by
  cases hx <;> cases hy <;> simp only [oMod] at h
  exact ⟨_, _, rfl, rfl, h.1, c _ H _ (.int _) (.refl _) h.2⟩⟩
theorem od_pow : OpD X q (binaryOp .Pow) oPow := ⟨_, op_pow, fun H x y dx dy Q0 Q hx hy h c => by
  cases hx <;> cases hy <;> simp only [oPow] at h
  exact ⟨_, _, rfl, rfl, h.1, c _ H _ (.int _) (.refl _) h.2⟩⟩
theorem od_band : OpD X q (binaryOp .BitAnd) oBand := ⟨_, op_and, fun H x y dx dy Q0 Q hx hy h c => by
  cases hx <;> cases hy <;> simp only [oBand] at h
  exact ⟨_, _, rfl, rfl, c _ H _ (.int _) (.refl _) h⟩⟩

/-! ### comparisons -/
/-- == of data, as the library has it -/
def D.eq (x y : D) : Bool := PyData.eqv x.py y.py
def D.cmpOk (x : D) : Prop := x.plain = true ∧ SeqAt.shaped x.py = true
def oEq : D → D → (D → Prop) → Prop := fun x y Q => (x.cmpOk ∧ y.cmpOk ∧ Q (.bl (D.eq x y))) ∨ ∃ s t, x = .str s ∧ y = .str t ∧ Q (.bl (decide (s = t)))
def oNe : D → D → (D → Prop) → Prop := fun x y Q => (x.cmpOk ∧ y.cmpOk ∧ Q (.bl (!D.eq x y))) ∨ ∃ s t, x = .str s ∧ y = .str t ∧ Q (.bl (!decide (s = t)))
theorem dec_strV (s t : Str) : decide (V.str s = V.str t) = decide (s = t) := by simp
theorem od_eq {k : Nat} (hr : Room k X.A) : OpD X q (compareOp .Eq) oEq := ⟨_, (op_eqD hr.units).or op_eq, fun H x y dx dy Q0 Q hx hy h c => by
  rcases h with h | ⟨s, t, rfl, rfl, h⟩
  · exact .inl ⟨dx.py, dy.py, hx.dp h.1.1, hy.dp h.2.1.1, h.1.2, h.2.1.2, c _ H _ (.bl _) (.refl _) h.2.2⟩
  · cases hx
    cases hy
    exact .inr ⟨rfl, c _ H _ (by rw [dec_strV]; exact .bl _) (.refl _) h⟩⟩
theorem od_ne {k : Nat} (hr : Room k X.A) : OpD X q (compareOp .NotEq) oNe := ⟨_, (op_neD hr.units).or op_ne, fun H x y dx dy Q0 Q hx hy h c => by
  rcases h with h | ⟨s, t, rfl, rfl, h⟩
  · exact .inl ⟨dx.py, dy.py, hx.dp h.1.1, hy.dp h.2.1.1, h.1.2, h.2.1.2, c _ H _ (.bl _) (.refl _) h.2.2⟩
  · cases hx
    cases hy
    exact .inr ⟨rfl, c _ H _ (by rw [dec_strV]; exact .bl _) (.refl _) h⟩⟩
def oLt : D → D → (D → Prop) → Prop
  | .int i, .int j, Q => Q (.bl (decide (i < j)))
  | _, _, _ => False
def oLe : D → D → (D → Prop) → Prop
  | .int i, .int j, Q => Q (.bl (decide (i ≤ j)))
  | _, _, _ => False
def oGt : D → D → (D → Prop) → Prop
  | .int i, .int j, Q => Q (.bl (decide (j < i)))
  | _, _, _ => False
def oGe : D → D → (D → Prop) → Prop
  | .int i, .int j, Q => Q (.bl (decide (j ≤ i)))
  | _, _, _ => False
theorem od_lt : OpD X q (compareOp .Lt) oLt := ⟨_, op_lt, fun H x y dx dy Q0 Q hx hy h c => by
  cases hx <;> cases hy <;> simp only [oLt] at h
  exact ⟨_, _, rfl, rfl, c _ H _ (.bl _) (.refl _) h⟩⟩
theorem od_le : OpD X q (compareOp .LtE) oLe := ⟨_, op_le, fun H x y dx dy Q0 Q hx hy h c => by
  cases hx <;> cases hy <;> simp only [oLe] at h
  exact ⟨_, _, rfl, rfl, c _ H _ (.bl _) (.refl _) h⟩⟩
theorem od_gt : OpD X q (compareOp .Gt) oGt := ⟨_, op_gt, fun H x y dx dy Q0 Q hx hy h c => by
  cases hx <;> cases hy <;> simp only [oGt] at h
  exact ⟨_, _, rfl, rfl, c _ H _ (.bl _) (.refl _) h⟩⟩
theorem od_ge : OpD X q (compareOp .GtE) oGe := ⟨_, op_ge, fun H x y dx dy Q0 Q hx hy h c => by
  cases hx <;> cases hy <;> simp only [oGe] at h
  exact ⟨_, _, rfl, rfl, c _ H _ (.bl _) (.refl _) h⟩⟩
def D.isN : D → Bool
  | .non => true
  | _ => false
def oIs : D → D → (D → Prop) → Prop := fun x y Q => y = .non ∧ Q (.bl x.isN)
def oIsnt : D → D → (D → Prop) → Prop := fun x y Q => y = .non ∧ Q (.bl (!x.isN))
theorem isN_of {K : PySem.W.Frag} {H : Hp} {v : V} {d : D} (h : Dt K q H v d) : decide (v = .non) = d.isN := by
  cases h <;> rfl
theorem od_is : OpD X q (compareOp .Is) oIs := ⟨_, op_isN, fun H x y dx dy Q0 Q hx hy h c => by
  obtain ⟨e, h⟩ := h
  subst e
  cases hy
  refine ⟨rfl, ?_⟩
  rw [isN_of hx]
  exact c _ H _ (.bl _) (.refl _) h⟩
theorem od_isnt : OpD X q (compareOp .IsNot) oIsnt := ⟨_, op_notN, fun H x y dx dy Q0 Q hx hy h c => by
  obtain ⟨e, h⟩ := h
  subst e
  cases hy
  refine ⟨rfl, ?_⟩
  rw [isN_of hx]
  exact c _ H _ (.bl _) (.refl _) h⟩

/-! ### xs[i] -/
def ixD (ds : List D) (i : Int) : Option D := atI ds i
def oIx : D → D → (D → Prop) → Prop
  | .lst ds, .int i, Q => ∃ d, atI ds i = some d ∧ Q d
  | .tup ds, .int i, Q => ∃ d, atI ds i = some d ∧ Q d
  | .str z, .int i, Q => z.length ≤ sizeLine ∧ ∃ c, atI z.cps.toList i = some c ∧ Q (.str ⟨#[c]⟩)
  | _, _, _ => False
theorem atI_dt {K : PySem.W.Frag} {H : Hp} {vs : List V} {ds : List D} (h : DtAll K q H vs ds) {i : Int} {d : D} (e : atI ds i = some d) : ∃ v, atI vs i = some v ∧ Dt K q H v d := by
  unfold atI at e ⊢
  rw [h.length]
  cases z : ixN ds.length i with
  | none => rw [z] at e; cases e
  | some j =>
    rw [z] at e
    exact h.get (i := j) e
theorem ix_core {K : PySem.W.Frag} (H : Hp) (x y : V) (dx dy : D) (Q0 : D → Prop) (Q : VK) (hx : Dt K q H x dx) (hy : Dt K q H y dy) (h : oIx dx dy Q0) (c : ∀ v H' d, Dt K q H' v d → Same H H' → Q0 d → Q v H') : rIx K x y H Q := by
  cases hx <;> cases hy <;> simp only [oIx] at h
  · obtain ⟨z, k, e, h⟩ := h
    exact .inr (.inr ⟨_, _, k, rfl, rfl, z, e, c _ H _ (.str _) (.refl _) h⟩)
  · rename_i a vs ds ha va i
    obtain ⟨d, e, h⟩ := h
    obtain ⟨v, e1, h1⟩ := atI_dt va e
    exact .inl ⟨a, vs, i, v, rfl, rfl, SqL.of ha, e1, c _ H _ h1 (.refl _) h⟩
  · rename_i a vs ds ha va i
    obtain ⟨d, e, h⟩ := h
    obtain ⟨v, e1, h1⟩ := atI_dt va e
    exact .inr (.inl ⟨a, vs, i, v, rfl, rfl, ha, e1, c _ H _ h1 (.refl _) h⟩)
theorem de_at {a b : Expr} {ta tb : DT} {pos : Pos} (ha : DE X q H0 E a ta) (hb : DE X q H0 E b tb) (hs : PlainIx b := by exact fun _ _ => rfl) : DE X q H0 E (.Subscript a b pos) (dBin oIx ta tb) :=
  de_ix ix_seq (fun H x y dx dy Q0 Q hx hy h c => ix_core H x y dx dy Q0 Q hx hy h c) ha hb hs
end

/-! ### calls of the text's own defs -/
abbrev SpD := List D → Nat → QD → QE → Prop
/-- the promise of a def, over data -/
def spD (K : PySem.W.Frag) (sp : SpD) : Sp := fun vs H Q E => ∃ q ds n Q0 F, DtAll K q H vs ds ∧ Dr K q n H ∧ sp ds n Q0 F ∧
  (∀ v H' d n', Dt K q H' v d → Fr q H H' → Dr K q n' H' → Q0 d n' → Q v H') ∧ ErOk K q H F E
def dCall (sp : SpD) (ts : DTA) : DT := fun ρ n Q F => ts ρ n (fun ds n1 => sp ds n1 Q F) F
def dCallK (sp : SpD) (g : List D → List D → List D) (ts tk : DTA) : DT := fun ρ n Q F => ts ρ n (fun ds n1 => tk ρ n1 (fun es n2 => sp (g ds es) n2 Q F) F) F
structure DK (X : Cx) (q : Dq) (H0 : Hp) (E : XK) (kws : List Keyword) (t : DTA) : Prop where
  pk : PK X kws (dTA X.K q H0 E t)
section
variable {X : Cx} {q : Dq} {H0 : Hp} {E : XK} {CX : CXT} {k : Nat} {f : Addr} {fd : FuncData} {ps ks : List Str} {sp : SpD} {x : Str} {p pos kpos : Pos} {e : Expr} {es : List Expr} {kws : List Keyword} {t : DT} {ts tk : DTA} {nm : Option Str}
theorem erOk_in {K : PySem.W.Frag} {H : Hp} {F : QE} (o : ErOk K q H0 F E) (f : Fr q H0 H) : ErOk K q H F E := fun r n cls od H' a b c d => o r n cls od H' a (f.trans b) c d
theorem _root_.L2.PK.imp {X : Cx} {e : List Keyword} {t t' : TA} (h : PK X e t) (i : ∀ σ H Q, t' σ H Q → t σ H Q) : PK X e t' := ⟨fun pos pins s σ H Q I hw => h.run pos pins s σ H Q I (i σ H Q hw)⟩
theorem dk_nil : DK X q H0 E [] dNil := ⟨pk_nil.imp fun σ H Q ⟨ρ, n, Q0, F, R, h, c, o⟩ => c [] H [] n .nil (.refl _) R h⟩
theorem dk_cons (ha : DE X q H0 E e t) (hr : DK X q H0 E kws ts) : DK X q H0 E (⟨nm, e, kpos⟩ :: kws) (dCons t ts) := by
  refine ⟨(pk_cons ha.pe hr.pk).imp fun σ H Q ⟨ρ, n, Q0, F, R, h, c, o⟩ => ?_⟩
  refine dTE_mk R h (fun x H1 dx n1 hx f1 R1 h1 => ?_) o
  exact dTA_mk R1 h1 (fun vs H2 ds n2 hds f2 R2 h2 => c (x :: vs) H2 (dx :: ds) n2 (.cons (hx.up (f2.x R1.dr)) hds) (f1.trans f2) R2 h2) o
theorem call_core {K : PySem.W.Frag} {ρ : SEnv} {n1 : Nat} {σ : L2.St} {H H1 : Hp} {Q : VK} {Q0 : QD} {F : QE} {vs : List V} {ds : List D} (c : ∀ v H' d n', Dt K q H' v d → Fr q H H' → Rel K q H0 ρ n' σ H' → Q0 d n' → Q v H') (o : ErOk K q H0 F E)
    (hds : DtAll K q H1 vs ds) (f1 : Fr q H H1) (R1 : Rel K q H0 ρ n1 σ H1) (h : sp ds n1 Q0 F) : spD K sp vs H1 Q E :=
  ⟨q, ds, n1, Q0, F, hds, R1.dr, h, fun v H' d n' hd fr dr hq => c v H' d n' hd (f1.trans fr) (R1.up fr dr) hq, erOk_in o R1.fr⟩
theorem de_call (G : FnG X.prog X.w X.K X.mg X.base CX k f fd ps (spD X.K sp)) (hr : Room k X.A) (hgd : X.A.guards = some []) (hg : Gl X x) (hm : X.mg x = some (.ref f)) (hk : PySem.W.keepIn X.K (.ref f) = true) (hb : Binds X.K fd ps []) (hx : Passes CX X E)
    (ha : DA X q H0 E (e :: es) ts) (hdb : (x == ("__debug__" : Str)) = false := by decide) (he : starEach (e :: es) X.env = (false, eval e X.env) :: starEach es X.env := by rfl) (hpl : (backTo pos (starEach es X.env)).any (·.1) = false := by rfl) :
    DE X q H0 E (.Call (.Name x p) (e :: es) [] pos) (dCall sp ts) := by
  refine ⟨(pe_callG G hr hgd hg hm hk hb .nil hx ha.pa hdb he hpl).imp fun σ H Q ⟨ρ, n, Q0, F, R, h, c, o⟩ => ?_⟩
  refine dTA_mk R h (fun vs H1 ds n1 hds f1 R1 h1 => ?_) o
  rw [List.append_nil]
  exact call_core c o hds f1 R1 h1
theorem de_call0 (G : FnG X.prog X.w X.K X.mg X.base CX k f fd ps (spD X.K sp)) (hr : Room k X.A) (hgd : X.A.guards = some []) (hg : Gl X x) (hm : X.mg x = some (.ref f)) (hk : PySem.W.keepIn X.K (.ref f) = true) (hb : Binds X.K fd ps []) (hx : Passes CX X E)
    (hdb : (x == ("__debug__" : Str)) = false := by decide) : DE X q H0 E (.Call (.Name x p) [] [] pos) (dCall sp dNil) := by
  refine ⟨(pe_callG0 G hr hgd hg hm hk hb .nil hx hdb).imp fun σ H Q ⟨ρ, n, Q0, F, R, h, c, o⟩ => ?_⟩
  show spD X.K sp ([] ++ []) H Q E
  exact call_core c o .nil (.refl _) R h
theorem de_callK {g : {α : Type} → List α → List α → List α} (G : FnG X.prog X.w X.K X.mg X.base CX k f fd ps (spD X.K sp)) (hr : Room k X.A) (hgd : X.A.guards = some []) (hg : Gl X x) (hm : X.mg x = some (.ref f)) (hk : PySem.W.keepIn X.K (.ref f) = true) (hb : KBinds X.K fd ps ks g g) (hx : Passes CX X E)
    (hgD : ∀ (K : PySem.W.Frag) (q : Dq) (H : Hp) (vs zs : List V) (ds es : List D), DtAll K q H vs ds → DtAll K q H zs es → DtAll K q H (g vs zs) (g ds es))
    (ha : DA X q H0 E (e :: es) ts) (hkw : DK X q H0 E kws tk) (hall : (backToKw pos (keywordEach kws X.env)).all (·.1.isSome) = true := by rfl) (hks : (backToKw pos (keywordEach kws X.env)).filterMap (·.1) = ks := by rfl)
    (hdb : (x == ("__debug__" : Str)) = false := by decide) (he : starEach (e :: es) X.env = (false, eval e X.env) :: starEach es X.env := by rfl)
    (hpl : ((backTo pos (starEach (e :: es) X.env)).any (·.1) || (backToKw pos (keywordEach kws X.env)).any (·.1.isNone)) = false := by rfl) :
    DE X q H0 E (.Call (.Name x p) (e :: es) kws pos) (dCallK sp g ts tk) := by
  refine ⟨(pe_callGK G hr hgd hg hm hk hb hx ha.pa hkw.pk hall hks hdb he hpl).imp fun σ H Q ⟨ρ, n, Q0, F, R, h, c, o⟩ => ?_⟩
  refine dTA_mk R h (fun vs H1 ds n1 hds f1 R1 h1 => ?_) o
  refine dTA_mk R1 h1 (fun zs H2 es n2 hes f2 R2 h2 => ?_) o
  exact call_core c o (hgD _ _ _ _ _ _ _ (hds.up (f2.x R1.dr)) hes) (f1.trans f2) R2 h2
theorem de_callK0 {g : {α : Type} → List α → List α → List α} (G : FnG X.prog X.w X.K X.mg X.base CX k f fd ps (spD X.K sp)) (hr : Room k X.A) (hgd : X.A.guards = some []) (hg : Gl X x) (hm : X.mg x = some (.ref f)) (hk : PySem.W.keepIn X.K (.ref f) = true) (hb : KBinds X.K fd ps ks g g) (hx : Passes CX X E)
    (hgD : ∀ (K : PySem.W.Frag) (q : Dq) (H : Hp) (vs zs : List V) (ds es : List D), DtAll K q H vs ds → DtAll K q H zs es → DtAll K q H (g vs zs) (g ds es))
    (hkw : DK X q H0 E kws tk) (hall : (backToKw pos (keywordEach kws X.env)).all (·.1.isSome) = true := by rfl) (hks : (backToKw pos (keywordEach kws X.env)).filterMap (·.1) = ks := by rfl)
    (hdb : (x == ("__debug__" : Str)) = false := by decide)
    (hpl : ((backTo pos (starEach [] X.env)).any (·.1) || (backToKw pos (keywordEach kws X.env)).any (·.1.isNone)) = false := by rfl) :
    DE X q H0 E (.Call (.Name x p) [] kws pos) (dCallK sp g dNil tk) := by
  refine ⟨(pe_callGK0 G hr hgd hg hm hk hb hx hkw.pk hall hks hdb hpl).imp fun σ H Q ⟨ρ, n, Q0, F, R, h, c, o⟩ => ?_⟩
  show dTA X.K q H0 E tk σ H _
  refine dTA_mk R h (fun zs H2 es n2 hes f2 R2 h2 => ?_) o
  exact call_core c o (hgD _ _ _ _ _ _ _ .nil hes) f2 R2 h2
end

/-! ### built-in functions -/
structure CallD (X : Cx) (q : Dq) (f : Value) (cd : List D → (D → Prop) → Prop) : Prop where
  ex : ∃ r, CallR X f r ∧ ∀ H xs ds (Q0 : D → Prop) (Q : VK), DtAll X.K q H xs ds → cd ds Q0 → (∀ v H' d, Dt X.K q H' v d → Same H H' → Q0 d → Q v H') → r xs H Q
def dCB (cd : List D → (D → Prop) → Prop) (ts : DTA) : DT := fun ρ n Q F => ts ρ n (fun ds n1 => cd ds fun d => Q d n1) F
section
variable {X : Cx} {q : Dq} {H0 : Hp} {E : XK} {x : Str} {p pos : Pos} {e : Expr} {es : List Expr} {ts : DTA} {id T : String} {cd : List D → (D → Prop) → Prop}
theorem dCB_core {K : PySem.W.Frag} {r : List V → Hp → VK → Prop} (k : ∀ H xs ds (Q0 : D → Prop) (Q : VK), DtAll K q H xs ds → cd ds Q0 → (∀ v H' d, Dt K q H' v d → Same H H' → Q0 d → Q v H') → r xs H Q)
    {σ : L2.St} {H : Hp} {Q : VK} (h : dTE K q H0 E (dCB cd ts) σ H Q) : tCB r (dTA K q H0 E ts) σ H Q := by
  obtain ⟨ρ, n, Q0, F, R, h, c, o⟩ := h
  refine dTA_mk R h (fun vs H1 ds n1 hds f1 R1 h1 => ?_) o
  exact k H1 vs ds _ _ hds h1 fun v H' d hd hs hq => c v H' d n1 hd (f1.trans (.of_same hs)) (R1.same hs) hq
theorem de_callB (hc : CallD X q (.builtin id) cd) (hg : Gl X x) (hm : X.mg x = none) (hv : bootBuiltins x = some (.builtin id)) (ha : DA X q H0 E (e :: es) ts) (hn : x ≠ "__name__" := by decide) (hdb : (x == ("__debug__" : Str)) = false := by decide)
    (he : starEach (e :: es) X.env = (false, eval e X.env) :: starEach es X.env := by rfl) (hpl : (backTo pos (starEach es X.env)).any (·.1) = false := by rfl) : DE X q H0 E (.Call (.Name x p) (e :: es) [] pos) (dCB cd ts) := by
  obtain ⟨r, h, k⟩ := hc.ex
  exact ⟨(pe_callB h hg hm hv ha.pa hn hdb he hpl).imp fun σ H Q z => dCB_core k z⟩
theorem de_callTy (hc : CallD X q (.type T) cd) (hg : Gl X x) (hm : X.mg x = none) (hv : bootBuiltins x = some (.type T)) (ha : DA X q H0 E (e :: es) ts) (hn : x ≠ "__name__" := by decide) (hdb : (x == ("__debug__" : Str)) = false := by decide)
    (he : starEach (e :: es) X.env = (false, eval e X.env) :: starEach es X.env := by rfl) (hpl : (backTo pos (starEach es X.env)).any (·.1) = false := by rfl) : DE X q H0 E (.Call (.Name x p) (e :: es) [] pos) (dCB cd ts) := by
  obtain ⟨r, h, k⟩ := hc.ex
  exact ⟨(pe_callTy h hg hm hv ha.pa hn hdb he hpl).imp fun σ H Q z => dCB_core k z⟩

def cLen : List D → (D → Prop) → Prop
  | [.lst ds], Q => Q (.int (ds.length : Nat))
  | [.tup ds], Q => Q (.int (ds.length : Nat))
  | [.str z], Q => z.length ≤ sizeLine ∧ Q (.int (z.length : Nat))
  | _, _ => False
theorem cd_len : CallD X q (.builtin "len") cLen := ⟨_, call_len, fun H xs ds Q0 Q hds h c => by
  cases hds with
  | nil => simp only [cLen] at h
  | cons h1 t1 =>
    cases t1 with
    | cons _ _ => cases h1 <;> simp only [cLen] at h
    | nil =>
      cases h1 <;> simp only [cLen] at h
      · exact ⟨_, _, rfl, ⟨h.1, rfl⟩, c _ H _ (.int _) (.refl _) h.2⟩
      · rename_i a vs ds ha va
        exact ⟨_, ds.length, rfl, .inl ⟨vs, SqL.of ha, va.length.symm⟩, c _ H _ (.int _) (.refl _) h⟩
      · rename_i a vs ds ha va
        exact ⟨_, ds.length, rfl, .inr ⟨vs, ha, va.length.symm⟩, c _ H _ (.int _) (.refl _) h⟩⟩
def cAbs : List D → (D → Prop) → Prop
  | [.int i], Q => Q (.int (if i < 0 then -i else i))
  | _, _ => False
theorem cd_abs : CallD X q (.builtin "abs") cAbs := ⟨_, call_abs, fun H xs ds Q0 Q hds h c => by
  cases hds with
  | nil => simp only [cAbs] at h
  | cons h1 t1 => cases h1 <;> cases t1 <;> simp only [cAbs] at h; exact ⟨_, rfl, c _ H _ (.int _) (.refl _) h⟩⟩
def cInt : List D → (D → Prop) → Prop
  | [.int i], Q => Q (.int i)
  | [.bl b], Q => Q (.int (if b then 1 else 0))
  | _, _ => False
theorem cd_int : CallD X q (.type "int") cInt := ⟨_, call_int1, fun H xs ds Q0 Q hds h c => by
  cases hds with
  | nil => simp only [cInt] at h
  | cons h1 t1 =>
    cases h1 <;> cases t1 <;> simp only [cInt] at h
    · exact .inr ⟨_, rfl, c _ H _ (.int _) (.refl _) h⟩
    · exact .inl ⟨_, rfl, c _ H _ (.int _) (.refl _) h⟩⟩
def cMin2 : List D → (D → Prop) → Prop
  | [.int i, .int j], Q => Q (.int (if j < i then j else i))
  | _, _ => False
theorem cd_min2 (hc : X.calm = true) : CallD X q (.builtin "min") cMin2 := ⟨_, call_min2 hc, fun H xs ds Q0 Q hds h c => by
  cases hds with
  | nil => simp only [cMin2] at h
  | cons h1 t1 =>
    cases t1 with
    | nil => cases h1 <;> simp only [cMin2] at h
    | cons h2 t2 => cases h1 <;> cases h2 <;> cases t2 <;> simp only [cMin2] at h; exact ⟨_, _, rfl, c _ H _ (.int _) (.refl _) h⟩⟩
/-- tuple(xs), list(xs) -/
def cTuple : List D → (D → Prop) → Prop
  | [.lst ds], Q => Q (.tup ds)
  | [.tup ds], Q => Q (.tup ds)
  | _, _ => False
theorem cd_tuple : CallD X q (.type "tuple") cTuple := ⟨_, call_tuple_of, fun H xs ds Q0 Q hds h c => by
  cases hds with
  | nil => simp only [cTuple] at h
  | cons h1 t1 =>
    cases h1 <;> cases t1 <;> simp only [cTuple] at h
    · rename_i a vs ds ha va
      refine ⟨a, vs, rfl, .inl ⟨SqL.of ha, fun l hl => ?_⟩⟩
      have s := same_upd (o := .tup vs) hl
      exact c _ _ _ (.tup (SqT.of upd_same) (va.up (.of_same s))) s h
    · rename_i a vs ds ha va
      exact ⟨a, vs, rfl, .inr ⟨ha, c _ H _ (.tup ha va) (.refl _) h⟩⟩⟩
def cList : List D → (D → Prop) → Prop
  | [.lst ds], Q => Q (.lst ds)
  | [.tup ds], Q => Q (.lst ds)
  | _, _ => False
theorem cd_list : CallD X q (.type "list") cList := ⟨_, call_list_of, fun H xs ds Q0 Q hds h c => by
  cases hds with
  | nil => simp only [cList] at h
  | cons h1 t1 =>
    cases h1 <;> cases t1 <;> simp only [cList] at h
    · rename_i a vs ds ha va
      refine ⟨a, vs, rfl, .inl (SqL.of ha), fun l hl => ?_⟩
      have s := same_upd (o := .lst vs) hl
      exact c _ _ _ (.lst upd_same (va.up (.of_same s))) s h
    · rename_i a vs ds ha va
      refine ⟨a, vs, rfl, .inr ha, fun l hl => ?_⟩
      have s := same_upd (o := .lst vs) hl
      exact c _ _ _ (.lst upd_same (va.up (.of_same s))) s h⟩
/-- all([..]), any([..]) of truths -/
def D.bools : List D → Option (List Bool)
  | [] => some []
  | .bl b :: r => (D.bools r).map (b :: ·)
  | _ :: _ => none
theorem bools_dt {K : PySem.W.Frag} {H : Hp} : ∀ {vs : List V} {ds : List D} {bs : List Bool}, DtAll K q H vs ds → D.bools ds = some bs → vs = bs.map V.bl
  | _, _, _, .nil, e => by simp only [D.bools, Option.some.injEq] at e; subst e; rfl
  | _, _, _, .cons h t, e => by
    cases h <;> simp only [D.bools] at e <;> try cases e
    obtain ⟨bs, e1, e2⟩ := Option.map_eq_some_iff.mp e
    subst e2
    rw [bools_dt t e1]
    rfl
def cAll : List D → (D → Prop) → Prop
  | [.lst ds], Q => ∃ bs, D.bools ds = some bs ∧ Q (.bl (bs.all fun b => b))
  | _, _ => False
theorem cd_all (hc : X.calm = true) : CallD X q (.builtin "all") cAll := ⟨_, cr_all hc, fun H xs ds Q0 Q hds h c => by
  cases hds with
  | nil => simp only [cAll] at h
  | cons h1 t1 =>
    cases h1 <;> cases t1 <;> simp only [cAll] at h
    rename_i a vs ds ha va
    obtain ⟨bs, e, h⟩ := h
    have e2 := bools_dt va e
    subst e2
    exact ⟨a, bs, rfl, SqL.of ha, c _ H _ (.bl _) (.refl _) h⟩⟩
def cAny : List D → (D → Prop) → Prop
  | [.lst ds], Q => ∃ bs, D.bools ds = some bs ∧ Q (.bl (bs.any fun b => b))
  | _, _ => False
theorem cd_any (hc : X.calm = true) : CallD X q (.builtin "any") cAny := ⟨_, cr_any hc, fun H xs ds Q0 Q hds h c => by
  cases hds with
  | nil => simp only [cAny] at h
  | cons h1 t1 =>
    cases h1 <;> cases t1 <;> simp only [cAny] at h
    rename_i a vs ds ha va
    obtain ⟨bs, e, h⟩ := h
    have e2 := bools_dt va e
    subst e2
    exact ⟨a, bs, rfl, SqL.of ha, c _ H _ (.bl _) (.refl _) h⟩⟩
end
end DL
/-! T5: isinstance, repr; targets; statements; loops; comprehensions. -/
namespace DL
open PySem PySem.Spec L2

/-! ### isinstance of built-in classes -/
def D.ty : D → String
  | .non => "NoneType" | .bl _ => "bool" | .int _ => "int" | .str _ => "str" | .lst _ => "list" | .tup _ => "tuple" | .dct _ => "dict" | .drum _ => "?" | .scr _ => "?" | .ob _ _ => "?"
def D.isData : D → Bool
  | .drum _ => false
  | .scr _ => false
  | .ob _ _ => false
  | _ => true
def tyAll : List String := ["NoneType", "bool", "int", "str", "list", "tuple", "dict"]
def tyAsk : List String := ["int", "bool", "str", "list", "tuple", "dict"]
def isB (n T : String) : Bool := n == T || (n == "bool" && T == "int")
theorem kit_tab : ∀ n ∈ tyAll, ∀ T ∈ tyAsk, kitB n T = some (isB n T) := by decide +kernel
def D.isa (d : D) (Ts : List String) : Bool := Ts.any (isB d.ty)
theorem ty_mem {d : D} (h : d.isData = true) : d.ty ∈ tyAll := by
  cases d <;> simp [D.isData, D.ty, tyAll] at h ⊢
theorem tyX_of {K : PySem.W.Frag} {q : Dq} {H : Hp} {v : V} {d : D} (h : Dt K q H v d) (hd : d.isData = true) : TyX K H v (.type d.ty) := by
  cases h with
  | non => exact .base .non
  | bl b => exact .base (.bl b)
  | int b => exact .base (.int b)
  | str b => exact .base (.str b)
  | lst h _ => exact .base (.lst h)
  | tup h _ =>
    rcases h with (h | ⟨o, h⟩) | ⟨o, its, n, h, hc, _⟩
    · exact .base (.tup h)
    · exact .fTuple h
    · exact .kTuple h hc
  | dct h _ => exact .base (.dK h)
  | drum _ => simp [D.isData] at hd
  | scr _ => simp [D.isData] at hd
  | ob _ _ => simp [D.isData] at hd
def dIsi (Ts : List String) (t : DT) : DT := fun ρ n Q F => t ρ n (fun x n1 => x.isData = true ∧ Q (.bl (x.isa Ts)) n1) F
section
variable {X : Cx} {q : Dq} {H0 : Hp} {E : XK} {e : Expr} {t : DT} {p p1 p2 p3 pos : Pos}
theorem de_isi1 {T : Str} {n : String} (hg : Gl X "isinstance") (hm : X.mg "isinstance" = none) (ha : DE X q H0 E e t) (hgT : Gl X T) (hmT : X.mg T = none) (hv : bootBuiltins T = some (.type n)) (hT : n ∈ tyAsk) (hn : T ≠ "__name__" := by decide) (hdb : (T == ("__debug__" : Str)) = false := by decide)
    (he : starEach [e, .Name T p1] X.env = (false, eval e X.env) :: starEach [.Name T p1] X.env := by rfl) (hpl : (backTo pos (starEach [.Name T p1] X.env)).any (·.1) = false := by rfl) :
    DE X q H0 E (.Call (.Name "isinstance" p) [e, .Name T p1] [] pos) (dIsi [n] t) := by
  refine ⟨(pe_callB call_isi hg hm (by decide +kernel) (pa_cons ha.pe (pa_cons (pe_bltn (v := .ty n) hgT hmT hv rfl hn hdb) pa_nil) he) (he := he) (hpl := hpl)).imp fun σ H Q ⟨ρ, m, Q0, F, R, h, c, o⟩ => ?_⟩
  refine dTE_mk R h (fun x H1 dx n1 hx f1 R1 ⟨hd, h1⟩ => ?_) o
  refine ⟨x, .ty n, _, _, _, rfl, .ty n, tyX_of hx hd, kit_ty (kit_tab _ (ty_mem hd) _ hT), ?_⟩
  have e1 : dx.isa [n] = isB dx.ty n := by simp [D.isa]
  rw [← e1]
  exact c _ H1 _ n1 (.bl _) f1 R1 h1
theorem de_isi2 {T U : Str} {n m : String} {kk : _} (hg : Gl X "isinstance") (hm : X.mg "isinstance" = none) (ha : DE X q H0 E e t) (hgT : Gl X T) (hmT : X.mg T = none) (hv : bootBuiltins T = some (.type n)) (hT : n ∈ tyAsk) (hgU : Gl X U) (hmU : X.mg U = none) (hvU : bootBuiltins U = some (.type m)) (hU : m ∈ tyAsk)
    (hn : T ≠ "__name__" := by decide) (hdb : (T == ("__debug__" : Str)) = false := by decide) (hnU : U ≠ "__name__" := by decide) (hdbU : (U == ("__debug__" : Str)) = false := by decide)
    (hs : starEach [.Name T p1, .Name U p2] X.env = (false, eval (.Name T p1) X.env) :: starEach [.Name U p2] X.env := by rfl) (hs2 : starEach [.Name U p2] X.env = (false, eval (.Name U p2) X.env) :: starEach [] X.env := by rfl)
    (he : starEach [e, .Tuple [.Name T p1, .Name U p2] kk p3] X.env = (false, eval e X.env) :: starEach [.Tuple [.Name T p1, .Name U p2] kk p3] X.env := by rfl) (hpl : (backTo pos (starEach [.Tuple [.Name T p1, .Name U p2] kk p3] X.env)).any (·.1) = false := by rfl) :
    DE X q H0 E (.Call (.Name "isinstance" p) [e, .Tuple [.Name T p1, .Name U p2] kk p3] [] pos) (dIsi [n, m] t) := by
  refine ⟨(pe_callB call_isiT hg hm (by decide +kernel) (pa_cons ha.pe (pa_cons (pe_tup (pa_cons (pe_bltn (v := .ty n) hgT hmT hv rfl hn hdb) (pa_cons (pe_bltn (v := .ty m) hgU hmU hvU rfl hnU hdbU) pa_nil hs2) hs)) pa_nil) he) (he := he) (hpl := hpl)).imp fun σ H Q ⟨ρ, mm, Q0, F, R, h, c, o⟩ => ?_⟩
  refine dTE_mk R h (fun x H1 dx n1 hx f1 R1 ⟨hd, h1⟩ => ?_) o
  refine ⟨by show 2 ≤ sizeLine; decide, fun tp htp => ?_⟩
  have s := same_upd (o := .tup [V.ty n, V.ty m]) htp
  refine ⟨x, tp, [.ty n, .ty m], .type dx.ty, [.type n, .type m], dx.isa [n, m], rfl, upd_same, .cons (.ty n) (.cons (.ty m) .nil), tyX_of (hx.up (.of_same s)) hd, ?_, ?_⟩
  · have k1 := kit_ty (K := X.K) (kit_tab _ (ty_mem hd) _ hT)
    have k2 := kit_ty (K := X.K) (kit_tab _ (ty_mem hd) _ hU)
    refine kitAny_cons k1 (fun e1 => kitAny_cons k2 (fun e2 => ?_) fun e2 => ?_) fun e1 => ?_
    · rw [kitAny_nil]
      simp [D.isa, e1, e2]
    · simp [D.isa, e2]
    · simp [D.isa, e1]
  · exact c _ _ _ n1 (.bl _) (f1.trans (.of_same s)) (R1.same s) h1
end

/-! ### repr -/
mutual
/-- no int beyond 570 digits, no dict, no object; texts of common signs -/
def D.rp : D → Prop
  | .non | .bl _ => True
  | .int i => i.natAbs < 10 ^ 570
  | .str x => ∀ c ∈ x.cps.toList, c < 16 ^ 8
  | .lst xs | .tup xs => D.rps xs
  | _ => False
def D.rps : List D → Prop
  | [] => True
  | x :: xs => x.rp ∧ D.rps xs
end
mutual
def D.nodes : D → Nat
  | .str x => 1 + x.length
  | .lst xs | .tup xs => 1 + D.nodesAll xs
  | _ => 1
def D.nodesAll : List D → Nat
  | [] => 0
  | x :: xs => x.nodes + D.nodesAll xs
end
theorem log2_570 {i : Nat} (h : i < 10 ^ 570) : i.log2 < 1920 := by
  by_cases z : i = 0
  · subst z; decide +kernel
  · exact (Nat.log2_lt z).mpr (Nat.lt_trans h (by decide +kernel))
theorem lt10 : (10 : Nat) ^ 570 < 10 ^ 4300 := by decide +kernel
mutual
theorem D.showable : ∀ d : D, d.rp → d.py.showable = true ∧ d.py.hasDict = false
  | .non, _ => ⟨rfl, rfl⟩
  | .bl _, _ => ⟨rfl, rfl⟩
  | .int i, h => ⟨by simp only [D.py, PyData.showable, decide_eq_true_eq]; exact log2_570 (by simpa only [D.rp] using h), rfl⟩
  | .str x, _ => ⟨rfl, rfl⟩
  | .lst xs, h => by
    have z := D.showables xs (by simpa only [D.rp] using h)
    exact ⟨by simpa only [D.py, PyData.showable] using z.1, by simpa only [D.py, PyData.hasDict] using z.2⟩
  | .tup xs, h => by
    have z := D.showables xs (by simpa only [D.rp] using h)
    exact ⟨by simpa only [D.py, PyData.showable] using z.1, by simpa only [D.py, PyData.hasDict] using z.2⟩
  | .dct _, h => by simp only [D.rp] at h
  | .drum _, h => by simp only [D.rp] at h
  | .scr _, h => by simp only [D.rp] at h
  | .ob _ _, h => by simp only [D.rp] at h
theorem D.showables : ∀ ds : List D, D.rps ds → PyData.showableAll (D.pys ds) = true ∧ PyData.hasDictAll (D.pys ds) = false
  | [], _ => ⟨rfl, rfl⟩
  | x :: xs, h => by
    have h' : x.rp ∧ D.rps xs := by simpa only [D.rps] using h
    have a := D.showable x h'.1
    have b := D.showables xs h'.2
    simp only [D.pys, PyData.showableAll, PyData.hasDictAll, a.1, a.2, b.1, b.2, Bool.and_self, Bool.or_self, and_self]
end
theorem D.pys_length : ∀ ds : List D, (D.pys ds).length = ds.length
  | [] => rfl
  | _ :: ds => by simp only [D.pys, List.length_cons, D.pys_length ds]
mutual
theorem D.shown_le : ∀ d : D, d.rp → d.py.shown.length + 2 ≤ 600 * d.nodes
  | .non, _ => by
    have e : (PyData.shown .none).length = 4 := rfl
    simp only [D.py, D.nodes]; omega
  | .bl b, _ => by
    have e : (PyData.shown (.bool b)).length ≤ 5 := by cases b <;> decide
    simp only [D.py, D.nodes]; omega
  | .int i, h => by
    have e := int_text_length_le10 (k := 570) (by decide) (by simpa only [D.rp] using h)
    have e2 : (PyData.shown (.int i)).length = (toString i).length := by
      show (Str.ofString (toString i)).length = _
      rw [ofString_length]
    simp only [D.py, D.nodes]; omega
  | .str x, h => by
    have e := StrLaws.reprText_len x (by simpa only [D.rp] using h)
    have e2 : (PyData.shown (.str x)).length = (reprText x).length := rfl
    simp only [D.py, D.nodes]; omega
  | .lst xs, h => by
    have z := D.shownAll_le xs (by simpa only [D.rp] using h)
    have y := listText_len_le (PyData.shownAll (D.pys xs))
    have w := PyData.shownAll_length (D.pys xs)
    simp only [D.py, PyData.shown, D.nodes]; omega
  | .tup xs, h => by
    have z := D.shownAll_le xs (by simpa only [D.rp] using h)
    have y := tupleText_len_le (PyData.shownAll (D.pys xs))
    have w := PyData.shownAll_length (D.pys xs)
    simp only [D.py, PyData.shown, D.nodes]; omega
  | .dct _, h => by simp only [D.rp] at h
  | .drum _, h => by simp only [D.rp] at h
  | .scr _, h => by simp only [D.rp] at h
  | .ob _ _, h => by simp only [D.rp] at h
theorem D.shownAll_le : ∀ ds : List D, D.rps ds → ((PyData.shownAll (D.pys ds)).map (·.length)).sum + 2 * (D.pys ds).length ≤ 600 * D.nodesAll ds
  | [], _ => by simp only [D.pys, PyData.shownAll, D.nodesAll, List.map_nil, List.sum_nil, List.length_nil]; omega
  | x :: xs, h => by
    have h' : x.rp ∧ D.rps xs := by simpa only [D.rps] using h
    have a := D.shown_le x h'.1
    have b := D.shownAll_le xs h'.2
    simp only [D.pys, PyData.shownAll, D.nodesAll, List.map_cons, List.sum_cons, List.length_cons]
    omega
end
/-- fit for repr -/
def D.rok (d : D) : Prop := d.rp ∧ d.nodes ≤ 20000 ∧ d.py.depth ≤ 60
def D.txt (d : D) : Str := d.py.shown
theorem plain_of_rp : (∀ d : D, d.rp → d.plain = true) := by
  intro d
  refine D.rec (motive_1 := fun d => d.rp → d.plain = true) (motive_2 := fun ds => D.rps ds → D.plains ds = true) (motive_3 := fun _ => True) (motive_4 := fun _ => True) (motive_5 := fun _ => True) (motive_6 := fun _ => True)
    (fun _ => rfl) (fun _ _ => rfl) (fun _ _ => rfl) (fun _ _ => rfl) (fun xs ih h => ?_) (fun xs ih h => ?_) (fun _ _ h => ?_) (fun _ h => ?_) (fun _ h => ?_) (fun _ _ _ h => ?_) (fun _ => rfl) (fun x xs ih1 ih2 h => ?_) True.intro (fun _ _ _ _ => True.intro) True.intro (fun _ _ _ _ => True.intro) (fun _ _ _ => True.intro) (fun _ _ _ => True.intro) d
  · simp only [D.plain]; exact ih (by simpa only [D.rp] using h)
  · simp only [D.plain]; exact ih (by simpa only [D.rp] using h)
  · simp only [D.rp] at h
  · simp only [D.rp] at h
  · simp only [D.rp] at h
  · simp only [D.rp] at h
  · have h' : x.rp ∧ D.rps xs := by simpa only [D.rps] using h
    simp only [D.plains, ih1 h'.1, ih2 h'.2, Bool.and_self]
def cRepr : List D → (D → Prop) → Prop
  | [d], Q => d.rok ∧ Q (.str d.txt)
  | _, _ => False
def rRepr (K : PySem.W.Frag) (q : Dq) : List V → Hp → VK → Prop := fun xs H Q => ∃ x d, xs = [x] ∧ Dt K q H x d ∧ d.rok ∧ Q (.str d.txt) H
section
variable {X : Cx} {q : Dq}
theorem call_repr {k : Nat} (hr : Room k X.A) (hg : X.A.guards = some []) : CallR X (.builtin "repr") (rRepr X.K q) := by
  intro pins s σ H xs us Q I r h
  obtain ⟨x, d, rfl, hd, ⟨h1, h2, h3⟩, z⟩ := h
  cases r with
  | cons r rr =>
    cases rr
    rename_i u
    have fits : d.py.shown.length ≤ sizeLine := by
      have := D.shown_le d h1
      rw [sizeLine_eq]
      omega
    have sh := D.showable d h1
    have hu := hr.units
    obtain ⟨as, rd⟩ := Dp.reads I d.py x u (hd.dp (plain_of_rp d h1)) r
    have go : ∀ a, u = .ref a → wpAny (model X.prog X.w) X.A (call (.builtin "repr") [u]) (EP X pins σ Q) X.xe s := fun a e => by
      subst e
      refine repr_of_reads' rd sh.1 (PyData.noDict_hsm sh.2) hg (by omega) (fun _ _ e => e) (fun h' v tk hk => ?_) fits
      exact ⟨.str d.txt, H, I.kept hk, ⟨v, rfl⟩, z⟩
    cases hd with
    | non => cases r; exact PySem.P.repr_of_none ⟨.str _, H, I.tok _, ⟨_, rfl⟩, z⟩
    | bl b => cases r; exact PySem.P.repr_of_bool ⟨.str _, H, I.tok _, ⟨_, rfl⟩, z⟩
    | int i =>
      obtain ⟨t, rfl⟩ := r
      exact PySem.P.repr_of_int (log2_570 (by simpa only [D.rp] using h1)) ⟨.str _, H, I.tok _, ⟨_, rfl⟩, z⟩
    | str y =>
      obtain ⟨t, rfl⟩ := r
      exact PySem.P.repr_of_str ⟨.str _, H, I.tok _, ⟨_, rfl⟩, z⟩ (by simpa only [D.py, PyData.shown] using fits)
    | lst _ _ => cases r; exact go _ rfl
    | tup _ _ => cases r; exact go _ rfl
    | dct _ _ => simp only [D.rp] at h1
    | drum _ => simp only [D.rp] at h1
    | scr _ => simp only [D.rp] at h1
    | ob _ _ => simp only [D.rp] at h1
theorem cd_repr {k : Nat} (hr : Room k X.A) (hg : X.A.guards = some []) : CallD X q (.builtin "repr") cRepr := ⟨_, call_repr (q := q) hr hg, fun H xs ds Q0 Q hds h c => by
  cases hds with
  | nil => simp only [cRepr] at h
  | cons h1 t1 => cases t1 with
    | nil => exact ⟨_, _, rfl, h1, h.1, c _ H _ (.str _) (.refl _) h.2⟩
    | cons _ _ => simp only [cRepr] at h⟩
end
end DL
/-! T6: targets; statements; loops; comprehensions. -/
namespace DL
open PySem PySem.Spec L2

/-! ### targets -/
abbrev DGs := List D → SEnv → Nat → (SEnv → Nat → Prop) → Prop
def dTGs (K : PySem.W.Frag) (q : Dq) (H0 : Hp) (ow : List Nat) (g : DGs) : TGs := fun vs σ H Q => ∃ ρ n ds R, Rel K q H0 ρ n σ H ∧ DtAll K q H vs ds ∧ g ds ρ n R ∧
  ∀ σ' H' ρ' n', FrX H H' → Same H H' → Rel K q H0 ρ' n' σ' H' → σ'.length = σ.length → (∀ j, j ∉ ow → σ'[j]? = σ[j]?) → R ρ' n' → Q σ' H'
structure DGts (X : Cx) (q : Dq) (H0 : Hp) (ow : List Nat) (es : List Expr) (g : DGs) : Prop where
  pgs : PGs X es (dTGs X.K q H0 ow g)
def dgName (i : Nat) : DG := fun d ρ n R => i < ρ.length ∧ R (ρ.set i (.d d)) n
def dgNil : DGs := fun ds ρ n R => ds = [] ∧ R ρ n
def dgCons (g : DG) (gs : DGs) : DGs := fun ds ρ n R => ∃ d r, ds = d :: r ∧ g d ρ n (fun ρ1 n1 => gs r ρ1 n1 R)
def dgTup (k : Nat) (gs : DGs) : DG := fun d ρ n R => ∃ ds, (d = .tup ds ∨ d = .lst ds) ∧ ds.length = k ∧ gs ds ρ n R
section
variable {X : Cx} {q : Dq} {H0 : Hp} {E : XK} {e : Expr} {es : List Expr} {pos : Pos} {ow ow' : List Nat} {g : DG} {gs : DGs}
theorem _root_.L2.PGs.imp {t t' : TGs} (h : PGs X es t) (i : ∀ v σ H Q, t' v σ H Q → t v σ H Q) : PGs X es t' := ⟨fun pins s σ H v u Q I r hw => h.run pins s σ H v u Q I r (i v σ H Q hw)⟩
theorem _root_.L2.PG.or {t t' : TG} (h : PG X e t) (h' : PG X e t') : PG X e (fun v σ H Q => t v σ H Q ∨ t' v σ H Q) := ⟨fun pins s σ H v u Q I r hw => hw.elim (fun z => h.run pins s σ H v u Q I r z) fun z => h'.run pins s σ H v u Q I r z⟩
theorem dg_name (i : Nat) {x : Str} (hN : X.N.Nodup) (hi : X.N[i]? = some x := by rfl) (hx : Loc X.env.scope x := by first | exact .inl rfl | exact .inr rfl) (hf : X.fn x = true ∨ X.env.scope.names.lookup x = some .local := by first | exact .inl rfl | exact .inr rfl | assumption) : DGt X q H0 [i] (.Name x pos) (dgName i) :=
  ⟨(pg_name hN hi hx hf).imp fun v σ H Q ⟨ρ, n, d, R, Rl, hd, ⟨hl, h⟩, c⟩ => by
    have hl' : i < σ.length := by rw [← Rl.len]; exact hl
    exact c _ H _ n (.refl _) (.refl _) (Rl.set hd hl') (by simp) (fun j hj => by rw [List.getElem?_set_ne (fun z => hj (by simp [z]))]) h⟩
theorem dg_nil : DGts X q H0 [] [] dgNil := ⟨pgs_nil.imp fun vs σ H Q ⟨ρ, n, ds, R, Rl, hd, ⟨e, h⟩, c⟩ => by
  subst e
  cases hd
  exact ⟨rfl, c σ H ρ n (.refl _) (.refl _) Rl rfl (fun _ _ => rfl) h⟩⟩
theorem dg_cons (h1 : DGt X q H0 ow e g) (h2 : DGts X q H0 ow' es gs) (hs : (assignEach (e :: es) X.env).map (·.2) = assign e X.env :: (assignEach es X.env).map (·.2) := by rfl) : DGts X q H0 (ow ++ ow') (e :: es) (dgCons g gs) := by
  refine ⟨(pgs_cons h1.pg h2.pgs hs).imp fun vs σ H Q ⟨ρ, n, ds, R, Rl, hd, ⟨d, r, e, h⟩, c⟩ => ?_⟩
  subst e
  cases hd with
  | cons hd ht =>
    refine ⟨_, _, rfl, ρ, n, d, _, Rl, hd, h, fun σ1 H1 ρ1 n1 f1 s1 R1 l1 a1 hr => ?_⟩
    refine ⟨ρ1, n1, r, R, R1, ht.up f1, hr, fun σ2 H2 ρ2 n2 f2 s2 R2 l2 a2 hq => ?_⟩
    exact c σ2 H2 ρ2 n2 (f1.trans f2) (s1.trans s2) R2 (l2.trans l1) (fun j hj => by
      rw [a2 j fun z => hj (List.mem_append_right _ z), a1 j fun z => hj (List.mem_append_left _ z)]) hq
theorem dg_tup {k : Nat} {kk : Nat} (hc : X.calm = true) (h : DGts X q H0 ow es gs) (hn : (assignEach es X.env).length = k := by rfl) (hst : (assignEach es X.env).findIdx? (·.1) = none := by rfl) : DGt X q H0 ow (.Tuple es kk pos) (dgTup k gs) := by
  refine ⟨((pg_tup (k := kk) hc h.pgs hn hst).or (pg_unl hc h.pgs hn hst)).imp fun v σ H Q ⟨ρ, n, d, R, Rl, hd, ⟨ds, e, hl, h⟩, c⟩ => ?_⟩
  rcases e with e | e
  · subst e
    cases hd with
    | tup ha va => exact .inl ⟨_, _, rfl, ha, va.length.trans hl, ρ, n, ds, R, Rl, va, h, c⟩
  · subst e
    cases hd with
    | lst ha va => exact .inr ⟨_, _, rfl, SqL.of ha, va.length.trans hl, ρ, n, ds, R, Rl, va, h, c⟩
end

/-! ### statements -/
def dRet (t : DT) : DS := fun G ρ n => t ρ n G.rt G.ex
def dRetN : DS := fun G _ n => G.rt .non n
def dDrop (t : DT) : DS := fun G ρ n => t ρ n (fun _ n1 => G.nx ρ n1) G.ex
def dSet (i : Nat) (t : DT) : DS := fun G ρ n => t ρ n (fun x n1 => i < ρ.length ∧ G.nx (ρ.set i (.d x)) n1) G.ex
def dAsg (t : DT) (g : DG) : DS := fun G ρ n => t ρ n (fun x n1 => g x ρ n1 G.nx) G.ex
def dPar (i j : Nat) (ta tb : DT) : DS := fun G ρ n => ta ρ n (fun x n1 => tb ρ n1 (fun y n2 => (i < ρ.length ∧ j < ρ.length) ∧ G.nx ((ρ.set i (.d x)).set j (.d y)) n2) G.ex) G.ex
def dIfS (c : DTT) (t u : DS) : DS := fun G ρ n => c ρ n (fun b n1 => if b = true then t G ρ n1 else u G ρ n1) G.ex
def dNext : DS := fun G ρ n => G.nx ρ n
def dSeq (t u : DS) : DS := fun G ρ n => t { G with nx := u G } ρ n
def dBrk : DS := fun G ρ n => G.bk ρ n
def dCont : DS := fun G ρ n => G.ct ρ n

section
variable {X : Cx} {q : Dq} {H0 : Hp} {E : XK} {e a b : Expr} {es : List Expr} {t ta tb : DT} {tt : DTT} {g : DG} {pos : Pos} {st : Stmt} {sts rest : List Stmt} {s u : DS} {ow : List Nat}
theorem Rel.dr' {K : PySem.W.Frag} {ρ : SEnv} {n : Nat} {σ : L2.St} {H : Hp} (R : Rel K q H0 ρ n σ H) : Dr K q n H := R.dr
theorem dTS_mk {K : PySem.W.Frag} {ρ : SEnv} {n : Nat} {G : EndsD} {σ : L2.St} {H : Hp} {D : Ends} (R : Rel K q H0 ρ n σ H) (h : s G ρ n)
    (cn : ∀ σ' H' ρ' n', FrX H H' → Rel K q H0 ρ' n' σ' H' → G.nx ρ' n' → D.nx σ' H')
    (cr : ∀ v H' d n', Dt K q H' v d → FrX H H' → Fr q H0 H' → Dr K q n' H' → G.rt d n' → D.rt v H')
    (cb : ∀ σ' H' ρ' n', FrX H H' → Rel K q H0 ρ' n' σ' H' → G.bk ρ' n' → D.bk σ' H')
    (cc : ∀ σ' H' ρ' n', FrX H H' → Rel K q H0 ρ' n' σ' H' → G.ct ρ' n' → D.ct σ' H') (o : ErOk K q H0 G.ex E) : dTS K q H0 E s D σ H := ⟨ρ, n, G, R, h, cn, cr, cb, cc, o⟩
theorem ds_ret (he : DE X q H0 E e t) : DSt X q H0 E (.Return (some e) pos) (dRet t) := ⟨(ps_ret he.pe).imp fun D σ H ⟨ρ, n, G, R, h, cn, cr, cb, cc, o⟩ =>
  dTE_mk R h (fun v H' d n' hd f1 R1 hq => cr v H' d n' hd (f1.x R.dr) R1.fr R1.dr hq) o⟩
theorem ds_retN : DSt X q H0 E (.Return none pos) dRetN := ⟨ps_retN.imp fun D σ H ⟨ρ, n, G, R, h, cn, cr, cb, cc, o⟩ => cr _ H _ n .non (.refl _) R.fr R.dr h⟩
theorem ds_expr (he : DE X q H0 E e t) (hs : swapsWith e none pos.line X.env = pure false := by rfl) : DSt X q H0 E (.Expr e pos) (dDrop t) := ⟨(ps_expr he.pe hs).imp fun D σ H ⟨ρ, n, G, R, h, cn, cr, cb, cc, o⟩ =>
  dTE_mk R h (fun v H' d n' hd f1 R1 hq => cn σ H' ρ n' (f1.x R.dr) R1 hq) o⟩
theorem ds_doc {x j pos'} : DSt X q H0 E (.Expr (.Constant (.str x) j pos) pos') dNext := ⟨ps_doc.imp fun D σ H ⟨ρ, n, G, R, h, cn, cr, cb, cc, o⟩ => cn σ H ρ n (.refl _) R h⟩
theorem ds_set (i : Nat) {x : Str} {pos' : Pos} (hN : X.N.Nodup) (he : DE X q H0 E e t) (hi : X.N[i]? = some x := by rfl) (hx : Loc X.env.scope x := by first | exact .inl rfl | exact .inr rfl) (hs : swapsWith e (some (.Name x pos')) pos.line X.env = pure false := by rfl)
    (hf : X.fn x = true ∨ X.env.scope.names.lookup x = some .local := by first | exact .inl rfl | exact .inr rfl | assumption) : DSt X q H0 E (.Assign [.Name x pos'] e pos) (dSet i t) := ⟨(ps_set hN hi hx he.pe hs hf).imp fun D σ H ⟨ρ, n, G, R, h, cn, cr, cb, cc, o⟩ =>
  dTE_mk R h (fun v H' d n' hd f1 R1 ⟨hl, hq⟩ => cn _ H' _ n' (f1.x R.dr) (R1.set hd (by rw [← R1.len]; exact hl)) hq) o⟩
theorem ds_asg {tg : Expr} (he : DE X q H0 E e t) (hg : DGt X q H0 ow tg g) (hs : swapsWithSole [tg] e pos.line X.env = pure false := by rfl) (hw : swappedStores [tg] e X.env = pure none := by rfl)
    (h1 : (assignEach [tg] X.env).map (·.2) = [assign tg X.env] := by rfl) : DSt X q H0 E (.Assign [tg] e pos) (dAsg t g) := ⟨(ps_asg he.pe hg.pg hs hw h1).imp fun D σ H ⟨ρ, n, G, R, h, cn, cr, cb, cc, o⟩ =>
  dTE_mk R h (fun v H' d n' hd f1 R1 hq => ⟨ρ, n', d, G.nx, R1, hd, hq, fun σ2 H2 ρ2 n2 f2 s2 R2 _ _ hr => cn σ2 H2 ρ2 n2 ((f1.x R.dr).trans f2) R2 hr⟩) o⟩
theorem ds_par {x y : Str} {px py pt : Pos} {kt k2 : Nat} {pt2 : Pos} (i j : Nat) (hc : X.calm = true) (hN : X.N.Nodup) (ha : DE X q H0 E a ta) (hb : DE X q H0 E b tb) (hi : X.N[i]? = some x := by rfl) (hj : X.N[j]? = some y := by rfl) (hij : i ≠ j := by decide)
    (hx : X.env.scope.names.lookup x = some .local := by rfl) (hy : X.env.scope.names.lookup y = some .local := by rfl)
    (hw : swappedStores [.Tuple [.Name x px, .Name y py] kt pt] (.Tuple [a, b] k2 pt2) X.env = pure (some [x, y]) := by rfl)
    (hs : swapsWithSole [.Tuple [.Name x px, .Name y py] kt pt] (.Tuple [a, b] k2 pt2) pos.line X.env = pure false := by rfl)
    (hs1 : starEach [a, b] X.env = (false, eval a X.env) :: starEach [b] X.env := by rfl) (hs2 : starEach [b] X.env = (false, eval b X.env) :: starEach [] X.env := by rfl) :
    DSt X q H0 E (.Assign [.Tuple [.Name x px, .Name y py] kt pt] (.Tuple [a, b] k2 pt2) pos) (dPar i j ta tb) := by
  refine ⟨(ps_par hc hN hi hj hij hx hy (pa_cons ha.pe (pa_cons hb.pe pa_nil hs2) hs1) hw hs).imp fun D σ H ⟨ρ, n, G, R, h, cn, cr, cb, cc, o⟩ => ?_⟩
  refine dTE_mk R h (fun v H1 d n1 hd f1 R1 h1 => ?_) o
  refine dTE_mk R1 h1 (fun w H2 d2 n2 hd2 f2 R2 ⟨⟨l1, l2⟩, h2⟩ => ?_) o
  refine ⟨v, w, rfl, cn _ H2 _ n2 ((f1.trans f2).x R.dr) ?_ h2⟩
  have l1' : i < σ.length := by rw [← R2.len]; exact l1
  have l2' : j < (σ.set i (some v)).length := by rw [List.length_set, ← R2.len]; exact l2
  exact (R2.set (hd.up (f2.x R1.dr)) l1').set hd2 l2'
theorem ds_if {c : Expr} {x y : List Stmt} (hc : DTe X q H0 E c tt) (ha : DSs X q H0 E x s) (hb : DSs X q H0 E y u) : DSt X q H0 E (.If c x y pos) (dIfS tt s u) := by
  refine ⟨(ps_if hc.pt ha.pss hb.pss).imp fun D σ H ⟨ρ, n, G, R, h, cn, cr, cb, cc, o⟩ => ?_⟩
  refine dTT_mk R h (fun k H1 n1 f1 R1 h1 => ?_) o
  have fx := f1.x R.dr
  cases k with
  | true => exact dTS_mk R1 h1 (fun σ2 H2 ρ2 n2 f2 R2 hq => cn σ2 H2 ρ2 n2 (fx.trans f2) R2 hq) (fun v H2 d n2 hd f2 r2 d2 hq => cr v H2 d n2 hd (fx.trans f2) r2 d2 hq) (fun σ2 H2 ρ2 n2 f2 R2 hq => cb σ2 H2 ρ2 n2 (fx.trans f2) R2 hq) (fun σ2 H2 ρ2 n2 f2 R2 hq => cc σ2 H2 ρ2 n2 (fx.trans f2) R2 hq) o
  | false => exact dTS_mk R1 h1 (fun σ2 H2 ρ2 n2 f2 R2 hq => cn σ2 H2 ρ2 n2 (fx.trans f2) R2 hq) (fun v H2 d n2 hd f2 r2 d2 hq => cr v H2 d n2 hd (fx.trans f2) r2 d2 hq) (fun σ2 H2 ρ2 n2 f2 R2 hq => cb σ2 H2 ρ2 n2 (fx.trans f2) R2 hq) (fun σ2 H2 ρ2 n2 f2 R2 hq => cc σ2 H2 ρ2 n2 (fx.trans f2) R2 hq) o
theorem dss_nil : DSs X q H0 E [] dNext := ⟨pss_nil.imp fun D σ H ⟨ρ, n, G, R, h, cn, cr, cb, cc, o⟩ => cn σ H ρ n (.refl _) R h⟩
theorem dss_one (h : DSt X q H0 E st s) : DSs X q H0 E [st] s := ⟨pss_one h.ps⟩
theorem dss_cons (h1 : DSt X q H0 E st s) (h2 : DSs X q H0 E rest u) : DSs X q H0 E (st :: rest) (dSeq s u) := by
  refine ⟨(pss_cons h1.ps h2.pss).imp fun D σ H ⟨ρ, n, G, R, h, cn, cr, cb, cc, o⟩ => ?_⟩
  refine dTS_mk (G := { G with nx := u G }) R h (fun σ1 H1 ρ1 n1 f1 R1 h1 => ?_) cr cb cc o
  exact dTS_mk R1 h1 (fun σ2 H2 ρ2 n2 f2 R2 hq => cn σ2 H2 ρ2 n2 (f1.trans f2) R2 hq) (fun v H2 d n2 hd f2 r2 d2 hq => cr v H2 d n2 hd (f1.trans f2) r2 d2 hq) (fun σ2 H2 ρ2 n2 f2 R2 hq => cb σ2 H2 ρ2 n2 (f1.trans f2) R2 hq) (fun σ2 H2 ρ2 n2 f2 R2 hq => cc σ2 H2 ρ2 n2 (f1.trans f2) R2 hq) o
theorem ds_pass : DSt X q H0 E (.Pass pos) dNext := ⟨ps_pass.imp fun D σ H ⟨ρ, n, G, R, h, cn, cr, cb, cc, o⟩ => cn σ H ρ n (.refl _) R h⟩
theorem ds_brk : DSt X q H0 E (.Break pos) dBrk := ⟨ps_break.imp fun D σ H ⟨ρ, n, G, R, h, cn, cr, cb, cc, o⟩ => cb σ H ρ n (.refl _) R h⟩
theorem ds_cont : DSt X q H0 E (.Continue pos) dCont := ⟨ps_continue.imp fun D σ H ⟨ρ, n, G, R, h, cn, cr, cb, cc, o⟩ => cc σ H ρ n (.refl _) R h⟩
end

/-! ### while -/
def dWhile (c : DTT) (tb : DS) : DS := fun G ρ n => ∃ W : Nat → SEnv → Nat → Prop, (∃ m, W m ρ n) ∧ ∀ m ρ n, W m ρ n →
  c ρ n (fun b n1 => if b = true then tb { nx := fun ρ' n' => ∃ m', m' < m ∧ W m' ρ' n', rt := G.rt, bk := G.nx, ct := fun ρ' n' => ∃ m', m' < m ∧ W m' ρ' n', ex := G.ex } ρ n1 else G.nx ρ n1) G.ex
theorem ds_while {X : Cx} {q : Dq} {H0 : Hp} {E : XK} {c : Expr} {body : List Stmt} {tc : DTT} {tb : DS} {pos : Pos} (hp : PassesOwn (model X.prog X.w) X.A X.env X.xe) (hc : DTe X q H0 E c tc) (hb : DSs X q H0 E body tb) : DSt X q H0 E (.While c body [] pos) (dWhile tc tb) := by
  refine ⟨(ps_while hp hc.pt hb.pss).imp fun D σ H ⟨ρ, n, G, R, ⟨W, ⟨m0, w0⟩, h⟩, cn, cr, cb, cc, o⟩ => ?_⟩
  refine ⟨fun m σ1 H1 => FrX H H1 ∧ ∃ ρ1 n1, Rel X.K q H0 ρ1 n1 σ1 H1 ∧ W m ρ1 n1, ⟨m0, .refl _, ρ, n, R, w0⟩, ?_⟩
  rintro m σ1 H1 ⟨f1, ρ1, n1, R1, w1⟩
  refine dTT_mk R1 (h m ρ1 n1 w1) (fun k H2 n2 f2 R2 h2 => ?_) o
  have fx := f1.trans (f2.x R1.dr)
  cases k with
  | true =>
    refine ⟨fun σ' H' => ∃ m', m' < m ∧ FrX H H' ∧ ∃ ρ1 n1, Rel X.K q H0 ρ1 n1 σ' H' ∧ W m' ρ1 n1, fun _ _ z => z, ?_⟩
    exact dTS_mk R2 h2 (fun σ3 H3 ρ3 n3 f3 R3 ⟨m', lt, w3⟩ => ⟨m', lt, fx.trans f3, ρ3, n3, R3, w3⟩) (fun v H3 d n3 hd f3 r3 d3 hq => cr v H3 d n3 hd (fx.trans f3) r3 d3 hq) (fun σ3 H3 ρ3 n3 f3 R3 hq => cn σ3 H3 ρ3 n3 (fx.trans f3) R3 hq)
      (fun σ3 H3 ρ3 n3 f3 R3 ⟨m', lt, w3⟩ => ⟨m', lt, fx.trans f3, ρ3, n3, R3, w3⟩) o
  | false => exact cn σ1 H2 ρ1 n2 fx R2 h2

/-! ### what is walked -/
structure ItOk (K : PySem.W.Frag) (q : Dq) (J : It) (ds : List D) (H1 : Hp) : Prop where
  go : ∀ i H, FrX H1 H → i < ds.length → J.go i H
  yld : ∀ i H x H', FrX H1 H → i < ds.length → J.yld i H x H' → Same H H' ∧ ∃ d, ds[i]? = some d ∧ ∀ Hm, FrX H1 Hm → (∀ b o, H b = none → H' b = some o → Hm b = some o) → Dt K q Hm x d
  stop : ∀ H, FrX H1 H → J.stop ds.length H
abbrev DTI := SEnv → Nat → (List D → Nat → Prop) → QE → Prop
def dTI (K : PySem.W.Frag) (q : Dq) (H0 : Hp) (E : XK) (t : DTI) : TI := fun σ H R => ∃ ρ n Q0 F, Rel K q H0 ρ n σ H ∧ t ρ n Q0 F ∧
  (∀ J H' ds n', ItOk K q J ds H' → Fr q H H' → Rel K q H0 ρ n' σ H' → Q0 ds n' → R J H') ∧ ErOk K q H0 F E
structure DI (X : Cx) (q : Dq) (H0 : Hp) (E : XK) (tg iter : Expr) (t : DTI) : Prop where
  pi : PI X tg iter (dTI X.K q H0 E t)
theorem _root_.L2.PI.imp {X : Cx} {tg e : Expr} {t t' : TI} (h : PI X tg e t) (i : ∀ σ H R, t' σ H R → t σ H R) : PI X tg e t' := ⟨fun pins s σ H R I hw => h.run pins s σ H R I (i σ H R hw)⟩
theorem _root_.L2.PI.or {X : Cx} {tg e : Expr} {t t' : TI} (h : PI X tg e t) (h' : PI X tg e t') : PI X tg e (fun σ H R => t σ H R ∨ t' σ H R) := ⟨fun pins s σ H R I hw => hw.elim (fun z => h.run pins s σ H R I z) fun z => h'.run pins s σ H R I z⟩
section
variable {X : Cx} {q : Dq} {H0 : Hp} {E : XK} {tg e a b : Expr} {t ta tb : DT} {ts : DTA} {p pos : Pos}
theorem itOk_list {K : PySem.W.Frag} {H : Hp} {a : Addr} {vs : List V} {ds : List D} (ha : H a = some (.lst vs)) (va : DtAll K q H vs ds) : ItOk K q (Itl K a) ds H where
  go := fun i H1 f hi => ⟨vs, vs[i]'(by rw [va.length]; exact hi), SqL.of (f _ _ ha True.intro), by simp⟩
  yld := fun i H1 x H2 f hi ⟨e1, k⟩ => by
    subst e1
    obtain ⟨d, e2, hd⟩ := va.getV (k vs (SqL.of (f _ _ ha True.intro)))
    exact ⟨.refl _, d, e2, fun Hm fm _ => hd.up fm⟩
  stop := fun H1 f => ⟨vs, SqL.of (f _ _ ha True.intro), by rw [va.length]; exact Nat.le_refl _⟩
theorem itOk_tup {K : PySem.W.Frag} {H : Hp} {a : Addr} {vs : List V} {ds : List D} (ha : SqT K H a vs) (va : DtAll K q H vs ds) : ItOk K q (Itt K a) ds H where
  go := fun i H1 f hi => ⟨vs, vs[i]'(by rw [va.length]; exact hi), sqT_up f ha, by simp⟩
  yld := fun i H1 x H2 f hi ⟨e1, k⟩ => by
    subst e1
    obtain ⟨d, e2, hd⟩ := va.getV (k vs (sqT_up f ha))
    exact ⟨.refl _, d, e2, fun Hm fm _ => hd.up fm⟩
  stop := fun H1 f => ⟨vs, sqT_up f ha, by rw [va.length]; exact Nat.le_refl _⟩
/-- over a list or a tuple -/
def dSeqI (t : DT) : DTI := fun ρ n Q F => t ρ n (fun x n1 => ∃ ds, (x = .lst ds ∨ x = .tup ds) ∧ Q ds n1) F
theorem di_seq (he : DE X q H0 E e t) : DI X q H0 E tg e (dSeqI t) := by
  have h1 : PI X tg e (fun σ H R => dTE X.K q H0 E t σ H fun x H1 => ∃ a, x = .ref a ∧ (((∃ xs, SqL X.K H1 a xs) ∧ R (Itl X.K a) H1) ∨ ((∃ xs, SqT X.K H1 a xs) ∧ R (Itt X.K a) H1))) := by
    refine ⟨fun pins s σ H R I h => ?_⟩
    refine thn (he.pe.run pins s σ H _ I h) fun v s1 ⟨x, H1, I1, r1, q1⟩ => ?_
    obtain ⟨a, e, q1⟩ := q1
    subst e
    cases r1
    rcases q1 with ⟨⟨xs, hq⟩, q⟩ | ⟨⟨xs, hq⟩, q⟩
    · obtain ⟨its, rv, p, hz⟩ := I1.list hq
      refine wpAny_pyIter_list p.isList ?_
      refine ⟨s1.heap.objs.size, [s1.heap.objs.size], _, _, H1, rfl, I1.kept (t' := s1.toks) fun b o e => Heap.get?_push_of_some _ e, turn_list a _, ⟨_, Heap.get?_push_size _ rfl, rfl, rfl⟩, fun b hb => ?_, q⟩
      have e : b = s1.heap.objs.size := by simpa using hb
      subst e
      exact I1.fpOk (Nat.le_refl _) (I1.hok.fresh (Nat.le_refl _))
    · obtain ⟨its, rv, p, hz⟩ := I1.tuple hq
      refine wpAny_pyIter_tuple (show s1.heap.IsTuple a its.toArray from p) ?_
      refine ⟨s1.heap.objs.size, [s1.heap.objs.size], _, _, H1, rfl, I1.kept (t' := s1.toks) fun b o e => Heap.get?_push_of_some _ e, turn_tuple a _, ⟨_, Heap.get?_push_size _ rfl, rfl, rfl⟩, fun b hb => ?_, q⟩
      have e : b = s1.heap.objs.size := by simpa using hb
      subst e
      exact I1.fpOk (Nat.le_refl _) (I1.hok.fresh (Nat.le_refl _))
  refine ⟨h1.imp fun σ H R ⟨ρ, n, Q0, F, Rl, h, c, o⟩ => ?_⟩
  refine dTE_mk Rl h (fun x H1 dx n1 hx f1 R1 ⟨ds, e, h1⟩ => ?_) o
  rcases e with e | e
  · subst e
    cases hx with
    | lst ha va => exact ⟨_, rfl, .inl ⟨⟨_, SqL.of ha⟩, c _ H1 ds n1 (itOk_list ha va) f1 R1 h1⟩⟩
  · subst e
    cases hx with
    | tup ha va => exact ⟨_, rfl, .inr ⟨⟨_, ha⟩, c _ H1 ds n1 (itOk_tup ha va) f1 R1 h1⟩⟩
/-- the ints from lo on, n of them -/
def rgD (lo : Int) (n : Nat) : List D := (List.range n).map fun (i : Nat) => D.int (lo + (i : Int))
theorem rgD_length (lo : Int) (n : Nat) : (rgD lo n).length = n := by simp [rgD]
theorem itOk_rng {K : PySem.W.Frag} {H : Hp} {lo : Int} {n : Nat} : ItOk K q (Itr lo n) (rgD lo n) H where
  go := fun i H1 f hi => by rw [rgD_length] at hi; exact hi
  yld := fun i H1 x H2 f hi ⟨e1, e2⟩ => by
    subst e1 e2
    rw [rgD_length] at hi
    exact ⟨.refl _, .int (lo + i), by simp [rgD, hi], fun Hm fm _ => .int _⟩
  stop := fun H1 f => by rw [rgD_length]; exact Nat.le_refl n
def dRng1 (ta : DT) : DTI := fun ρ n Q F => ta ρ n (fun x n1 => ∃ j : Int, x = .int j ∧ (-(2 ^ 62) ≤ j ∧ j < 2 ^ 62) ∧ Q (rgD 0 j.toNat) n1) F
theorem di_rng1 (hg : Gl X "range") (hm : X.mg "range" = none) (ha : DE X q H0 E a ta) (hs : starEach [a] X.env = [(false, eval a X.env)] := by rfl) : DI X q H0 E tg (.Call (.Name "range" p) [a] [] pos) (dRng1 ta) := by
  refine ⟨(pi_range1 hg hm (pa_cons ha.pe pa_nil (by rw [hs]; rfl)) hs).imp fun σ H R ⟨ρ, n, Q0, F, Rl, h, c, o⟩ => ?_⟩
  refine dTE_mk Rl h (fun x H1 dx n1 hx f1 R1 ⟨j, e, ⟨h1, h2⟩, h3⟩ => ?_) o
  subst e
  cases hx
  exact ⟨j, rfl, h1, h2, c _ H1 _ n1 itOk_rng f1 R1 h3⟩
def dRng2 (ta tb : DT) : DTI := fun ρ n Q F => ta ρ n (fun x n1 => tb ρ n1 (fun y n2 => ∃ i j : Int, x = .int i ∧ y = .int j ∧ (-(2 ^ 62) ≤ i ∧ i < 2 ^ 62 ∧ -(2 ^ 62) ≤ j ∧ j < 2 ^ 62) ∧ Q (rgD i (j - i).toNat) n2) F) F
theorem di_rng2 (hg : Gl X "range") (hm : X.mg "range" = none) (ha : DE X q H0 E a ta) (hb : DE X q H0 E b tb) (hs : starEach [a, b] X.env = [(false, eval a X.env), (false, eval b X.env)] := by rfl) (hs2 : starEach [b] X.env = [(false, eval b X.env)] := by rfl) : DI X q H0 E tg (.Call (.Name "range" p) [a, b] [] pos) (dRng2 ta tb) := by
  refine ⟨(pi_range2 hg hm (pa_cons ha.pe (pa_cons hb.pe pa_nil (by rw [hs2]; rfl)) (by rw [hs, hs2])) hs hs2).imp fun σ H R ⟨ρ, n, Q0, F, Rl, h, c, o⟩ => ?_⟩
  refine dTE_mk Rl h (fun x H1 dx n1 hx f1 R1 h1 => ?_) o
  refine dTE_mk R1 h1 (fun y H2 dy n2 hy f2 R2 ⟨i, j, e1, e2, hb, h3⟩ => ?_) o
  subst e1 e2
  cases hx
  cases hy
  exact ⟨i, j, rfl, hb, c _ H2 _ n2 itOk_rng (f1.trans f2) R2 h3⟩
end

/-! ### for -/
def forD (g : DG) (tb : DS) (G : EndsD) : List D → SEnv → Nat → Prop
  | [], ρ, n => G.nx ρ n
  | d :: ds, ρ, n => g d ρ n (fun ρ1 n1 => tb { nx := forD g tb G ds, rt := G.rt, bk := G.nx, ct := forD g tb G ds, ex := G.ex } ρ1 n1)
def dFor (it : DTI) (g : DG) (tb : DS) : DS := fun G ρ n => it ρ n (fun ds n1 => forD g tb G ds ρ n1) G.ex
theorem ds_for {X : Cx} {q : Dq} {H0 : Hp} {E : XK} {tg iter : Expr} {body : List Stmt} {it : DTI} {g : DG} {tb : DS} {ow : List Nat} {pos : Pos} (hp : PassesOwn (model X.prog X.w) X.A X.env X.xe) (hc : X.calm = true) (hi : DI X q H0 E tg iter it) (hg : DGt X q H0 ow tg g) (hb : DSs X q H0 E body tb)
    (hs : ∀ x, foldedSetIterable iter X.env x = pure x := by intro _; rfl) : DSt X q H0 E (.For tg iter body [] pos) (dFor it g tb) := by
  refine ⟨(ps_for hp hc hi.pi hg.pg hb.pss hs).imp fun D σ H ⟨ρ, n, G, R, h, cn, cr, cb, cc, o⟩ => ?_⟩
  refine ⟨ρ, n, _, G.ex, R, h, fun J H1 ds n1 ok f1 R1 h1 => ?_, o⟩
  have f1x := f1.x R.dr
  refine ⟨fun i m σ' H' => m = ds.length - i ∧ i ≤ ds.length ∧ FrX H1 H' ∧ ∃ ρ' n', Rel X.K q H0 ρ' n' σ' H' ∧ forD g tb G (ds.drop i) ρ' n', ⟨ds.length, by simp, Nat.zero_le _, .refl _, ρ, n1, R1, h1⟩, ?_⟩
  rintro i m σ2 H2 ⟨rfl, hi, f2, ρ2, n2, R2, h2⟩
  by_cases hlt : i < ds.length
  · refine .inr ⟨ok.go i H2 f2 hlt, fun σ' H' => FrX H1 H' ∧ ∃ ρ' n', Rel X.K q H0 ρ' n' σ' H' ∧ forD g tb G (ds.drop (i + 1)) ρ' n', fun σ' H' z => ⟨ds.length - (i + 1), by omega, rfl, hlt, z⟩, fun x H3 y => ?_⟩
    obtain ⟨s3, d, e3, k3⟩ := ok.yld i H2 x H3 f2 hlt y
    have f3 : FrX H1 H3 := f2.trans (.of_same s3)
    have hd := k3 H3 f3 fun _ _ _ z => z
    have e4 : ds.drop i = d :: ds.drop (i + 1) := by
      rw [List.drop_eq_getElem_cons hlt]
      congr
      exact Option.some.inj ((List.getElem?_eq_getElem hlt).symm.trans e3)
    rw [e4] at h2
    refine ⟨ρ2, n2, d, _, R2.same s3, hd, h2, fun σ4 H4 ρ4 n4 f4 s4 R4 _ _ h4 => ?_⟩
    have f14 := f3.trans f4
    exact dTS_mk R4 h4 (fun σ5 H5 ρ5 n5 f5 R5 h5 => ⟨f14.trans f5, ρ5, n5, R5, h5⟩) (fun v H5 d n5 hd f5 r5 d5 hq => cr v H5 d n5 hd ((f1x.trans f14).trans f5) r5 d5 hq) (fun σ5 H5 ρ5 n5 f5 R5 h5 => cn σ5 H5 ρ5 n5 ((f1x.trans f14).trans f5) R5 h5)
      (fun σ5 H5 ρ5 n5 f5 R5 h5 => ⟨f14.trans f5, ρ5, n5, R5, h5⟩) o
  · have e : i = ds.length := by omega
    subst e
    rw [List.drop_length] at h2
    exact .inl ⟨ok.stop H2 f2, cn σ2 H2 ρ2 n2 (f1x.trans f2) R2 h2⟩
end DL
/-! T7: comprehensions; lists that one slot owns. -/
namespace DL
open PySem PySem.Spec L2

theorem upd_id {H : Hp} {a : Addr} {o : HO} (h : H a = some o) : upd H a o = H := by
  funext b
  unfold upd
  split
  · rename_i e
    subst e
    exact h.symm
  · rfl
theorem same_updd {H H' : Hp} {a : Addr} {o : HO} (s : Same H H') : Same (upd H a o) (upd H' a o) := fun b u e => by
  by_cases hb : b = a
  · subst hb
    rw [upd_same] at e ⊢
    exact e
  · rw [upd_ne hb] at e ⊢
    exact s b u e

/-! ### a list that grows is hidden while the block runs -/
section
variable {X : Cx} {e : Expr} {ifs : List Expr} {t : TE} {tt : TT} {g : TG}
def mkE (t : TE) : TE := fun σ H Q => ∃ A xs, H A = some (.lst xs) ∧ t σ (upd H A (MutL A xs)) fun v H' => H' A = some (MutL A xs) ∧ Q v (upd H' A (.lst xs))
def mkT (t : TT) : TT := fun σ H Q => ∃ A xs, H A = some (.lst xs) ∧ t σ (upd H A (MutL A xs)) fun v H' => H' A = some (MutL A xs) ∧ Q v (upd H' A (.lst xs))
def mkG (t : TG) : TG := fun v σ H Q => ∃ A xs, H A = some (.lst xs) ∧ t v σ (upd H A (MutL A xs)) fun σ' H' => H' A = some (MutL A xs) ∧ Q σ' (upd H' A (.lst xs))
theorem pe_mk' (h : PE X e t) : PE X e (mkE t) := ⟨fun pins s σ H Q I ⟨A, xs, e1, hw⟩ =>
  thn (h.run pins s σ _ _ (inv_hide I e1) hw) fun v s1 ⟨x, H1, I1, r1, e2, q1⟩ => ⟨x, _, inv_show I1 e2, r1, q1⟩⟩
theorem pt_mk (h : PT X e tt) : PT X e (mkT tt) := ⟨fun pins s σ H Q I ⟨A, xs, e1, hw⟩ =>
  thn (h.run pins s σ _ _ (inv_hide I e1) hw) fun v s1 ⟨H1, I1, e2, q1⟩ => ⟨_, inv_show I1 e2, q1⟩⟩
theorem pg_mk (h : PG X e g) : PG X e (mkG g) := ⟨fun pins s σ H v u Q I r ⟨A, xs, e1, hw⟩ =>
  thn (h.run pins s σ _ v u _ (inv_hide I e1) r hw) fun _ s1 ⟨σ1, H1, I1, e2, q1⟩ => ⟨σ1, _, inv_show I1 e2, q1⟩⟩
end

/-- no test, or one -/
structure DPts (X : Cx) (q : Dq) (H0 : Hp) (E : XK) (ifs : List Expr) (t : DTT) : Prop where
  pts : PTs X ifs (mkT (dTT X.K q H0 E t))
def dYes : DTT := fun _ n Q _ => Q true n
section
variable {X : Cx} {q : Dq} {H0 : Hp} {E : XK} {c : Expr} {tt : DTT}
theorem _root_.L2.PTs.imp {ifs : List Expr} {t t' : TT} (h : PTs X ifs t) (i : ∀ σ H Q, t' σ H Q → t σ H Q) : PTs X ifs t' := ⟨fun pins s σ H Q I hw => h.run pins s σ H Q I (i σ H Q hw)⟩
theorem dp_nil : DPts X q H0 E [] dYes := ⟨pts_nil.imp fun σ H Q ⟨A, xs, e1, ρ, n, Q0, F, R, h, k, o⟩ => by
  have z := (k true _ n (.refl _) R h).2
  rw [upd_upd, upd_id e1] at z
  exact z⟩
theorem dp_one (h : DTe X q H0 E c tt) : DPts X q H0 E [c] tt := ⟨pts_one (pt_mk h.pt)⟩
end

def wipeD (ρ : SEnv) : List Nat → SEnv
  | [] => ρ
  | v :: vs => (wipeD ρ vs).set v .no
theorem wipe_get {σ : L2.St} {i : Nat} : ∀ {vs : List Nat}, i ∉ vs → (wipe σ vs)[i]? = σ[i]?
  | [], _ => rfl
  | v :: vs, h => by
    simp only [List.mem_cons, not_or] at h
    unfold wipe
    rw [List.getElem?_set_ne (Ne.symm h.1)]
    exact wipe_get h.2
theorem wipe_in {σ : L2.St} {i : Nat} : ∀ {vs : List Nat}, i ∈ vs → i < σ.length → (wipe σ vs)[i]? = some none
  | v :: vs, h, hl => by
    unfold wipe
    by_cases e : v = i
    · subst e
      rw [List.getElem?_set_self (by rw [wipe_length]; exact hl)]
    · rw [List.getElem?_set_ne e]
      exact wipe_in ((List.mem_cons.mp h).resolve_left (Ne.symm e)) hl
theorem wipeD_length (ρ : SEnv) : ∀ vs : List Nat, (wipeD ρ vs).length = ρ.length
  | [] => rfl
  | v :: vs => by unfold wipeD; rw [List.length_set, wipeD_length ρ vs]
theorem wipeD_get {ρ : SEnv} {i : Nat} : ∀ {vs : List Nat}, i ∉ vs → (wipeD ρ vs)[i]? = ρ[i]?
  | [], _ => rfl
  | v :: vs, h => by
    simp only [List.mem_cons, not_or] at h
    unfold wipeD
    rw [List.getElem?_set_ne (Ne.symm h.1)]
    exact wipeD_get h.2
theorem wipeD_in {ρ : SEnv} {i : Nat} : ∀ {vs : List Nat}, i ∈ vs → i < ρ.length → (wipeD ρ vs)[i]? = some .no
  | v :: vs, h, hl => by
    unfold wipeD
    by_cases e : v = i
    · subst e
      rw [List.getElem?_set_self (by rw [wipeD_length]; exact hl)]
    · rw [List.getElem?_set_ne e]
      exact wipeD_in ((List.mem_cons.mp h).resolve_left (Ne.symm e)) hl
theorem wipe_agree {σ σ' : L2.St} {ow vs : List Nat} (hl : σ'.length = σ.length) (h : ∀ j, j ∉ ow → σ'[j]? = σ[j]?) (hs : ∀ j ∈ ow, j ∈ vs) : wipe σ' vs = wipe σ vs := by
  apply List.ext_getElem?
  intro i
  by_cases hi : i ∈ vs
  · by_cases hb : i < σ.length
    · rw [wipe_in hi (by rw [hl]; exact hb), wipe_in hi hb]
    · rw [List.getElem?_eq_none (by rw [wipe_length, hl]; omega), List.getElem?_eq_none (by rw [wipe_length]; omega)]
  · rw [wipe_get hi, wipe_get hi]
    exact h i fun z => hi (hs i z)
theorem Rel.wipe {K : PySem.W.Frag} {q : Dq} {H0 H : Hp} {ρ : SEnv} {n : Nat} {σ : L2.St} (R : Rel K q H0 ρ n σ H) (vs : List Nat) : Rel K q H0 (wipeD ρ vs) n (L2.wipe σ vs) H := by
  have out : ∀ {i : Nat} {s : Slot}, (wipeD ρ vs)[i]? = some s → s ≠ .no → i ∉ vs ∧ ρ[i]? = some s := fun {i s} e hs => by
    by_cases hi : i ∈ vs
    · by_cases hl : i < ρ.length
      · rw [wipeD_in hi hl] at e
        exact absurd (Option.some.inj e).symm hs
      · rw [List.getElem?_eq_none (by rw [wipeD_length]; omega)] at e
        cases e
    · rw [wipeD_get hi] at e
      exact ⟨hi, e⟩
  refine ⟨by rw [wipeD_length, wipe_length]; exact R.len, fun i x e => ?_, fun i ds e => ?_, fun i j ds es p e1 e2 e3 e4 => ?_, R.dr, R.fr, R.q0⟩
  · obtain ⟨hi, e⟩ := out e (by intro z; cases z)
    rw [wipe_get hi]
    exact R.d i x e
  · obtain ⟨hi, e⟩ := out e (by intro z; cases z)
    rw [wipe_get hi]
    exact R.own i ds e
  · obtain ⟨hi, e1⟩ := out e1 (by intro z; cases z)
    obtain ⟨hj, e2⟩ := out e2 (by intro z; cases z)
    rw [wipe_get hi] at e3
    rw [wipe_get hj] at e4
    exact R.apart i j ds es p e1 e2 e3 e4

/-- [elt for target in iter if ..] over data -/
def lcD (g : DG) (tt : DTT) (te : DT) (ρ0 : SEnv) (Q : QD) : List D → List D → Nat → Prop
  | [], acc, n => Q (.lst acc) n
  | d :: ds, acc, n => g d ρ0 n (fun ρ1 n1 => tt ρ1 n1 (fun b n2 => if b = true then te ρ1 n2 (fun y n3 => lcD g tt te ρ0 Q ds (acc ++ [y]) n3) (fun _ _ => False) else lcD g tt te ρ0 Q ds acc n2) (fun _ _ => False))
def dLc (it : DTI) (g : DG) (tt : DTT) (te : DT) (vs : List Nat) : DT := fun ρ n Q F => it ρ n (fun ds n1 => ds.length ≤ sizeLine ∧ lcD g tt te (wipeD ρ vs) Q ds [] n1) F
section
variable {X : Cx} {q : Dq} {H0 : Hp} {E : XK} {elt tg iter : Expr} {ifs : List Expr} {scope : Scope} {own : List (Str × Nat)} {pos : Pos} {it : DTI} {g : DG} {tt : DTT} {te : DT} {ow : List Nat}
theorem erOk_no {K : PySem.W.Frag} : ErOk K q H0 (fun _ _ => False) L2.E0 := fun _ _ _ _ _ _ _ _ z => z.elim
theorem lc_core' {K : PySem.W.Frag} {σ : L2.St} {H : Hp} {Q : VK} {vs : List Nat} (how : ∀ j ∈ ow, j ∈ vs) (h : dTE K q H0 E (dLc it g tt te vs) σ H Q) :
    tLc (dTI K q H0 E it) (mkG (dTG K q H0 ow g)) (mkT (dTT K q H0 L2.E0 tt)) (mkE (dTE K q H0 L2.E0 te)) vs σ H Q := by
  obtain ⟨ρ, n, Q0, F, R, h, c, o⟩ := h
  refine ⟨ρ, n, _, F, R, h, fun J H1 ds n1 ok f1 R1 ⟨hz, h1⟩ => ?_, o⟩
  intro A hA
  have aq : some A ≠ qa q := fun z => dr_not R1.dr hA z
  have h0 : H0 A = none := by
    cases e : H0 A with
    | none => rfl
    | some u =>
      have := R1.fr A u e aq
      rw [hA] at this
      cases this
  -- the wished end, from a heap in which the list stands
  have close : ∀ (Hm : Hp) (acc : List V) (ac : List D) (n' : Nat), Hm A = some (MutL A acc) → Rel K q H0 (wipeD ρ vs) n' (wipe σ vs) Hm → FrX H1 Hm → Fr q H1 Hm → DtAll K q Hm acc ac → Q0 (.lst ac) n' → Q (.ref A) (upd Hm A (.lst acc)) := by
    intro Hm acc ac n' eA Rm fm fqm da hq
    have fu : FrX Hm (upd Hm A (.lst acc)) := fun b u e ne => by
      have hb : b ≠ A := fun z => by subst z; rw [eA] at e; cases e; exact ne
      rw [upd_ne hb]; exact e
    have f0 : Fr q H1 (upd Hm A (.lst acc)) := fun b u e nq => by
      have hb : b ≠ A := ne_of_none e hA
      rw [upd_ne hb]; exact fqm b u e nq
    have dr : Dr K q n' (upd Hm A (.lst acc)) := by
      have d1 := Rm.dr
      cases q with
      | none => exact True.intro
      | some z =>
        obtain ⟨cc, k, l, e1, e2⟩ := d1
        have hz : z.1 ≠ A := fun w => aq (by rw [← w]; rfl)
        have hc : cc ≠ A := fun w => by subst w; rw [eA] at e2; cases e2
        exact ⟨cc, k, l, by rw [upd_ne hz]; exact e1, by rw [upd_ne hc]; exact e2⟩
    exact c _ _ _ n' (.lst upd_same (da.up fu)) (f1.trans f0) (R1.up f0 dr) hq
  have Rw := R1.wipe vs
  refine ⟨fun i m H2 => m = ds.length - i ∧ i ≤ ds.length ∧ ∃ acc ac n2 Hm, H2 = upd Hm A (.lst acc) ∧ Hm A = some (MutL A acc) ∧ acc.length ≤ i ∧ Rel K q H0 (wipeD ρ vs) n2 (wipe σ vs) Hm ∧ FrX H1 Hm ∧ Fr q H1 Hm ∧ DtAll K q Hm acc ac ∧ lcD g tt te (wipeD ρ vs) Q0 (ds.drop i) ac n2,
    ⟨ds.length, by simp, Nat.zero_le _, [], [], n1, upd H1 A (MutL A []), by rw [upd_upd], upd_same, Nat.le_refl _, Rw.same (same_upd hA), .of_same (same_upd hA), .of_same (same_upd hA), .nil, h1⟩, ?_⟩
  rintro i m H2 ⟨rfl, hi, acc, ac, n2, Hm, rfl, eA, hl, Rm, fm, fqm, da, h2⟩
  have fU : FrX H1 (upd Hm A (.lst acc)) := fun b u e ne => by
    rw [upd_ne (ne_of_none e hA)]; exact fm b u e ne
  by_cases hlt : i < ds.length
  · let W : Hp → Prop := fun H3 => i + 1 ≤ ds.length ∧ ∃ acc ac n2 Hm, H3 = upd Hm A (.lst acc) ∧ Hm A = some (MutL A acc) ∧ acc.length ≤ i + 1 ∧ Rel K q H0 (wipeD ρ vs) n2 (wipe σ vs) Hm ∧ FrX H1 Hm ∧ Fr q H1 Hm ∧ DtAll K q Hm acc ac ∧ lcD g tt te (wipeD ρ vs) Q0 (ds.drop (i + 1)) ac n2
    refine .inr ⟨ok.go i _ fU hlt, W, fun H' z => ⟨ds.length - (i + 1), by omega, rfl, z⟩, fun x H3 y => ?_⟩
    obtain ⟨s3, d, e3, k3⟩ := ok.yld i _ x H3 fU hlt y
    have e4 : ds.drop i = d :: ds.drop (i + 1) := by
      rw [List.drop_eq_getElem_cons hlt]
      congr
      exact Option.some.inj ((List.getElem?_eq_getElem hlt).symm.trans e3)
    rw [e4] at h2
    have eA3 : H3 A = some (.lst acc) := s3 A _ upd_same
    have s4 : Same Hm (upd H3 A (MutL A acc)) := by
      have z : Same (upd (upd Hm A (.lst acc)) A (MutL A acc)) (upd H3 A (MutL A acc)) := same_updd s3
      rw [upd_upd, upd_id eA] at z
      exact z
    have f4 : FrX H1 (upd H3 A (MutL A acc)) := fm.trans (.of_same s4)
    have hd := k3 _ f4 fun b u hb hu => by
      have hne : b ≠ A := fun z => by subst z; rw [upd_same] at hb; cases hb
      rw [upd_ne hne]; exact hu
    refine ⟨A, acc, eA3, wipeD ρ vs, n2, d, _, Rm.same s4, hd, h2, fun σ5 H5 ρ5 n5 f5 s5 R5 l5 a5 h5 => ?_⟩
    have eA5 : H5 A = some (MutL A acc) := s5 A _ upd_same
    have f15 : FrX H1 H5 := f4.trans f5
    have fq15 : Fr q H1 H5 := (fqm.trans (.of_same s4)).trans (.of_same s5)
    have dm5 : DtAll K q H5 acc ac := da.up ((FrX.of_same s4).trans f5)
    have wz : wipe σ5 vs = wipe σ vs := by
      have e1 := wipe_agree (vs := vs) l5 a5 how
      rw [e1]
      apply List.ext_getElem?
      intro j
      by_cases hj : j ∈ vs
      · by_cases hb : j < σ.length
        · rw [wipe_in hj (by rw [wipe_length]; exact hb), wipe_in hj hb]
        · rw [List.getElem?_eq_none (by rw [wipe_length, wipe_length]; omega), List.getElem?_eq_none (by rw [wipe_length]; omega)]
      · rw [wipe_get hj]
    refine ⟨eA5, wz, A, acc, upd_same, ?_⟩
    rw [upd_upd, upd_id eA5]
    -- back to the block's beginning: what the target stored is forgotten
    have back : ∀ {n6 : Nat} {H6 : Hp}, Fr q H5 H6 → Dr K q n6 H6 → Rel K q H0 (wipeD ρ vs) n6 (wipe σ vs) H6 := fun {n6 H6} f d6 =>
      (Rm.same s4).up ((Fr.of_same s5).trans f) d6
    refine dTT_mk R5 h5 (fun b H6 n6 f6 R6 h6 => ?_) erOk_no
    have eA6 : H6 A = some (MutL A acc) := f6 A _ eA5 aq
    refine ⟨eA6, ?_⟩
    cases b with
    | true =>
      refine ⟨A, acc, upd_same, ?_⟩
      rw [upd_upd, upd_id eA6]
      refine dTE_mk R6 h6 (fun v H7 dy n7 hy f7 R7 h7 => ?_) erOk_no
      have eA7 : H7 A = some (MutL A acc) := f7 A _ eA6 aq
      have f67 : Fr q H5 H7 := f6.trans f7
      have fx57 : FrX H5 H7 := f67.x R5.dr
      have hsz : acc.length < sizeLine := by
        have h3 : acc.length ≤ i := hl
        omega
      refine ⟨eA7, acc, upd_same, hsz, ?_⟩
      rw [upd_upd]
      -- the hidden list takes the new item
      have sU : ∀ b u, H7 b = some u → b ≠ A → upd H7 A (MutL A (acc ++ [v])) b = some u := fun b u e hb => by rw [upd_ne hb]; exact e
      have fxU : FrX H7 (upd H7 A (MutL A (acc ++ [v]))) := fun b u e ne => sU b u e fun z => by subst z; rw [eA7] at e; cases e; exact ne
      have R8 := back f67 R7.dr
      have drU : Dr K q n7 (upd H7 A (MutL A (acc ++ [v]))) := by
        have d1 := R7.dr
        cases q with
        | none => exact True.intro
        | some z =>
          obtain ⟨cc, k, l, e1, e2⟩ := d1
          exact ⟨cc, k, l, sU _ _ e1 fun w => aq (by rw [← w]; rfl), sU _ _ e2 fun w => by subst w; rw [eA7] at e2; cases e2⟩
      have hnA : ∀ p, H1 p ≠ none → p ≠ A := fun p z w => by subst w; exact z hA
      have RU : Rel K q H0 (wipeD ρ vs) n7 (wipe σ vs) (upd H7 A (MutL A (acc ++ [v]))) := by
        have fq17 : Fr q H1 H7 := fq15.trans f67
        refine Rw.up (fun b u e nq => ?_) drU
        rw [upd_ne (ne_of_none e hA)]
        exact fq17 b u e nq
      refine ⟨hlt, acc ++ [v], ac ++ [dy], n7, upd H7 A (MutL A (acc ++ [v])), by rw [upd_upd], upd_same, by simp; omega, RU, (f15.trans fx57).trans fxU, ?_, ?_, h7⟩
      · intro b u e nq
        rw [upd_ne (ne_of_none e hA)]
        exact (fq15.trans f67) b u e nq
      · exact ((dm5.up fx57).append (.cons hy .nil)).up fxU
    | false =>
      have fx56 : FrX H5 H6 := f6.x R5.dr
      exact ⟨hlt, acc, ac, n6, H6, rfl, eA6, Nat.le_succ_of_le hl, back f6 R6.dr, f15.trans fx56, fq15.trans f6, dm5.up fx56, h6⟩
  · have e : i = ds.length := by omega
    subst e
    rw [List.drop_length] at h2
    exact .inl ⟨ok.stop _ fU, close Hm acc ac n2 eA Rm fm fqm da h2⟩

theorem de_lc (hc : X.calm = true) (hN : X.N.Nodup) (hi : DI X q H0 E tg iter it) (ok : BlkOk X.N X.env.scope scope own) (how : ∀ j ∈ ow, j ∈ own.map (·.2))
    (hg : ∀ (s : Shared) (H : Hp) (C : Addr) (cl : List (Str × Addr)) (fp : List Addr), DGt (X.blk s H scope (compEnvC scope cl C X.env) fp) q H0 ow tg g)
    (ht : ∀ (s : Shared) (H : Hp) (C : Addr) (cl : List (Str × Addr)) (fp : List Addr), DPts (X.blk s H scope (compEnvC scope cl C X.env) fp) q H0 L2.E0 ifs tt)
    (he : ∀ (s : Shared) (H : Hp) (C : Addr) (cl : List (Str × Addr)) (fp : List Addr), DE (X.blk s H scope (compEnvC scope cl C X.env) fp) q H0 L2.E0 elt te) (hs : ∀ x, foldedSetIterable iter X.env x = pure x := by intro _; rfl) :
    DE X q H0 E (.ListComp elt [⟨tg, iter, ifs, 0⟩] scope pos) (dLc it g tt te (own.map (·.2))) :=
  ⟨(pe_lc hc hN hi.pi ok (fun s H C cl fp => pg_mk (hg s H C cl fp).pg) (fun s H C cl fp => (ht s H C cl fp).pts) (fun s H C cl fp => pe_mk' (he s H C cl fp).pe) hs).imp fun σ H Q h => lc_core' how h⟩
/-- y = [..] in one line: stored within the block's frame -/
theorem ds_setLc (i : Nat) {y : Str} {py spos : Pos} (hc : X.calm = true) (hN : X.N.Nodup) (hi : DI X q H0 E tg iter it) (ok : BlkOk X.N X.env.scope scope own) (how : ∀ j ∈ ow, j ∈ own.map (·.2))
    (hg : ∀ (s : Shared) (H : Hp) (C : Addr) (cl : List (Str × Addr)) (fp : List Addr), DGt (X.blk s H scope (compEnvC scope cl C X.env) fp) q H0 ow tg g)
    (ht : ∀ (s : Shared) (H : Hp) (C : Addr) (cl : List (Str × Addr)) (fp : List Addr), DPts (X.blk s H scope (compEnvC scope cl C X.env) fp) q H0 L2.E0 ifs tt)
    (he : ∀ (s : Shared) (H : Hp) (C : Addr) (cl : List (Str × Addr)) (fp : List Addr), DE (X.blk s H scope (compEnvC scope cl C X.env) fp) q H0 L2.E0 elt te)
    (hy : X.N[i]? = some y := by rfl) (hyl : X.env.scope.names.lookup y = some .local := by rfl) (hsw : swapsWith (.ListComp elt [⟨tg, iter, ifs, 0⟩] scope pos) (some (.Name y py)) spos.line X.env = pure true := by exact sw_true rfl rfl rfl (by decide +kernel)) (hs : ∀ x, foldedSetIterable iter X.env x = pure x := by intro _; rfl) :
    DSt X q H0 E (.Assign [.Name y py] (.ListComp elt [⟨tg, iter, ifs, 0⟩] scope pos) spos) (dSet i (dLc it g tt te (own.map (·.2)))) :=
  ⟨(ps_setLc hc hN hy hyl hsw hi.pi ok (fun s H C cl fp => pg_mk (hg s H C cl fp).pg) (fun s H C cl fp => (ht s H C cl fp).pts) (fun s H C cl fp => pe_mk' (he s H C cl fp).pe) hs).imp fun D σ H ⟨ρ, n, G, R, h, cn, cr, cb, cc, o⟩ => by
    have h' : dLc it g tt te (own.map (·.2)) ρ n (fun x n1 => i < ρ.length ∧ G.nx (ρ.set i (.d x)) n1) G.ex := h
    have z : dTE X.K q H0 E (dLc it g tt te (own.map (·.2))) σ H (fun x H1 => gName i x σ H1 D.nx) :=
      dTE_mk R h' (fun v H' d n' hd f1 R1 hq => cn (σ.set i (some v)) H' (ρ.set i (.d d)) n' (f1.x R.dr) (R1.set hd (by rw [← R1.len]; exact hq.1)) hq.2) o
    exact lc_core' how z⟩

end
end DL
/-! T8: a def by its body, over data; what draws, read and stored. -/
namespace DL
open PySem PySem.Spec L2
open PyProof.Rows (envOfC)

/-! ### a def by its body -/
def startD (N : List Str) (ds : List D) : SEnv := ds.map Slot.d ++ List.replicate (N.length - ds.length) Slot.no
theorem start_rel {K : PySem.W.Frag} {q : Dq} {H : Hp} {N : List Str} {vs : List V} {ds : List D} {n : Nat} (h : DtAll K q H vs ds) (dr : Dr K q n H) : Rel K q H (startD N ds) n (L2.start N vs) H := by
  have hl := h.length
  have get : ∀ (i : Nat) (s : Slot), (startD N ds)[i]? = some s → s ≠ .no → ∃ x, s = .d x ∧ ds[i]? = some x := fun i s e hs => by
    unfold startD at e
    by_cases hi : i < ds.length
    · rw [List.getElem?_append_left (by simpa using hi), List.getElem?_map] at e
      cases z : ds[i]? with
      | none => rw [z] at e; cases e
      | some x => rw [z] at e; cases e; exact ⟨x, rfl, rfl⟩
    · rw [List.getElem?_append_right (by simpa using hi), List.getElem?_replicate] at e
      split at e
      · exact absurd (Option.some.inj e).symm hs
      · cases e
  refine ⟨by simp [startD, L2.start, hl], fun i x e => ?_, fun i xs e => ?_, fun i j xs ys p e1 e2 e3 e4 => ?_, dr, .refl _, fun a e => ?_⟩
  · obtain ⟨y, e1, e2⟩ := get i _ e (by intro z; cases z)
    cases e1
    obtain ⟨v, e3, h3⟩ := h.get e2
    refine ⟨v, ?_, h3⟩
    unfold L2.start
    obtain ⟨hi, _⟩ := List.getElem?_eq_some_iff.mp e3
    rw [List.getElem?_append_left (by simpa using hi), List.getElem?_map, e3]
    rfl
  · obtain ⟨y, e1, _⟩ := get i _ e (by intro z; cases z)
    cases e1
  · obtain ⟨y, e1, _⟩ := get i _ e1 (by intro z; cases z)
    cases e1
  · exact fun z => dr_not dr z e.symm
/-- a def that lets no exception out -/
theorem fnD0 {P : Program} {w : World} {K : PySem.W.Frag} {mg : Str → Option Value} {base : Heap} {k : Nat} {f : Addr} {fd : FuncData} {x qual : Str} {st : Stmt} {N ps : List Str} {sp : SpD} {t : DS}
    (F : Fun K x qual st f fd) (S : FnScope N ps (defScope st)) (ln : ∀ ds n Q F, sp ds n Q F → ds.length = ps.length)
    (body : ∀ (q : Dq) (cdv : Value) (A : Around) (outer : List PySem.Env) (s : Shared) (H : Hp) (E : XK), Room k (A.deeper (envOfC qual (defScope st) s.heap.objs.size f cdv)) → A.guards = some [] →
      DSs (cxOf CX0 P w K mg base N qual (defScope st) f cdv A outer s H E).nox q H L2.E0 (defBody st) t)
    (rd : ∀ ds n Q F, sp ds n Q F → t { nx := fun _ n' => Q .non n', rt := Q } (startD N ds) n) : FnG P w K mg base CX0 (k + 1) f fd ps (spD K sp) := by
  refine fnG_of F S (fun vs H Q E h => ?_) fun cdv A outer s H vs Q E hr hg h => ?_
  · obtain ⟨q, ds, n, Q0, F, hds, _, hs, _⟩ := h
    rw [hds.length]
    exact ln ds n Q0 F hs
  · obtain ⟨q, ds, n, Q0, F, hds, dr, hs, c, o⟩ := h
    refine ⟨_, (body q cdv A outer s H E hr hg).pss.nox, ?_⟩
    refine dTS_mk (start_rel hds dr) (rd ds n Q0 F hs) (fun σ' H' ρ' n' _ R' h' => c _ H' _ n' .non R'.fr R'.dr h') (fun v H' d n' hd _ fr dr' hq => c v H' d n' hd fr dr' hq) (fun _ _ _ _ _ _ z => z.elim) (fun _ _ _ _ _ _ z => z.elim) erOk_no

/-! ### what draws -/
section
variable {X : Cx} {pins : List (Addr × Obj)} {σ : L2.St} {H : Hp} {s : Shared} {a c : Addr} {k : Nat}
theorem inv_dshow (I : Inv X pins σ H s) (e : H a = some (DrO a c k)) : ∃ t r : Int, 0 ≤ t ∧ t ≤ k ∧ Inv X pins σ (upd H a (.lst [.ref c, .int t, .int r])) s := by
  obtain ⟨⟨t, r, u, v, n, h0, h1, g⟩, _, _⟩ := (show ObjOk X.prog X.w H s.heap a (DrO a c k) from I.hok a _ e)
  refine ⟨t, r, h0, h1, Inv.write (h' := s.heap) (t' := s.toks) (x := a) (e := a) I (by rw [e]; exact True.intro) (.inl rfl) (fun b u _ h => h) ⟨_, g⟩ ⟨by show 3 ≤ sizeLine; decide, [.ref c, .int t u, .int r v], n, .cons rfl (.cons ⟨u, rfl⟩ (.cons ⟨v, rfl⟩ .nil)), g⟩⟩
theorem inv_dhide {t r : Int} (I : Inv X pins σ H s) (e : H a = some (.lst [.ref c, .int t, .int r])) (h0 : 0 ≤ t) (h1 : t ≤ k) : Inv X pins σ (upd H a (DrO a c k)) s := by
  obtain ⟨z, its, n, rv, g⟩ := (show ObjOk X.prog X.w H s.heap a (.lst _) from I.hok a _ e)
  cases rv with
  | cons r1 rv =>
    cases rv with
    | cons r2 rv =>
      cases rv with
      | cons r3 rv =>
        cases rv
        cases r1
        obtain ⟨u, rfl⟩ := r2
        obtain ⟨v, rfl⟩ := r3
        have g' : s.heap.get? a = some { cls := .type "list", data := .seq #[.ref c, .int t u, .int r v] n } := g
        refine Inv.write (h' := s.heap) (t' := s.toks) (x := a) (e := a) I (by rw [e]; exact True.intro) (.inl rfl) (fun b u _ h => h) ⟨_, g'⟩ ?_
        exact ⟨⟨t, r, u, v, n, h0, h1, g'⟩, ⟨_, g'⟩, fun a1 a2 ⟨t, r, u, v, n, x0, x1, y⟩ k => ⟨t, r, u, v, n, x0, x1, k _ y⟩⟩
end
/-- drum[i] -/
def dDrum (i : Nat) (j : Int) : DT := fun ρ n Q _ => ∃ ns : List Int, ρ[i]? = some (Slot.d (.drum ns)) ∧
  ((j = 0 ∧ Q (.lst (ns.map D.int)) n) ∨ (j = 1 ∧ ∀ t : Int, 0 ≤ t → t ≤ n → Q (.int t) n) ∨ (j = 2 ∧ ∀ r : Int, Q (.int r) n))
/-- drum[i] = e -/
def dDrumSet (i : Nat) (j : Int) (te : DT) : DS := fun G ρ n => te ρ n (fun x n1 => (∃ ns : List Int, ρ[i]? = some (Slot.d (.drum ns))) ∧ ∃ z : Int, x = .int z ∧ ((j = 1 ∧ (0 ≤ z ∧ z ≤ n1 + 1) ∧ G.nx ρ (n1 + 1)) ∨ (j = 2 ∧ G.nx ρ n1))) G.ex
section
variable {X : Cx} {q : Dq} {H0 : Hp} {E : XK} {e : Expr} {t : DT} {p pos : Pos}
theorem dt_ints {K : PySem.W.Frag} {H : Hp} : ∀ ns : List Int, DtAll K q H (ns.map V.int) (ns.map D.int)
  | [] => .nil
  | n :: ns => .cons (.int n) (dt_ints ns)
theorem de_drum (i : Nat) {x : Str} {j : Int} {jj : Nat} {px : Pos} (hN : X.N[i]? = some x := by rfl) (hv : Vis X.env.scope x := by first | exact Or.inl rfl | exact Or.inr (Or.inl rfl) | exact Or.inr (Or.inr rfl)) (hd : (x == ("__debug__" : Str)) = false := by decide)
    (hcd : (x == ("__classdict__" : Str)) = false := by decide) (hs : PlainIx (.Constant (.int j) jj p) := by exact fun _ _ => rfl) : DE X q H0 E (.Subscript (.Name x px) (.Constant (.int j) jj p) pos) (dDrum i j) := by
  have h0 : PE X (.Subscript (.Name x px) (.Constant (.int j) jj p) pos) (tOp (rIxL X.K) (tVar i) (tC (.int j))) := pe_ix ix_list (pe_var hN hv hd hcd) pe_int hs
  have h1 : PE X (.Subscript (.Name x px) (.Constant (.int j) jj p) pos) (fun σ H Q => ∃ a c k, σ[i]? = some (some (.ref a)) ∧ H a = some (DrO a c k) ∧ ∀ t r : Int, 0 ≤ t → t ≤ k → ∃ v, atI [V.ref c, .int t, .int r] j = some v ∧ Q v H) := by
    refine ⟨fun pins s σ H Q I ⟨a, c, k, e1, e2, h⟩ => ?_⟩
    obtain ⟨t, r, t0, t1, I1⟩ := inv_dshow I e2
    obtain ⟨v, ev, hq⟩ := h t r t0 t1
    refine thn (h0.run pins s σ _ (fun u H' => u = v ∧ H' = upd H a (.lst [.ref c, .int t, .int r])) I1 ⟨_, e1, a, _, _, _, rfl, rfl, SqL.of upd_same, ev, rfl, rfl⟩) fun u s1 ⟨y, H1, I2, r2, e3, e4⟩ => ?_
    subst e3 e4
    have I3 := inv_dhide (k := k) I2 upd_same t0 t1
    rw [upd_upd, upd_id e2] at I3
    exact ⟨y, H, I3, r2, hq⟩
  refine ⟨h1.imp fun σ H Q ⟨ρ, n, Q0, F, R, ⟨ns, e1, h⟩, c, o⟩ => ?_⟩
  obtain ⟨v, e2, hd⟩ := R.d i _ e1
  cases hd with
  | drum hq =>
    rename_i a
    have d1 := R.dr
    rw [hq] at d1
    obtain ⟨cc, k, hk, e3, e4⟩ := d1
    refine ⟨a, cc, k, e2, e3, fun t r t0 t1 => ?_⟩
    rcases h with ⟨rfl, h⟩ | ⟨rfl, h⟩ | ⟨rfl, h⟩
    · exact ⟨_, rfl, c _ H _ n (.lst e4 (dt_ints ns)) (.refl _) R h⟩
    · exact ⟨_, rfl, c _ H _ n (.int t) (.refl _) R (h t t0 (by omega))⟩
    · exact ⟨_, rfl, c _ H _ n (.int r) (.refl _) R (h r)⟩
theorem ds_drum (i : Nat) {x : Str} {j : Int} {jj : Nat} {px tp : Pos} (he : DE X q H0 E e t) (hN : X.N[i]? = some x := by rfl) (hv : Vis X.env.scope x := by first | exact Or.inl rfl | exact Or.inr (Or.inl rfl) | exact Or.inr (Or.inr rfl)) (hd : (x == ("__debug__" : Str)) = false := by decide)
    (hcd : (x == ("__classdict__" : Str)) = false := by decide) (ha : ∀ v, assign (.Subscript (.Name x px) (.Constant (.int j) jj p) tp) X.env v = (do
      let ov ← holding [v] (eval (.Name x px) X.env)
      let iv ← holding [v, ov] (eval (.Constant (.int j) jj p) X.env)
      standAt tp
      holding [v, ov, iv] (setItem ov iv v)
      release [v, ov, iv] []) := by intro _; rfl)
    (hs : swapsWithSole [.Subscript (.Name x px) (.Constant (.int j) jj p) tp] e pos.line X.env = pure false := by rfl) (hw : swappedStores [.Subscript (.Name x px) (.Constant (.int j) jj p) tp] e X.env = pure none := by rfl)
    (h1 : (assignEach [.Subscript (.Name x px) (.Constant (.int j) jj p) tp] X.env).map (·.2) = [assign (.Subscript (.Name x px) (.Constant (.int j) jj p) tp) X.env] := by rfl) :
    DSt X q H0 E (.Assign [.Subscript (.Name x px) (.Constant (.int j) jj p) tp] e pos) (dDrumSet i j t) := by
  have g0 : PG X (.Subscript (.Name x px) (.Constant (.int j) jj p) tp) (gSub (tVar i) (tC (.int j)) _) := pg_sub (pe_var hN hv hd hcd) pe_int set_list ha
  have g1 : PG X (.Subscript (.Name x px) (.Constant (.int j) jj p) tp) (fun v σ H Q => ∃ a c k z, v = .int z ∧ σ[i]? = some (some (.ref a)) ∧ H a = some (DrO a c k) ∧ ∃ k', ((j = 1 ∧ 0 ≤ z ∧ z ≤ (k' : Nat)) ∨ (j = 2 ∧ k ≤ k')) ∧ Q σ (upd H a (DrO a c k'))) := by
    refine ⟨fun pins s σ H v u Q I r ⟨a, c, k, z, e0, e1, e2, k', hk, h⟩ => ?_⟩
    subst e0
    obtain ⟨t, r', t0, t1, I1⟩ := inv_dshow I e2
    have fin : ∀ (t' r'' : Int) (s1 : Shared) (H1 : Hp), H1 = upd H a (.lst [.ref c, .int t', .int r'']) → 0 ≤ t' → t' ≤ k' → Inv X pins σ H1 s1 → ∃ σ' H', Inv X pins σ' H' s1 ∧ Q σ' H' := fun t' r'' s1 H1 eH a0 a1 J => by
      subst eH
      have J2 := inv_dhide (k := k') J upd_same a0 a1
      rw [upd_upd] at J2
      exact ⟨σ, _, J2, h⟩
    rcases hk with ⟨rfl, z0, z1⟩ | ⟨rfl, z1⟩
    · refine thn (g0.run pins s σ _ (.int z) u (fun σ' H' => σ' = σ ∧ H' = upd H a (.lst [.ref c, .int z, .int r'])) I1 r ⟨_, e1, ?_⟩) fun _ s1 ⟨σ1, H1, J, e3, e4⟩ => ?_
      · exact ⟨a, _, _, 1, rfl, rfl, upd_same, rfl, rfl, by rw [upd_upd]; rfl⟩
      · subst e3
        exact fin z r' s1 H1 e4 z0 z1 J
    · refine thn (g0.run pins s σ _ (.int z) u (fun σ' H' => σ' = σ ∧ H' = upd H a (.lst [.ref c, .int t, .int z])) I1 r ⟨_, e1, ?_⟩) fun _ s1 ⟨σ1, H1, J, e3, e4⟩ => ?_
      · exact ⟨a, _, _, 2, rfl, rfl, upd_same, rfl, rfl, by rw [upd_upd]; rfl⟩
      · subst e3
        exact fin t z s1 H1 e4 t0 (by omega) J
  refine ⟨(ps_asg he.pe g1 hs hw h1).imp fun D σ H ⟨ρ, n, G, R, h, cn, cr, cb, cc, o⟩ => ?_⟩
  refine dTE_mk R h (fun v H1 d n1 hd f1 R1 ⟨⟨ns, e1⟩, z, e0, hz⟩ => ?_) o
  subst e0
  cases hd
  obtain ⟨v2, e2, hd2⟩ := R1.d i _ e1
  cases hd2 with
  | drum hq =>
    rename_i a
    have d1 := R1.dr
    rw [hq] at d1
    obtain ⟨c, k, hk, e3, e4⟩ := d1
    have key : ∀ k' n', k' ≤ n' → Rel X.K q H0 ρ n' σ (upd H1 a (DrO a c k')) := fun k' n' l => by
      refine R1.up (fun b u e nq => ?_) ?_
      · have hb : b ≠ a := fun w => nq (by rw [w, hq]; rfl)
        rw [upd_ne hb]; exact e
      · rw [hq]
        exact ⟨c, k', l, upd_same, by rw [upd_ne (fun w => by subst w; rw [e3] at e4; cases e4)]; exact e4⟩
    have fx : ∀ k', FrX H (upd H1 a (DrO a c k')) := fun k' b u e ne => by
      have e' := f1.x R.dr b u e ne
      have hb : b ≠ a := fun w => by subst w; rw [e3] at e'; cases e'; exact ne
      rw [upd_ne hb]; exact e'
    rcases hz with ⟨rfl, ⟨z0, z1⟩, hy⟩ | ⟨rfl, hy⟩
    · exact ⟨a, c, k, z, rfl, e2, e3, n1 + 1, .inl ⟨rfl, z0, by omega⟩, cn σ _ ρ (n1 + 1) (fx _) (key _ _ (Nat.le_refl _)) hy⟩
    · exact ⟨a, c, k, z, rfl, e2, e3, k, .inr ⟨rfl, Nat.le_refl _⟩, cn σ _ ρ n1 (fx _) (key _ _ hk) hy⟩
end
end DL
/-! T9: the law's own end, for promises that know the guards. -/
namespace DL
open PySem PySem.Spec PyProof.Rows L2

section
variable {P : Program} {w : World} {K : PySem.W.Frag} {mg mb : Str → Option Value} {k : Nat} {fa a : Addr} {fd : FuncData} {x : Str} {sp : Sp} {s1 : Shared} {vs : List Value} {ns : List Int}
/-- the run, once the abstract heap at the law's entry is chosen: nothing but the script stands in it -/
theorem entry_run (KX : K.In s1.heap) (hns : s1.heap.Ns mainGlobals mg) (hb : s1.heap.Ns builtinsNs mb) (hbb : ∀ x : Str, x ≠ "__name__" → mb x = bootBuiltins x) (hlim : s1.heap.NoLimit) (hg : s1.gens = #[])
    (ha : s1.heap.get? a = some { cls := .type "list", data := .seq vs.toArray }) (hr : Room k callerA)
    (F : ∀ base : Heap, K.In base → base.Ns mainGlobals mg → FnG P w K mg base CX0 k fa fd [x] sp) (hbind : ∀ (s : Shared) (u : Value), BindsTo s fd ⟨[u], []⟩ [(x, u)])
    (H : Hp) (hO : Only H) (hok : HOk P w H s1.heap) (hA : ∀ b, H b ≠ none → b = a) (hK : H a ≠ none → K.lookup a = none) (hsp : sp [.ref a] H (fun v _ => v = .bl true) fun _ _ _ => False) :
    codeAny (model P w) callerA (.call (.ref fa) ⟨[.ref a], []⟩) (fun r s' => r = .ok (.ret (.bool true)) ∧ OldK s1.heap s'.heap ∧ s'.os = s1.os ∧ AllBare s'.gens) s1 := by
  have at_a : ∀ {b : Addr} {u : HO}, H b = some u → b = a := fun {b u} e => hA b (by rw [e]; simp)
  have plain : ∀ {b : Addr} {o : Obj} {es : Array DictEntry} {ep : Nat}, s1.heap.get? b = some o → o.data = .dict es ep → H b = none := by
    intro b o es ep e d
    cases q : H b with
    | none => rfl
    | some u =>
      rw [at_a q, ha] at e
      cases e
      have d' : Data.seq vs.toArray _ = Data.dict es ep := d
      cases d'
  have ns' : ∀ {b : Addr} {m : Str → Option Value}, s1.heap.Ns b m → (hidT s1.heap H).Ns b m := by
    intro b m ⟨o, es, ep, e, d, r⟩
    exact ⟨o, es, ep, hidT_get e (plain e d), d, r⟩
  have inB : K.In (hidT s1.heap H) := fun b o e => hidT_get (KX b o e) (by
    cases q : H b with
    | none => rfl
    | some u =>
      have e1 := at_a q
      subst e1
      rw [hK (by rw [q]; simp)] at e
      cases e)
  have e0 : Env0 P w K mg (hidT s1.heap H) callerA [] s1 H := by
    refine ⟨rfl, ⟨inB, ns' hns, ⟨mb, ns' hb, hbb⟩, ?_⟩, fun b o e => of_hidT e, Nat.le_of_eq (hidT_size _ _), trivial, fun b hb => absurd (show b ∈ ([] : List Addr) from hb) (by simp), hok, .of_eq hg⟩
    obtain ⟨mc, h1, h2⟩ := hlim
    exact ⟨mc, ns' h1, h2⟩
  apply codeAny_mono ((F _ inB (ns' hns)).go callerA [] s1 H ⟨[.ref a], []⟩ [.ref a] [.ref a] _ _ hr rfl e0 (hbind s1 (.ref a)) (.cons rfl .nil) hsp)
  intro r s' h
  cases r with
  | error e => exact (show False from h).elim
  | ok fl =>
    cases fl with
    | next => exact (show False from h).elim
    | brk => exact (show False from h).elim
    | cont => exact (show False from h).elim
    | ret u =>
      obtain ⟨v, H', os, bare, un, hok', r', q⟩ := h
      have q' : v = .bl true := q
      subst q'
      have eu : u = Value.bool true := r'
      subst eu
      refine ⟨rfl, OldK.of_keep fun b o e => ?_, os, bare⟩
      cases q : H b with
      | none => exact un.keep b o e q (fun z => absurd (show b ∈ ([] : List Addr) from z) (by simp)) (by simp)
      | some u =>
        rcases hO b with z | ⟨ob, xs, z⟩
        · rw [q] at z; cases z
        · obtain ⟨e1, _⟩ := hok b _ z
          obtain ⟨e2, _⟩ := hok' b _ (un.frzs b ob _ z)
          rw [e] at e1
          cases e1
          exact e2
/-- what the law's own heap may be: the script, locked; or nothing, where the script is one of the module's own -/
theorem entry_call (KX : K.In s1.heap) (hns : s1.heap.Ns mainGlobals mg) (hb : s1.heap.Ns builtinsNs mb) (hbb : ∀ x : Str, x ≠ "__name__" → mb x = bootBuiltins x) (hlim : s1.heap.NoLimit) (hg : s1.gens = #[])
    (ha : s1.heap.get? a = some { cls := .type "list", data := .seq vs.toArray }) (hi : IntsAre vs ns) (hl : ns.length ≤ sizeLine) (hr : Room k callerA)
    (F : ∀ base : Heap, K.In base → base.Ns mainGlobals mg → FnG P w K mg base CX0 k fa fd [x] sp) (hbind : ∀ (s : Shared) (u : Value), BindsTo s fd ⟨[u], []⟩ [(x, u)])
    (hsp : ∀ H : Hp, Only H → SqL K H a (ns.map V.int) → sp [.ref a] H (fun v _ => v = .bl true) fun _ _ _ => False) :
    codeAny (model P w) callerA (.call (.ref fa) ⟨[.ref a], []⟩) (fun r s' => r = .ok (.ret (.bool true)) ∧ OldK s1.heap s'.heap ∧ s'.os = s1.os ∧ AllBare s'.gens) s1 := by
  have rv := vals_ints hi
  cases hk : K.lookup a with
  | some o =>
    have e := KX a o hk
    rw [ha] at e
    cases e
    refine entry_run KX hns hb hbb hlim hg ha hr F hbind (fun _ => none) (fun _ => .inl rfl) (fun b u z => ?_) (fun b z => absurd rfl z) (fun z => absurd rfl z) (hsp _ (fun _ => .inl rfl) (.inr ⟨_, vs.toArray, _, hk, rfl, rfl, rfl, by rw [List.size_toArray, hi.length]; exact hl, by simpa using rv⟩))
    have z' : (none : Option HO) = some u := z
    cases z'
  | none =>
    let o0 : Obj := { cls := .type "list", data := .seq vs.toArray }
    let H : Hp := fun b => if b = a then some (.frz o0 (.lst (ns.map V.int))) else none
    have Ha : H a = some (.frz o0 (.lst (ns.map V.int))) := if_pos rfl
    have Hn : ∀ b, b ≠ a → H b = none := fun b hb => if_neg hb
    have hO : Only H := fun b => by
      by_cases hb : b = a
      · subst hb; exact .inr ⟨_, _, Ha⟩
      · exact .inl (Hn b hb)
    refine entry_run KX hns hb hbb hlim hg ha hr F hbind H hO (fun b u z => ?_) (fun b z => ?_) (fun _ => hk) (hsp _ hO (.inl (.inr ⟨_, Ha⟩)))
    · by_cases hb : b = a
      · subst hb
        rw [Ha] at z
        cases z
        exact ⟨ha, by rw [List.length_map]; exact hl, vs, _, rv, ha⟩
      · rw [Hn b hb] at z
        cases z
    · by_cases hb : b = a
      · exact hb
      · exact absurd (Hn b hb) z
end
/-- what k_head leaves, from the law's promise -/
theorem walk_ofG {l : PySem.W.OpenLaw} {n k : Nat} {q : Program} {loose : List Str} {XP : (Str → Option Value) → Heap → Prop} {YP : World → Heap → Prop} {d : DefRec} {K : Params → PySem.W.Frag} {sp : PySem.W.Frag → Sp} {x : Str}
    (hn : l.most = some n) (hn2 : n ≤ sizeLine) (hdf : d.params.defaults = []) (hr : Room k callerA) (hY : ∀ (w : World) (h : Heap), YP w h → (K w.params).In h)
    (F : ∀ (w : World) (mg : Str → Option Value) (fa : Addr) (h : Heap), (K w.params).In h → h.Ns mainGlobals mg → mg d.name = some (.ref fa) →
      ∃ fd : FuncData, (∀ (s : Shared) (u : Value), BindsTo s fd ⟨[u], []⟩ [(x, u)]) ∧
        ∀ base : Heap, (K w.params).In base → base.Ns mainGlobals mg → FnG l.prog w (K w.params) mg base CX0 k fa fd [x] (sp (K w.params)))
    (hsp : ∀ (K : PySem.W.Frag) (H : Hp) (a : Addr) (ns : List Int), ns.length ≤ n → Only H → SqL K H a (ns.map V.int) → sp K [.ref a] H (fun v _ => v = .bl true) fun _ _ _ => False) :
    PySem.W.WalkO q loose XP YP l.row.toRowW d [] (fun f vs => PySem.call f vs) := by
  apply Att.attach_call hn hdf
  intro w s0 s1 mg mb fa o pm cd doc a vs ns G Y ho hd hcd hmg hobj hints hlen hg
  have KX := hY w _ Y
  obtain ⟨fd, hb, hF⟩ := F w mg fa _ KX G.T.g hmg
  exact entry_call KX G.T.g G.T.b G.T.builtins G.T.nolimit hg hobj hints (Nat.le_trans hlen hn2) hr hF hb fun H hO hS => hsp _ H a ns hlen hO hS

/-! ### the law: the first statement makes what draws -/
/-- what the law is asked: the script, any end True -/
def spLaw (K : PySem.W.Frag) : Sp := fun vs H Q _ => ∃ (a : Addr) (ns : List Int), vs = [.ref a] ∧ SqL K H a (ns.map V.int) ∧ ns.length ≤ 63 ∧ ∀ H', Q (.bl true) H'
/-- the def that makes what draws of the script -/
def spDrum (K : PySem.W.Frag) : Sp := fun vs H Q _ => ∃ (a : Addr) (ns : List Int), vs = [.ref a] ∧ SqL K H a (ns.map V.int) ∧ ns.length ≤ 63 ∧
  ∀ (p c : Addr) (ms : List Int) (H' : Hp), Same H H' → H p = none → H' p = some (.lst [.ref c, .int 0, .int 0]) → H' c = some (.lst (ms.map V.int)) → Q (.ref p) H'
section
variable {X : Cx} {i : Nat} {u : DS} {st : Stmt} {rest : List Stmt} {σ : L2.St} {H : Hp}
/-- the rest of the law, from a heap in which the drum stands in slot i -/
def tHideD (t : TS) : TS := fun D σ H => ∃ (p c : Addr) (k : Nat), H p = some (.lst [.ref c, .int 0, .int 0]) ∧ t D σ (upd H p (DrO p c k))
theorem pss_hideD {sts : List Stmt} {t : TS} (h : PSs X sts t) : PSs X sts (tHideD t) := ⟨fun pins s σ H D I ⟨p, c, k, e, hw⟩ =>
  h.run pins s σ _ D (inv_dhide I e (Int.le_refl 0) (by omega)) hw⟩
end
end DL
/-! T10: steps of a reading. -/
namespace DL
open PySem PySem.Spec L2
section
variable {ρ : SEnv} {n : Nat} {Q : QD} {F : QE} {x y : D} {i j : Int} {ta tb t : DT} {tc td : DTT} {ts tr : DTA} {G : EndsD} {s u : DS} {k : Nat} {P P' : D → Prop} {QT : Bool → Nat → Prop} {QA : List D → Nat → Prop} {ds es : List D} {A B : Prop} {b : Bool}
theorem s_var {ix : Nat} (e : ρ[ix]? = some (Slot.d x)) (h : Q x n) : dVar ix ρ n Q F := ⟨x, e, h⟩
theorem s_C (h : Q x n) : dC x ρ n Q F := h
theorem s_bin {od : D → D → (D → Prop) → Prop} (h : ta ρ n (fun x n1 => tb ρ n1 (fun y n2 => od x y fun z => Q z n2) F) F) : dBin od ta tb ρ n Q F := h
theorem s_un {od : D → (D → Prop) → Prop} (h : ta ρ n (fun x n1 => od x fun z => Q z n1) F) : dUn od ta ρ n Q F := h
theorem s_andV (h : ta ρ n (fun x n1 => ∃ c, x = .bl c ∧ if c = true then tb ρ n1 Q F else Q (.bl false) n1) F) : dAndV ta tb ρ n Q F := h
theorem s_orV (h : ta ρ n (fun x n1 => ∃ c, x = .bl c ∧ if c = true then Q (.bl true) n1 else tb ρ n1 Q F) F) : dOrV ta tb ρ n Q F := h
theorem s_notV (h : ta ρ n (fun x n1 => ∃ c, x = .bl c ∧ Q (.bl (!c)) n1) F) : dNotV ta ρ n Q F := h
theorem s_if (h : tc ρ n (fun c n1 => if c = true then ta ρ n1 Q F else tb ρ n1 Q F) F) : dIf tc ta tb ρ n Q F := h
theorem s_val (h : ta ρ n (fun x n1 => ∃ c, x = .bl c ∧ QT c n1) F) : dVal ta ρ n QT F := h
theorem s_andT (h : tc ρ n (fun c n1 => if c = true then td ρ n1 QT F else QT false n1) F) : dAndT tc td ρ n QT F := h
theorem s_orT (h : tc ρ n (fun c n1 => if c = true then QT true n1 else td ρ n1 QT F) F) : dOrT tc td ρ n QT F := h
theorem s_notT (h : tc ρ n (fun c n1 => QT (!c) n1) F) : dNotT tc ρ n QT F := h
theorem s_yes (h : QT true n) : dYes ρ n QT F := h
theorem s_nil (h : QA [] n) : dNil ρ n QA F := h
theorem s_cons (h : ta ρ n (fun x n1 => tr ρ n1 (fun xs n2 => QA (x :: xs) n2) F) F) : dCons ta tr ρ n QA F := h
theorem s_tupE (h : ts ρ n (fun xs n1 => xs.length ≤ sizeLine ∧ Q (.tup xs) n1) F) : dTupE ts ρ n Q F := h
theorem s_lstE (h : ts ρ n (fun xs n1 => xs.length ≤ sizeLine ∧ Q (.lst xs) n1) F) : dLstE ts ρ n Q F := h
theorem s_call {sp : SpD} (h : ts ρ n (fun ds n1 => sp ds n1 Q F) F) : dCall sp ts ρ n Q F := h
theorem s_callK {sp : SpD} {g : List D → List D → List D} (h : ts ρ n (fun ds n1 => tr ρ n1 (fun es n2 => sp (g ds es) n2 Q F) F) F) : dCallK sp g ts tr ρ n Q F := h
theorem s_cb {cd : List D → (D → Prop) → Prop} (h : ts ρ n (fun ds n1 => cd ds fun d => Q d n1) F) : dCB cd ts ρ n Q F := h
theorem s_isi {Ts : List String} (h : t ρ n (fun x n1 => x.isData = true ∧ Q (.bl (x.isa Ts)) n1) F) : dIsi Ts t ρ n Q F := h
/-! operators -/
theorem s_add (h : P (.int (i + j))) : oAdd (.int i) (.int j) P := h
theorem s_addT (z : ds.length + es.length ≤ sizeLine) (h : P (.tup (ds ++ es))) : oAdd (.tup ds) (.tup es) P := ⟨z, h⟩
theorem s_addL (z : ds.length + es.length ≤ sizeLine) (h : P (.lst (ds ++ es))) : oAdd (.lst ds) (.lst es) P := ⟨z, h⟩
theorem s_sub (h : P (.int (i - j))) : oSub (.int i) (.int j) P := h
theorem s_neg (h : P (.int (-i))) : oNeg (.int i) P := h
theorem s_mul (z : MulOk i j) (h : P (.int (i * j))) : oMul (.int i) (.int j) P := ⟨z, h⟩
theorem log2_64 {i : Int} (h1 : 0 < i) (h2 : i < 2 ^ 64) : i.natAbs.log2 < 9000 := by
  have e : i.natAbs < 2 ^ 64 := by omega
  exact (Nat.log2_lt (by omega)).mpr (Nat.lt_of_lt_of_le e (Nat.pow_le_pow_right (by decide) (by decide)))
theorem s_div (h1 : 0 < j) (h2 : j < 2 ^ 64) (h : P (.int (i / j))) : oDiv (.int i) (.int j) P := ⟨⟨by omega, log2_64 h1 h2⟩, by rw [Int.fdiv_eq_ediv_of_nonneg i (by omega)]; exact h⟩
theorem s_mod (h1 : 0 < j) (h : P (.int (i % j))) : oMod (.int i) (.int j) P := ⟨by omega, by rw [Int.fmod_eq_emod_of_nonneg i (by omega)]; exact h⟩
theorem s_pow (h1 : 0 ≤ j) (h2 : j ≤ 1000000) (h3 : -(2 ^ 64) < i) (h4 : i < 2 ^ 64) (h : P (.int (i ^ j.toNat))) : oPow (.int i) (.int j) P := ⟨⟨h1, h2, by omega⟩, h⟩
theorem s_band (h : P (.int (Builtin.bitAnd i j))) : oBand (.int i) (.int j) P := h
theorem s_eqI (h : P (.bl (decide (i = j)))) : oEq (.int i) (.int j) P := .inl ⟨⟨rfl, rfl⟩, ⟨rfl, rfl⟩, by
  have e : D.eq (.int i) (.int j) = decide (i = j) := by
    show (i == j) = _
    exact Bool.beq_eq_decide_eq ..
  rw [e]; exact h⟩
theorem s_neI (h : P (.bl (!decide (i = j)))) : oNe (.int i) (.int j) P := .inl ⟨⟨rfl, rfl⟩, ⟨rfl, rfl⟩, by
  have e : D.eq (.int i) (.int j) = decide (i = j) := by
    show (i == j) = _
    exact Bool.beq_eq_decide_eq ..
  rw [e]; exact h⟩
theorem s_eq (hx : x.cmpOk) (hy : y.cmpOk) (h : P (.bl (D.eq x y))) : oEq x y P := .inl ⟨hx, hy, h⟩
theorem s_ne (hx : x.cmpOk) (hy : y.cmpOk) (h : P (.bl (!D.eq x y))) : oNe x y P := .inl ⟨hx, hy, h⟩
theorem s_lt (h : P (.bl (decide (i < j)))) : oLt (.int i) (.int j) P := h
theorem s_le (h : P (.bl (decide (i ≤ j)))) : oLe (.int i) (.int j) P := h
theorem s_gt (h : P (.bl (decide (j < i)))) : oGt (.int i) (.int j) P := h
theorem s_ge (h : P (.bl (decide (j ≤ i)))) : oGe (.int i) (.int j) P := h
theorem s_is (h : P (.bl x.isN)) : oIs x .non P := ⟨rfl, h⟩
theorem s_isnt (h : P (.bl (!x.isN))) : oIsnt x .non P := ⟨rfl, h⟩
theorem s_ixL (e : atI ds i = some x) (h : P x) : oIx (.lst ds) (.int i) P := ⟨x, e, h⟩
theorem s_ixT (e : atI ds i = some x) (h : P x) : oIx (.tup ds) (.int i) P := ⟨x, e, h⟩
theorem s_lenL (h : P (.int (ds.length : Nat))) : cLen [.lst ds] P := h
theorem s_lenT (h : P (.int (ds.length : Nat))) : cLen [.tup ds] P := h
theorem s_abs (h : P (.int (if i < 0 then -i else i))) : cAbs [.int i] P := h
theorem s_intI (h : P (.int i)) : cInt [.int i] P := h
theorem s_intB (h : P (.int (if b then 1 else 0))) : cInt [.bl b] P := h
theorem s_min (h : P (.int (if j < i then j else i))) : cMin2 [.int i, .int j] P := h
theorem s_tupL (h : P (.tup ds)) : cTuple [.lst ds] P := h
theorem s_tupT (h : P (.tup ds)) : cTuple [.tup ds] P := h
theorem s_lstL (h : P (.lst ds)) : cList [.lst ds] P := h
theorem s_lstT (h : P (.lst ds)) : cList [.tup ds] P := h
theorem s_all {bs : List Bool} (e : D.bools ds = some bs) (h : P (.bl (bs.all fun b => b))) : cAll [.lst ds] P := ⟨bs, e, h⟩
theorem s_any {bs : List Bool} (e : D.bools ds = some bs) (h : P (.bl (bs.any fun b => b))) : cAny [.lst ds] P := ⟨bs, e, h⟩
theorem s_repr (e : x.rok) (h : P (.str x.txt)) : cRepr [x] P := ⟨e, h⟩
/-! what is walked, comprehensions -/
theorem s_lc {it : DTI} {g : DG} {vs : List Nat} (h : it ρ n (fun ds n1 => ds.length ≤ sizeLine ∧ lcD g tc t (wipeD ρ vs) Q ds [] n1) F) : dLc it g tc t vs ρ n Q F := h
theorem s_lcn {g : DG} {acc : List D} (h : Q (.lst acc) n) : lcD g tc t ρ Q [] acc n := h
theorem s_lcc {g : DG} {acc : List D} (h : g x ρ n (fun ρ1 n1 => tc ρ1 n1 (fun b n2 => if b = true then t ρ1 n2 (fun y n3 => lcD g tc t ρ Q ds (acc ++ [y]) n3) (fun _ _ => False) else lcD g tc t ρ Q ds acc n2) (fun _ _ => False))) : lcD g tc t ρ Q (x :: ds) acc n := h
theorem s_seq {QI : List D → Nat → Prop} (h : t ρ n (fun x n1 => ∃ ds, (x = .lst ds ∨ x = .tup ds) ∧ QI ds n1) F) : dSeqI t ρ n QI F := h
theorem s_sqL {P : List D → Prop} (h : P ds) : ∃ es, (D.lst ds = .lst es ∨ D.lst ds = .tup es) ∧ P es := ⟨ds, .inl rfl, h⟩
theorem s_sqT {P : List D → Prop} (h : P ds) : ∃ es, (D.tup ds = .lst es ∨ D.tup ds = .tup es) ∧ P es := ⟨ds, .inr rfl, h⟩
def Rg1 (x : D) (QI : List D → Nat → Prop) (n : Nat) : Prop := ∃ j : Int, x = .int j ∧ (-(2 ^ 62) ≤ j ∧ j < 2 ^ 62) ∧ QI (rgD 0 j.toNat) n
def Rg2 (x y : D) (QI : List D → Nat → Prop) (n : Nat) : Prop := ∃ i j : Int, x = .int i ∧ y = .int j ∧ (-(2 ^ 62) ≤ i ∧ i < 2 ^ 62 ∧ -(2 ^ 62) ≤ j ∧ j < 2 ^ 62) ∧ QI (rgD i (j - i).toNat) n
theorem s_rg1 {QI : List D → Nat → Prop} (h : t ρ n (fun x n1 => Rg1 x QI n1) F) : dRng1 t ρ n QI F := h
theorem s_rg1i {QI : List D → Nat → Prop} (h1 : -(2 ^ 62) ≤ i) (h2 : i < 2 ^ 62) (h : QI (rgD 0 i.toNat) n) : Rg1 (.int i) QI n := ⟨i, rfl, ⟨h1, h2⟩, h⟩
theorem s_rg2 {QI : List D → Nat → Prop} (h : ta ρ n (fun x n1 => tb ρ n1 (fun y n2 => Rg2 x y QI n2) F) F) : dRng2 ta tb ρ n QI F := h
theorem s_rg2i {QI : List D → Nat → Prop} (h1 : -(2 ^ 62) ≤ i) (h2 : i < 2 ^ 62) (h3 : -(2 ^ 62) ≤ j) (h4 : j < 2 ^ 62) (h : QI (rgD i (j - i).toNat) n) : Rg2 (.int i) (.int j) QI n := ⟨i, j, rfl, rfl, ⟨h1, h2, h3, h4⟩, h⟩
theorem rg_nil (lo : Int) : rgD lo 0 = [] := rfl
theorem rg_succ (lo : Int) (n : Nat) : rgD lo (n + 1) = .int lo :: rgD (lo + 1) n := by
  unfold rgD
  rw [List.range_succ_eq_map, List.map_cons, List.map_map]
  congr 1
  · simp
  · apply List.map_congr_left
    intro a _
    simp only [Function.comp]
    congr 1
    omega
/-! targets, statements -/
theorem s_gName {ix : Nat} {R : SEnv → Nat → Prop} (e : Nat.ble (ix + 1) ρ.length = true) (h : R (ρ.set ix (.d x)) n) : dgName ix x ρ n R := ⟨Nat.le_of_ble_eq_true e, h⟩
theorem s_gTupT {gs : DGs} {R : SEnv → Nat → Prop} (e : ds.length = k) (h : gs ds ρ n R) : dgTup k gs (.tup ds) ρ n R := ⟨ds, .inl rfl, e, h⟩
theorem s_gTupL {gs : DGs} {R : SEnv → Nat → Prop} (e : ds.length = k) (h : gs ds ρ n R) : dgTup k gs (.lst ds) ρ n R := ⟨ds, .inr rfl, e, h⟩
theorem s_gNil {R : SEnv → Nat → Prop} (h : R ρ n) : dgNil [] ρ n R := ⟨rfl, h⟩
theorem s_gCons {g : DG} {gs : DGs} {R : SEnv → Nat → Prop} (h : g x ρ n (fun ρ1 n1 => gs ds ρ1 n1 R)) : dgCons g gs (x :: ds) ρ n R := ⟨x, ds, rfl, h⟩
theorem s_ret (h : t ρ n G.rt G.ex) : dRet t G ρ n := h
theorem s_retN (h : G.rt .non n) : dRetN G ρ n := h
theorem s_drop (h : t ρ n (fun _ n1 => G.nx ρ n1) G.ex) : dDrop t G ρ n := h
theorem s_set {ix : Nat} (e : Nat.ble (ix + 1) ρ.length = true) (h : t ρ n (fun x n1 => G.nx (ρ.set ix (.d x)) n1) G.ex) (m : ∀ (Q Q' : QD), (∀ x n, Q x n → Q' x n) → t ρ n Q G.ex → t ρ n Q' G.ex) : dSet ix t G ρ n := m _ _ (fun _ _ z => ⟨Nat.le_of_ble_eq_true e, z⟩) h
theorem s_set' {ix : Nat} (h : t ρ n (fun x n1 => ix < ρ.length ∧ G.nx (ρ.set ix (.d x)) n1) G.ex) : dSet ix t G ρ n := h
theorem s_lt' {a b : Nat} (e : Nat.ble (a + 1) b = true) (h : A) : a < b ∧ A := ⟨Nat.le_of_ble_eq_true e, h⟩
theorem s_le' {a b : Nat} (e : Nat.ble a b = true) (h : A) : a ≤ b ∧ A := ⟨Nat.le_of_ble_eq_true e, h⟩
theorem s_asg {g : DG} (h : t ρ n (fun x n1 => g x ρ n1 G.nx) G.ex) : dAsg t g G ρ n := h
theorem s_par {ix jx : Nat} (h : ta ρ n (fun x n1 => tb ρ n1 (fun y n2 => (ix < ρ.length ∧ jx < ρ.length) ∧ G.nx ((ρ.set ix (.d x)).set jx (.d y)) n2) G.ex) G.ex) : dPar ix jx ta tb G ρ n := h
theorem s_lt2 {a b c : Nat} (e : Nat.ble (a + 1) c = true) (e2 : Nat.ble (b + 1) c = true) (h : A) : (a < c ∧ b < c) ∧ A := ⟨⟨Nat.le_of_ble_eq_true e, Nat.le_of_ble_eq_true e2⟩, h⟩
theorem s_ifS (h : tc ρ n (fun b n1 => if b = true then s G ρ n1 else u G ρ n1) G.ex) : dIfS tc s u G ρ n := h
theorem s_next (h : G.nx ρ n) : dNext G ρ n := h
theorem s_seqS (h : s { nx := u G, rt := G.rt, bk := G.bk, ct := G.ct, ex := G.ex } ρ n) : dSeq s u G ρ n := h
theorem s_brk (h : G.bk ρ n) : dBrk G ρ n := h
theorem s_cont (h : G.ct ρ n) : dCont G ρ n := h
theorem s_for {it : DTI} {g : DG} (h : it ρ n (fun ds n1 => forD g s G ds ρ n1) G.ex) : dFor it g s G ρ n := h
theorem s_forn {g : DG} (h : G.nx ρ n) : forD g s G [] ρ n := h
theorem s_forc {g : DG} (h : g x ρ n (fun ρ1 n1 => s { nx := forD g s G ds, rt := G.rt, bk := G.nx, ct := forD g s G ds, ex := G.ex } ρ1 n1)) : forD g s G (x :: ds) ρ n := h
/-! what draws -/
theorem s_drum0 {ix : Nat} {ns : List Int} (e : ρ[ix]? = some (Slot.d (.drum ns))) (h : Q (.lst (ns.map D.int)) n) : dDrum ix 0 ρ n Q F := ⟨ns, e, .inl ⟨rfl, h⟩⟩
theorem s_drum1 {ix : Nat} {ns : List Int} (e : ρ[ix]? = some (Slot.d (.drum ns))) (h : ∀ t : Int, 0 ≤ t → t ≤ n → Q (.int t) n) : dDrum ix 1 ρ n Q F := ⟨ns, e, .inr (.inl ⟨rfl, h⟩)⟩
theorem s_drum2 {ix : Nat} {ns : List Int} (e : ρ[ix]? = some (Slot.d (.drum ns))) (h : ∀ r : Int, Q (.int r) n) : dDrum ix 2 ρ n Q F := ⟨ns, e, .inr (.inr ⟨rfl, h⟩)⟩
theorem s_drumS {ix : Nat} (h : t ρ n (fun x n1 => (∃ ns : List Int, ρ[ix]? = some (Slot.d (.drum ns))) ∧ ∃ z : Int, x = .int z ∧ ((j = 1 ∧ (0 ≤ z ∧ z ≤ n1 + 1) ∧ G.nx ρ (n1 + 1)) ∨ (j = 2 ∧ G.nx ρ n1))) G.ex) : dDrumSet ix j t G ρ n := h
theorem s_dset1 {m : Nat} {C : Prop} (e : A) (h0 : 0 ≤ i) (h1 : i ≤ m + 1) (h : B) : A ∧ ∃ z : Int, D.int i = .int z ∧ (((1 : Int) = 1 ∧ (0 ≤ z ∧ z ≤ m + 1) ∧ B) ∨ ((1 : Int) = 2 ∧ C)) := ⟨e, i, rfl, .inl ⟨rfl, ⟨h0, h1⟩, h⟩⟩
theorem s_dset2 {m : Nat} {C : Prop} (e : A) (h : C) : A ∧ ∃ z : Int, D.int i = .int z ∧ (((2 : Int) = 1 ∧ (0 ≤ z ∧ z ≤ m + 1) ∧ B) ∨ ((2 : Int) = 2 ∧ C)) := ⟨e, i, rfl, .inr ⟨rfl, h⟩⟩
/-! ifs -/
theorem iteTe (e : b = true) (h : A) : if b = true then A else B := by rw [if_pos e]; exact h
theorem iteFe (e : b = false) (h : B) : if b = true then A else B := by rw [if_neg (by rw [e]; decide)]; exact h
theorem ite2' (h1 : b = true → A) (h2 : b = false → B) : if b = true then A else B := by
  cases b
  · exact iteFe rfl (h2 rfl)
  · exact iteTe rfl (h1 rfl)
end
theorem ints_plain : ∀ ns : List Int, D.plains (ns.map D.int) = true
  | [] => rfl
  | n :: ns => by simp only [List.map_cons, D.plains, D.plain, ints_plain ns, Bool.and_self]
theorem ints_lay : ∀ ns : List Int, PyData.canLayAll0 (D.pys (ns.map D.int)) = true ∧ PyData.depthAll (D.pys (ns.map D.int)) = 0
  | [] => ⟨rfl, rfl⟩
  | n :: ns => by
    have ih := ints_lay ns
    simp only [List.map_cons, D.pys, D.py, PyData.canLayAll0, PyData.canLay0, PyData.depthAll, PyData.depth, ih.1, ih.2, Bool.and_self, Nat.max_self, and_self]
theorem ints_cmpOk (ns : List Int) : D.cmpOk (.lst (ns.map D.int)) := by
  have h := ints_lay ns
  refine ⟨by simp only [D.plain]; exact ints_plain ns, ?_⟩
  simp only [D.py, SeqAt.shaped, PyData.canLay0, PyData.depth, h.1, h.2, Bool.true_and]
  decide
theorem atI_ints {ns : List Int} {i : Int} (h0 : 0 ≤ i) (h1 : i < (ns.map D.int).length) : ∃ c : Int, atI (ns.map D.int) i = some (D.int c) := by
  obtain ⟨k, rfl⟩ : ∃ k : Nat, i = (k : Int) := ⟨i.toNat, by omega⟩
  have hk : k < (ns.map D.int).length := by omega
  have hk' : k < ns.length := by simpa using hk
  exact ⟨ns[k], atI_nat (by rw [List.getElem?_map, List.getElem?_eq_getElem hk']; rfl)⟩
end DL
/-! T11: defs of the text, their promises by number of parameters, keywords. -/
namespace DL
open PySem PySem.Spec L2
/-- a def of the module as it stands behind the top -/
structure Own (K : PySem.W.Frag) (mg : Str → Option Value) (x : Str) (st : Stmt) (ps : List Str) (f : Addr) (fd : FuncData) : Prop where
  fn : Fun K x x st f fd
  mg : mg x = some (.ref f)
  b : Binds K fd ps []
abbrev P0 := Nat → QD → QE → Prop
def sp0 (p : P0) : SpD := fun ds n Q F => match ds with | [] => p n Q F | _ => False
def sp1 (p : D → P0) : SpD := fun ds n Q F => match ds with | [a] => p a n Q F | _ => False
def sp2 (p : D → D → P0) : SpD := fun ds n Q F => match ds with | [a, b] => p a b n Q F | _ => False
def sp3 (p : D → D → D → P0) : SpD := fun ds n Q F => match ds with | [a, b, c] => p a b c n Q F | _ => False
def sp4 (p : D → D → D → D → P0) : SpD := fun ds n Q F => match ds with | [a, b, c, d] => p a b c d n Q F | _ => False
def sp5 (p : D → D → D → D → D → P0) : SpD := fun ds n Q F => match ds with | [a, b, c, d, e] => p a b c d e n Q F | _ => False
section
variable {n : Nat} {Q : QD} {F : QE} {ds : List D} {a b c d e : D}
theorem s_sp0 {p : P0} (h : p n Q F) : sp0 p [] n Q F := h
theorem s_sp1 {p : D → P0} (h : p a n Q F) : sp1 p [a] n Q F := h
theorem s_sp2 {p : D → D → P0} (h : p a b n Q F) : sp2 p [a, b] n Q F := h
theorem s_sp3 {p : D → D → D → P0} (h : p a b c n Q F) : sp3 p [a, b, c] n Q F := h
theorem s_sp4 {p : D → D → D → D → P0} (h : p a b c d n Q F) : sp4 p [a, b, c, d] n Q F := h
theorem s_sp5 {p : D → D → D → D → D → P0} (h : p a b c d e n Q F) : sp5 p [a, b, c, d, e] n Q F := h
theorem sp0_len {p : P0} (h : sp0 p ds n Q F) : ds.length = 0 := match ds, h with | [], _ => rfl
theorem sp1_len {p : D → P0} (h : sp1 p ds n Q F) : ds.length = 1 := match ds, h with | [_], _ => rfl
theorem sp2_len {p : D → D → P0} (h : sp2 p ds n Q F) : ds.length = 2 := match ds, h with | [_, _], _ => rfl
theorem sp3_len {p : D → D → D → P0} (h : sp3 p ds n Q F) : ds.length = 3 := match ds, h with | [_, _, _], _ => rfl
theorem sp4_len {p : D → D → D → D → P0} (h : sp4 p ds n Q F) : ds.length = 4 := match ds, h with | [_, _, _, _], _ => rfl
theorem sp5_len {p : D → D → D → D → D → P0} (h : sp5 p ds n Q F) : ds.length = 5 := match ds, h with | [_, _, _, _, _], _ => rfl
end
section
variable {N : List Str} {t : DS}
abbrev Goal (t : DS) (N : List Str) (ds : List D) (n : Nat) (Q : QD) : Prop := t { nx := fun _ n' => Q .non n', rt := Q } (startD N ds) n
theorem rd0 {p : P0} (h : ∀ n Q F, p n Q F → Goal t N [] n Q) : ∀ ds n Q F, sp0 p ds n Q F → Goal t N ds n Q := fun ds n Q F z => match ds, z with | [], z => h n Q F z
theorem rd1 {p : D → P0} (h : ∀ a n Q F, p a n Q F → Goal t N [a] n Q) : ∀ ds n Q F, sp1 p ds n Q F → Goal t N ds n Q := fun ds n Q F z => match ds, z with | [a], z => h a n Q F z
theorem rd2 {p : D → D → P0} (h : ∀ a b n Q F, p a b n Q F → Goal t N [a, b] n Q) : ∀ ds n Q F, sp2 p ds n Q F → Goal t N ds n Q := fun ds n Q F z => match ds, z with | [a, b], z => h a b n Q F z
theorem rd3 {p : D → D → D → P0} (h : ∀ a b c n Q F, p a b c n Q F → Goal t N [a, b, c] n Q) : ∀ ds n Q F, sp3 p ds n Q F → Goal t N ds n Q := fun ds n Q F z => match ds, z with | [a, b, c], z => h a b c n Q F z
theorem rd4 {p : D → D → D → D → P0} (h : ∀ a b c d n Q F, p a b c d n Q F → Goal t N [a, b, c, d] n Q) : ∀ ds n Q F, sp4 p ds n Q F → Goal t N ds n Q := fun ds n Q F z => match ds, z with | [a, b, c, d], z => h a b c d n Q F z
theorem rd5 {p : D → D → D → D → D → P0} (h : ∀ a b c d e n Q F, p a b c d e n Q F → Goal t N [a, b, c, d, e] n Q) : ∀ ds n Q F, sp5 p ds n Q F → Goal t N ds n Q := fun ds n Q F z => match ds, z with | [a, b, c, d, e], z => h a b c d e n Q F z
end
/-! keywords -/
def pickK (n m : Nat) (ix : List Nat) {α : Type} (us ws : List α) : List α := if us.length = n ∧ ws.length = m then ix.filterMap fun i => (us ++ ws)[i]? else []
theorem pick_vals {n m : Nat} {vs zs : List V} {us ws : List Value} (r : Vals vs us) (z : Vals zs ws) : ∀ ix : List Nat, Vals (ix.filterMap fun i => (vs ++ zs)[i]?) (ix.filterMap fun i => (us ++ ws)[i]?)
  | [] => .nil
  | i :: ix => by
    have ih := pick_vals (n := n) (m := m) r z ix
    have a := r.append z
    rw [List.filterMap_cons, List.filterMap_cons]
    cases e : (vs ++ zs)[i]? with
    | none => rw [a.none_of e]; exact ih
    | some v =>
      obtain ⟨u, e2, h⟩ := a.get e
      rw [e2]
      exact .cons h ih
theorem pick_dts {K : PySem.W.Frag} {q : Dq} {H : Hp} {vs zs : List V} {ds es : List D} (r : DtAll K q H vs ds) (z : DtAll K q H zs es) : ∀ ix : List Nat, DtAll K q H (ix.filterMap fun i => (vs ++ zs)[i]?) (ix.filterMap fun i => (ds ++ es)[i]?)
  | [] => .nil
  | i :: ix => by
    have ih := pick_dts r z ix
    have a := r.append z
    rw [List.filterMap_cons, List.filterMap_cons]
    cases e : (vs ++ zs)[i]? with
    | none =>
      have e2 : (ds ++ es)[i]? = none := by
        have h1 := a.length
        have h2 := List.getElem?_eq_none_iff.mp e
        exact List.getElem?_eq_none_iff.mpr (by omega)
      rw [e2]; exact ih
    | some v =>
      obtain ⟨d, e2, h⟩ := a.getV e
      rw [e2]
      exact .cons h ih
theorem pickK_dt (n m : Nat) (ix : List Nat) (K : PySem.W.Frag) (q : Dq) (H : Hp) (vs zs : List V) (ds es : List D) (r : DtAll K q H vs ds) (z : DtAll K q H zs es) : DtAll K q H (pickK n m ix vs zs) (pickK n m ix ds es) := by
  unfold pickK
  rw [r.length, z.length]
  split
  · exact pick_dts r z ix
  · exact .nil
theorem kb_of {K : PySem.W.Frag} {x : Str} {st : Stmt} {f : Addr} {fd : FuncData} {ps ks : List Str} {n : Nat} {ix : List Nat} (F : Fun K x x st f fd) (hp : ps ≠ [])
    (h : ∀ (kV doc pm : Value) (an : Option Addr) (cdv ct : Value) (us ws : List Value), us.length = n → ws.length = ks.length → bindArgs (PySem.W.fnOf x x (defArgs st) (defBody st) (defScope st) .none kV doc pm an cdv ct) ⟨us, ks.zip ws⟩ = pure (ps.zip (pickK n ks.length ix us ws))) :
    KBinds K fd ps ks (pickK n ks.length ix) (pickK n ks.length ix) := by
  obtain ⟨oc, od, kV, doc, pm, an, cdv, ct, osl, rfl, lk, hcd⟩ := F.ex
  refine ⟨fun s us ws _ hl => ?_, fun {vs us zs ws} r z => ?_⟩
  · by_cases e : us.length = n ∧ ws.length = ks.length
    · exact .of_eq (h kV doc pm an cdv ct us ws e.1 e.2)
    · unfold pickK at hl
      rw [if_neg e] at hl
      exact absurd (List.length_eq_zero_iff.mp hl.symm) hp
  · unfold pickK
    rw [r.length, z.length]
    split
    · exact pick_vals (n := 0) (m := 0) r z ix
    · exact .nil
theorem s_pick {sp : SpD} {a b : Nat} {ix : List Nat} {ds es l : List D} {n : Nat} {Q : QD} {F : QE} (e : pickK a b ix ds es = l) (h : sp l n Q F) : sp (pickK a b ix ds es) n Q F := by rw [e]; exact h
end DL
/-! T12: lists that one slot owns: made, stored into, grown, let go; the law's own beginning. -/
namespace DL
open PySem PySem.Spec L2
section
variable {K : PySem.W.Frag} {q : Dq} {H0 H : Hp} {ρ : SEnv} {n : Nat} {σ : L2.St} {i : Nat} {p : Addr} {vs ws : List V} {ds es : List D}
theorem Rel.ownAt (R : Rel K q H0 ρ n σ H) (e : ρ[i]? = some (.own ds)) : ∃ p vs, σ[i]? = some (some (.ref p)) ∧ H p = some (MutL p vs) ∧ H0 p = none ∧ DtAll K q H vs ds ∧ some p ≠ qa q := by
  obtain ⟨p, vs, a, b, c, d⟩ := R.own i ds e
  exact ⟨p, vs, a, b, c, d, fun z => R.q0 p z.symm c⟩
theorem frx_mut (e : H p = some (MutL p vs)) (o : HO) : FrX H (upd H p o) := fun b u h ne => by
  have hb : b ≠ p := fun z => by subst z; rw [e] at h; cases h; exact ne
  rw [upd_ne hb]; exact h
theorem dr_mut (d : Dr K q n H) (e : H p = some (MutL p vs)) (hq : some p ≠ qa q) (o : HO) : Dr K q n (upd H p o) := by
  cases q with
  | none => exact True.intro
  | some z =>
    obtain ⟨c, k, l, e1, e2⟩ := d
    exact ⟨c, k, l, by rw [upd_ne (fun w => hq (by rw [← w]; rfl))]; exact e1, by rw [upd_ne (fun w => by subst w; rw [e] at e2; cases e2)]; exact e2⟩
/-- the owned list gets other items -/
theorem Rel.mut (R : Rel K q H0 ρ n σ H) (e : ρ[i]? = some (.own ds)) (es1 : σ[i]? = some (some (.ref p))) (eH : H p = some (MutL p vs)) (h : DtAll K q H ws es) : Rel K q H0 (ρ.set i (.own es)) n σ (upd H p (MutL p ws)) := by
  obtain ⟨p', vs', a1, a2, a3, a4, a5⟩ := R.ownAt e
  have ep : p' = p := by rw [a1] at es1; cases es1; rfl
  subst ep
  have fx := frx_mut eH (MutL p' ws)
  have hi : i < ρ.length := (List.getElem?_eq_some_iff.mp e).1
  have ne : ∀ j xs pj, j ≠ i → ρ[j]? = some (.own xs) → σ[j]? = some (some (.ref pj)) → pj ≠ p' := fun j xs pj hj e1 e2 z => by
    subst z
    exact hj (R.apart j i xs ds pj e1 e e2 a1)
  refine ⟨by rw [List.length_set]; exact R.len, fun j x e1 => ?_, fun j xs e1 => ?_, fun j k xs ys pj e1 e2 e3 e4 => ?_, dr_mut R.dr eH a5 _, fun b o e1 nq => ?_, R.q0⟩
  · by_cases hj : i = j
    · subst hj
      rw [List.getElem?_set_self hi] at e1
      cases e1
    · rw [List.getElem?_set_ne hj] at e1
      obtain ⟨v, b1, b2⟩ := R.d j x e1
      exact ⟨v, b1, b2.up fx⟩
  · by_cases hj : i = j
    · subst hj
      rw [List.getElem?_set_self hi] at e1
      cases e1
      exact ⟨p', ws, a1, upd_same, a3, h.up fx⟩
    · rw [List.getElem?_set_ne hj] at e1
      obtain ⟨pj, vj, b1, b2, b3, b4⟩ := R.own j xs e1
      exact ⟨pj, vj, b1, by rw [upd_ne (ne j xs pj (Ne.symm hj) e1 b1)]; exact b2, b3, b4.up fx⟩
  · have back : ∀ {m : Nat} {zs : List D}, (ρ.set i (.own es))[m]? = some (.own zs) → ∃ zs', ρ[m]? = some (.own zs') := fun {m zs} ee => by
      by_cases hm : i = m
      · subst hm; exact ⟨ds, e⟩
      · rw [List.getElem?_set_ne hm] at ee; exact ⟨zs, ee⟩
    obtain ⟨xs', f1⟩ := back e1
    obtain ⟨ys', f2⟩ := back e2
    exact R.apart j k xs' ys' pj f1 f2 e3 e4
  · have hb : b ≠ p' := fun z => by subst z; rw [a3] at e1; cases e1
    rw [upd_ne hb]; exact R.fr b o e1 nq
/-- the owned list is let go: data from then on -/
theorem Rel.free (R : Rel K q H0 ρ n σ H) (e : ρ[i]? = some (.own ds)) (es1 : σ[i]? = some (some (.ref p))) (eH : H p = some (MutL p vs)) (h : DtAll K q H vs ds) : Rel K q H0 (ρ.set i (.d (.lst ds))) n σ (upd H p (.lst vs)) := by
  obtain ⟨p', vs', a1, a2, a3, a4, a5⟩ := R.ownAt e
  have ep : p' = p := by rw [a1] at es1; cases es1; rfl
  subst ep
  have fx := frx_mut eH (.lst vs)
  have hi : i < ρ.length := (List.getElem?_eq_some_iff.mp e).1
  refine ⟨by rw [List.length_set]; exact R.len, fun j x e1 => ?_, fun j xs e1 => ?_, fun j k xs ys pj e1 e2 e3 e4 => ?_, dr_mut R.dr eH a5 _, fun b o e1 nq => ?_, R.q0⟩
  · by_cases hj : i = j
    · subst hj
      rw [List.getElem?_set_self hi] at e1
      cases e1
      exact ⟨_, a1, .lst upd_same (h.up fx)⟩
    · rw [List.getElem?_set_ne hj] at e1
      obtain ⟨v, b1, b2⟩ := R.d j x e1
      exact ⟨v, b1, b2.up fx⟩
  · by_cases hj : i = j
    · subst hj
      rw [List.getElem?_set_self hi] at e1
      cases e1
    · rw [List.getElem?_set_ne hj] at e1
      obtain ⟨pj, vj, b1, b2, b3, b4⟩ := R.own j xs e1
      refine ⟨pj, vj, b1, ?_, b3, b4.up fx⟩
      rw [upd_ne (fun z => by subst z; exact hj (R.apart i j ds xs pj e e1 a1 b1))]; exact b2
  · have back : ∀ {m : Nat} {zs : List D}, (ρ.set i (.d (.lst ds)))[m]? = some (.own zs) → ρ[m]? = some (.own zs) := fun {m zs} ee => by
      by_cases hm : i = m
      · subst hm; rw [List.getElem?_set_self hi] at ee; cases ee
      · rw [List.getElem?_set_ne hm] at ee; exact ee
    exact R.apart j k xs ys pj (back e1) (back e2) e3 e4
  · have hb : b ≠ p' := fun z => by subst z; rw [a3] at e1; cases e1
    rw [upd_ne hb]; exact R.fr b o e1 nq
/-- a new list, hidden, in a slot -/
theorem Rel.take (R : Rel K q H0 ρ n σ H) (hi : i < σ.length) (hp : H p = none) (h : DtAll K q H vs ds) : Rel K q H0 (ρ.set i (.own ds)) n (σ.set i (some (.ref p))) (upd H p (MutL p vs)) := by
  have s := same_upd (o := MutL p vs) hp
  have R' := R.same s
  have hl := R.len
  have hq : some p ≠ qa q := dr_not R.dr hp
  have h0 : H0 p = none := by
    cases e : H0 p with
    | none => rfl
    | some u => have := R.fr p u e hq; rw [hp] at this; cases this
  have np : ∀ (j : Nat) (xs : List D), ρ[j]? = some (Slot.own xs) → σ[j]? ≠ some (some (V.ref p)) := fun j xs e z => by
    obtain ⟨pj, vj, b1, b2, _⟩ := R.own j xs e
    rw [b1] at z; cases z
    rw [hp] at b2; cases b2
  refine ⟨by rw [List.length_set, List.length_set]; exact hl, fun j x e1 => ?_, fun j xs e1 => ?_, fun j k xs ys pj e1 e2 e3 e4 => ?_, R'.dr, R'.fr, R.q0⟩
  · by_cases hj : i = j
    · subst hj
      rw [List.getElem?_set_self (by omega)] at e1
      cases e1
    · rw [List.getElem?_set_ne hj] at e1 ⊢
      exact R'.d j x e1
  · by_cases hj : i = j
    · subst hj
      rw [List.getElem?_set_self (by omega)] at e1
      cases e1
      exact ⟨p, vs, List.getElem?_set_self hi, upd_same, h0, h.up (.of_same s)⟩
    · rw [List.getElem?_set_ne hj] at e1 ⊢
      exact R'.own j xs e1
  · by_cases hj : i = j
    · by_cases hk : i = k
      · omega
      · subst hj
        rw [List.getElem?_set_self hi] at e3
        rw [List.getElem?_set_ne hk] at e2 e4
        cases e3
        exact absurd e4 (np k ys e2)
    · rw [List.getElem?_set_ne hj] at e1 e3
      by_cases hk : i = k
      · subst hk
        rw [List.getElem?_set_self hi] at e4
        cases e4
        exact absurd e3 (np j xs e1)
      · rw [List.getElem?_set_ne hk] at e2 e4
        exact R.apart j k xs ys pj e1 e2 e3 e4
end

/-! ### rules -/
section
variable {X : Cx} {q : Dq} {H0 : Hp} {E : XK} {e a : Expr} {es : List Expr} {t ta : DT} {ts : DTA} {pos : Pos} {st : Stmt} {sts : List Stmt} {u : DS}
/-- what follows a statement stands over a heap in which a list is hidden -/
theorem ps_hideNx {t : TS} (h : PS X st t) : PS X st (fun D σ H => t { D with nx := fun σ' H' => ∃ p vs, H' p = some (.lst vs) ∧ D.nx σ' (upd H' p (MutL p vs)) } σ H) := by
  refine ⟨fun pins s σ H D I hw => thn (h.run pins s σ H _ I hw) fun f s1 z => ?_⟩
  cases f with
  | next =>
    obtain ⟨σ', H', I', p, vs, e1, k⟩ := z
    exact ⟨σ', _, inv_hide I' e1, k⟩
  | ret v => exact z
  | brk => exact z
  | cont => exact z
def dSetOwn (i : Nat) (ts : DTA) : DS := fun G ρ n => ts ρ n (fun xs n1 => xs.length ≤ sizeLine ∧ i < ρ.length ∧ G.nx (ρ.set i (.own xs)) n1) G.ex
/-- x = [a, b, ..], the list to be changed later -/
theorem ds_setOwn (i : Nat) {x : Str} {pos' lpos : Pos} (hN : X.N.Nodup) (h : DA X q H0 E es ts) (hi : X.N[i]? = some x := by rfl) (hx : Loc X.env.scope x := by first | exact .inl rfl | exact .inr rfl) (hs : swapsWith (.List es lpos) (some (.Name x pos')) pos.line X.env = pure false := by rfl)
    (hf : X.fn x = true ∨ X.env.scope.names.lookup x = some .local := by first | exact .inl rfl | exact .inr rfl | assumption) : DSt X q H0 E (.Assign [.Name x pos'] (.List es lpos) pos) (dSetOwn i ts) := by
  refine ⟨(ps_hideNx (ps_set hN hi hx (pe_lst h.pa) hs hf)).imp fun D σ H ⟨ρ, n, G, R, h, cn, cr, cb, cc, o⟩ => ?_⟩
  refine dTA_mk R h (fun vs H1 ds n1 hds f1 R1 ⟨z, hl, h1⟩ => ⟨by rw [hds.length]; exact z, fun p hp => ?_⟩) o
  refine ⟨p, vs, upd_same, ?_⟩
  rw [upd_upd]
  exact cn _ _ _ n1 ((f1.x R.dr).trans (.of_same (same_upd hp))) (R1.take (by rw [← R1.len]; exact hl) hp hds) h1
def dOwnSet (i : Nat) (tk tv : DT) : DS := fun G ρ n => ∃ ds, ρ[i]? = some (Slot.own ds) ∧ tv ρ n (fun v n1 => tk ρ n1 (fun k n2 => ∃ z j, k = .int z ∧ ixN ds.length z = some j ∧ G.nx (ρ.set i (.own (ds.set j v))) n2) G.ex) G.ex
def rSetM : V → V → V → Hp → (Hp → Prop) → Prop := fun o i v H Q => ∃ p xs k j, o = .ref p ∧ i = .int k ∧ H p = some (MutL p xs) ∧ ixN xs.length k = some j ∧ Q (upd H p (MutL p (xs.set j v)))
theorem set_mut : PSet X rSetM := by
  intro pins s σ H o i v ov iv u Q I ro ri rv ⟨p, xs, k, j, e1, e2, e3, e4, hq⟩
  refine thn (set_list pins s σ (upd H p (.lst xs)) o i v ov iv u (fun H' => H' = upd H p (.lst (xs.set j v))) (inv_show I e3) ro ri rv ⟨p, xs, k, j, e1, e2, upd_same, e4, by rw [upd_upd]⟩) fun _ s1 ⟨H1, I1, e5⟩ => ?_
  subst e5
  have I2 := inv_hide I1 upd_same
  rw [upd_upd] at I2
  exact ⟨_, I2, hq⟩
/-- x[k] = v, x an owned list -/
theorem ds_ownSet (i : Nat) {x : Str} {px tp : Pos} {k : Expr} {tk : DT} (hk : DE X q H0 E k tk) (he : DE X q H0 E e t) (hN : X.N[i]? = some x := by rfl) (hv : Vis X.env.scope x := by first | exact Or.inl rfl | exact Or.inr (Or.inl rfl) | exact Or.inr (Or.inr rfl)) (hd : (x == ("__debug__" : Str)) = false := by decide)
    (hcd : (x == ("__classdict__" : Str)) = false := by decide) (ha : ∀ v, assign (.Subscript (.Name x px) k tp) X.env v = (do
      let ov ← holding [v] (eval (.Name x px) X.env)
      let iv ← holding [v, ov] (eval k X.env)
      standAt tp
      holding [v, ov, iv] (setItem ov iv v)
      release [v, ov, iv] []) := by intro _; rfl)
    (hs : swapsWithSole [.Subscript (.Name x px) k tp] e pos.line X.env = pure false := by rfl) (hw : swappedStores [.Subscript (.Name x px) k tp] e X.env = pure none := by rfl)
    (h1 : (assignEach [.Subscript (.Name x px) k tp] X.env).map (·.2) = [assign (.Subscript (.Name x px) k tp) X.env] := by rfl) :
    DSt X q H0 E (.Assign [.Subscript (.Name x px) k tp] e pos) (dOwnSet i tk t) := by
  refine ⟨(ps_asg he.pe (pg_sub (pe_var hN hv hd hcd) hk.pe set_mut ha) hs hw h1).imp fun D σ H ⟨ρ, n, G, R, ⟨ds, e0, h⟩, cn, cr, cb, cc, o⟩ => ?_⟩
  refine dTE_mk R h (fun v H1 d n1 hd f1 R1 h1 => ?_) o
  obtain ⟨p, vs, e1, e2, e3, e4, e5⟩ := R1.ownAt e0
  refine ⟨_, e1, ?_⟩
  refine dTE_mk R1 h1 (fun kv H2 kd n2 hk2 f2 R2 ⟨z, j, e6, e7, h2⟩ => ?_) o
  subst e6
  cases hk2
  have fx := f2.x R1.dr
  have e8 : H2 p = some (MutL p vs) := f2 p _ e2 e5
  have hvs := e4.up fx
  refine ⟨p, vs, z, j, rfl, rfl, e8, by rw [e4.length]; exact e7, ?_⟩
  exact cn σ _ _ n2 (((f1.trans f2).x R.dr).trans (frx_mut e8 _)) (R2.mut e0 e1 e8 (hvs.set j (hd.up fx))) h2
/-- from here on the list is data -/
def dFree (i : Nat) (u : DS) : DS := fun G ρ n => ∃ ds, ρ[i]? = some (Slot.own ds) ∧ u G (ρ.set i (.d (.lst ds))) n
theorem pss_show {t : TS} (h : PSs X sts t) : PSs X sts (fun D σ H => ∃ p vs, H p = some (MutL p vs) ∧ t D σ (upd H p (.lst vs))) :=
  ⟨fun pins s σ H D I ⟨p, vs, e, hw⟩ => h.run pins s σ _ D (inv_show I e) hw⟩
theorem dss_free (i : Nat) (h : DSs X q H0 E sts u) : DSs X q H0 E sts (dFree i u) := by
  refine ⟨(pss_show h.pss).imp fun D σ H ⟨ρ, n, G, R, ⟨ds, e0, h⟩, cn, cr, cb, cc, o⟩ => ?_⟩
  obtain ⟨p, vs, e1, e2, e3, e4, e5⟩ := R.ownAt e0
  have fx := frx_mut e2 (.lst vs)
  refine ⟨p, vs, e2, dTS_mk (R.free e0 e1 e2 e4) h (fun σ2 H2 ρ2 n2 f2 R2 hq => cn σ2 H2 ρ2 n2 (fx.trans f2) R2 hq) (fun v H2 d n2 hd f2 r2 d2 hq => cr v H2 d n2 hd (fx.trans f2) r2 d2 hq) (fun σ2 H2 ρ2 n2 f2 R2 hq => cb σ2 H2 ρ2 n2 (fx.trans f2) R2 hq) (fun σ2 H2 ρ2 n2 f2 R2 hq => cc σ2 H2 ρ2 n2 (fx.trans f2) R2 hq) o⟩

/-! ### the law's own beginning -/
theorem pss_law {rest : List Stmt} (h : ∀ q H0, DSs X q H0 E rest u) : PSs X rest (fun D σ H => ∃ (p c : Addr), H p = some (.lst [.ref c, .int 0, .int 0]) ∧ ∃ q H0, dTS X.K q H0 E u D σ (upd H p (DrO p c 0))) :=
  ⟨fun pins s σ H D I ⟨p, c, e, q, H0, hw⟩ => (h q H0).pss.run pins s σ _ D (inv_dhide I e (Int.le_refl 0) (by omega)) hw⟩
theorem law_rel {K : PySem.W.Frag} {H : Hp} {p c : Addr} {ms : List Int} {m i : Nat} {σ : L2.St} (hi : i < m) (hl : σ.length = m) (hσ : σ[i]? = some (some (.ref p))) (e2 : H c = some (.lst (ms.map V.int))) (e1 : H p = some (DrO p c 0)) :
    Rel K (some (p, ms)) H ((List.replicate m Slot.no).set i (.d (.drum ms))) 0 σ H := by
  have key : ∀ (j : Nat) (s : Slot), ((List.replicate m Slot.no).set i (.d (.drum ms)))[j]? = some s → s ≠ .no → j = i ∧ s = .d (.drum ms) := fun j s e ne => by
    by_cases hj : i = j
    · subst hj
      rw [List.getElem?_set_self (by simpa using hi)] at e
      exact ⟨rfl, (Option.some.inj e).symm⟩
    · rw [List.getElem?_set_ne hj, List.getElem?_replicate] at e
      split at e
      · exact absurd (Option.some.inj e).symm ne
      · cases e
  refine ⟨by simp [hl], fun j x e => ?_, fun j xs e => ?_, fun j k xs ys pj e _ _ _ => ?_, ⟨c, 0, Nat.le_refl _, e1, e2⟩, .refl _, fun a e => ?_⟩
  · obtain ⟨e3, e4⟩ := key j _ e (by intro z; cases z)
    subst e3
    cases e4
    exact ⟨_, hσ, .drum rfl⟩
  · obtain ⟨_, e4⟩ := key j _ e (by intro z; cases z)
    cases e4
  · obtain ⟨_, e4⟩ := key j _ e (by intro z; cases z)
    cases e4
  · cases e
    rw [e1]
    exact fun z => by cases z
/-- a loop by its invariant -/
theorem forD_inv {g : DG} {tb : DS} {G : EndsD} {ds : List D} {ρ : SEnv} {n : Nat} (I : Nat → SEnv → Nat → Prop) (h0 : I 0 ρ n)
    (step : ∀ i d ρ n, ds[i]? = some d → I i ρ n → ∀ (k : SEnv → Nat → Prop), (∀ ρ n, I (i + 1) ρ n → k ρ n) → g d ρ n (fun ρ1 n1 => tb { nx := k, rt := G.rt, bk := G.nx, ct := k, ex := G.ex } ρ1 n1))
    (fin : ∀ ρ n, I ds.length ρ n → G.nx ρ n) : forD g tb G ds ρ n := by
  have go : ∀ (m i : Nat) (ρ : SEnv) (n : Nat), ds.length - i = m → i ≤ ds.length → I i ρ n → forD g tb G (ds.drop i) ρ n := by
    intro m
    induction m with
    | zero =>
      intro i ρ n e hi hI
      have e1 : i = ds.length := by omega
      subst e1
      rw [List.drop_length]
      exact fin ρ n hI
    | succ m ih =>
      intro i ρ n e hi hI
      have hlt : i < ds.length := by omega
      rw [List.drop_eq_getElem_cons hlt]
      exact step i _ ρ n (List.getElem?_eq_getElem hlt) hI _ fun ρ' n' h' => ih (i + 1) ρ' n' (by omega) hlt h'
  have z := go ds.length 0 ρ n (by omega) (Nat.zero_le _) h0
  rw [List.drop_zero] at z
  exact z
end
end DL
/-! T13: more operators; what the draw's reading needs. -/
namespace DL
open PySem PySem.Spec L2
def CPowA (i j : Int) : Prop := 0 ≤ j ∧ ((j ≤ 1000000 ∧ i.natAbs < 2 ^ 64) ∨ (j ≤ 16 ∧ i.natAbs < 2 ^ 4096))
theorem bits_4096 {i : Int} (h : i.natAbs < 2 ^ 4096) : Builtin.Int.intBits i ≤ 4096 := by
  unfold Builtin.Int.intBits
  by_cases z : i = 0
  · subst z; decide
  · rw [if_neg (by simpa using z)]
    exact (Nat.log2_lt (by omega)).mpr h
theorem op_powA {X : Cx} : OpR X (binaryOp .Pow) (rI CPowA fun i j => .int (i ^ j.toNat)) := opI fun i j _ _ _ _ _ hc q => by
  rcases hc.2 with ⟨h1, h2⟩ | ⟨h1, h2⟩
  · exact PyProof.Rows.pow_int_small hc.1 h1 h2 q
  · refine PyProof.Rows.pow_int hc.1 ?_ q
    have a := bits_4096 h2
    have b := hc.1
    have e : (Builtin.Int.intBits i : Int) * j ≤ 4096 * 16 := Int.mul_le_mul (by omega) h1 b (by omega)
    omega
def oPowA : D → D → (D → Prop) → Prop
  | .int i, .int j, Q => CPowA i j ∧ Q (.int (i ^ j.toNat))
  | _, _, _ => False
def oIsB : D → D → (D → Prop) → Prop
  | .bl i, .bl j, Q => Q (.bl (decide (i = j)))
  | _, _, _ => False
def oNotB : D → D → (D → Prop) → Prop
  | .bl i, .bl j, Q => Q (.bl (!decide (i = j)))
  | _, _, _ => False
section
variable {X : Cx} {q : Dq}
theorem od_powA : OpD X q (binaryOp .Pow) oPowA := ⟨_, op_powA, fun H x y dx dy Q0 Q hx hy h c => by
  cases hx <;> cases hy <;> simp only [oPowA] at h
  exact ⟨_, _, rfl, rfl, h.1, c _ H _ (.int _) (.refl _) h.2⟩⟩
theorem od_isB : OpD X q (compareOp .Is) oIsB := ⟨_, op_isBl, fun H x y dx dy Q0 Q hx hy h c => by
  cases hx <;> cases hy <;> simp only [oIsB] at h
  exact ⟨_, _, rfl, rfl, c _ H _ (.bl _) (.refl _) h⟩⟩
theorem od_notB : OpD X q (compareOp .IsNot) oNotB := ⟨_, op_notBl, fun H x y dx dy Q0 Q hx hy h c => by
  cases hx <;> cases hy <;> simp only [oNotB] at h
  exact ⟨_, _, rfl, rfl, c _ H _ (.bl _) (.refl _) h⟩⟩
end
section
variable {i j : Int} {b c : Bool} {P : D → Prop}
theorem s_powA (h1 : 0 ≤ j) (h2 : j ≤ 1000000) (h3 : -(2 ^ 64) < i) (h4 : i < 2 ^ 64) (h : P (.int (i ^ j.toNat))) : oPowA (.int i) (.int j) P := ⟨⟨h1, .inl ⟨h2, by omega⟩⟩, h⟩
theorem s_powW (h1 : 0 ≤ j) (h2 : j ≤ 16) (h3 : i.natAbs < 2 ^ 4096) (h : P (.int (i ^ j.toNat))) : oPowA (.int i) (.int j) P := ⟨⟨h1, .inr ⟨h2, h3⟩⟩, h⟩
theorem s_isB (h : P (.bl (decide (b = c)))) : oIsB (.bl b) (.bl c) P := h
theorem s_notB (h : P (.bl (!decide (b = c)))) : oNotB (.bl b) (.bl c) P := h
end
theorem mul_bd {a b A B : Int} (h1 : 0 ≤ a) (h2 : a ≤ A) (h3 : 0 ≤ b) (h4 : b ≤ B) : 0 ≤ a * b ∧ a * b ≤ A * B := ⟨Int.mul_nonneg h1 h3, Int.mul_le_mul h2 h4 h3 (by omega)⟩
theorem cells_pos {ns : List Int} (h : (!D.eq (.lst (ns.map D.int)) (.lst [])) = true) : (0 : Int) < ((ns.map D.int).length : Nat) := by
  cases ns with
  | nil => exact absurd h (by decide)
  | cons n ns => simp only [List.map_cons, List.length_cons]; omega
theorem cells_pos' {ns : List Int} (h : D.eq (.lst (ns.map D.int)) (.lst []) = false) : (0 : Int) < ((ns.map D.int).length : Nat) := cells_pos (by rw [h]; rfl)
theorem mix_bd {m t c c2 c3 : Int} (h1 : 0 ≤ m) (h2 : m < 2 ^ 31) (h3 : 0 ≤ t) (h4 : t < 4096) (h5 : 0 ≤ c) (h6 : c < 2 ^ 20) (h7 : 0 ≤ c2) (h8 : c2 < 2 ^ 20) (h9 : 0 ≤ c3) (h10 : c3 < 2 ^ 20) :
    -(2 ^ 64) < m * (2 * t + c) + c2 * t * t + c3 ∧ m * (2 * t + c) + c2 * t * t + c3 < 2 ^ 64 := by
  have a := mul_bd h1 (show m ≤ 2 ^ 31 by omega) (show 0 ≤ 2 * t + c by omega) (show 2 * t + c ≤ 2 ^ 21 by omega)
  have b := mul_bd h7 (show c2 ≤ 2 ^ 20 by omega) h3 (show t ≤ 2 ^ 12 by omega)
  have d := mul_bd b.1 b.2 h3 (show t ≤ 2 ^ 12 by omega)
  omega
theorem s_ixC {ns : List Int} {i : Int} {P : D → Prop} (h0 : 0 < (((ns.map D.int).length : Nat) : Int)) (h : ∀ c, P (.int c)) : oIx (.lst (ns.map D.int)) (.int (i % (((ns.map D.int).length : Nat) : Int))) P := by
  obtain ⟨c, e⟩ := atI_ints (Int.emod_nonneg i (by omega)) (Int.emod_lt_of_pos i h0)
  exact ⟨_, e, h c⟩
/-- what a draw is asked, what it answers -/
def p_draw : D → D → P0 := fun s m n Q _ => (∃ ms, s = .drum ms) ∧ ∃ k : Int, m = .int k ∧ 0 < k ∧ k < 2 ^ 30 ∧ n < 2000 ∧ ∀ i : Int, 0 ≤ i → i < k → ∀ n', n ≤ n' → n' ≤ n + 1 → Q (.int i) n'
theorem draw_end {Q : QD} {n n' : Nat} {k x : Int} (h : ∀ i : Int, 0 ≤ i → i < k → ∀ n', n ≤ n' → n' ≤ n + 1 → Q (.int i) n') (hk : 0 < k) (h1 : n ≤ n') (h2 : n' ≤ n + 1) : Q (.int (x % k)) n' :=
  h _ (Int.emod_nonneg _ (by omega)) (Int.emod_lt_of_pos _ hk) _ h1 h2
theorem len_lt {ds : List D} {i : Int} (h : 0 < ((ds.length : Nat) : Int)) : 0 ≤ i % ((ds.length : Nat) : Int) ∧ i % ((ds.length : Nat) : Int) < ((ds.length : Nat) : Int) := ⟨Int.emod_nonneg _ (by omega), Int.emod_lt_of_pos _ h⟩
end DL
/-! T14: slices; the law by its first statement and the rest. -/
namespace DL
open PySem PySem.Spec L2
open PyProof.Rows (envOfC)
abbrev DTO := SEnv → Nat → (Option Int → Nat → Prop) → QE → Prop
def dNoPart : DTO := fun _ n Q _ => Q none n
def dPart (t : DT) : DTO := fun ρ n Q F => t ρ n (fun x n1 => ∃ i : Int, x = .int i ∧ Q (some i) n1) F
def dTO (K : PySem.W.Frag) (q : Dq) (H0 : Hp) (E : XK) (t : DTO) : TO := fun σ H Q => ∃ ρ n Q0 F, Rel K q H0 ρ n σ H ∧ t ρ n Q0 F ∧
  (∀ o H' n', Fr q H H' → Rel K q H0 ρ n' σ H' → Q0 o n' → Q o H') ∧ ErOk K q H0 F E
structure DO (X : Cx) (q : Dq) (H0 : Hp) (E : XK) (e : Option Expr) (t : DTO) : Prop where
  po : PO X e (dTO X.K q H0 E t)
def cutD {α : Type} (xs : List α) (lo hi : Option Int) : List α := (xs.drop (HT.sIx xs.length 0 lo)).take (HT.sIx xs.length xs.length hi - HT.sIx xs.length 0 lo)
def oSl : D → Option Int → Option Int → (D → Prop) → Prop
  | .lst ds, l, u, P => P (.lst (cutD ds l u))
  | .tup ds, l, u, P => P (.tup (cutD ds l u))
  | .scr ns, l, u, P => P (.lst ((cutD ns l u).map D.int))
  | _, _, _, _ => False
def dSlice (te : DT) (lo hi : DTO) : DT := fun ρ n Q F => te ρ n (fun x n1 => lo ρ n1 (fun l n2 => hi ρ n2 (fun u n3 => oSl x l u fun z => Q z n3) F) F) F
section
variable {X : Cx} {q : Dq} {H0 : Hp} {E : XK} {e : Expr} {lo hi : Option Expr} {te : DT} {tl th : DTO} {pos p2 : Pos}
theorem PO.imp {e : Option Expr} {t t' : TO} (h : PO X e t) (i : ∀ σ H Q, t' σ H Q → t σ H Q) : PO X e t' := ⟨fun pins s σ H Q I z => h.run pins s σ H Q I (i _ _ _ z)⟩
theorem do_none : DO X q H0 E none dNoPart := ⟨PO.imp po_none fun σ H Q ⟨ρ, n, Q0, F, R, h, c, o⟩ => c _ H n (.refl _) R h⟩
theorem do_some (h : DE X q H0 E e te) : DO X q H0 E (some e) (dPart te) := ⟨PO.imp (po_some h.pe) fun σ H Q ⟨ρ, n, Q0, F, R, h, c, o⟩ =>
  dTE_mk R h (fun v H' d n' hd f1 R1 ⟨i, e1, hq⟩ => by subst e1; cases hd; exact ⟨i, rfl, c _ H' n' f1 R1 hq⟩) o⟩
theorem DtAll.cut {K : PySem.W.Frag} {H : Hp} {vs : List V} {ds : List D} (l u : Option Int) (h : DtAll K q H vs ds) : DtAll K q H (cutV vs l u) (cutD ds l u) := by
  unfold cutV cutD
  rw [h.length]
  exact (h.drop _).take _
theorem cut_ints (ns : List Int) (l u : Option Int) : cutV (ns.map V.int) l u = (cutD ns l u).map V.int := by
  unfold cutV cutD
  rw [List.length_map, List.map_take, List.map_drop]
theorem cut_whole {ds : List D} {l u : Option Int} (h : HT.sIx ds.length 0 l = 0 ∧ HT.sIx ds.length ds.length u = ds.length) : cutD ds l u = ds := by
  unfold cutD
  rw [h.1, h.2, List.drop_zero, Nat.sub_zero, List.take_length]
theorem de_slice (he : DE X q H0 E e te) (hl : DO X q H0 E lo tl) (hu : DO X q H0 E hi th) : DE X q H0 E (.Subscript e (.Slice lo hi none p2) pos) (dSlice te tl th) := by
  refine ⟨(pe_slice (sl_list.or sl_tupA) he.pe hl.po hu.po).imp fun σ H Q ⟨ρ, n, Q0, F, R, h, c, o⟩ => ?_⟩
  refine dTE_mk R h (fun v H1 d n1 hd f1 R1 h1 => ?_) o
  refine ⟨ρ, n1, _, F, R1, h1, fun l H2 n2 f2 R2 h2 => ?_, o⟩
  refine ⟨ρ, n2, _, F, R2, h2, fun u H3 n3 f3 R3 h3 => ?_, o⟩
  have hd3 := hd.up ((f2.trans f3).x R1.dr)
  have fin : ∀ (z : D) (p : Addr) (ob : HO), H3 p = none → Dt X.K q (upd H3 p ob) (.ref p) z → Q0 z n3 → Q (.ref p) (upd H3 p ob) := fun z p ob hp hz hq =>
    c _ _ _ n3 hz ((f1.trans (f2.trans f3)).trans (.of_same (same_upd hp))) (R3.same (same_upd hp)) hq
  cases hd3 with
  | lst ha hs => exact .inl ⟨_, _, rfl, SqL.of ha, fun p hp => fin _ p _ hp (.lst upd_same ((hs.up (.of_same (same_upd hp))).cut l u)) h3⟩
  | scr ha => exact .inl ⟨_, _, rfl, ha, fun p hp => by
      refine fin _ p _ hp ?_ h3
      rw [cut_ints]
      exact .lst upd_same (dt_ints _)⟩
  | tup ha hs =>
    refine .inr ⟨_, _, rfl, ha, fun hw => ?_, fun hw p hp => fin _ p _ hp (.tup (.inl (.inl upd_same)) ((hs.up (.of_same (same_upd hp))).cut l u)) h3⟩
    rw [hs.length] at hw
    have h3' := h3
    simp only [oSl] at h3'
    rw [cut_whole hw] at h3'
    exact c _ _ _ n3 (.tup ha hs) (f1.trans (f2.trans f3)) R3 h3'
  | _ => simp only [oSl] at h3
end
section
variable {ρ : SEnv} {n : Nat} {Q : QD} {F : QE} {te t : DT} {lo hi : DTO} {ds : List D} {l u : Option Int} {P : D → Prop} {QO : Option Int → Nat → Prop} {i : Int}
theorem s_slice (h : te ρ n (fun x n1 => lo ρ n1 (fun l n2 => hi ρ n2 (fun u n3 => oSl x l u fun z => Q z n3) F) F) F) : dSlice te lo hi ρ n Q F := h
theorem s_noPart (h : QO none n) : dNoPart ρ n QO F := h
theorem s_part (h : t ρ n (fun x n1 => ∃ i : Int, x = .int i ∧ QO (some i) n1) F) : dPart t ρ n QO F := h
theorem s_slL (h : P (.lst (cutD ds l u))) : oSl (.lst ds) l u P := h
theorem s_slT (h : P (.tup (cutD ds l u))) : oSl (.tup ds) l u P := h
theorem s_slS {ns : List Int} (h : P (.lst ((cutD ns l u).map D.int))) : oSl (.scr ns) l u P := h
end

/-! ### the law -/
theorem dts_ints {K : PySem.W.Frag} {q : Dq} {H : Hp} : ∀ {vs : List V} {ms : List Int}, DtAll K q H vs (ms.map D.int) → vs = ms.map V.int
  | [], [], _ => rfl
  | _, _ :: _, .cons h t => by
    cases h
    rw [List.map_cons, dts_ints t]
theorem law_fn {P : Program} {w : World} {K : PySem.W.Frag} {mg : Str → Option Value} {base : Heap} {k : Nat} {f : Addr} {fd : FuncData} {x qual lp : Str} {st st0 : Stmt} {rest : List Stmt} {N : List Str} {t0 : DT} {u : DS}
    (F : Fun K x qual st f fd) (S : FnScope N [lp] (defScope st)) (hst : defBody st = st0 :: rest) (hm : 1 < N.length)
    (b0 : ∀ (cdv : Value) (A : Around) (outer : List PySem.Env) (s : Shared) (H : Hp) (E : XK), Room k (A.deeper (envOfC qual (defScope st) s.heap.objs.size f cdv)) → A.guards = some [] →
      DSt (cxOf CX0 P w K mg base N qual (defScope st) f cdv A outer s H E).nox none H L2.E0 st0 (dSet 1 t0))
    (b1 : ∀ (q : Dq) (H0 : Hp) (cdv : Value) (A : Around) (outer : List PySem.Env) (s : Shared) (H : Hp) (E : XK), Room k (A.deeper (envOfC qual (defScope st) s.heap.objs.size f cdv)) → A.guards = some [] →
      DSs (cxOf CX0 P w K mg base N qual (defScope st) f cdv A outer s H E).nox q H0 L2.E0 rest u)
    (r0 : ∀ ns : List Int, ns.length ≤ 63 → ∀ Q : QD, (∀ (ms : List Int) (n : Nat), Q (.lst [.lst (ms.map D.int), .int 0, .int 0]) n) → t0 (startD N [.scr ns]) 0 Q fun _ _ => False)
    (r1 : ∀ ms : List Int, u { nx := fun _ _ => False, rt := fun d _ => d = .bl true } ((List.replicate N.length Slot.no).set 1 (.d (.drum ms))) 0) :
    FnG P w K mg base CX0 (k + 1) f fd [lp] (spLaw K) := by
  refine fnG_of F S (fun vs H Q E h => ?_) fun cdv A outer s H vs Q E hr hg h => ?_
  · obtain ⟨a, ns, rfl, _⟩ := h
    rfl
  · obtain ⟨a, ns, rfl, hS, hl, hQ⟩ := h
    rw [hst]
    refine ⟨_, (pss_cons (b0 cdv A outer s H E hr hg).ps (pss_law fun q H0 => b1 q H0 cdv A outer s H E hr hg)).nox, ?_⟩
    have sl : (startD N [.scr ns]).length = N.length := by
      show ([D.scr ns].map Slot.d ++ List.replicate (N.length - 1) Slot.no).length = _
      simp; omega
    refine dTS_mk (G := { nx := fun ρ _ => ρ.length = N.length ∧ ∃ ms : List Int, ρ[1]? = some (.d (.lst [.lst (ms.map D.int), .int 0, .int 0])), rt := fun _ _ => False }) (n := 0) (start_rel (q := none) (ds := [.scr ns]) (.cons (.scr hS) .nil) True.intro)
      (r0 ns hl _ fun ms n => ⟨by rw [sl]; exact hm, by rw [List.length_set]; exact sl, ms, List.getElem?_set_self (by rw [sl]; exact hm)⟩) (fun σ' H' ρ' n' _ R' h' => ?_) (fun _ _ _ _ _ _ _ _ z => z.elim) (fun _ _ _ _ _ _ z => z.elim) (fun _ _ _ _ _ _ z => z.elim) erOk_no
    obtain ⟨hl', ms, e⟩ := h'
    obtain ⟨v, e1, hd⟩ := R'.d 1 _ e
    cases hd with
    | lst hp hs =>
      rename_i p vs
      cases hs with
      | cons h1 t1 => cases t1 with
        | cons h2 t2 => cases t2 with
          | cons h3 t3 =>
            cases t3
            cases h2
            cases h3
            cases h1 with
            | lst hc hcs =>
              rename_i c ws
              have ew := dts_ints hcs
              subst ew
              have ne : c ≠ p := fun z => by
                subst z
                rw [hp] at hc
                have z1 := congrArg List.length (HO.lst.inj (Option.some.inj hc))
                cases ms with
                | nil => simp at z1
                | cons m ms =>
                  have z2 := HO.lst.inj (Option.some.inj hc)
                  rw [List.map_cons] at z2
                  have z3 := (List.cons.inj z2).1
                  cases z3
              refine ⟨p, c, hp, some (p, ms), upd H' p (DrO p c 0), ?_⟩
              refine dTS_mk (law_rel hm (by rw [← R'.len]; exact hl') e1 (by rw [upd_ne ne]; exact hc) upd_same) (r1 ms) (fun _ _ _ _ _ _ z => z.elim) (fun v H2 d n2 hd _ _ _ hq => ?_) (fun _ _ _ _ _ _ z => z.elim) (fun _ _ _ _ _ _ z => z.elim) erOk_no
              subst hq
              cases hd
              exact hQ H2
end DL
/-! T15: comprehensions by what each item gives; shapes of data. -/
namespace DL
open PySem PySem.Spec L2
section
variable {g : DG} {tc : DTT} {t : DT} {ρ : SEnv} {n : Nat} {Q : QD}
theorem lcD_fm (f : D → Option D) : ∀ {ds acc : List D}, (∀ x ∈ ds, ∀ (Kt : QD) (Kf : Nat → Prop), (∀ y, f x = some y → Kt y n) → (f x = none → Kf n) →
      g x ρ n (fun ρ1 n1 => tc ρ1 n1 (fun b n2 => if b = true then t ρ1 n2 Kt (fun _ _ => False) else Kf n2) (fun _ _ => False))) →
    Q (.lst (acc ++ ds.filterMap f)) n → lcD g tc t ρ Q ds acc n
  | [], acc, _, h => by rw [List.filterMap_nil, List.append_nil] at h; exact h
  | x :: ds, acc, st, h => st x (List.mem_cons_self ..) _ _ (fun y e => lcD_fm f (fun z hz => st z (List.mem_cons_of_mem _ hz)) (by
      rw [List.filterMap_cons, e] at h
      rw [List.append_assoc]; exact h)) fun e => lcD_fm f (fun z hz => st z (List.mem_cons_of_mem _ hz)) (by
      rw [List.filterMap_cons, e] at h
      exact h)
theorem lcD_inv (I : Nat → List D → Nat → Prop) {ds : List D} (h0 : I 0 [] n)
    (step : ∀ i x acc n, ds[i]? = some x → I i acc n → ∀ (Kt : QD) (Kf : Nat → Prop), (∀ y n', I (i + 1) (acc ++ [y]) n' → Kt y n') → (∀ n', I (i + 1) acc n' → Kf n') →
      g x ρ n (fun ρ1 n1 => tc ρ1 n1 (fun b n2 => if b = true then t ρ1 n2 Kt (fun _ _ => False) else Kf n2) (fun _ _ => False)))
    (fin : ∀ acc n, I ds.length acc n → Q (.lst acc) n) : lcD g tc t ρ Q ds [] n := by
  have go : ∀ (m i : Nat) (acc : List D) (n : Nat), ds.length - i = m → i ≤ ds.length → I i acc n → lcD g tc t ρ Q (ds.drop i) acc n := by
    intro m
    induction m with
    | zero =>
      intro i acc n e hi hI
      have e1 : i = ds.length := by omega
      subst e1
      rw [List.drop_length]
      exact fin acc n hI
    | succ m ih =>
      intro i acc n e hi hI
      have hlt : i < ds.length := by omega
      rw [List.drop_eq_getElem_cons hlt]
      exact step i _ acc n (List.getElem?_eq_getElem hlt) hI _ _ (fun y n' h' => ih (i + 1) _ n' (by omega) hlt h') fun n' h' => ih (i + 1) _ n' (by omega) hlt h'
  have z := go ds.length 0 [] n (by omega) (Nat.zero_le _) h0
  rw [List.drop_zero] at z
  exact z
end
/-- an int, no truth -/
def D.iI : D → Bool
  | .int _ => true
  | _ => false
/-- a list or a tuple -/
def D.isL : D → Bool
  | .lst _ => true
  | .tup _ => true
  | _ => false
def D.items : D → List D
  | .lst xs => xs
  | .tup xs => xs
  | _ => []
theorem iI_int {d : D} (h : d.iI = true) : ∃ i, d = .int i := by
  cases d <;> first | exact ⟨_, rfl⟩ | cases h
def p_sack : D → P0 := fun s n Q _ => ∃ ns : List Int, s = .scr ns ∧ ns.length ≤ 63 ∧ ∀ ms : List Int, Q (.lst [.lst (ms.map D.int), .int 0, .int 0]) n
theorem cut_len {α : Type} (xs : List α) (l u : Option Int) : (cutD xs l u).length ≤ xs.length := by
  unfold cutD
  rw [List.length_take, List.length_drop]
  omega
theorem fm_id {α : Type} (xs : List α) : xs.filterMap some = xs := by
  rw [List.filterMap_some]
theorem size_big {n : Nat} (h : n ≤ 20000) : n ≤ sizeLine := by rw [sizeLine_eq]; omega
section
variable {ρ : SEnv} {n : Nat} {Q : QD} {F : QE} {x : D} {t : DT} {tc : DTT} {G : EndsD} {s u : DS} {A B : Prop}
/-- an expression whose value is known, whatever is asked of it -/
theorem s_setV {ix : Nat} (x : D) (hv : ∀ Q : QD, Q x n → t ρ n Q G.ex) (hl : Nat.ble (ix + 1) ρ.length = true) (h : G.nx (ρ.set ix (.d x)) n) : dSet ix t G ρ n := hv _ ⟨Nat.le_of_ble_eq_true hl, h⟩
theorem s_ifV (b : Bool) (hv : ∀ Q : Bool → Nat → Prop, Q b n → tc ρ n Q G.ex) (h : if b = true then s G ρ n else u G ρ n) : dIfS tc s u G ρ n := hv _ h
theorem s_retV (x : D) (hv : ∀ Q : QD, Q x n → t ρ n Q G.ex) (h : G.rt x n) : dRet t G ρ n := hv _ h
theorem iteD {p : Prop} [Decidable p] (h1 : p → A) (h2 : ¬ p → B) : if decide p = true then A else B := by
  by_cases e : p
  · exact iteTe (decide_eq_true e) (h1 e)
  · exact iteFe (decide_eq_false e) (h2 e)
theorem iteN {p : Prop} [Decidable p] (h1 : ¬ p → A) (h2 : p → B) : if (!decide p) = true then A else B := by
  by_cases e : p
  · exact iteFe (by rw [decide_eq_true e]; rfl) (h2 e)
  · exact iteTe (by rw [decide_eq_false e]; rfl) (h1 e)
theorem s_while {tb : DS} (W : Nat → SEnv → Nat → Prop) (h0 : ∃ m, W m ρ n) (h : ∀ m ρ n, W m ρ n →
    tc ρ n (fun b n1 => if b = true then tb { nx := fun ρ' n' => ∃ m', m' < m ∧ W m' ρ' n', rt := G.rt, bk := G.nx, ct := fun ρ' n' => ∃ m', m' < m ∧ W m' ρ' n', ex := G.ex } ρ n1 else G.nx ρ n1) G.ex) : dWhile tc tb G ρ n := ⟨W, h0, h⟩
end
/-- data, and what stands in it, k deep -/
def D.dk : Nat → D → Prop
  | 0, d => d.isData = true
  | k + 1, d => d.isData = true ∧ ∀ x ∈ d.items, D.dk k x
theorem dk_data : ∀ {k : Nat} {d : D}, d.dk k → d.isData = true
  | 0, _, h => h
  | _ + 1, _, h => h.1
theorem len_succ {α : Type} {l : List α} {n : Nat} (h : l.length = n + 1) : ∃ a t, l = a :: t ∧ t.length = n := by
  cases l with
  | nil => cases h
  | cons a t => exact ⟨a, t, rfl, by simpa using h⟩
theorem isL_or {d : D} (h : d.isData = true) : (d.isL = false ∧ d.items = []) ∨ (∃ ds, d = .lst ds) ∨ ∃ ds, d = .tup ds := by
  cases d <;> first | exact .inl ⟨rfl, rfl⟩ | exact .inr (.inl ⟨_, rfl⟩) | exact .inr (.inr ⟨_, rfl⟩)
theorem iI_or (d : D) : (∃ i, d = .int i) ∨ d.iI = false := by
  cases d <;> first | exact .inl ⟨_, rfl⟩ | exact .inr rfl
theorem bl_eq {Q : QD} {n : Nat} {a b : Bool} (h : Q (.bl a) n) (e : a = b) : Q (.bl b) n := by rw [← e]; exact h
theorem notT {b : Bool} (e : b = false) : (!b) = true := by rw [e]; rfl
theorem notF {b : Bool} (e : b = true) : (!b) = false := by rw [e]; rfl
theorem two_or {α : Type} (ds : List α) : (∃ a b, ds = [a, b]) ∨ ds.length ≠ 2 := by
  match ds with
  | [] => exact .inr (by simp)
  | [_] => exact .inr (by simp)
  | [a, b] => exact .inl ⟨a, b, rfl⟩
  | _ :: _ :: _ :: _ => exact .inr (by simp)
end DL
/-! T16: == [], != [] of lists of whatever. -/
namespace DL
open PySem PySem.Spec L2
def rEqNil (K : PySem.W.Frag) : R2 := fun x y H Q => ∃ a b xs, x = .ref a ∧ y = .ref b ∧ SqL K H a xs ∧ SqL K H b [] ∧ Q (.bl xs.isEmpty) H
def rNeNil (K : PySem.W.Frag) : R2 := fun x y H Q => ∃ a b xs, x = .ref a ∧ y = .ref b ∧ SqL K H a xs ∧ SqL K H b [] ∧ Q (.bl (!xs.isEmpty)) H
section
variable {X : Cx} {q : Dq}
theorem op_eqNil (hu : X.A.units + 64 < cLine) : OpR X (compareOp .Eq) (rEqNil X.K) := by
  intro pins s σ H x y v u Q I rx ry h
  obtain ⟨a, b, xs, rfl, rfl, ha, hb, hq⟩ := h
  cases xs with
  | nil => exact op_eqD hu pins s σ H _ _ v u Q I rx ry ⟨.list [], .list [], .lst ha .nil, .lst hb .nil, rfl, rfl, hq⟩
  | cons z zs =>
    cases (show v = Value.ref a from rx)
    cases (show u = Value.ref b from ry)
    obtain ⟨us, r1, p1, _⟩ := I.list ha
    obtain ⟨ws, r2, p2, _⟩ := I.list hb
    cases r1
    cases r2
    exact SeqAt.RcAt.lists_lengths p1.isList p2.isList (by simp) (by omega) X.prog X.w _ _ ⟨.bl false, H, I, rfl, hq⟩
theorem op_neNil (hu : X.A.units + 64 < cLine) : OpR X (compareOp .NotEq) (rNeNil X.K) := by
  intro pins s σ H x y v u Q I rx ry h
  obtain ⟨a, b, xs, rfl, rfl, ha, hb, hq⟩ := h
  cases xs with
  | nil => exact op_neD hu pins s σ H _ _ v u Q I rx ry ⟨.list [], .list [], .lst ha .nil, .lst hb .nil, rfl, rfl, hq⟩
  | cons z zs =>
    cases (show v = Value.ref a from rx)
    cases (show u = Value.ref b from ry)
    obtain ⟨us, r1, p1, _⟩ := I.list ha
    obtain ⟨ws, r2, p2, _⟩ := I.list hb
    cases r1
    cases r2
    exact SeqAt.RcNeAt.lists_lengths p1.isList p2.isList (by simp) (by omega) X.prog X.w _ _ ⟨.bl true, H, I, rfl, hq⟩
def oEqNil : D → D → (D → Prop) → Prop
  | .lst ds, .lst [], Q => Q (.bl ds.isEmpty)
  | _, _, _ => False
def oNeNil : D → D → (D → Prop) → Prop
  | .lst ds, .lst [], Q => Q (.bl (!ds.isEmpty))
  | _, _, _ => False
theorem isE {K : PySem.W.Frag} {H : Hp} {vs : List V} {ds : List D} (h : DtAll K q H vs ds) : vs.isEmpty = ds.isEmpty := by
  cases h <;> rfl
theorem od_eqNil {k : Nat} (hr : Room k X.A) : OpD X q (compareOp .Eq) oEqNil := ⟨_, op_eqNil hr.units, fun H x y dx dy Q0 Q hx hy h c => by
  cases hx with
  | lst ha hs =>
    cases hy with
    | lst hb ht =>
      cases ht with
      | nil => exact ⟨_, _, _, rfl, rfl, SqL.of ha, SqL.of hb, by rw [isE hs]; exact c _ H _ (.bl _) (.refl _) h⟩
      | cons _ _ => simp only [oEqNil] at h
    | _ => simp only [oEqNil] at h
  | _ => simp only [oEqNil] at h⟩
theorem od_neNil {k : Nat} (hr : Room k X.A) : OpD X q (compareOp .NotEq) oNeNil := ⟨_, op_neNil hr.units, fun H x y dx dy Q0 Q hx hy h c => by
  cases hx with
  | lst ha hs =>
    cases hy with
    | lst hb ht =>
      cases ht with
      | nil => exact ⟨_, _, _, rfl, rfl, SqL.of ha, SqL.of hb, by rw [isE hs]; exact c _ H _ (.bl _) (.refl _) h⟩
      | cons _ _ => simp only [oNeNil] at h
    | _ => simp only [oNeNil] at h
  | _ => simp only [oNeNil] at h⟩
theorem s_eqNil {ds : List D} {P : D → Prop} (h : P (.bl ds.isEmpty)) : oEqNil (.lst ds) (.lst []) P := h
theorem s_neNil {ds : List D} {P : D → Prop} (h : P (.bl (!ds.isEmpty))) : oNeNil (.lst ds) (.lst []) P := h
end
theorem cells_posN {ns : List Int} (h : (!(ns.map D.int).isEmpty) = true) : (0 : Int) < ((ns.map D.int).length : Nat) := by
  cases ns with
  | nil => exact absurd h (by decide)
  | cons n ns => simp only [List.map_cons, List.length_cons]; omega
theorem cells_posE {ns : List Int} (h : (ns.map D.int).isEmpty = false) : (0 : Int) < ((ns.map D.int).length : Nat) := cells_posN (by rw [h]; rfl)
theorem empty_map {α β : Type} {f : α → β} (l : List α) : (l.map f).isEmpty = l.isEmpty := by cases l <;> rfl
theorem all_nil {α : Type} {P : α → Prop} : ∀ d ∈ ([] : List α), P d := fun _ h => nomatch h
theorem all_cons {α : Type} {P : α → Prop} {x : α} {xs : List α} (h : P x) (t : ∀ d ∈ xs, P d) : ∀ d ∈ x :: xs, P d := fun d hd => by
  rcases List.mem_cons.mp hd with rfl | hd
  · exact h
  · exact t d hd
theorem s_ixM {ds : List D} {i : Int} {P : D → Prop} (h0 : 0 ≤ i) (h1 : i < (ds.length : Nat)) (h : ∀ d ∈ ds, P d) : oIx (.lst ds) (.int i) P := by
  obtain ⟨k, rfl⟩ : ∃ k : Nat, i = (k : Int) := ⟨i.toNat, by omega⟩
  have hk : k < ds.length := by omega
  exact ⟨ds[k], atI_nat (List.getElem?_eq_getElem hk), h _ (List.getElem_mem hk)⟩
def p_pick : D → D → P0 := fun s l n Q _ => (∃ ms, s = .drum ms) ∧ ∃ ds, l = .lst ds ∧ 0 < ds.length ∧ ds.length < 1000 ∧ n < 2000 ∧ ∀ d ∈ ds, ∀ n', n ≤ n' → n' ≤ n + 1 → Q d n'
theorem nmul {i j : Int} {a b : Nat} (hi : i.natAbs < 2 ^ a) (hj : j.natAbs < 2 ^ b) : (i * j).natAbs < 2 ^ (a + b) := by
  rw [Int.natAbs_mul, Nat.pow_add]
  exact Nat.mul_lt_mul'' hi hj
section
variable {ρ : SEnv} {n : Nat} {Q : QD} {g : DG} {tc : DTT} {t : DT} {x a0 a1 a2 a3 a4 a5 a6 : D} {ds : List D}
theorem s_lcc0 (h : g x ρ n (fun ρ1 n1 => tc ρ1 n1 (fun b n2 => if b = true then t ρ1 n2 (fun y n3 => lcD g tc t ρ Q ds [y] n3) (fun _ _ => False) else lcD g tc t ρ Q ds [] n2) (fun _ _ => False))) : lcD g tc t ρ Q (x :: ds) [] n := h
theorem s_lcc1 (h : g x ρ n (fun ρ1 n1 => tc ρ1 n1 (fun b n2 => if b = true then t ρ1 n2 (fun y n3 => lcD g tc t ρ Q ds [a0, y] n3) (fun _ _ => False) else lcD g tc t ρ Q ds [a0] n2) (fun _ _ => False))) : lcD g tc t ρ Q (x :: ds) [a0] n := h
theorem s_lcc2 (h : g x ρ n (fun ρ1 n1 => tc ρ1 n1 (fun b n2 => if b = true then t ρ1 n2 (fun y n3 => lcD g tc t ρ Q ds [a0, a1, y] n3) (fun _ _ => False) else lcD g tc t ρ Q ds [a0, a1] n2) (fun _ _ => False))) : lcD g tc t ρ Q (x :: ds) [a0, a1] n := h
theorem s_lcc3 (h : g x ρ n (fun ρ1 n1 => tc ρ1 n1 (fun b n2 => if b = true then t ρ1 n2 (fun y n3 => lcD g tc t ρ Q ds [a0, a1, a2, y] n3) (fun _ _ => False) else lcD g tc t ρ Q ds [a0, a1, a2] n2) (fun _ _ => False))) : lcD g tc t ρ Q (x :: ds) [a0, a1, a2] n := h
theorem s_lcc4 (h : g x ρ n (fun ρ1 n1 => tc ρ1 n1 (fun b n2 => if b = true then t ρ1 n2 (fun y n3 => lcD g tc t ρ Q ds [a0, a1, a2, a3, y] n3) (fun _ _ => False) else lcD g tc t ρ Q ds [a0, a1, a2, a3] n2) (fun _ _ => False))) : lcD g tc t ρ Q (x :: ds) [a0, a1, a2, a3] n := h
theorem s_lcc5 (h : g x ρ n (fun ρ1 n1 => tc ρ1 n1 (fun b n2 => if b = true then t ρ1 n2 (fun y n3 => lcD g tc t ρ Q ds [a0, a1, a2, a3, a4, y] n3) (fun _ _ => False) else lcD g tc t ρ Q ds [a0, a1, a2, a3, a4] n2) (fun _ _ => False))) : lcD g tc t ρ Q (x :: ds) [a0, a1, a2, a3, a4] n := h
theorem s_lcc6 (h : g x ρ n (fun ρ1 n1 => tc ρ1 n1 (fun b n2 => if b = true then t ρ1 n2 (fun y n3 => lcD g tc t ρ Q ds [a0, a1, a2, a3, a4, a5, y] n3) (fun _ _ => False) else lcD g tc t ρ Q ds [a0, a1, a2, a3, a4, a5] n2) (fun _ _ => False))) : lcD g tc t ρ Q (x :: ds) [a0, a1, a2, a3, a4, a5] n := h
theorem s_lcc7 (h : g x ρ n (fun ρ1 n1 => tc ρ1 n1 (fun b n2 => if b = true then t ρ1 n2 (fun y n3 => lcD g tc t ρ Q ds [a0, a1, a2, a3, a4, a5, a6, y] n3) (fun _ _ => False) else lcD g tc t ρ Q ds [a0, a1, a2, a3, a4, a5, a6] n2) (fun _ _ => False))) : lcD g tc t ρ Q (x :: ds) [a0, a1, a2, a3, a4, a5, a6] n := h
end
section
variable {ρ : SEnv} {n : Nat} {ts : DTA} {tk tv : DT} {G : EndsD} {u : DS} {ds : List D} {i : Nat}
theorem s_setOwn (h : ts ρ n (fun xs n1 => xs.length ≤ sizeLine ∧ i < ρ.length ∧ G.nx (ρ.set i (.own xs)) n1) G.ex) : dSetOwn i ts G ρ n := h
theorem s_free (e : ρ[i]? = some (Slot.own ds)) (h : u G (ρ.set i (.d (.lst ds))) n) : dFree i u G ρ n := ⟨ds, e, h⟩
def OwnAt (ds : List D) (v k : D) (P : List D → Nat → Prop) (n : Nat) : Prop := ∃ z j, k = .int z ∧ ixN ds.length z = some j ∧ P (ds.set j v) n
theorem s_ownSet (e : ρ[i]? = some (Slot.own ds)) (h : tv ρ n (fun v n1 => tk ρ n1 (fun k n2 => OwnAt ds v k (fun es n3 => G.nx (ρ.set i (.own es)) n3) n2) G.ex) G.ex) : dOwnSet i tk tv G ρ n := ⟨ds, e, h⟩
theorem s_ownAt {v : D} {P : List D → Nat → Prop} {z : Int} (h0 : 0 ≤ z) (h1 : z < ((ds.length : Nat) : Int)) (h : ∀ j, j < ds.length → P (ds.set j v) n) : OwnAt ds v (.int z) P n := by
  obtain ⟨k, rfl⟩ : ∃ k : Nat, z = (k : Int) := ⟨z.toNat, by omega⟩
  refine ⟨_, k, rfl, ?_, h k (by omega)⟩
  unfold ixN
  rw [if_pos (by omega), if_pos (by omega)]
  rfl
end
theorem s_neSame {x : Str} {P : D → Prop} (h : P (.bl false)) : oNe (.str x) (.str x) P := .inr ⟨x, x, rfl, rfl, by rw [decide_eq_true rfl]; exact h⟩
theorem s_eqSame {x : Str} {P : D → Prop} (h : P (.bl true)) : oEq (.str x) (.str x) P := .inr ⟨x, x, rfl, rfl, by rw [decide_eq_true rfl]; exact h⟩
theorem s_neStr {x y : Str} {P : D → Prop} (h : P (.bl (!decide (x = y)))) : oNe (.str x) (.str y) P := .inr ⟨x, y, rfl, rfl, h⟩
theorem s_eqStr {x y : Str} {P : D → Prop} (h : P (.bl (decide (x = y)))) : oEq (.str x) (.str y) P := .inr ⟨x, y, rfl, rfl, h⟩
section
variable {x y : D} {ds : List D} {i : Int} {P : D → Prop} {k : Nat} {gs : DGs} {ρ : SEnv} {n : Nat} {R : SEnv → Nat → Prop}
theorem s_sqE {P : List D → Prop} (e : x = .lst ds ∨ x = .tup ds) (h : P ds) : ∃ es, (x = .lst es ∨ x = .tup es) ∧ P es := ⟨ds, e, h⟩
theorem s_lenE (e : x = .lst ds ∨ x = .tup ds) (h : P (.int (ds.length : Nat))) : cLen [x] P := by rcases e with rfl | rfl <;> exact h
theorem s_ixE (e : x = .lst ds ∨ x = .tup ds) (e2 : atI ds i = some y) (h : P y) : oIx x (.int i) P := by rcases e with rfl | rfl <;> exact ⟨y, e2, h⟩
theorem s_gTupE (e : x = .lst ds ∨ x = .tup ds) (e2 : ds.length = k) (h : gs ds ρ n R) : dgTup k gs x ρ n R := ⟨ds, e.symm, e2, h⟩
end
/-- range from 2 on, as ints -/
def upTo (lo : Int) (m : Nat) : List Int := (List.range m).map fun i : Nat => lo + (i : Int)
theorem rgD_map (lo : Int) (m : Nat) : rgD lo m = (upTo lo m).map D.int := by
  unfold rgD upTo
  rw [List.map_map]
  rfl
theorem mem_upTo {lo j : Int} {m : Nat} : j ∈ upTo lo m ↔ lo ≤ j ∧ j < lo + m := by
  unfold upTo
  constructor
  · intro h
    obtain ⟨i, hi, rfl⟩ := List.mem_map.mp h
    have := List.mem_range.mp hi
    omega
  · intro ⟨h1, h2⟩
    refine List.mem_map.mpr ⟨(j - lo).toNat, List.mem_range.mpr ?_, ?_⟩ <;> omega
/-- a comprehension over ints with a condition -/
theorem lcD_filt {g : DG} {tc : DTT} {t : DT} {ρ : SEnv} {n : Nat} {Q : QD} (p : Int → Bool) {js : List Int} (step : ∀ j ∈ js, ∀ (Kt : QD) (Kf : Nat → Prop), (p j = true → Kt (.int j) n) → (p j = false → Kf n) →
      g (.int j) ρ n (fun ρ1 n1 => tc ρ1 n1 (fun b n2 => if b = true then t ρ1 n2 Kt (fun _ _ => False) else Kf n2) (fun _ _ => False))) (h : Q (.lst ((js.filter p).map D.int)) n) : lcD g tc t ρ Q (js.map D.int) [] n := by
  refine lcD_fm (fun d => match d with | .int j => if p j then some (.int j) else none | _ => none) (fun x hx Kt Kf h1 h2 => ?_) ?_
  · obtain ⟨j, hj, rfl⟩ := List.mem_map.mp hx
    refine step j hj Kt Kf (fun e => h1 _ ?_) fun e => h2 ?_
    · show (if p j then some (D.int j) else none) = _
      rw [if_pos e]
    · show (if p j then some (D.int j) else none) = _
      rw [if_neg (by rw [e]; decide)]
  · rw [List.nil_append]
    have e : ∀ js : List Int, (js.map D.int).filterMap (fun d => match d with | .int j => if p j then some (D.int j) else none | _ => none) = (js.filter p).map D.int := by
      intro js
      induction js with
      | nil => rfl
      | cons j js ih =>
        rw [List.map_cons, List.filterMap_cons, List.filter_cons]
        by_cases hp : p j = true
        · simp only [hp, if_true, ih, List.map_cons]
        · simp only [hp, if_false, ih]
          rfl
    rw [e]
    exact h
end DL
namespace Lw
open PySem PySem.Spec L2 DL
open PyProof.Rows (envOfC)
local macro_rules | `(tactic| walk_at "ble") => `(tactic| first | rfl | (simp only [List.length_set, List.length_cons, List.length_nil]; done))
local macro_rules | `(tactic| walk_at "cmpok") => `(tactic| first | exact ⟨rfl, rfl⟩ | assumption | exact ints_cmpOk _)
local macro_rules | `(tactic| walk_at "isd") => `(tactic| first | rfl | assumption)
local macro_rules | `(tactic| walk_at "bool") => `(tactic| first | rfl | assumption | exact notT (by assumption) | exact notF (by assumption))
local macro_rules | `(tactic| walk_at "rok") => `(tactic| assumption)
local macro_rules | `(tactic| walk_at "mul") => `(tactic| first | exact mulOk_l (by omega) (by omega) | exact mulOk_r (by omega) (by omega) | assumption)
local macro_rules | `(tactic| walk_at "ix") => `(tactic| rfl)
local macro_rules | `(tactic| walk_at "pos") => `(tactic| first | omega | exact cells_posN (by assumption))
local macro_rules | `(tactic| walk_at "powl") => `(tactic| first | omega | exact (mix_bd (by omega) (by omega) (by omega) (by omega) (by omega) (by omega) (by omega) (by omega) (by omega) (by omega)).1)
local macro_rules | `(tactic| walk_at "powr") => `(tactic| first | omega | exact (mix_bd (by omega) (by omega) (by omega) (by omega) (by omega) (by omega) (by omega) (by omega) (by omega) (by omega)).2)
local macro_rules | `(tactic| walk_at "bits") => `(tactic| fail)
local macro_rules | `(tactic| walk_at "call") => `(tactic| fail)
local macro_rules | `(tactic| walk_at "pre") => `(tactic| fail)
local macro_rules | `(tactic| walk_at "pick") => `(tactic| fail)
local macro_rules | `(tactic| walk_at "d") => `(tactic| first
  | walk_at "pre"
  | (with_reducible refine s_seqS ?_)
  | (with_reducible refine s_set' ?_)
  | (with_reducible refine s_ret ?_)
  | (with_reducible refine s_ifS ?_)
  | (with_reducible refine s_next ?_)
  | (with_reducible refine s_asg ?_)
  | (with_reducible refine s_par ?_)
  | (with_reducible refine s_retN ?_)
  | (with_reducible refine s_drop ?_)
  | (with_reducible refine s_bin ?_)
  | ((with_reducible refine s_var (x := ?x) ?e ?_); (case e => rfl))
  | (with_reducible refine s_C ?_)
  | (with_reducible refine s_val ?_)
  | (with_reducible refine s_notT ?_)
  | (with_reducible refine s_andT ?_)
  | (with_reducible refine s_orT ?_)
  | (with_reducible refine s_notV ?_)
  | (with_reducible refine s_andV ?_)
  | (with_reducible refine s_orV ?_)
  | (with_reducible refine s_if ?_)
  | (with_reducible refine s_un ?_)
  | (with_reducible refine s_isi ?_)
  | (with_reducible refine s_nil ?_)
  | (with_reducible refine s_cons ?_)
  | (with_reducible refine s_tupE ?_)
  | (with_reducible refine s_lstE ?_)
  | (with_reducible refine s_call ?_)
  | (with_reducible refine s_callK ?_)
  | (with_reducible refine s_cb ?_)
  | (with_reducible refine s_lc ?_)
  | (with_reducible refine s_lcn ?_)
  | (with_reducible refine s_lcc0 ?_)
  | (with_reducible refine s_lcc1 ?_)
  | (with_reducible refine s_lcc2 ?_)
  | (with_reducible refine s_lcc3 ?_)
  | (with_reducible refine s_lcc4 ?_)
  | (with_reducible refine s_lcc5 ?_)
  | (with_reducible refine s_lcc6 ?_)
  | (with_reducible refine s_lcc7 ?_)
  | (with_reducible refine s_lcc ?_)
  | (with_reducible refine s_slice ?_)
  | (with_reducible refine s_noPart ?_)
  | (with_reducible refine s_part ?_)
  | (with_reducible refine s_slL ?_)
  | (with_reducible refine s_slT ?_)
  | (with_reducible refine s_slS ?_)
  | (with_reducible refine s_yes ?_)
  | (with_reducible refine s_seq ?_)
  | (with_reducible refine s_sqL ?_)
  | (with_reducible refine s_sqT ?_)
  | ((with_reducible refine s_sqE (ds := ?ds) ?e ?_); (case e => assumption))
  | ((with_reducible refine s_lenE (ds := ?ds) ?e ?_); (case e => assumption))
  | (with_reducible refine s_rg1 ?_)
  | (with_reducible refine s_rg2 ?_)
  | ((with_reducible refine s_rg1i ?e1 ?e2 ?_); (case e1 => omega); (case e2 => omega))
  | ((with_reducible refine s_rg2i ?e1 ?e2 ?e3 ?e4 ?_); (case e1 => omega); (case e2 => omega); (case e3 => omega); (case e4 => omega))
  | ((with_reducible refine s_gName ?e ?_); (case e => walk_at "ble"))
  | ((with_reducible refine s_gTupT ?e ?_); (case e => rfl))
  | ((with_reducible refine s_gTupL ?e ?_); (case e => rfl))
  | ((with_reducible refine s_gTupE (ds := ?ds) ?e ?e2 ?_); (case e => assumption); (case e2 => rfl))
  | (with_reducible refine s_gNil ?_)
  | (with_reducible refine s_gCons ?_)
  | (with_reducible refine s_for ?_)
  | (with_reducible refine s_forn ?_)
  | (with_reducible refine s_forc ?_)
  | (with_reducible refine s_brk ?_)
  | (with_reducible refine s_cont ?_)
  | (with_reducible refine s_eqI ?_)
  | (with_reducible refine s_neI ?_)
  | (with_reducible refine s_neSame ?_)
  | (with_reducible refine s_eqSame ?_)
  | (with_reducible refine s_neStr ?_)
  | (with_reducible refine s_eqStr ?_)
  | ((with_reducible refine s_eq ?e1 ?e2 ?_); (case e1 => walk_at "cmpok"); (case e2 => walk_at "cmpok"))
  | ((with_reducible refine s_ne ?e1 ?e2 ?_); (case e1 => walk_at "cmpok"); (case e2 => walk_at "cmpok"))
  | (with_reducible refine s_add ?_)
  | (with_reducible refine s_sub ?_)
  | (with_reducible refine s_neg ?_)
  | ((with_reducible refine s_mul ?e ?_); (case e => walk_at "mul"))
  | ((with_reducible refine s_div ?e1 ?e2 ?_); (case e1 => omega); (case e2 => omega))
  | ((with_reducible refine s_mod ?e1 ?_); (case e1 => walk_at "pos"))
  | ((with_reducible refine s_powA ?e1 ?e2 ?e3 ?e4 ?_); (case e1 => omega); (case e2 => omega); (case e3 => walk_at "powl"); (case e4 => walk_at "powr"))
  | ((with_reducible refine s_powW ?e1 ?e2 ?e3 ?_); (case e1 => omega); (case e2 => omega); (case e3 => walk_at "bits"))
  | (with_reducible refine s_eqNil ?_)
  | (with_reducible refine s_neNil ?_)
  | (with_reducible refine s_setOwn ?_)
  | ((with_reducible refine s_free (ds := ?ds) ?e ?_); (case e => rfl))
  | ((with_reducible refine s_ownSet (ds := ?ds) ?e ?_); (case e => rfl))
  | (with_reducible refine s_isB ?_)
  | (with_reducible refine s_notB ?_)
  | ((with_reducible refine s_drum0 (ns := ?ns) ?e ?_); (case e => rfl))
  | ((with_reducible refine s_drum1 (ns := ?ns) ?e (fun _ _ _ => ?_)); (case e => rfl))
  | ((with_reducible refine s_drum2 (ns := ?ns) ?e (fun _ => ?_)); (case e => rfl))
  | (with_reducible refine s_drumS ?_)
  | ((with_reducible refine s_dset1 ?e ?h0 ?h1 ?_); (case e => exact ⟨_, rfl⟩); (case h0 => omega); (case h1 => omega))
  | ((with_reducible refine s_dset2 ?e ?_); (case e => exact ⟨_, rfl⟩))
  | ((with_reducible refine s_ixC ?e (fun _ => ?_)); (case e => walk_at "pos"))
  | (with_reducible refine s_band ?_)
  | (with_reducible refine s_lt ?_)
  | (with_reducible refine s_le ?_)
  | (with_reducible refine s_gt ?_)
  | (with_reducible refine s_ge ?_)
  | (with_reducible refine s_is ?_)
  | (with_reducible refine s_isnt ?_)
  | ((with_reducible refine s_ixL (x := ?x) ?e ?_); (case e => walk_at "ix"))
  | ((with_reducible refine s_ixT (x := ?x) ?e ?_); (case e => walk_at "ix"))
  | ((with_reducible refine s_ixE (ds := ?ds) (y := ?y) ?e ?e2 ?_); (case e => assumption); (case e2 => walk_at "ix"))
  | (with_reducible refine s_lenL ?_)
  | (with_reducible refine s_lenT ?_)
  | (with_reducible refine s_abs ?_)
  | (with_reducible refine s_intI ?_)
  | (with_reducible refine s_intB ?_)
  | (with_reducible refine s_min ?_)
  | (with_reducible refine s_tupL ?_)
  | (with_reducible refine s_tupT ?_)
  | (with_reducible refine s_lstL ?_)
  | (with_reducible refine s_lstT ?_)
  | ((with_reducible refine s_all (bs := ?bs) ?e ?_); (case e => rfl))
  | ((with_reducible refine s_any (bs := ?bs) ?e ?_); (case e => rfl))
  | ((with_reducible refine s_repr ?e ?_); (case e => walk_at "rok"))
  | (with_reducible refine s_sp1 ?_)
  | (with_reducible refine s_sp2 ?_)
  | (with_reducible refine s_sp3 ?_)
  | (with_reducible refine s_sp0 ?_)
  | (with_reducible refine s_sp4 ?_)
  | (with_reducible refine s_sp5 ?_)
  | walk_at "pick"
  | walk_at "call"
  | ((with_reducible refine s_lt' ?e ?_); (case e => walk_at "ble"))
  | ((with_reducible refine s_le' ?e ?_); (case e => walk_at "ble"))
  | ((with_reducible refine s_lt2 ?e ?e2 ?_); (case e => walk_at "ble"); (case e2 => walk_at "ble"))
  | ((with_reducible refine And.intro ?e ?_); (case e => (with_reducible show D.isData _ = true); walk_at "isd"))
  | (with_reducible refine ⟨_, rfl, ?_⟩)
  | ((with_reducible refine iteTe ?e ?_); (case e => walk_at "bool"))
  | ((with_reducible refine iteFe ?e ?_); (case e => walk_at "bool"))
  | (with_reducible refine iteD (fun _ => ?_) (fun _ => ?_))
  | (with_reducible refine iteN (fun _ => ?_) (fun _ => ?_))
  | (with_reducible refine ite2' (fun _ => ?_) (fun _ => ?_)))
def top (i : Nat) : Stmt := PySem.Challenge.pw_typedcurve_k01_what_any_value_is.main.body.getD i (.Pass ⟨0, 0, 0, 0⟩)
abbrev st_is_integer : Stmt := top 1
abbrev ps_is_integer : List Str := ["value"]
abbrev st_is_within : Stmt := top 2
abbrev ps_is_within : List Str := ["value", "least", "most"]
abbrev st_is_list : Stmt := top 3
abbrev ps_is_list : List Str := ["value"]
abbrev st_common : Stmt := top 4
abbrev ps_common : List Str := ["one", "other"]
abbrev st_is_number : Stmt := top 5
abbrev ps_is_number : List Str := ["value"]
abbrev st_is_point : Stmt := top 6
abbrev ps_is_point : List Str := ["value"]
abbrev st_is_turn : Stmt := top 7
abbrev ps_is_turn : List Str := ["value"]
abbrev st__law_sack : Stmt := top 9
abbrev ps__law_sack : List Str := ["_law_script"]
abbrev st__law_reach : Stmt := top 10
abbrev ps__law_reach : List Str := ["_law_sack_here", "_law_many"]
abbrev st__law_pick : Stmt := top 11
abbrev ps__law_pick : List Str := ["_law_sack_here", "_law_some"]
abbrev st__law_has_form : Stmt := top 12
abbrev ps__law_has_form : List Str := ["_law_value_here"]
abbrev st__law_value : Stmt := top 13
abbrev ps__law_value : List Str := ["_law_sack_here"]
abbrev st__law_halves : Stmt := top 14
abbrev ps__law_halves : List Str := ["_law_value_here"]
abbrev st__law_is_round : Stmt := top 15
abbrev ps__law_is_round : List Str := ["_law_value_here"]
abbrev st__law_fraction : Stmt := top 16
abbrev ps__law_fraction : List Str := ["_law_above", "_law_below"]
abbrev st__law_turn : Stmt := top 17
abbrev ps__law_turn : List Str := ["_law_sack_here"]
abbrev st__law_is_pair : Stmt := top 18
abbrev ps__law_is_pair : List Str := ["_law_value_here"]
abbrev st_law : Stmt := top 19
abbrev ps_law : List Str := ["_law_script"]
structure Ads where
  a_is_integer : Addr
  d_is_integer : FuncData
  a_is_within : Addr
  d_is_within : FuncData
  a_is_list : Addr
  d_is_list : FuncData
  a_common : Addr
  d_common : FuncData
  a_is_number : Addr
  d_is_number : FuncData
  a_is_point : Addr
  d_is_point : FuncData
  a_is_turn : Addr
  d_is_turn : FuncData
  a__law_sack : Addr
  d__law_sack : FuncData
  a__law_reach : Addr
  d__law_reach : FuncData
  a__law_pick : Addr
  d__law_pick : FuncData
  a__law_has_form : Addr
  d__law_has_form : FuncData
  a__law_value : Addr
  d__law_value : FuncData
  a__law_halves : Addr
  d__law_halves : FuncData
  a__law_is_round : Addr
  d__law_is_round : FuncData
  a__law_fraction : Addr
  d__law_fraction : FuncData
  a__law_turn : Addr
  d__law_turn : FuncData
  a__law_is_pair : Addr
  d__law_is_pair : FuncData
  a_law : Addr
  d_law : FuncData
structure Txt (K : PySem.W.Frag) (mg : Str → Option Value) (a : Ads) : Prop where
  o_is_integer : Own K mg "is_integer" st_is_integer ps_is_integer a.a_is_integer a.d_is_integer
  o_is_within : Own K mg "is_within" st_is_within ps_is_within a.a_is_within a.d_is_within
  o_is_list : Own K mg "is_list" st_is_list ps_is_list a.a_is_list a.d_is_list
  o_common : Own K mg "common" st_common ps_common a.a_common a.d_common
  o_is_number : Own K mg "is_number" st_is_number ps_is_number a.a_is_number a.d_is_number
  o_is_point : Own K mg "is_point" st_is_point ps_is_point a.a_is_point a.d_is_point
  o_is_turn : Own K mg "is_turn" st_is_turn ps_is_turn a.a_is_turn a.d_is_turn
  o__law_sack : Own K mg "_law_sack" st__law_sack ps__law_sack a.a__law_sack a.d__law_sack
  o__law_reach : Own K mg "_law_reach" st__law_reach ps__law_reach a.a__law_reach a.d__law_reach
  o__law_pick : Own K mg "_law_pick" st__law_pick ps__law_pick a.a__law_pick a.d__law_pick
  o__law_has_form : Own K mg "_law_has_form" st__law_has_form ps__law_has_form a.a__law_has_form a.d__law_has_form
  o__law_value : Own K mg "_law_value" st__law_value ps__law_value a.a__law_value a.d__law_value
  o__law_halves : Own K mg "_law_halves" st__law_halves ps__law_halves a.a__law_halves a.d__law_halves
  o__law_is_round : Own K mg "_law_is_round" st__law_is_round ps__law_is_round a.a__law_is_round a.d__law_is_round
  o__law_fraction : Own K mg "_law_fraction" st__law_fraction ps__law_fraction a.a__law_fraction a.d__law_fraction
  o__law_turn : Own K mg "_law_turn" st__law_turn ps__law_turn a.a__law_turn a.d__law_turn
  o__law_is_pair : Own K mg "_law_is_pair" st__law_is_pair ps__law_is_pair a.a__law_is_pair a.d__law_is_pair
  o_law : Own K mg "law" st_law ps_law a.a_law a.d_law
  b_abs : mg "abs" = none
  b_all : mg "all" = none
  b_bool : mg "bool" = none
  b_int : mg "int" = none
  b_isinstance : mg "isinstance" = none
  b_len : mg "len" = none
  b_list : mg "list" = none
  b_min : mg "min" = none
  b_range : mg "range" = none
  b_repr : mg "repr" = none
  b_tuple : mg "tuple" = none
section
variable {P : Program} {w : World} {K : PySem.W.Frag} {mg : Str → Option Value} {base : Heap} {a : Ads}
theorem pk_0_1_0 {sp : SpD} {y0 : D} {n : Nat} {Q : QD} {F : QE} (h : sp [y0] n Q F) : sp (pickK 0 1 [0] [] [y0]) n Q F := h
local macro_rules | `(tactic| walk_at "pick") => `(tactic| with_reducible refine pk_0_1_0 ?_)
theorem pk_0_3_0_1_2 {sp : SpD} {y0 y1 y2 : D} {n : Nat} {Q : QD} {F : QE} (h : sp [y0, y1, y2] n Q F) : sp (pickK 0 3 [0, 1, 2] [] [y0, y1, y2]) n Q F := h
local macro_rules | `(tactic| walk_at "pick") => `(tactic| with_reducible refine pk_0_3_0_1_2 ?_)
def _root_.DL.D.wi (v lo hi : D) : Bool := match v with
  | .int i => (match lo with | .int a => decide (a ≤ i) | _ => true) && (match hi with | .int b => decide (i ≤ b) | _ => true)
  | _ => false
/-- a number: an int, or above and below with nothing in common -/
def _root_.DL.D.nb : D → Bool
  | .int _ => true
  | .lst [.int a, .int b] => decide (2 ≤ b) && decide (Int.gcd a b = 1)
  | .tup [.int a, .int b] => decide (2 ≤ b) && decide (Int.gcd a b = 1)
  | _ => false
def _root_.DL.D.ab : D → Int × Int
  | .int i => (i, 1)
  | .lst [.int a, .int b] => (a, b)
  | .tup [.int a, .int b] => (a, b)
  | _ => (0, 0)
def _root_.DL.D.pt (d : D) : Bool := d.isL && match d.items with | [x, y] => x.nb && y.nb | _ => false
def _root_.DL.D.rnd (d : D) : Bool := match d.items with
  | [x, y] => decide (x.ab.1 * x.ab.1 * y.ab.2 * y.ab.2 + y.ab.1 * y.ab.1 * x.ab.2 * x.ab.2 = x.ab.2 * x.ab.2 * y.ab.2 * y.ab.2)
  | _ => false
def _root_.DL.D.tn (d : D) : Bool := d.pt && d.rnd
/-- what may be a number -/
structure FOK (y : D) : Prop where
  dk : y.dk 1
  i : ∀ i, y = .int i → i.natAbs < 2 ^ 200
  ab : ∀ a b, y.items = [.int a, .int b] → a.natAbs < 2 ^ 200 ∧ b.natAbs < 2 ^ 200 ∧ b ≤ 400
structure POK (p : D) : Prop where
  d : p.isData = true
  it : ∀ x ∈ p.items, FOK x
theorem nb_no {x : D} (h1 : x.iI = false) (h2 : x.isL = false) : x.nb = false := by
  cases x <;> first | rfl | (cases h1; done) | (cases h2; done)
theorem nb_len {ds : List D} (h : ds.length ≠ 2) : D.nb (.lst ds) = false ∧ D.nb (.tup ds) = false := by
  match ds, h with
  | [], _ => exact ⟨rfl, rfl⟩
  | [_], _ => exact ⟨by simp only [D.nb], by simp only [D.nb]⟩
  | [_, _], h => exact absurd rfl h
  | _ :: _ :: _ :: _, _ => exact ⟨by simp only [D.nb], by simp only [D.nb]⟩
theorem nb_xy {x y : D} (h : x.iI = false ∨ y.iI = false) : D.nb (.lst [x, y]) = false ∧ D.nb (.tup [x, y]) = false := by
  cases x <;> cases y <;> first | exact ⟨rfl, rfl⟩ | (exfalso; rcases h with h | h <;> cases h)
theorem wi_no {x a b : D} (h : x.iI = false) : x.wi a b = false := by
  cases x <;> first | rfl | cases h
theorem wi_2 {j : Int} {b : Bool} (h : (D.int j).wi (.int 2) .non = b) : decide (2 ≤ j) = b := by rw [← h]; simp [D.wi]
theorem nb_cases {x : D} (h : x.nb = true) : (∃ i, x = .int i) ∨ ∃ a b, (x = .lst [.int a, .int b] ∨ x = .tup [.int a, .int b]) ∧ 2 ≤ b ∧ Int.gcd a b = 1 := by
  have key : ∀ ds : List D, (D.nb (.lst ds) = true ∨ D.nb (.tup ds) = true) → ∃ a b, ds = [.int a, .int b] ∧ 2 ≤ b ∧ Int.gcd a b = 1 := by
    intro ds hd
    rcases two_or ds with ⟨x, y, rfl⟩ | e5
    · rcases iI_or x with ⟨i, rfl⟩ | e6
      · rcases iI_or y with ⟨j, rfl⟩ | e7
        · refine ⟨i, j, rfl, ?_⟩
          rcases hd with hd | hd <;> simpa only [D.nb, Bool.and_eq_true, decide_eq_true_eq] using hd
        · rcases hd with hd | hd
          · rw [(nb_xy (.inr e7)).1] at hd; cases hd
          · rw [(nb_xy (.inr e7)).2] at hd; cases hd
      · rcases hd with hd | hd
        · rw [(nb_xy (.inl e6)).1] at hd; cases hd
        · rw [(nb_xy (.inl e6)).2] at hd; cases hd
    · rcases hd with hd | hd
      · rw [(nb_len e5).1] at hd; cases hd
      · rw [(nb_len e5).2] at hd; cases hd
  cases x with
  | int i => exact .inl ⟨i, rfl⟩
  | lst ds =>
    obtain ⟨a, b, rfl, h2⟩ := key ds (.inl h)
    exact .inr ⟨a, b, .inl rfl, h2⟩
  | tup ds =>
    obtain ⟨a, b, rfl, h2⟩ := key ds (.inr h)
    exact .inr ⟨a, b, .inr rfl, h2⟩
  | _ => cases h
theorem pt_no {x : D} (h : x.isL = false) : x.pt = false := by unfold D.pt; rw [h]; rfl
theorem pt_len {ds : List D} (h : ds.length ≠ 2) : D.pt (.lst ds) = false ∧ D.pt (.tup ds) = false := by
  match ds, h with
  | [], _ => exact ⟨rfl, rfl⟩
  | [_], _ => exact ⟨rfl, rfl⟩
  | [_, _], h => exact absurd rfl h
  | _ :: _ :: _ :: _, _ => exact ⟨rfl, rfl⟩
theorem tn_of {x : D} {b : Bool} (h : x.pt = b) : x.tn = (b && x.rnd) := by unfold D.tn; rw [h]
/-- a number, bounded, as one of three -/
theorem nb_three {x : D} (f : FOK x) (h : x.nb = true) : (∃ i, x = .int i ∧ i.natAbs < 2 ^ 200) ∨ (∃ a b, x = .lst [.int a, .int b] ∧ a.natAbs < 2 ^ 200 ∧ b.natAbs < 2 ^ 200) ∨ ∃ a b, x = .tup [.int a, .int b] ∧ a.natAbs < 2 ^ 200 ∧ b.natAbs < 2 ^ 200 := by
  rcases nb_cases h with ⟨i, rfl⟩ | ⟨a, b, rfl | rfl, _⟩
  · exact .inl ⟨i, rfl, f.i i rfl⟩
  · exact .inr (.inl ⟨a, b, rfl, (f.ab a b rfl).1, (f.ab a b rfl).2.1⟩)
  · exact .inr (.inr ⟨a, b, rfl, (f.ab a b rfl).1, (f.ab a b rfl).2.1⟩)
local macro_rules | `(tactic| walk_at "nb") => `(tactic| first | assumption | decide)
local macro_rules | `(tactic| walk_at "mul") => `(tactic| first
  | exact mulOk_w 200 200 (by walk_at "nb") (by walk_at "nb")
  | exact mulOk_w 400 200 (nmul (a := 200) (b := 200) (by walk_at "nb") (by walk_at "nb")) (by walk_at "nb")
  | exact mulOk_w 600 200 (nmul (a := 400) (b := 200) (nmul (a := 200) (b := 200) (by walk_at "nb") (by walk_at "nb")) (by walk_at "nb")) (by walk_at "nb"))
local macro_rules | `(tactic| walk_at "bits") => `(tactic| exact Nat.lt_trans (nmul (a := 200) (b := 200) (by walk_at "nb") (by walk_at "nb")) (by decide))
theorem noInt {x : D} (hd : x.isData = true) (h : x.iI = false) : x.isa ["bool"] = true ∨ (x.isa ["bool"] = false ∧ x.isa ["int"] = false) := by
  cases x <;> first | exact .inl rfl | exact .inr ⟨rfl, rfl⟩ | cases h | cases hd
theorem isaI {x : D} (hd : x.isData = true) (h : x.iI = false) : (∃ b, x = .bl b) ∨ (x.isa ["int"] = false ∧ x.isa ["list", "tuple"] = x.isL) := by
  cases x <;> first | exact .inl ⟨_, rfl⟩ | exact .inr ⟨rfl, rfl⟩ | cases h | cases hd
/-- nothing up to the lower one divides both -/
theorem gcd_law {a b : Int} (h2 : 2 ≤ b) (h4 : b ≤ 400) : ((upTo 2 ((if 400 < b then 400 else b) + 1 - 2).toNat).filter fun j => decide (a % j = 0) && decide (b % j = 0)).isEmpty = decide (Int.gcd a b = 1) := by
  rw [if_neg (by omega)]
  by_cases hg : Int.gcd a b = 1
  · rw [decide_eq_true hg, List.isEmpty_iff, List.filter_eq_nil_iff]
    intro j hj hb
    simp only [Bool.and_eq_true, decide_eq_true_eq] at hb
    have hr := mem_upTo.mp hj
    have d : j ∣ (Int.gcd a b : Nat) := Int.dvd_coe_gcd (Int.dvd_of_emod_eq_zero hb.1) (Int.dvd_of_emod_eq_zero hb.2)
    rw [hg] at d
    have := Int.le_of_dvd (by decide) d
    omega
  · rw [decide_eq_false hg]
    have hp : 0 < Int.gcd a b := Nat.pos_of_ne_zero fun z => by
      have := (Int.gcd_eq_zero_iff.mp z).2
      omega
    have hle : ((Int.gcd a b : Nat) : Int) ≤ b := Int.le_of_dvd (by omega) (Int.gcd_dvd_right ..)
    have hm : ((Int.gcd a b : Nat) : Int) ∈ (upTo 2 (b + 1 - 2).toNat).filter fun j => decide (a % j = 0) && decide (b % j = 0) := by
      rw [List.mem_filter]
      refine ⟨mem_upTo.mpr (by omega), ?_⟩
      simp only [Bool.and_eq_true, decide_eq_true_eq]
      exact ⟨Int.emod_eq_zero_of_dvd (Int.gcd_dvd_left ..), Int.emod_eq_zero_of_dvd (Int.gcd_dvd_right ..)⟩
    cases e : (upTo 2 (b + 1 - 2).toNat).filter fun j => decide (a % j = 0) && decide (b % j = 0) with
    | nil => rw [e] at hm; cases hm
    | cons _ _ => rfl
def fokB (y : D) : Bool := y.isData && y.items.all (fun x => x.isData) && (match y with | .int i => decide (i.natAbs < 2 ^ 200) | _ => true) && (match y.items with | [.int a, .int b] => decide (a.natAbs < 2 ^ 200) && decide (b.natAbs < 2 ^ 200) && decide (b ≤ 400) | _ => true)
theorem fok_of {y : D} (h : fokB y = true) : FOK y := by
  unfold fokB at h
  simp only [Bool.and_eq_true] at h
  obtain ⟨⟨⟨h1, h2⟩, h3⟩, h4⟩ := h
  refine ⟨⟨h1, fun x hx => List.all_eq_true.mp h2 x hx⟩, fun i e => by subst e; simpa using h3, fun a b e => ?_⟩
  rw [e] at h4
  simpa only [Bool.and_eq_true, decide_eq_true_eq, and_assoc] using h4
def pokB (y : D) : Bool := y.isData && y.items.all fokB
theorem pok_of {y : D} (h : pokB y = true) : POK y := by
  unfold pokB at h
  simp only [Bool.and_eq_true] at h
  exact ⟨h.1, fun x hx => fok_of (List.all_eq_true.mp h.2 x hx)⟩
theorem fok_int {i : Int} (h : i.natAbs < 2 ^ 64) : FOK (.int i) :=
  ⟨⟨rfl, fun _ h => nomatch h⟩, fun j e => by cases e; exact Nat.lt_trans h (by decide), fun _ _ e => nomatch e⟩
theorem pok_int (i : Int) : POK (.int i) := ⟨rfl, fun _ h => nomatch h⟩
theorem pok_lst {ds : List D} (h : ∀ x ∈ ds, FOK x) : POK (.lst ds) := ⟨rfl, h⟩
theorem pok_tup {ds : List D} (h : ∀ x ∈ ds, FOK x) : POK (.tup ds) := ⟨rfl, h⟩
theorem fok_two {a b : Int} (ha : a.natAbs < 2 ^ 64) (hb : b.natAbs < 2 ^ 64) (h4 : b ≤ 400) : FOK (.lst [.int a, .int b]) ∧ FOK (.tup [.int a, .int b]) := by
  have x : a.natAbs < 2 ^ 200 := Nat.lt_trans ha (by decide)
  have y : b.natAbs < 2 ^ 200 := Nat.lt_trans hb (by decide)
  refine ⟨⟨⟨rfl, all_cons rfl (all_cons rfl all_nil)⟩, (fun j e => nomatch e), fun c d e => ?_⟩, ⟨⟨rfl, all_cons rfl (all_cons rfl all_nil)⟩, (fun j e => nomatch e), fun c d e => ?_⟩⟩
  all_goals
    have e1 : D.int a = .int c ∧ D.int b = .int d := by simpa [D.items] using e
    cases e1.1
    cases e1.2
    exact ⟨x, y, h4⟩
theorem two_ints {a b : Int} (ha : a.natAbs < 2 ^ 64) (hb : b.natAbs < 2 ^ 64) : ∀ x ∈ [D.int a, D.int b], FOK x := all_cons (fok_int ha) (all_cons (fok_int hb) all_nil)

theorem len10 {α : Type} {l : List α} (h : l.length = 10) : ∃ a0 a1 a2 a3 a4 a5 a6 a7 a8 a9, l = [a0, a1, a2, a3, a4, a5, a6, a7, a8, a9] := by
  match l, h with
  | [a0, a1, a2, a3, a4, a5, a6, a7, a8, a9], _ => exact ⟨a0, a1, a2, a3, a4, a5, a6, a7, a8, a9, rfl⟩
theorem rok_2 (a b : Bool) : D.rok (.lst [.bl a, .bl b]) := ⟨by simp [D.rp, D.rps], by simp [D.nodes, D.nodesAll], by simp [D.py, D.pys, PyData.depth, PyData.depthAll]⟩
theorem rok_3 (a b c : Bool) : D.rok (.lst [.bl a, .bl b, .bl c]) := ⟨by simp [D.rp, D.rps], by simp [D.nodes, D.nodesAll], by simp [D.py, D.pys, PyData.depth, PyData.depthAll]⟩
local macro_rules | `(tactic| walk_at "rok") => `(tactic| first | exact rok_2 _ _ | exact rok_3 _ _ _)

def _root_.DL.D.pr : D → D
  | .int i => .tup [.int i, .int 1]
  | d => d
theorem pr_of {x : D} (f : FOK x) (h : x.nb = true) : (x.pr = .lst [.int x.ab.1, .int x.ab.2] ∨ x.pr = .tup [.int x.ab.1, .int x.ab.2]) ∧ x.ab.1.natAbs < 2 ^ 200 ∧ x.ab.2.natAbs < 2 ^ 200 := by
  rcases nb_three f h with ⟨i, rfl, b⟩ | ⟨a, b, rfl, b1, b2⟩ | ⟨a, b, rfl, b1, b2⟩
  · exact ⟨.inr rfl, b, by show (1 : Int).natAbs < 2 ^ 200; decide⟩
  · exact ⟨.inl rfl, b1, b2⟩
  · exact ⟨.inr rfl, b1, b2⟩
theorem nb_two {x : D} (f : FOK x) (h : x.nb = true) : (∃ i, x = .int i ∧ i.natAbs < 2 ^ 200) ∨ (x.isL = true ∧ (x = .lst [.int x.ab.1, .int x.ab.2] ∨ x = .tup [.int x.ab.1, .int x.ab.2]) ∧ x.ab.1.natAbs < 2 ^ 200 ∧ x.ab.2.natAbs < 2 ^ 200) := by
  rcases nb_three f h with ⟨i, rfl, b⟩ | ⟨a, b, rfl, b1, b2⟩ | ⟨a, b, rfl, b1, b2⟩
  · exact .inl ⟨i, rfl, b⟩
  · exact .inr ⟨rfl, .inl rfl, b1, b2⟩
  · exact .inr ⟨rfl, .inr rfl, b1, b2⟩
/-! is_integer -/
theorem sc_is_integer : FnScope ["value"] ["value"] (defScope st_is_integer) := ⟨rfl, rfl, rfl, by decide +kernel, rfl, by decide +kernel, by decide +kernel⟩
def p_is_integer : D → P0 := fun x n Q _ => x.isData = true ∧ Q (.bl x.iI) n
def sp_is_integer : SpD := sp1 p_is_integer
theorem c_is_integer {x : D} {n : Nat} {Q : QD} {F : QE} (e : x.isData = true) (h : Q (.bl x.iI) n) : sp_is_integer [x] n Q F := ⟨e, h⟩
local macro_rules | `(tactic| walk_at "call") => `(tactic| ((with_reducible refine c_is_integer ?e ?_); (case e => walk_at "isd")))
theorem ok_is_integer (T : Txt K mg a) : FnG P w K mg base CX0 1 a.a_is_integer a.d_is_integer ps_is_integer (spD K sp_is_integer) := by
  refine fnD0 T.o_is_integer.fn sc_is_integer (fun ds n Q F h => sp1_len h) (fun q cdv A outer s H E hr hg =>
      (dss_one (ds_ret (de_and (de_isi1 (n := "int") (by rfl) T.b_isinstance (de_var 0) (by rfl) T.b_int (by decide +kernel) (by decide)) (de_one (de_not (de_isi1 (n := "bool") (by rfl) T.b_isinstance (de_var 0) (by rfl) T.b_bool (by decide +kernel) (by decide)))))))) (rd1 fun x0 n Q F h => ?_)
  obtain ⟨e, h⟩ := h
  cases x0 <;> first | (exact Bool.noConfusion e) | (repeat' (walk_at "d")) <;> exact h

/-! is_within -/
theorem sc_is_within : FnScope ["value", "least", "most"] ["value", "least", "most"] (defScope st_is_within) := ⟨rfl, rfl, rfl, by decide +kernel, rfl, by decide +kernel, by decide +kernel⟩
def p_is_within : D → D → D → P0 := fun x lo hi n Q _ => x.isData = true ∧ (lo = .non ∨ ∃ i, lo = .int i) ∧ (hi = .non ∨ ∃ i, hi = .int i) ∧ Q (.bl (x.wi lo hi)) n
def sp_is_within : SpD := sp3 p_is_within
theorem c_is_within {x lo hi : D} {n : Nat} {Q : QD} {F : QE} (e : x.isData = true) (e1 : lo = .non ∨ ∃ i, lo = .int i) (e2 : hi = .non ∨ ∃ i, hi = .int i) (h : Q (.bl (x.wi lo hi)) n) : sp_is_within [x, lo, hi] n Q F := ⟨e, e1, e2, h⟩
local macro_rules | `(tactic| walk_at "call") => `(tactic| ((with_reducible refine c_is_within ?e ?e1 ?e2 ?_); (case e => walk_at "isd"); (case e1 => first | assumption | exact .inl rfl | exact .inr ⟨_, rfl⟩); (case e2 => first | assumption | exact .inl rfl | exact .inr ⟨_, rfl⟩)))
theorem ok_is_within (T : Txt K mg a) (G_is_integer : FnG P w K mg base CX0 1 a.a_is_integer a.d_is_integer ps_is_integer (spD K sp_is_integer)) : FnG P w K mg base CX0 2 a.a_is_within a.d_is_within ps_is_within (spD K sp_is_within) := by
  refine fnD0 T.o_is_within.fn sc_is_within (fun ds n Q F h => sp3_len h) (fun q cdv A outer s H E hr hg =>
      (dss_cons (ds_if (dt_not (dt_val (de_call G_is_integer (hr.mono (by decide)) hg (by rfl) T.o_is_integer.mg T.o_is_integer.fn.kp T.o_is_integer.b pass0 (da_cons (de_var 0) da_nil)))) (dss_one (ds_ret de_bl)) dss_nil)
      (dss_one (ds_ret (de_and (de_or (de_cmp od_is (de_var 1) de_non) (de_one (de_cmp od_le (de_var 1) (de_var 0)))) (de_one (de_or (de_cmp od_is (de_var 2) de_non) (de_one (de_cmp od_le (de_var 0) (de_var 2)))))))))) (rd3 fun x0 x1 x2 n Q F h => ?_)
  obtain ⟨e, e1, e2, h⟩ := h
  rcases iI_or x0 with ⟨i, rfl⟩ | e3
  · rcases e1 with rfl | ⟨lo, rfl⟩ <;> rcases e2 with rfl | ⟨hi, rfl⟩ <;> (repeat' (walk_at "d")) <;> refine bl_eq h ?_ <;> clear h <;> simp [D.wi, *]
  · have z : x0.wi x1 x2 = false := by
      cases x0 <;> first | rfl | cases e3
    rw [z] at h
    repeat' (walk_at "d")
    exact h

/-! is_list -/
theorem sc_is_list : FnScope ["value"] ["value"] (defScope st_is_list) := ⟨rfl, rfl, rfl, by decide +kernel, rfl, by decide +kernel, by decide +kernel⟩
def p_is_list : D → P0 := fun x n Q _ => x.isData = true ∧ Q (.bl x.isL) n
def sp_is_list : SpD := sp1 p_is_list
theorem c_is_list {x : D} {n : Nat} {Q : QD} {F : QE} (e : x.isData = true) (h : Q (.bl x.isL) n) : sp_is_list [x] n Q F := ⟨e, h⟩
local macro_rules | `(tactic| walk_at "call") => `(tactic| ((with_reducible refine c_is_list ?e ?_); (case e => walk_at "isd")))
theorem ok_is_list (T : Txt K mg a) : FnG P w K mg base CX0 1 a.a_is_list a.d_is_list ps_is_list (spD K sp_is_list) := by
  refine fnD0 T.o_is_list.fn sc_is_list (fun ds n Q F h => sp1_len h) (fun q cdv A outer s H E hr hg =>
      (dss_one (ds_ret (de_isi2 (n := "list") (m := "tuple") (by rfl) T.b_isinstance (de_var 0) (by rfl) T.b_list (by decide +kernel) (by decide) (by rfl) T.b_tuple (by decide +kernel) (by decide))))) (rd1 fun x0 n Q F h => ?_)
  obtain ⟨e, h⟩ := h
  cases x0 <;> first | (exact Bool.noConfusion e) | (repeat' (walk_at "d")) <;> exact h

/-! common -/
theorem sc_common : FnScope ["one", "other"] ["one", "other"] (defScope st_common) := ⟨rfl, rfl, rfl, by decide +kernel, rfl, by decide +kernel, by decide +kernel⟩
def p_common : D → D → P0 := fun x y n Q _ => ∃ i j : Int, x = .int i ∧ y = .int j ∧ Q (.int (Int.gcd i j : Nat)) n
def sp_common : SpD := sp2 p_common
theorem c_common {i j : Int} {n : Nat} {Q : QD} {F : QE} (h : Q (.int (Int.gcd i j : Nat)) n) : sp_common [.int i, .int j] n Q F := ⟨i, j, rfl, rfl, h⟩
local macro_rules | `(tactic| walk_at "call") => `(tactic| ((with_reducible refine c_common ?_)))
theorem ok_common (T : Txt K mg a) : FnG P w K mg base CX0 1 a.a_common a.d_common ps_common (spD K sp_common) := by
  refine fnD0 T.o_common.fn sc_common (fun ds n Q F h => sp2_len h) (fun q cdv A outer s H E hr hg =>
      (dss_cons (ds_par 0 1 rfl (sc_common).nd (de_callB (cd_abs) (by rfl) T.b_abs (by decide +kernel) (da_cons (de_var 0) da_nil)) (de_callB (cd_abs) (by rfl) T.b_abs (by decide +kernel) (da_cons (de_var 1) da_nil)))
      (dss_cons (ds_while PassesOwn.never (dt_cmp od_gt (de_var 1) de_int) (dss_one (ds_par 0 1 rfl (sc_common).nd (de_var 1) (de_bin od_mod (de_var 0) (de_var 1)))))
      (dss_one (ds_ret (de_var 0)))))) (rd2 fun x0 x1 n Q F h => ?_)
  obtain ⟨i, j, rfl, rfl, h⟩ := h
  repeat' (walk_at "d")
  all_goals refine s_while (fun m ρ n' => ∃ a b : Nat, ρ = [.d (.int (a : Int)), .d (.int (b : Int))] ∧ Nat.gcd a b = Int.gcd i j ∧ m = b ∧ n' = n) ⟨j.natAbs, i.natAbs, j.natAbs, ?_, rfl, rfl, rfl⟩ ?_
  any_goals (show [_, _] = [_, _]; congr 2 <;> congr 1 <;> congr 1 <;> split <;> omega)
  all_goals (rintro m ρ n' ⟨a, b, rfl, hg, rfl, rfl⟩; repeat' (walk_at "d"))
  all_goals first
    | (refine ⟨a % m, ?_, m, a % m, rfl, ?_, rfl, rfl⟩
       · exact Nat.mod_lt _ (by omega)
       · rw [← hg, Nat.gcd_comm m, ← Nat.gcd_rec, Nat.gcd_comm])
    | (have e : m = 0 := by omega
       subst e
       rw [Nat.gcd_zero_right] at hg
       subst hg
       exact h)

/-! is_number -/
theorem sc_is_number : FnScope ["value"] ["value"] (defScope st_is_number) := ⟨rfl, rfl, rfl, by decide +kernel, rfl, by decide +kernel, by decide +kernel⟩
def p_is_number : D → P0 := fun x n Q _ => x.dk 1 ∧ Q (.bl x.nb) n
def sp_is_number : SpD := sp1 p_is_number
theorem c_is_number {x : D} {n : Nat} {Q : QD} {F : QE} (e : x.dk 1) (h : Q (.bl x.nb) n) : sp_is_number [x] n Q F := ⟨e, h⟩
local macro_rules | `(tactic| walk_at "call") => `(tactic| ((with_reducible refine c_is_number ?e ?_); (case e => assumption)))
theorem ok_is_number (T : Txt K mg a) (G_is_integer : FnG P w K mg base CX0 1 a.a_is_integer a.d_is_integer ps_is_integer (spD K sp_is_integer)) (G_is_within : FnG P w K mg base CX0 2 a.a_is_within a.d_is_within ps_is_within (spD K sp_is_within)) (G_is_list : FnG P w K mg base CX0 1 a.a_is_list a.d_is_list ps_is_list (spD K sp_is_list)) (G_common : FnG P w K mg base CX0 1 a.a_common a.d_common ps_common (spD K sp_common)) : FnG P w K mg base CX0 3 a.a_is_number a.d_is_number ps_is_number (spD K sp_is_number) := by
  refine fnD0 T.o_is_number.fn sc_is_number (fun ds n Q F h => sp1_len h) (fun q cdv A outer s H E hr hg =>
      (dss_cons (ds_if (dt_val (de_call G_is_integer (hr.mono (by decide)) hg (by rfl) T.o_is_integer.mg T.o_is_integer.fn.kp T.o_is_integer.b pass0 (da_cons (de_var 0) da_nil))) (dss_one (ds_ret de_bl)) dss_nil)
      (dss_cons (ds_if (dw_t (dw_or (dt_not (dt_val (de_call G_is_list (hr.mono (by decide)) hg (by rfl) T.o_is_list.mg T.o_is_list.fn.kp T.o_is_list.b pass0 (da_cons (de_var 0) da_nil)))) (dw_or (dt_cmp (od_ne hr) (de_callB (cd_len) (by rfl) T.b_len (by decide +kernel) (da_cons (de_var 0) da_nil)) de_int) (dw_or1 (dt_not (dt_val (de_call G_is_integer (hr.mono (by decide)) hg (by rfl) T.o_is_integer.mg T.o_is_integer.fn.kp T.o_is_integer.b pass0 (da_cons (de_at (de_var 0) de_int) da_nil)))))))) (dss_one (ds_ret de_bl)) dss_nil)
      (dss_one (ds_ret (de_and (de_call G_is_within (hr.mono (by decide)) hg (by rfl) T.o_is_within.mg T.o_is_within.fn.kp T.o_is_within.b pass0 (da_cons (de_at (de_var 0) de_int) (da_cons de_int (da_cons de_non da_nil)))) (de_one (de_cmp (od_eq hr) (de_call G_common (hr.mono (by decide)) hg (by rfl) T.o_common.mg T.o_common.fn.kp T.o_common.b pass0 (da_cons (de_at (de_var 0) de_int) (da_cons (de_at (de_var 0) de_int) da_nil))) de_int)))))))) (rd1 fun x0 n Q F h => ?_)
  obtain ⟨e, h⟩ := h
  rcases iI_or x0 with ⟨i, rfl⟩ | e3
  · repeat' (walk_at "d")
    exact h
  have hd := e.1
  rcases isL_or hd with ⟨e4, _⟩ | ⟨ds, rfl⟩ | ⟨ds, rfl⟩
  · rw [nb_no e3 e4] at h
    repeat' (walk_at "d")
    exact h
  all_goals
    rcases two_or ds with ⟨x, y, rfl⟩ | e5
    · have hx : x.isData = true := e.2 x (by simp [D.items])
      have hy : y.isData = true := e.2 y (by simp [D.items])
      rcases iI_or x with ⟨i, rfl⟩ | e6
      · rcases iI_or y with ⟨j, rfl⟩ | e7
        · repeat' (walk_at "d")
          all_goals (rename_i z; have z := wi_2 z; refine bl_eq h ?_; clear h; simp [D.nb, z] <;> omega)
        · have e8 : y.wi (.int 2) .non = false := wi_no e7
          first | rw [(nb_xy (.inr e7)).1] at h | rw [(nb_xy (.inr e7)).2] at h
          repeat' (walk_at "d")
          exact h
      · first | rw [(nb_xy (.inl e6)).1] at h | rw [(nb_xy (.inl e6)).2] at h
        repeat' (walk_at "d")
        exact h
    · first | rw [(nb_len e5).1] at h | rw [(nb_len e5).2] at h
      repeat' (walk_at "d")
      all_goals first | exact h | (exfalso; omega)

/-! is_point -/
theorem sc_is_point : FnScope ["value", "each"] ["value"] (defScope st_is_point) := ⟨rfl, rfl, rfl, by decide +kernel, rfl, by decide +kernel, by decide +kernel⟩
def p_is_point : D → P0 := fun x n Q _ => POK x ∧ Q (.bl x.pt) n
def sp_is_point : SpD := sp1 p_is_point
theorem c_is_point {x : D} {n : Nat} {Q : QD} {F : QE} (e : POK x) (h : Q (.bl x.pt) n) : sp_is_point [x] n Q F := ⟨e, h⟩
local macro_rules | `(tactic| walk_at "call") => `(tactic| ((with_reducible refine c_is_point ?e ?_); (case e => first | assumption | exact pok_of (by decide))))
theorem ok_is_point (T : Txt K mg a) (G_is_list : FnG P w K mg base CX0 1 a.a_is_list a.d_is_list ps_is_list (spD K sp_is_list)) (G_is_number : FnG P w K mg base CX0 3 a.a_is_number a.d_is_number ps_is_number (spD K sp_is_number)) : FnG P w K mg base CX0 4 a.a_is_point a.d_is_point ps_is_point (spD K sp_is_point) := by
  refine fnD0 T.o_is_point.fn sc_is_point (fun ds n Q F h => sp1_len h) (fun q cdv A outer s H E hr hg =>
      (dss_one (ds_ret (de_and (de_call G_is_list (hr.mono (by decide)) hg (by rfl) T.o_is_list.mg T.o_is_list.fn.kp T.o_is_list.b pass0 (da_cons (de_var 0) da_nil)) (de_and (de_cmp (od_eq hr) (de_callB (cd_len) (by rfl) T.b_len (by decide +kernel) (da_cons (de_var 0) da_nil)) de_int) (de_one (de_callB (cd_all rfl) (by rfl) T.b_all (by decide +kernel) (da_cons (de_lc (own := [("each", 1)]) rfl (sc_is_point).nd (di_seq (de_var 0)) (blkOk_by (own := [("each", 1)]) (N := ["value", "each"]) (sc := defScope st_is_point) (by decide +kernel)) (by decide) (fun _ _ _ _ _ => (dg_name 1 (sc_is_point).nd)) (fun _ _ _ _ _ => dp_nil) (fun _ _ _ _ _ => (de_call G_is_number (hr.mono (by decide)) hg (by rfl) T.o_is_number.mg T.o_is_number.fn.kp T.o_is_number.b pass0 (da_cons (de_var 1) da_nil)))) da_nil)))))))) (rd1 fun x0 n Q F h => ?_)
  obtain ⟨e, h⟩ := h
  have hd := e.d
  rcases isL_or hd with ⟨e4, _⟩ | ⟨ds, rfl⟩ | ⟨ds, rfl⟩
  · rw [pt_no e4] at h
    repeat' (walk_at "d")
    exact h
  all_goals
    rcases two_or ds with ⟨x, y, rfl⟩ | e5
    · have hx := (e.it x (by simp [D.items])).dk
      have hy := (e.it y (by simp [D.items])).dk
      repeat' (walk_at "d")
      refine bl_eq h ?_
      simp [D.pt, D.isL, D.items]
    · first | rw [(pt_len e5).1] at h | rw [(pt_len e5).2] at h
      repeat' (walk_at "d")
      all_goals first | exact h | (exfalso; omega)

/-! is_turn -/
theorem sc_is_turn : FnScope ["value", "a", "b", "c", "d", "each"] ["value"] (defScope st_is_turn) := ⟨rfl, rfl, rfl, by decide +kernel, rfl, by decide +kernel, by decide +kernel⟩
def p_is_turn : D → P0 := fun x n Q _ => POK x ∧ Q (.bl x.tn) n
def sp_is_turn : SpD := sp1 p_is_turn
theorem c_is_turn {x : D} {n : Nat} {Q : QD} {F : QE} (e : POK x) (h : Q (.bl x.tn) n) : sp_is_turn [x] n Q F := ⟨e, h⟩
local macro_rules | `(tactic| walk_at "call") => `(tactic| ((with_reducible refine c_is_turn ?e ?_); (case e => first | assumption | exact pok_of (by decide))))
theorem ok_is_turn (T : Txt K mg a) (G_is_list : FnG P w K mg base CX0 1 a.a_is_list a.d_is_list ps_is_list (spD K sp_is_list)) (G_is_point : FnG P w K mg base CX0 4 a.a_is_point a.d_is_point ps_is_point (spD K sp_is_point)) : FnG P w K mg base CX0 5 a.a_is_turn a.d_is_turn ps_is_turn (spD K sp_is_turn) := by
  refine fnD0 T.o_is_turn.fn sc_is_turn (fun ds n Q F h => sp1_len h) (fun q cdv A outer s H E hr hg =>
      (dss_cons (ds_if (dt_not (dt_val (de_call G_is_point (hr.mono (by decide)) hg (by rfl) T.o_is_point.mg T.o_is_point.fn.kp T.o_is_point.b pass0 (da_cons (de_var 0) da_nil)))) (dss_one (ds_ret de_bl)) dss_nil)
      (dss_cons (ds_asg (de_lc (own := [("each", 5)]) rfl (sc_is_turn).nd (di_seq (de_var 0)) (blkOk_by (own := [("each", 5)]) (N := ["value", "a", "b", "c", "d", "each"]) (sc := defScope st_is_turn) (by decide +kernel)) (by decide) (fun _ _ _ _ _ => (dg_name 5 (sc_is_turn).nd)) (fun _ _ _ _ _ => dp_nil) (fun _ _ _ _ _ => (de_if (dt_val (de_call G_is_list (hr.mono (by decide)) hg (by rfl) T.o_is_list.mg T.o_is_list.fn.kp T.o_is_list.b pass0 (da_cons (de_var 5) da_nil))) (de_var 5) (de_tup (da_cons (de_var 5) (da_cons de_int da_nil)))))) (dg_tup (k := 2) rfl (dg_cons (dg_tup (k := 2) rfl (dg_cons (dg_name 1 (sc_is_turn).nd) (dg_cons (dg_name 2 (sc_is_turn).nd) dg_nil))) (dg_cons (dg_tup (k := 2) rfl (dg_cons (dg_name 3 (sc_is_turn).nd) (dg_cons (dg_name 4 (sc_is_turn).nd) dg_nil))) dg_nil))))
      (dss_one (ds_ret (de_cmp (od_eq hr) (de_bin od_add (de_bin od_mul (de_bin od_mul (de_bin od_mul (de_var 1) (de_var 1)) (de_var 4)) (de_var 4)) (de_bin od_mul (de_bin od_mul (de_bin od_mul (de_var 3) (de_var 3)) (de_var 2)) (de_var 2))) (de_bin od_mul (de_bin od_mul (de_bin od_mul (de_var 2) (de_var 2)) (de_var 4)) (de_var 4)))))))) (rd1 fun x0 n Q F h => ?_)
  obtain ⟨e, h⟩ := h
  have hd := e.d
  cases hp : x0.pt with
  | false =>
    rw [tn_of hp] at h
    repeat' (walk_at "d")
    exact h
  | true =>
    rw [tn_of hp] at h
    obtain ⟨x, y, hl, hx, hy, hn⟩ : ∃ x y, (x0 = .lst [x, y] ∨ x0 = .tup [x, y]) ∧ FOK x ∧ FOK y ∧ x.nb = true ∧ y.nb = true := by
      rcases isL_or hd with ⟨e4, _⟩ | ⟨ds, rfl⟩ | ⟨ds, rfl⟩
      · rw [pt_no e4] at hp
        cases hp
      all_goals
        rcases two_or ds with ⟨x, y, rfl⟩ | e5
        · exact ⟨x, y, by simp, e.it x (by simp [D.items]), e.it y (by simp [D.items]), by simpa [D.pt, D.isL, D.items] using hp⟩
        · first | rw [(pt_len e5).1] at hp | rw [(pt_len e5).2] at hp
          cases hp
    have h' : Q (.bl (decide (x.ab.1 * x.ab.1 * y.ab.2 * y.ab.2 + y.ab.1 * y.ab.1 * x.ab.2 * x.ab.2 = x.ab.2 * x.ab.2 * y.ab.2 * y.ab.2))) n := by
      rcases hl with rfl | rfl <;> exact h
    clear h
    have dx := hx.dk.1
    have dy := hy.dk.1
    rcases nb_two hx hn.1 with ⟨i, rfl, b1⟩ | ⟨lx, px, b1, b2⟩ <;> rcases nb_two hy hn.2 with ⟨j, rfl, b3⟩ | ⟨ly, py, b3, b4⟩ <;> (repeat' (walk_at "d")) <;> exact h'

/-! _law_sack -/
theorem sc__law_sack : FnScope ["_law_script", "_law_cell"] ["_law_script"] (defScope st__law_sack) := ⟨rfl, rfl, rfl, by decide +kernel, rfl, by decide +kernel, by decide +kernel⟩
def sp__law_sack : SpD := sp1 p_sack
theorem ok__law_sack (T : Txt K mg a) : FnG P w K mg base CX0 1 a.a__law_sack a.d__law_sack ps__law_sack (spD K sp__law_sack) := by
  refine fnD0 T.o__law_sack.fn sc__law_sack (fun ds n Q F h => sp1_len h) (fun q cdv A outer s H E hr hg =>
      (dss_one (ds_ret (de_lst (da_cons (de_lc (own := [("_law_cell", 1)]) rfl (sc__law_sack).nd (di_seq (de_slice (de_var 0) do_none (do_some de_int))) (blkOk_by (own := [("_law_cell", 1)]) (N := ["_law_script", "_law_cell"]) (sc := defScope st__law_sack) (by decide +kernel)) (by decide) (fun _ _ _ _ _ => (dg_name 1 (sc__law_sack).nd)) (fun _ _ _ _ _ => dp_nil) (fun _ _ _ _ _ => (de_callTy (cd_int) (by rfl) T.b_int (by decide +kernel) (da_cons (de_var 1) da_nil)))) (da_cons de_int (da_cons de_int da_nil))))))) (rd1 fun x0 n Q F h => ?_)
  obtain ⟨ns, rfl, hl, h⟩ := h
  repeat' (walk_at "d")
  refine ⟨?_, lcD_fm some ?_ ?_⟩
  · have h1 := cut_len ns none (some 60)
    rw [List.length_map]
    exact size_big (by omega)
  · intro x hx Kt Kf h1 h2
    obtain ⟨i, _, rfl⟩ := List.mem_map.mp hx
    repeat' (walk_at "d")
    exact h1 _ rfl
  · rw [fm_id, List.nil_append]
    repeat' (walk_at "d")
    exact h _

/-! _law_reach -/
theorem sc__law_reach : FnScope ["_law_sack_here", "_law_many", "_law_rest", "_law_turn_here", "_law_cell", "_law_mixed"] ["_law_sack_here", "_law_many"] (defScope st__law_reach) := ⟨rfl, rfl, rfl, by decide +kernel, rfl, by decide +kernel, by decide +kernel⟩
def sp__law_reach : SpD := sp2 p_draw
theorem c__law_reach {ms : List Int} {k : Int} {n : Nat} {Q : QD} {F : QE} (h1 : 0 < k) (h2 : k < 2 ^ 30) (h3 : n < 2000) (h : ∀ i n', 0 ≤ i → i < k → n ≤ n' → n' ≤ n + 1 → Q (.int i) n') : sp__law_reach [.drum ms, .int k] n Q F :=
  ⟨⟨ms, rfl⟩, k, rfl, h1, h2, h3, fun i a b n' c d => h i n' a b c d⟩
local macro_rules | `(tactic| walk_at "call") => `(tactic| ((with_reducible refine c__law_reach ?h1 ?h2 ?h3 (fun _ _ _ _ _ _ => ?_)); (case h1 => omega); (case h2 => omega); (case h3 => omega)))
theorem ok__law_reach (T : Txt K mg a) : FnG P w K mg base CX0 1 a.a__law_reach a.d__law_reach ps__law_reach (spD K sp__law_reach) := by
  refine fnD0 T.o__law_reach.fn sc__law_reach (fun ds n Q F h => sp2_len h) (fun q cdv A outer s H E hr hg =>
      (dss_cons (ds_if (dt_cmp od_gt (de_drum 0) de_int) (dss_cons (ds_set 2 (sc__law_reach).nd (de_callTy (cd_int) (by rfl) T.b_int (by decide +kernel) (da_cons (de_drum 0) da_nil)))
      (dss_cons (ds_drum 0 (de_bin od_div (de_var 2) (de_var 1)))
      (dss_one (ds_ret (de_bin od_mod (de_callTy (cd_int) (by rfl) T.b_int (by decide +kernel) (da_cons (de_var 2) da_nil)) (de_var 1)))))) dss_nil)
      (dss_cons (ds_set 3 (sc__law_reach).nd (de_drum 0))
      (dss_cons (ds_drum 0 (de_bin od_add (de_var 3) de_int))
      (dss_cons (ds_set 4 (sc__law_reach).nd (de_bin od_add (de_bin od_mul de_int (de_var 3)) de_int))
      (dss_cons (ds_if (dt_cmp (od_neNil hr) (de_drum 0) (de_lst da_nil)) (dss_one (ds_set 4 (sc__law_reach).nd (de_at (de_drum 0) (de_bin od_mod (de_callTy (cd_int) (by rfl) T.b_int (by decide +kernel) (da_cons (de_var 3) da_nil)) (de_callB (cd_len) (by rfl) T.b_len (by decide +kernel) (da_cons (de_drum 0) da_nil)))))) dss_nil)
      (dss_cons (ds_if (dw_t (dw_and (dt_cmp od_lt (de_var 3) (de_callB (cd_len) (by rfl) T.b_len (by decide +kernel) (da_cons (de_drum 0) da_nil))) (dw_and1 (dt_cmp od_ge (de_callB (cd_abs) (by rfl) T.b_abs (by decide +kernel) (da_cons (de_var 4) da_nil)) (de_bin od_powA de_int de_int))))) (dss_cons (ds_set 2 (sc__law_reach).nd (de_bin od_add (de_bin od_mul de_int (de_bin od_sub (de_callB (cd_abs) (by rfl) T.b_abs (by decide +kernel) (da_cons (de_callTy (cd_int) (by rfl) T.b_int (by decide +kernel) (da_cons (de_var 4) da_nil)) da_nil)) (de_bin od_powA de_int de_int))) (de_callTy (cd_int) (by rfl) T.b_int (by decide +kernel) (da_cons (de_cmp od_lt (de_var 4) de_int) da_nil))))
      (dss_cons (ds_drum 0 (de_bin od_div (de_var 2) (de_var 1)))
      (dss_one (ds_ret (de_bin od_mod (de_callTy (cd_int) (by rfl) T.b_int (by decide +kernel) (da_cons (de_var 2) da_nil)) (de_var 1)))))) dss_nil)
      (dss_cons (ds_set 5 (sc__law_reach).nd (de_bin od_mod (de_callTy (cd_int) (by rfl) T.b_int (by decide +kernel) (da_cons (de_bin od_powA (de_bin od_add (de_bin od_add (de_bin od_mod (de_callTy (cd_int) (by rfl) T.b_int (by decide +kernel) (da_cons (de_var 4) da_nil)) de_int) (de_bin od_mul de_int (de_var 3))) de_int) de_int) da_nil)) de_int))
      (dss_cons (ds_set 5 (sc__law_reach).nd (de_bin od_mod (de_callTy (cd_int) (by rfl) T.b_int (by decide +kernel) (da_cons (de_bin od_powA (de_bin od_add (de_bin od_add (de_bin od_mul (de_var 5) (de_bin od_add (de_bin od_mul de_int (de_var 3)) de_int)) (de_bin od_mul (de_bin od_mul de_int (de_var 3)) (de_var 3))) de_int) de_int) da_nil)) de_int))
      (dss_one (ds_ret (de_bin od_mod (de_callTy (cd_int) (by rfl) T.b_int (by decide +kernel) (da_cons (de_bin od_div (de_var 5) de_int) da_nil)) (de_var 1))))))))))))) (rd2 fun x0 x1 n Q F h => ?_)
  obtain ⟨⟨ms, rfl⟩, k, rfl, hk, hk2, hn, h⟩ := h
  repeat' (walk_at "d")
  all_goals exact draw_end h hk (by omega) (by omega)

/-! _law_pick -/
theorem sc__law_pick : FnScope ["_law_sack_here", "_law_some"] ["_law_sack_here", "_law_some"] (defScope st__law_pick) := ⟨rfl, rfl, rfl, by decide +kernel, rfl, by decide +kernel, by decide +kernel⟩
def sp__law_pick : SpD := sp2 p_pick
theorem c__law_pick {P : D → Prop} {ms : List Int} {ds : List D} {n : Nat} {Q : QD} {F : QE} (h1 : 0 < ds.length) (h2 : ds.length < 1000) (h3 : n < 2000) (hP : ∀ d ∈ ds, P d) (h : ∀ d n', P d → n ≤ n' → n' ≤ n + 1 → Q d n') : sp__law_pick [.drum ms, .lst ds] n Q F :=
  ⟨⟨ms, rfl⟩, ds, rfl, h1, h2, h3, fun d hd n' a b => h d n' (hP d hd) a b⟩
theorem ok__law_pick (T : Txt K mg a) (G__law_reach : FnG P w K mg base CX0 1 a.a__law_reach a.d__law_reach ps__law_reach (spD K sp__law_reach)) : FnG P w K mg base CX0 2 a.a__law_pick a.d__law_pick ps__law_pick (spD K sp__law_pick) := by
  refine fnD0 T.o__law_pick.fn sc__law_pick (fun ds n Q F h => sp2_len h) (fun q cdv A outer s H E hr hg =>
      (dss_one (ds_ret (de_at (de_var 1) (de_call G__law_reach (hr.mono (by decide)) hg (by rfl) T.o__law_reach.mg T.o__law_reach.fn.kp T.o__law_reach.b pass0 (da_cons (de_var 0) (da_cons (de_callB (cd_len) (by rfl) T.b_len (by decide +kernel) (da_cons (de_var 1) da_nil)) da_nil))))))) (rd2 fun x0 x1 n Q F h => ?_)
  obtain ⟨⟨ms, rfl⟩, ds, rfl, h1, h2, h3, h⟩ := h
  repeat' (walk_at "d")
  refine s_ixM (by omega) (by omega) fun d hd => ?_
  exact h d hd _ (by omega) (by omega)

/-! _law_has_form -/
theorem sc__law_has_form : FnScope ["_law_value_here", "_law_by", "_law_each"] ["_law_value_here"] (defScope st__law_has_form) := ⟨rfl, rfl, rfl, by decide +kernel, rfl, by decide +kernel, by decide +kernel⟩
theorem s_noInt {ix : Nat} {x : D} {ρ : SEnv} {n : Nat} {QT : Bool → Nat → Prop} {F : QE} (e : ρ[ix]? = some (.d x)) (hd : x.isData = true) (h : QT (!x.iI) n) : dOrT (dVal (dIsi ["bool"] (dVar ix))) (dNotT (dVal (dIsi ["int"] (dVar ix)))) ρ n QT F := by
  refine s_orT (s_val (s_isi (s_var e ⟨hd, _, rfl, ?_⟩)))
  cases x <;> first
    | (exact iteTe rfl h)
    | (refine iteFe rfl (s_notT (s_val (s_isi (s_var e ⟨rfl, _, rfl, ?_⟩)))); exact h)
    | cases hd
local macro_rules | `(tactic| walk_at "pre") => `(tactic| ((with_reducible refine s_noInt (x := ?x) ?e ?e1 ?_); (case e => rfl); (case e1 => walk_at "isd")))
def p_has_form : D → P0 := fun x n Q _ => FOK x ∧ Q (.bl x.nb) n
def sp__law_has_form : SpD := sp1 p_has_form
theorem c_has_form {x : D} {n : Nat} {Q : QD} {F : QE} (e : FOK x) (h : Q (.bl x.nb) n) : sp__law_has_form [x] n Q F := ⟨e, h⟩
local macro_rules | `(tactic| walk_at "call") => `(tactic| ((with_reducible refine c_has_form ?e ?_); (case e => assumption)))
theorem ok__law_has_form (T : Txt K mg a) : FnG P w K mg base CX0 1 a.a__law_has_form a.d__law_has_form ps__law_has_form (spD K sp__law_has_form) := by
  refine fnD0 T.o__law_has_form.fn sc__law_has_form (fun ds n Q F h => sp1_len h) (fun q cdv A outer s H E hr hg =>
      (dss_cons (ds_if (dt_val (de_isi1 (n := "int") (by rfl) T.b_isinstance (de_var 0) (by rfl) T.b_int (by decide +kernel) (by decide))) (dss_one (ds_ret (de_not (de_isi1 (n := "bool") (by rfl) T.b_isinstance (de_var 0) (by rfl) T.b_bool (by decide +kernel) (by decide))))) dss_nil)
      (dss_cons (ds_if (dw_t (dw_or (dt_not (dt_val (de_isi2 (n := "list") (m := "tuple") (by rfl) T.b_isinstance (de_var 0) (by rfl) T.b_list (by decide +kernel) (by decide) (by rfl) T.b_tuple (by decide +kernel) (by decide)))) (dw_or1 (dt_cmp (od_ne hr) (de_callB (cd_len) (by rfl) T.b_len (by decide +kernel) (da_cons (de_var 0) da_nil)) de_int)))) (dss_one (ds_ret de_bl)) dss_nil)
      (dss_cons (ds_if (dw_t (dw_or (dt_cmp (od_neNil hr) (de_lc (own := [("_law_each", 2)]) rfl (sc__law_has_form).nd (di_seq (de_var 0)) (blkOk_by (own := [("_law_each", 2)]) (N := ["_law_value_here", "_law_by", "_law_each"]) (sc := defScope st__law_has_form) (by decide +kernel)) (by decide) (fun _ _ _ _ _ => (dg_name 2 (sc__law_has_form).nd)) (fun _ _ _ _ _ => (dp_one (dw_t (dw_or (dt_val (de_isi1 (n := "bool") (by rfl) T.b_isinstance (de_var 2) (by rfl) T.b_bool (by decide +kernel) (by decide))) (dw_or1 (dt_not (dt_val (de_isi1 (n := "int") (by rfl) T.b_isinstance (de_var 2) (by rfl) T.b_int (by decide +kernel) (by decide))))))))) (fun _ _ _ _ _ => (de_var 2))) (de_lst da_nil)) (dw_or1 (dt_cmp od_lt (de_at (de_var 0) de_int) de_int)))) (dss_one (ds_ret de_bl)) dss_nil)
      (dss_one (ds_ret (de_cmp (od_eqNil hr) (de_lc (own := [("_law_by", 1)]) rfl (sc__law_has_form).nd (di_rng2 (by rfl) T.b_range de_int (de_bin od_add (de_callB (cd_min2 rfl) (by rfl) T.b_min (by decide +kernel) (da_cons (de_at (de_var 0) de_int) (da_cons de_int da_nil))) de_int)) (blkOk_by (own := [("_law_by", 1)]) (N := ["_law_value_here", "_law_by", "_law_each"]) (sc := defScope st__law_has_form) (by decide +kernel)) (by decide) (fun _ _ _ _ _ => (dg_name 1 (sc__law_has_form).nd)) (fun _ _ _ _ _ => (dp_one (dw_t (dw_and (dt_cmp (od_eq hr) (de_bin od_mod (de_callTy (cd_int) (by rfl) T.b_int (by decide +kernel) (da_cons (de_at (de_var 0) de_int) da_nil)) (de_var 1)) de_int) (dw_and1 (dt_cmp (od_eq hr) (de_bin od_mod (de_callTy (cd_int) (by rfl) T.b_int (by decide +kernel) (da_cons (de_at (de_var 0) de_int) da_nil)) (de_var 1)) de_int)))))) (fun _ _ _ _ _ => (de_var 1))) (de_lst da_nil)))))))) (rd1 fun x0 n Q F h => ?_)
  obtain ⟨e, h⟩ := h
  rcases iI_or x0 with ⟨i, rfl⟩ | e3
  · repeat' (walk_at "d")
    exact h
  have hd := e.dk.1
  by_cases e4 : x0.isL = true
  case neg =>
    have e4 : x0.isL = false := by simpa using e4
    rw [nb_no e3 e4] at h
    rcases isaI hd e3 with ⟨b, rfl⟩ | ⟨e6, e7⟩
    · repeat' (walk_at "d")
      exact h
    · rw [e4] at e7
      repeat' (walk_at "d")
      exact h
  obtain ⟨ds, hl, hi⟩ : ∃ ds, (x0 = .lst ds ∨ x0 = .tup ds) ∧ x0.items = ds := by
    rcases isL_or hd with ⟨e5, _⟩ | ⟨ds, rfl⟩ | ⟨ds, rfl⟩
    · rw [e5] at e4
      cases e4
    · exact ⟨ds, .inl rfl, rfl⟩
    · exact ⟨ds, .inr rfl, rfl⟩
  have e8 : x0.isa ["int"] = false := by rcases hl with rfl | rfl <;> rfl
  have e9 : x0.isa ["list", "tuple"] = true := by rcases hl with rfl | rfl <;> rfl
  rcases two_or ds with ⟨x, y, rfl⟩ | e5
  · have hx : x.isData = true := e.dk.2 x (by rw [hi]; simp)
    have hy : y.isData = true := e.dk.2 y (by rw [hi]; simp)
    have no : x.iI = false ∨ y.iI = false → Q (.bl false) n := fun z => by
      rcases hl with rfl | rfl
      · rw [(nb_xy z).1] at h; exact h
      · rw [(nb_xy z).2] at h; exact h
    rcases iI_or x with ⟨i, rfl⟩ | e6
    · rcases iI_or y with ⟨j, rfl⟩ | e7
      · have hb := (e.ab i j hi).2.2
        by_cases h2 : 2 ≤ j
        · have h' : Q (.bl (decide (Int.gcd i j = 1))) n := by
            refine bl_eq h ?_
            rcases hl with rfl | rfl <;> simp [D.nb, h2]
          rw [← gcd_law h2 hb] at h'
          clear h
          repeat' (walk_at "d")
          any_goals (exfalso; omega)
          refine ⟨?_, ?_⟩
          · rw [rgD_map, List.length_map]
            unfold DL.upTo
            rw [List.length_map, List.length_range]
            exact size_big (by omega)
          rw [rgD_map]
          refine lcD_filt (fun j_1 => decide (i % j_1 = 0) && decide (j % j_1 = 0)) (fun k hk Kt Kf h1 h3 => ?_) ?_
          · have hr := (mem_upTo.mp hk).1
            repeat' (walk_at "d")
            · exact h1 (by simp [*])
            · exact h3 (by simp [*])
            · exact h3 (by simp [*])
          · repeat' (walk_at "d")
            refine bl_eq h' ?_
            rw [empty_map]
        · have h' : Q (.bl false) n := by
            refine bl_eq h ?_
            rcases hl with rfl | rfl <;> simp [D.nb, h2]
          repeat' (walk_at "d")
          all_goals first | exact h' | (exfalso; omega)
      · have h' := no (.inr e7)
        repeat' (walk_at "d")
        exact h'
    · have h' := no (.inl e6)
      cases e7 : y.iI <;> (repeat' (walk_at "d")) <;> exact h'
  · have h' : Q (.bl false) n := by
      refine bl_eq h ?_
      rcases hl with rfl | rfl
      · exact (nb_len e5).1
      · exact (nb_len e5).2
    repeat' (walk_at "d")
    all_goals first | exact h' | (exfalso; omega)

/-! _law_value -/
theorem sc__law_value : FnScope ["_law_sack_here", "_law_way", "_law_pair"] ["_law_sack_here"] (defScope st__law_value) := ⟨rfl, rfl, rfl, by decide +kernel, rfl, by decide +kernel, by decide +kernel⟩
def p_value : D → P0 := fun s n Q _ => (∃ ms, s = .drum ms) ∧ n < 1900 ∧ ∀ v, FOK v → POK v → ∀ n', n ≤ n' → n' ≤ n + 4 → Q v n'
def sp__law_value : SpD := sp1 p_value
theorem c_value {ms : List Int} {n : Nat} {Q : QD} {F : QE} (h1 : n < 1900) (h : ∀ v n', v.isData = true → v.dk 1 → FOK v → POK v → n ≤ n' → n' ≤ n + 4 → Q v n') : sp__law_value [.drum ms] n Q F := ⟨⟨ms, rfl⟩, h1, fun v a b n' c d => h v n' b.d a.dk a b c d⟩
local macro_rules | `(tactic| walk_at "call") => `(tactic| ((with_reducible refine c_value ?e (fun _ _ _ _ _ _ _ _ => ?_)); (case e => omega)))
theorem ok__law_value (T : Txt K mg a) (G__law_reach : FnG P w K mg base CX0 1 a.a__law_reach a.d__law_reach ps__law_reach (spD K sp__law_reach)) (G__law_pick : FnG P w K mg base CX0 2 a.a__law_pick a.d__law_pick ps__law_pick (spD K sp__law_pick)) : FnG P w K mg base CX0 3 a.a__law_value a.d__law_value ps__law_value (spD K sp__law_value) := by
  refine fnD0 T.o__law_value.fn sc__law_value (fun ds n Q F h => sp1_len h) (fun q cdv A outer s H E hr hg =>
      (dss_cons (ds_set 1 (sc__law_value).nd (de_call G__law_reach (hr.mono (by decide)) hg (by rfl) T.o__law_reach.mg T.o__law_reach.fn.kp T.o__law_reach.b pass0 (da_cons (de_var 0) (da_cons de_int da_nil))))
      (dss_cons (ds_if (dt_cmp (od_eq hr) (de_var 1) de_int) (dss_one (ds_ret (de_bin od_sub (de_call G__law_reach (hr.mono (by decide)) hg (by rfl) T.o__law_reach.mg T.o__law_reach.fn.kp T.o__law_reach.b pass0 (da_cons (de_var 0) (da_cons de_int da_nil))) de_int))) dss_nil)
      (dss_cons (ds_if (dt_cmp od_lt (de_var 1) de_int) (dss_cons (ds_set 2 (sc__law_value).nd (de_tup (da_cons (de_bin od_sub (de_call G__law_reach (hr.mono (by decide)) hg (by rfl) T.o__law_reach.mg T.o__law_reach.fn.kp T.o__law_reach.b pass0 (da_cons (de_var 0) (da_cons de_int da_nil))) de_int) (da_cons (de_call G__law_pick (hr.mono (by decide)) hg (by rfl) T.o__law_pick.mg T.o__law_pick.fn.kp T.o__law_pick.b pass0 (da_cons (de_var 0) (da_cons (de_lst (da_cons de_int (da_cons de_int (da_cons de_int (da_cons de_int (da_cons de_int (da_cons de_int (da_cons de_int (da_cons (de_un un_negD de_int) (da_cons de_int (da_cons de_int da_nil))))))))))) da_nil))) da_nil))))
      (dss_one (ds_ret (de_if (dt_cmp (od_eq hr) (de_var 1) de_int) (de_callTy (cd_list) (by rfl) T.b_list (by decide +kernel) (da_cons (de_var 2) da_nil)) (de_var 2))))) dss_nil)
      (dss_one (ds_ret (de_call G__law_pick (hr.mono (by decide)) hg (by rfl) T.o__law_pick.mg T.o__law_pick.fn.kp T.o__law_pick.b pass0 (da_cons (de_var 0) (da_cons (de_lst (da_cons de_non (da_cons de_bl (da_cons de_bl (da_cons de_str (da_cons de_str (da_cons (de_tup da_nil) (da_cons (de_lst (da_cons de_int da_nil)) (da_cons (de_tup (da_cons de_int (da_cons de_int (da_cons de_int da_nil)))) (da_cons (de_tup (da_cons de_int (da_cons de_bl da_nil))) (da_cons (de_tup (da_cons de_non (da_cons de_int da_nil))) (da_cons (de_tup (da_cons (de_tup (da_cons de_int (da_cons de_int da_nil))) (da_cons de_int da_nil))) (da_cons de_dnew (da_cons (de_bin od_powA de_int de_int) (da_cons (de_tup (da_cons (de_bin od_powA de_int de_int) (da_cons de_int da_nil))) da_nil))))))))))))))) da_nil))))))))) (rd1 fun x0 n Q F h => ?_)
  obtain ⟨⟨ms, rfl⟩, hn, h⟩ := h
  repeat' (walk_at "d")
  · exact h _ (fok_int (by omega)) (pok_int _) _ (by omega) (by omega)
  · refine c__law_pick (P := fun d => ∃ j : Int, d = .int j ∧ -2 ≤ j ∧ j ≤ 400) (by decide) (by decide) (by omega) ?_ ?_
    · repeat' (refine all_cons ⟨_, rfl, by decide, by decide⟩ ?_)
      exact all_nil
    · rintro _ n' ⟨j, rfl, j1, j2⟩ _ _
      repeat' (walk_at "d")
      · exact h _ (fok_two (by omega) (by omega) j2).1 (pok_lst (two_ints (by omega) (by omega))) _ (by omega) (by omega)
      · exact h _ (fok_two (by omega) (by omega) j2).2 (pok_tup (two_ints (by omega) (by omega))) _ (by omega) (by omega)
  · refine c__law_pick (P := fun d => FOK d ∧ POK d) (by decide) (by decide) (by omega) ?_ ?_
    · repeat' (refine all_cons ⟨fok_of (by decide +kernel), pok_of (by decide +kernel)⟩ ?_)
      exact all_nil
    · rintro d n' ⟨f, p⟩ _ _
      exact h _ f p _ (by omega) (by omega)

/-! _law_halves -/
theorem sc__law_halves : FnScope ["_law_value_here"] ["_law_value_here"] (defScope st__law_halves) := ⟨rfl, rfl, rfl, by decide +kernel, rfl, by decide +kernel, by decide +kernel⟩
def p_halves : D → P0 := fun x n Q _ => x.nb = true ∧ x.isData = true ∧ Q (.tup [.int x.ab.1, .int x.ab.2]) n
def sp__law_halves : SpD := sp1 p_halves
theorem c_halves {x : D} {n : Nat} {Q : QD} {F : QE} (e : x.nb = true) (e1 : x.isData = true) (h : Q (.tup [.int x.ab.1, .int x.ab.2]) n) : sp__law_halves [x] n Q F := ⟨e, e1, h⟩
local macro_rules | `(tactic| walk_at "call") => `(tactic| ((with_reducible refine c_halves ?e ?e1 ?_); (case e => assumption); (case e1 => walk_at "isd")))
theorem ok__law_halves (T : Txt K mg a) : FnG P w K mg base CX0 1 a.a__law_halves a.d__law_halves ps__law_halves (spD K sp__law_halves) := by
  refine fnD0 T.o__law_halves.fn sc__law_halves (fun ds n Q F h => sp1_len h) (fun q cdv A outer s H E hr hg =>
      (dss_one (ds_ret (de_if (dt_val (de_isi1 (n := "int") (by rfl) T.b_isinstance (de_var 0) (by rfl) T.b_int (by decide +kernel) (by decide))) (de_tup (da_cons (de_var 0) (da_cons de_int da_nil))) (de_tup (da_cons (de_at (de_var 0) de_int) (da_cons (de_at (de_var 0) de_int) da_nil))))))) (rd1 fun x0 n Q F h => ?_)
  obtain ⟨e, e1, h⟩ := h
  rcases nb_cases e with ⟨i, rfl⟩ | ⟨a, b, rfl | rfl, _⟩ <;> (repeat' (walk_at "d")) <;> exact h

/-! _law_is_round -/
theorem sc__law_is_round : FnScope ["_law_value_here", "_law_a", "_law_b", "_law_c", "_law_d", "_law_each"] ["_law_value_here"] (defScope st__law_is_round) := ⟨rfl, rfl, rfl, by decide +kernel, rfl, by decide +kernel, by decide +kernel⟩
def p_is_round : D → P0 := fun x n Q _ => POK x ∧ Q (.bl x.tn) n
def sp__law_is_round : SpD := sp1 p_is_round
theorem c_is_round {x : D} {n : Nat} {Q : QD} {F : QE} (e : POK x) (h : Q (.bl x.tn) n) : sp__law_is_round [x] n Q F := ⟨e, h⟩
local macro_rules | `(tactic| walk_at "call") => `(tactic| ((with_reducible refine c_is_round ?e ?_); (case e => first | assumption | exact pok_of (by decide))))
theorem ok__law_is_round (T : Txt K mg a) (G__law_has_form : FnG P w K mg base CX0 1 a.a__law_has_form a.d__law_has_form ps__law_has_form (spD K sp__law_has_form)) (G__law_halves : FnG P w K mg base CX0 1 a.a__law_halves a.d__law_halves ps__law_halves (spD K sp__law_halves)) : FnG P w K mg base CX0 2 a.a__law_is_round a.d__law_is_round ps__law_is_round (spD K sp__law_is_round) := by
  refine fnD0 T.o__law_is_round.fn sc__law_is_round (fun ds n Q F h => sp1_len h) (fun q cdv A outer s H E hr hg =>
      (dss_cons (ds_if (dw_t (dw_or (dt_not (dt_val (de_isi2 (n := "list") (m := "tuple") (by rfl) T.b_isinstance (de_var 0) (by rfl) T.b_list (by decide +kernel) (by decide) (by rfl) T.b_tuple (by decide +kernel) (by decide)))) (dw_or (dt_cmp (od_ne hr) (de_callB (cd_len) (by rfl) T.b_len (by decide +kernel) (da_cons (de_var 0) da_nil)) de_int) (dw_or1 (dt_cmp (od_neNil hr) (de_lc (own := [("_law_each", 5)]) rfl (sc__law_is_round).nd (di_seq (de_var 0)) (blkOk_by (own := [("_law_each", 5)]) (N := ["_law_value_here", "_law_a", "_law_b", "_law_c", "_law_d", "_law_each"]) (sc := defScope st__law_is_round) (by decide +kernel)) (by decide) (fun _ _ _ _ _ => (dg_name 5 (sc__law_is_round).nd)) (fun _ _ _ _ _ => (dp_one (dt_not (dt_val (de_call G__law_has_form (hr.mono (by decide)) hg (by rfl) T.o__law_has_form.mg T.o__law_has_form.fn.kp T.o__law_has_form.b pass0 (da_cons (de_var 5) da_nil)))))) (fun _ _ _ _ _ => (de_var 5))) (de_lst da_nil)))))) (dss_one (ds_ret de_bl)) dss_nil)
      (dss_cons (ds_asg (de_tup (da_cons (de_call G__law_halves (hr.mono (by decide)) hg (by rfl) T.o__law_halves.mg T.o__law_halves.fn.kp T.o__law_halves.b pass0 (da_cons (de_at (de_var 0) de_int) da_nil)) (da_cons (de_call G__law_halves (hr.mono (by decide)) hg (by rfl) T.o__law_halves.mg T.o__law_halves.fn.kp T.o__law_halves.b pass0 (da_cons (de_at (de_var 0) de_int) da_nil)) da_nil))) (dg_tup (k := 2) rfl (dg_cons (dg_tup (k := 2) rfl (dg_cons (dg_name 1 (sc__law_is_round).nd) (dg_cons (dg_name 2 (sc__law_is_round).nd) dg_nil))) (dg_cons (dg_tup (k := 2) rfl (dg_cons (dg_name 3 (sc__law_is_round).nd) (dg_cons (dg_name 4 (sc__law_is_round).nd) dg_nil))) dg_nil))))
      (dss_one (ds_ret (de_cmp (od_eq hr) (de_bin od_add (de_bin od_powA (de_bin od_mul (de_var 1) (de_var 4)) de_int) (de_bin od_powA (de_bin od_mul (de_var 3) (de_var 2)) de_int)) (de_bin od_powA (de_bin od_mul (de_var 2) (de_var 4)) de_int))))))) (rd1 fun x0 n Q F h => ?_)
  obtain ⟨e, h⟩ := h
  have hd := e.d
  rcases isL_or hd with ⟨e4, _⟩ | ⟨ds, rfl⟩ | ⟨ds, rfl⟩
  · rw [tn_of (pt_no e4)] at h
    have e7 : x0.isa ["list", "tuple"] = false := by
      cases x0 <;> first | rfl | (cases e4; done) | (cases hd; done)
    repeat' (walk_at "d")
    exact h
  all_goals
    rcases two_or ds with ⟨x, y, rfl⟩ | e5
    · have hx := e.it x (by simp [D.items])
      have hy := e.it y (by simp [D.items])
      have dx := hx.dk.1
      have dy := hy.dk.1
      cases hnx : x.nb
      · have h' : Q (.bl false) n := by
          refine bl_eq h ?_
          simp [D.tn, D.pt, D.isL, D.items, hnx]
        cases hny : y.nb <;> (repeat' (walk_at "d")) <;> exact h'
      · cases hny : y.nb
        · have h' : Q (.bl false) n := by
            refine bl_eq h ?_
            simp [D.tn, D.pt, D.isL, D.items, hnx, hny]
          (repeat' (walk_at "d")) <;> exact h'
        · have bx : x.ab.1.natAbs < 2 ^ 200 ∧ x.ab.2.natAbs < 2 ^ 200 := by
            rcases nb_three hx hnx with ⟨i, rfl, b⟩ | ⟨a, b, rfl, b1, b2⟩ | ⟨a, b, rfl, b1, b2⟩
            · exact ⟨b, by show (1 : Int).natAbs < 2 ^ 200; decide⟩
            · exact ⟨b1, b2⟩
            · exact ⟨b1, b2⟩
          have bY : y.ab.1.natAbs < 2 ^ 200 ∧ y.ab.2.natAbs < 2 ^ 200 := by
            rcases nb_three hy hny with ⟨i, rfl, b⟩ | ⟨a, b, rfl, b1, b2⟩ | ⟨a, b, rfl, b1, b2⟩
            · exact ⟨b, by show (1 : Int).natAbs < 2 ^ 200; decide⟩
            · exact ⟨b1, b2⟩
            · exact ⟨b1, b2⟩
          obtain ⟨b1, b2⟩ := bx
          obtain ⟨b3, b4⟩ := bY
          have h' : Q (.bl (decide ((x.ab.1 * y.ab.2) ^ 2 + (y.ab.1 * x.ab.2) ^ 2 = (x.ab.2 * y.ab.2) ^ 2))) n := by
            refine bl_eq h ?_
            simp only [D.tn, D.pt, D.isL, D.items, hnx, hny, D.rnd, Bool.and_self, Bool.true_and]
            congr 1
            exact propext (by constructor <;> intro z <;> (simp only [Int.pow_succ, Int.pow_zero, Int.one_mul] at z ⊢; simp only [Int.mul_assoc, Int.mul_left_comm, Int.mul_comm] at z ⊢; exact z))
          repeat' (walk_at "d")
          exact h'
    · have h' : Q (.bl false) n := by
        refine bl_eq h ?_
        first | exact tn_of (pt_len e5).1 | exact tn_of (pt_len e5).2
      repeat' (walk_at "d")
      all_goals first | exact h' | (exfalso; omega)

/-! _law_fraction -/
theorem sc__law_fraction : FnScope ["_law_above", "_law_below", "_law_part", "_law_other"] ["_law_above", "_law_below"] (defScope st__law_fraction) := ⟨rfl, rfl, rfl, by decide +kernel, rfl, by decide +kernel, by decide +kernel⟩
def p_fraction : D → D → P0 := fun x y n Q _ => ∃ i j : Int, x = .int i ∧ y = .int j ∧ 0 < j ∧ j ≤ 400 ∧ i.natAbs < 2 ^ 60 ∧ ∀ d, FOK d → Q d n
def sp__law_fraction : SpD := sp2 p_fraction
theorem c_fraction {i j : Int} {n : Nat} {Q : QD} {F : QE} (h1 : 0 < j) (h2 : j ≤ 400) (h3 : i.natAbs < 2 ^ 60) (h : ∀ d, FOK d → Q d n) : sp__law_fraction [.int i, .int j] n Q F := ⟨i, j, rfl, rfl, h1, h2, h3, h⟩
theorem ok__law_fraction (T : Txt K mg a) : FnG P w K mg base CX0 1 a.a__law_fraction a.d__law_fraction ps__law_fraction (spD K sp__law_fraction) := by
  refine fnD0 T.o__law_fraction.fn sc__law_fraction (fun ds n Q F h => sp2_len h) (fun q cdv A outer s H E hr hg =>
      (dss_cons (ds_par 2 3 rfl (sc__law_fraction).nd (de_callB (cd_abs) (by rfl) T.b_abs (by decide +kernel) (da_cons (de_var 0) da_nil)) (de_var 1))
      (dss_cons (ds_while PassesOwn.never (dt_cmp (od_ne hr) (de_var 3) de_int) (dss_one (ds_par 2 3 rfl (sc__law_fraction).nd (de_var 3) (de_bin od_mod (de_callTy (cd_int) (by rfl) T.b_int (by decide +kernel) (da_cons (de_var 2) da_nil)) (de_var 3)))))
      (dss_one (ds_ret (de_if (dt_cmp (od_eq hr) (de_var 1) (de_var 2)) (de_bin od_div (de_var 0) (de_var 2)) (de_tup (da_cons (de_bin od_div (de_var 0) (de_var 2)) (da_cons (de_bin od_div (de_var 1) (de_var 2)) da_nil))))))))) (rd2 fun x0 x1 n Q F h => ?_)
  obtain ⟨i, j, rfl, rfl, h1, h2, h3, h⟩ := h
  repeat' (walk_at "d")
  all_goals refine s_while (fun m ρ n' => ∃ a b : Nat, ρ = [.d (.int i), .d (.int j), .d (.int (a : Int)), .d (.int (b : Int))] ∧ Nat.gcd a b = Int.gcd i j ∧ m = b ∧ n' = n) ⟨j.natAbs, i.natAbs, j.natAbs, ?_, rfl, rfl, rfl⟩ ?_
  any_goals (show [_, _, _, _] = [_, _, _, _]; congr 4 <;> congr 1 <;> congr 1 <;> first | (split <;> omega) | omega)
  rintro m ρ n' ⟨a, b, rfl, hg, rfl, rfl⟩
  by_cases m0 : m = 0
  · subst m0
    rw [Nat.gcd_zero_right] at hg
    have hp : 0 < a := by
      rw [hg]
      exact Int.gcd_pos_of_ne_zero_right _ (by omega)
    have hl : (a : Int) ≤ j := by
      rw [hg]
      exact Int.le_of_dvd h1 (Int.gcd_dvd_right ..)
    have hj : j / (a : Int) ≤ j := Int.ediv_le_self _ (by omega)
    have bi : (i / (a : Int)).natAbs < 2 ^ 64 := Nat.lt_of_le_of_lt (Int.natAbs_ediv_le_natAbs i a) (by omega)
    have bj : (j / (a : Int)).natAbs < 2 ^ 64 := Nat.lt_of_le_of_lt (Int.natAbs_ediv_le_natAbs j a) (by omega)
    repeat' (walk_at "d")
    · exact h _ (fok_int bi)
    · exact h _ (fok_two bi bj (by omega)).2
  · repeat' (walk_at "d")
    · refine ⟨a % m, ?_, m, a % m, rfl, ?_, rfl, rfl⟩
      · exact Nat.mod_lt _ (by omega)
      · rw [← hg, Nat.gcd_comm m, ← Nat.gcd_rec, Nat.gcd_comm]
    all_goals (exfalso; omega)

/-! _law_turn -/
theorem sc__law_turn : FnScope ["_law_sack_here", "_law_p", "_law_q", "_law_whole", "_law_found", "_law_way"] ["_law_sack_here"] (defScope st__law_turn) := ⟨rfl, rfl, rfl, by decide +kernel, rfl, by decide +kernel, by decide +kernel⟩
def p_turn : D → P0 := fun s n Q _ => (∃ ms, s = .drum ms) ∧ n < 1800 ∧ ∀ v, POK v → ∀ n', n ≤ n' → n' ≤ n + 8 → Q v n'
def sp__law_turn : SpD := sp1 p_turn
theorem c_turn {ms : List Int} {n : Nat} {Q : QD} {F : QE} (h1 : n < 1800) (h : ∀ v n', POK v → n ≤ n' → n' ≤ n + 8 → Q v n') : sp__law_turn [.drum ms] n Q F := ⟨⟨ms, rfl⟩, h1, fun v a n' c d => h v n' a c d⟩
theorem turn_bd {i j : Int} (i0 : 0 ≤ i) (i1 : i < 15) (j0 : 0 ≤ j) (j1 : j < 7) : 0 < (i - 7) * (i - 7) + (1 + j) * (1 + j) ∧ (i - 7) * (i - 7) + (1 + j) * (1 + j) ≤ 400 ∧
    ((1 + j) * (1 + j) - (i - 7) * (i - 7)).natAbs < 2 ^ 60 ∧ (2 * (i - 7) * (1 + j)).natAbs < 2 ^ 60 ∧ (2 * (i - 7) * (1 + j) + 1).natAbs < 2 ^ 60 := by
  have hi : i = 0 ∨ i = 1 ∨ i = 2 ∨ i = 3 ∨ i = 4 ∨ i = 5 ∨ i = 6 ∨ i = 7 ∨ i = 8 ∨ i = 9 ∨ i = 10 ∨ i = 11 ∨ i = 12 ∨ i = 13 ∨ i = 14 := by omega
  have hj : j = 0 ∨ j = 1 ∨ j = 2 ∨ j = 3 ∨ j = 4 ∨ j = 5 ∨ j = 6 := by omega
  have a1 : 0 ≤ (i - 7) * (i - 7) ∧ (i - 7) * (i - 7) ≤ 49 := by
    rcases hi with h | h | h | h | h | h | h | h | h | h | h | h | h | h | h <;> subst h <;> decide
  have a2 : 1 ≤ (1 + j) * (1 + j) ∧ (1 + j) * (1 + j) ≤ 49 := by
    rcases hj with h | h | h | h | h | h | h <;> subst h <;> decide
  have a3 : -98 ≤ 2 * (i - 7) * (1 + j) ∧ 2 * (i - 7) * (1 + j) ≤ 98 := by
    rcases hj with h | h | h | h | h | h | h <;> subst h <;> omega
  omega
local macro_rules | `(tactic| walk_at "call") => `(tactic| ((with_reducible refine c_fraction ?e1 ?e2 ?e3 (fun _ _ => ?_)); (case e1 => assumption); (case e2 => assumption); (case e3 => assumption)))
theorem fok_set {d1 d2 v : D} {j : Nat} (h1 : FOK d1) (h2 : FOK d2) (hv : FOK v) : ∀ x ∈ [d1, d2].set j v, FOK x := fun x hx => by
  rcases List.mem_or_eq_of_mem_set hx with h | rfl
  · exact all_cons (P := FOK) h1 (all_cons h2 all_nil) x h
  · exact hv
theorem ok__law_turn (T : Txt K mg a) (G__law_reach : FnG P w K mg base CX0 1 a.a__law_reach a.d__law_reach ps__law_reach (spD K sp__law_reach)) (G__law_value : FnG P w K mg base CX0 3 a.a__law_value a.d__law_value ps__law_value (spD K sp__law_value)) (G__law_fraction : FnG P w K mg base CX0 1 a.a__law_fraction a.d__law_fraction ps__law_fraction (spD K sp__law_fraction)) : FnG P w K mg base CX0 4 a.a__law_turn a.d__law_turn ps__law_turn (spD K sp__law_turn) := by
  refine fnD0 T.o__law_turn.fn sc__law_turn (fun ds n Q F h => sp1_len h) (fun q cdv A outer s H E hr hg =>
      (dss_cons (ds_par 1 2 rfl (sc__law_turn).nd (de_bin od_sub (de_call G__law_reach (hr.mono (by decide)) hg (by rfl) T.o__law_reach.mg T.o__law_reach.fn.kp T.o__law_reach.b pass0 (da_cons (de_var 0) (da_cons de_int da_nil))) de_int) (de_bin od_add de_int (de_call G__law_reach (hr.mono (by decide)) hg (by rfl) T.o__law_reach.mg T.o__law_reach.fn.kp T.o__law_reach.b pass0 (da_cons (de_var 0) (da_cons de_int da_nil)))))
      (dss_cons (ds_set 3 (sc__law_turn).nd (de_bin od_add (de_bin od_mul (de_var 1) (de_var 1)) (de_bin od_mul (de_var 2) (de_var 2))))
      (dss_cons (ds_setOwn 4 (sc__law_turn).nd (da_cons (de_call G__law_fraction (hr.mono (by decide)) hg (by rfl) T.o__law_fraction.mg T.o__law_fraction.fn.kp T.o__law_fraction.b pass0 (da_cons (de_bin od_sub (de_bin od_mul (de_var 2) (de_var 2)) (de_bin od_mul (de_var 1) (de_var 1))) (da_cons (de_var 3) da_nil))) (da_cons (de_call G__law_fraction (hr.mono (by decide)) hg (by rfl) T.o__law_fraction.mg T.o__law_fraction.fn.kp T.o__law_fraction.b pass0 (da_cons (de_bin od_mul (de_bin od_mul de_int (de_var 1)) (de_var 2)) (da_cons (de_var 3) da_nil))) da_nil)))
      (dss_cons (ds_set 5 (sc__law_turn).nd (de_call G__law_reach (hr.mono (by decide)) hg (by rfl) T.o__law_reach.mg T.o__law_reach.fn.kp T.o__law_reach.b pass0 (da_cons (de_var 0) (da_cons de_int da_nil))))
      (dss_cons (ds_if (dt_cmp (od_eq hr) (de_var 5) de_int) (dss_one (ds_ownSet 4 (de_call G__law_reach (hr.mono (by decide)) hg (by rfl) T.o__law_reach.mg T.o__law_reach.fn.kp T.o__law_reach.b pass0 (da_cons (de_var 0) (da_cons de_int da_nil))) (de_call G__law_value (hr.mono (by decide)) hg (by rfl) T.o__law_value.mg T.o__law_value.fn.kp T.o__law_value.b pass0 (da_cons (de_var 0) da_nil)))) dss_nil)
      (dss_free 4 (dss_cons (ds_if (dt_cmp (od_eq hr) (de_var 5) de_int) (dss_one (ds_set 4 (sc__law_turn).nd (de_lst (da_cons (de_at (de_var 4) de_int) (da_cons (de_call G__law_fraction (hr.mono (by decide)) hg (by rfl) T.o__law_fraction.mg T.o__law_fraction.fn.kp T.o__law_fraction.b pass0 (da_cons (de_bin od_add (de_bin od_mul (de_bin od_mul de_int (de_var 1)) (de_var 2)) de_int) (da_cons (de_var 3) da_nil))) da_nil))))) dss_nil)
      (dss_one (ds_ret (de_if (dt_cmp od_gt (de_var 5) de_int) (de_callTy (cd_tuple) (by rfl) T.b_tuple (by decide +kernel) (da_cons (de_var 4) da_nil)) (de_var 4)))))))))))) (rd1 fun x0 n Q F h => ?_)
  obtain ⟨⟨ms, rfl⟩, hn, h⟩ := h
  repeat' (walk_at "d")
  rename_i i n1 i0 i1 l1 l2 j n2 j0 j1 l3 l4
  obtain ⟨f1, f2, f3, f4, f5⟩ := turn_bd i0 i1 j0 j1
  repeat' (walk_at "d")
  · refine s_ownAt (by assumption) (by simpa using by assumption) fun k hk => ?_
    repeat' (walk_at "d")
    all_goals first
      | exact h _ (pok_tup (fok_set (by assumption) (by assumption) (by assumption))) _ (by omega) (by omega)
      | exact h _ (pok_lst (fok_set (by assumption) (by assumption) (by assumption))) _ (by omega) (by omega)
      | (exfalso; omega)
      | trace_state
  all_goals first
    | exact h _ (pok_tup (all_cons (by assumption) (all_cons (by assumption) all_nil))) _ (by omega) (by omega)
    | exact h _ (pok_lst (all_cons (by assumption) (all_cons (by assumption) all_nil))) _ (by omega) (by omega)
    | (exfalso; omega)
    | trace_state

/-! _law_is_pair -/
theorem sc__law_is_pair : FnScope ["_law_value_here", "_law_each"] ["_law_value_here"] (defScope st__law_is_pair) := ⟨rfl, rfl, rfl, by decide +kernel, rfl, by decide +kernel, by decide +kernel⟩
def p_is_pair : D → P0 := fun x n Q _ => POK x ∧ Q (.bl x.pt) n
def sp__law_is_pair : SpD := sp1 p_is_pair
theorem c_is_pair {x : D} {n : Nat} {Q : QD} {F : QE} (e : POK x) (h : Q (.bl x.pt) n) : sp__law_is_pair [x] n Q F := ⟨e, h⟩
local macro_rules | `(tactic| walk_at "call") => `(tactic| ((with_reducible refine c_is_pair ?e ?_); (case e => first | assumption | exact pok_of (by decide))))
theorem ok__law_is_pair (T : Txt K mg a) (G__law_has_form : FnG P w K mg base CX0 1 a.a__law_has_form a.d__law_has_form ps__law_has_form (spD K sp__law_has_form)) : FnG P w K mg base CX0 2 a.a__law_is_pair a.d__law_is_pair ps__law_is_pair (spD K sp__law_is_pair) := by
  refine fnD0 T.o__law_is_pair.fn sc__law_is_pair (fun ds n Q F h => sp1_len h) (fun q cdv A outer s H E hr hg =>
      (dss_cons (ds_if (dw_t (dw_or (dt_not (dt_val (de_isi2 (n := "list") (m := "tuple") (by rfl) T.b_isinstance (de_var 0) (by rfl) T.b_list (by decide +kernel) (by decide) (by rfl) T.b_tuple (by decide +kernel) (by decide)))) (dw_or1 (dt_cmp (od_ne hr) (de_callB (cd_len) (by rfl) T.b_len (by decide +kernel) (da_cons (de_var 0) da_nil)) de_int)))) (dss_one (ds_ret de_bl)) dss_nil)
      (dss_one (ds_ret (de_cmp (od_eqNil hr) (de_lc (own := [("_law_each", 1)]) rfl (sc__law_is_pair).nd (di_seq (de_var 0)) (blkOk_by (own := [("_law_each", 1)]) (N := ["_law_value_here", "_law_each"]) (sc := defScope st__law_is_pair) (by decide +kernel)) (by decide) (fun _ _ _ _ _ => (dg_name 1 (sc__law_is_pair).nd)) (fun _ _ _ _ _ => (dp_one (dt_not (dt_val (de_call G__law_has_form (hr.mono (by decide)) hg (by rfl) T.o__law_has_form.mg T.o__law_has_form.fn.kp T.o__law_has_form.b pass0 (da_cons (de_var 1) da_nil)))))) (fun _ _ _ _ _ => (de_var 1))) (de_lst da_nil)))))) (rd1 fun x0 n Q F h => ?_)
  obtain ⟨e, h⟩ := h
  have hd := e.d
  rcases isL_or hd with ⟨e4, _⟩ | ⟨ds, rfl⟩ | ⟨ds, rfl⟩
  · rw [pt_no e4] at h
    have e7 : x0.isa ["list", "tuple"] = false := by
      cases x0 <;> first | rfl | (cases e4; done) | (cases hd; done)
    repeat' (walk_at "d")
    exact h
  all_goals
    rcases two_or ds with ⟨x, y, rfl⟩ | e5
    · have hx := e.it x (by simp [D.items])
      have hy := e.it y (by simp [D.items])
      cases hnx : x.nb <;> cases hny : y.nb <;> (repeat' (walk_at "d")) <;> refine bl_eq h ?_ <;> simp [D.pt, D.isL, D.items, hnx, hny]
    · first | rw [(pt_len e5).1] at h | rw [(pt_len e5).2] at h
      repeat' (walk_at "d")
      all_goals first | exact h | (exfalso; omega)

/-! law -/
theorem sc_law : FnScope ["_law_script", "_law_sack_here", "_law_turn_here", "_law_value_here", "_law_other", "_law_whole", "_law_least", "_law_most", "_law_within", "_law_pair", "_law_due", "_law_round_one"] ["_law_script"] (defScope st_law) := ⟨rfl, rfl, rfl, by decide +kernel, rfl, by decide +kernel, by decide +kernel⟩
local macro_rules | `(tactic| walk_at "call") => `(tactic| ((with_reducible refine c_turn ?e (fun _ _ _ _ _ => ?_)); (case e => omega)))
local macro_rules | `(tactic| walk_at "call") => `(tactic| ((with_reducible refine c__law_pick (P := fun d => d = .non ∨ ∃ i, d = .int i) ?e1 ?e2 ?e3 ?e4 (fun _ _ _ _ _ => ?_)); (case e1 => exact Nat.le_of_ble_eq_true rfl); (case e2 => exact Nat.le_of_ble_eq_true rfl); (case e3 => omega); (case e4 => exact all_cons (.inl rfl) (all_cons (.inr ⟨_, rfl⟩) (all_cons (.inr ⟨_, rfl⟩) (all_cons (.inr ⟨_, rfl⟩) all_nil))))))
theorem v_whole {v : D} {ρ : SEnv} {n : Nat} {G : EndsD} (e : ρ[3]? = some (.d v)) (hd : v.isData = true) (hl : Nat.ble 6 ρ.length = true) (h : G.nx (ρ.set 5 (.d (.bl v.iI))) n) : dSet 5 (dAndV (dIsi ["int"] (dVar 3)) (dNotV (dIsi ["bool"] (dVar 3)))) G ρ n := by
  refine s_setV _ (fun Q h => ?_) hl h
  refine s_andV (s_isi (s_var e ⟨hd, _, rfl, ?_⟩))
  cases v <;> first
    | (exact iteFe rfl h)
    | (refine iteTe rfl (s_notV (s_isi (s_var e ⟨rfl, _, rfl, ?_⟩))); exact h)
    | cases hd
theorem v_or {v lo : D} {od : D → D → (D → Prop) → Prop} {i j : Nat} {b : Bool} {ρ : SEnv} {n : Nat} {Q : QD} {F : QE} (tv : DT) (e : ρ[j]? = some (.d lo)) (hlo : lo = .non ∨ ∃ a, lo = .int a) (h0 : lo = .non → b = true) (h1 : ∀ a, lo = .int a → tv ρ n Q F) (h : Q (.bl b) n) : dOrV (dBin oIs (dVar j) (dC .non)) tv ρ n Q F := by
  rcases hlo with rfl | ⟨a, rfl⟩
  · refine s_orV (s_bin (s_var e (s_C (s_is ⟨_, rfl, ?_⟩))))
    rw [h0 rfl] at h
    exact iteTe rfl h
  · exact s_orV (s_bin (s_var e (s_C (s_is ⟨_, rfl, iteFe rfl (h1 a rfl)⟩))))
theorem v_within {v lo hi : D} {ρ : SEnv} {n : Nat} {G : EndsD} (e3 : ρ[3]? = some (.d v)) (e5 : ρ[5]? = some (.d (.bl v.iI))) (e6 : ρ[6]? = some (.d lo)) (e7 : ρ[7]? = some (.d hi)) (h6 : lo = .non ∨ ∃ a, lo = .int a) (h7 : hi = .non ∨ ∃ a, hi = .int a) (hl : Nat.ble 9 ρ.length = true) (h : G.nx (ρ.set 8 (.d (.bl (v.wi lo hi)))) n) :
    dSet 8 (dAndV (dVar 5) (dAndV (dOrV (dBin oIs (dVar 6) (dC .non)) (dBin oGe (dVar 3) (dVar 6))) (dOrV (dBin oIs (dVar 7) (dC .non)) (dBin oLe (dVar 3) (dVar 7))))) G ρ n := by
  refine s_setV _ (fun Q h => ?_) hl h
  refine s_andV (s_var e5 ⟨_, rfl, ?_⟩)
  rcases iI_or v with ⟨i, rfl⟩ | e
  · refine iteTe rfl (s_andV ?_)
    rcases h6 with rfl | ⟨a, rfl⟩ <;> rcases h7 with rfl | ⟨b, rfl⟩
    · refine s_orV (s_bin (s_var e6 (s_C (s_is ⟨_, rfl, iteTe rfl ⟨_, rfl, iteTe rfl (s_orV (s_bin (s_var e7 (s_C (s_is ⟨_, rfl, iteTe rfl h⟩)))))⟩⟩))))
    · refine s_orV (s_bin (s_var e6 (s_C (s_is ⟨_, rfl, iteTe rfl ⟨_, rfl, iteTe rfl (s_orV (s_bin (s_var e7 (s_C (s_is ⟨_, rfl, iteFe rfl (s_bin (s_var e3 (s_var e7 (s_le ?_))))⟩)))))⟩⟩))))
      exact bl_eq h (by simp [D.wi])
    · refine s_orV (s_bin (s_var e6 (s_C (s_is ⟨_, rfl, iteFe rfl (s_bin (s_var e3 (s_var e6 (s_ge ⟨_, rfl, iteD (fun z => s_orV (s_bin (s_var e7 (s_C (s_is ⟨_, rfl, iteTe rfl (bl_eq h (by simp [D.wi, z]))⟩))))) (fun z => bl_eq h (by simp [D.wi, z]))⟩))))⟩))))
    · refine s_orV (s_bin (s_var e6 (s_C (s_is ⟨_, rfl, iteFe rfl (s_bin (s_var e3 (s_var e6 (s_ge ⟨_, rfl, iteD (fun z => s_orV (s_bin (s_var e7 (s_C (s_is ⟨_, rfl, iteFe rfl (s_bin (s_var e3 (s_var e7 (s_le (bl_eq h (by simp [D.wi, z]))))))⟩))))) (fun z => bl_eq h (by simp [D.wi, z]))⟩))))⟩))))
  · rw [wi_no e] at h
    rw [e]
    exact iteFe rfl h
/-- what the pair is -/
structure PR (v o d : D) : Prop where
  p : POK d
  l : (∃ ds, d = .lst ds) ∨ ∃ ds, d = .tup ds
  due : d.pt = (decide (((d.items.length : Nat) : Int) = 2) && (v.nb && o.nb))
theorem c_pair {v o : D} {ms : List Int} {n : Nat} {Q : QD} {F : QE} (fv : FOK v) (fo : FOK o) (h3 : n < 2000) (h : ∀ d n', PR v o d → POK d → n ≤ n' → n' ≤ n + 1 → Q d n') : sp__law_pick [.drum ms, .lst [.tup [v, o], .lst [v, o], .tup [v, o, v], .tup [v]]] n Q F := by
  refine c__law_pick (P := PR v o) (Nat.le_of_ble_eq_true rfl) (Nat.le_of_ble_eq_true rfl) h3 ?_ (fun d n' p a b => h d n' p p.p a b)
  refine all_cons ⟨pok_tup ?_, .inr ⟨_, rfl⟩, rfl⟩ (all_cons ⟨pok_lst ?_, .inl ⟨_, rfl⟩, rfl⟩ (all_cons ⟨pok_tup ?_, .inr ⟨_, rfl⟩, rfl⟩ (all_cons ⟨pok_tup ?_, .inr ⟨_, rfl⟩, rfl⟩ all_nil)))
  · exact all_cons fv (all_cons fo all_nil)
  · exact all_cons fv (all_cons fo all_nil)
  · exact all_cons fv (all_cons fo (all_cons fv all_nil))
  · exact all_cons fv all_nil
theorem v_due {v o d : D} {ρ : SEnv} {n : Nat} {G : EndsD} (e3 : ρ[3]? = some (.d v)) (e4 : ρ[4]? = some (.d o)) (e9 : ρ[9]? = some (.d d)) (fv : FOK v) (fo : FOK o) (p : PR v o d) (hl : Nat.ble 11 ρ.length = true) (h : G.nx (ρ.set 10 (.d (.bl d.pt))) n) :
    dSet 10 (dAndV (dBin oEq (dCB cLen (dCons (dVar 9) dNil)) (dC (.int 2))) (dAndV (dCall sp__law_has_form (dCons (dVar 3) dNil)) (dCall sp__law_has_form (dCons (dVar 4) dNil)))) G ρ n := by
  refine s_setV _ (fun Q h => ?_) hl h
  rw [p.due] at h
  rcases p.l with ⟨ds, rfl⟩ | ⟨ds, rfl⟩
  · refine s_andV (s_bin (s_cb (s_cons (s_var e9 (s_nil (s_lenL (s_C (s_eqI ⟨_, rfl, ?_⟩))))))))
    refine iteD (fun z => s_andV (s_call (s_cons (s_var e3 (s_nil (c_has_form fv ⟨_, rfl, ite2' (fun z2 => s_call (s_cons (s_var e4 (s_nil (c_has_form fo (bl_eq h ?_)))))) (fun z2 => bl_eq h ?_)⟩)))))) (fun z => bl_eq h ?_)
    · simp [D.items, z, z2]
    · simp [D.items, z, z2]
    · simp [D.items, z]
  · refine s_andV (s_bin (s_cb (s_cons (s_var e9 (s_nil (s_lenT (s_C (s_eqI ⟨_, rfl, ?_⟩))))))))
    refine iteD (fun z => s_andV (s_call (s_cons (s_var e3 (s_nil (c_has_form fv ⟨_, rfl, ite2' (fun z2 => s_call (s_cons (s_var e4 (s_nil (c_has_form fo (bl_eq h ?_)))))) (fun z2 => bl_eq h ?_)⟩)))))) (fun z => bl_eq h ?_)
    · simp [D.items, z, z2]
    · simp [D.items, z, z2]
    · simp [D.items, z]
local macro_rules | `(tactic| walk_at "pre") => `(tactic| ((with_reducible refine v_whole (v := ?v) ?e ?e1 ?e2 ?_); (case e => rfl); (case e1 => assumption); (case e2 => rfl)))
local macro_rules | `(tactic| walk_at "pre") => `(tactic| ((with_reducible refine v_within (v := ?v) (lo := ?lo) (hi := ?hi) ?e3 ?e5 ?e6 ?e7 ?h6 ?h7 ?hl ?_); (case e3 => rfl); (case e5 => rfl); (case e6 => rfl); (case e7 => rfl); (case h6 => assumption); (case h7 => assumption); (case hl => rfl)))
local macro_rules | `(tactic| walk_at "pre") => `(tactic| ((with_reducible refine v_due (v := ?v) (o := ?o) (d := ?d) ?e3 ?e4 ?e9 ?fv ?fo ?p ?hl ?_); (case e3 => rfl); (case e4 => rfl); (case e9 => rfl); (case fv => assumption); (case fo => assumption); (case p => assumption); (case hl => rfl)))
local macro_rules | `(tactic| walk_at "call") => `(tactic| ((with_reducible refine c_pair ?e1 ?e2 ?e3 (fun _ _ _ _ _ _ => ?_)); (case e1 => assumption); (case e2 => assumption); (case e3 => omega)))
theorem ok_law (T : Txt K mg a) (G_is_integer : FnG P w K mg base CX0 1 a.a_is_integer a.d_is_integer ps_is_integer (spD K sp_is_integer)) (G_is_within : FnG P w K mg base CX0 2 a.a_is_within a.d_is_within ps_is_within (spD K sp_is_within)) (G_is_number : FnG P w K mg base CX0 3 a.a_is_number a.d_is_number ps_is_number (spD K sp_is_number)) (G_is_point : FnG P w K mg base CX0 4 a.a_is_point a.d_is_point ps_is_point (spD K sp_is_point)) (G_is_turn : FnG P w K mg base CX0 5 a.a_is_turn a.d_is_turn ps_is_turn (spD K sp_is_turn)) (G__law_sack : FnG P w K mg base CX0 1 a.a__law_sack a.d__law_sack ps__law_sack (spD K sp__law_sack)) (G__law_reach : FnG P w K mg base CX0 1 a.a__law_reach a.d__law_reach ps__law_reach (spD K sp__law_reach)) (G__law_pick : FnG P w K mg base CX0 2 a.a__law_pick a.d__law_pick ps__law_pick (spD K sp__law_pick)) (G__law_has_form : FnG P w K mg base CX0 1 a.a__law_has_form a.d__law_has_form ps__law_has_form (spD K sp__law_has_form)) (G__law_value : FnG P w K mg base CX0 3 a.a__law_value a.d__law_value ps__law_value (spD K sp__law_value)) (G__law_is_round : FnG P w K mg base CX0 2 a.a__law_is_round a.d__law_is_round ps__law_is_round (spD K sp__law_is_round)) (G__law_turn : FnG P w K mg base CX0 4 a.a__law_turn a.d__law_turn ps__law_turn (spD K sp__law_turn)) (G__law_is_pair : FnG P w K mg base CX0 2 a.a__law_is_pair a.d__law_is_pair ps__law_is_pair (spD K sp__law_is_pair)) : FnG P w K mg base CX0 6 a.a_law a.d_law ps_law (spLaw K) := by
  refine law_fn T.o_law.fn sc_law rfl (by decide) (fun cdv A outer s H E hr hg => (ds_set 1 (sc_law).nd (de_call G__law_sack (hr.mono (by decide)) hg (by rfl) T.o__law_sack.mg T.o__law_sack.fn.kp T.o__law_sack.b pass0 (da_cons (de_var 0) da_nil)))) (fun q H0 cdv A outer s H E hr hg =>
      (dss_cons (ds_for PassesOwn.never rfl (di_rng1 (by rfl) T.b_range de_int) (dg_name 2 (sc_law).nd) (dss_cons (ds_par 3 4 rfl (sc_law).nd (de_call G__law_value (hr.mono (by decide)) hg (by rfl) T.o__law_value.mg T.o__law_value.fn.kp T.o__law_value.b pass0 (da_cons (de_var 1) da_nil)) (de_call G__law_value (hr.mono (by decide)) hg (by rfl) T.o__law_value.mg T.o__law_value.fn.kp T.o__law_value.b pass0 (da_cons (de_var 1) da_nil)))
      (dss_cons (ds_set 5 (sc_law).nd (de_and (de_isi1 (n := "int") (by rfl) T.b_isinstance (de_var 3) (by rfl) T.b_int (by decide +kernel) (by decide)) (de_one (de_not (de_isi1 (n := "bool") (by rfl) T.b_isinstance (de_var 3) (by rfl) T.b_bool (by decide +kernel) (by decide))))))
      (dss_cons (ds_par 6 7 rfl (sc_law).nd (de_call G__law_pick (hr.mono (by decide)) hg (by rfl) T.o__law_pick.mg T.o__law_pick.fn.kp T.o__law_pick.b pass0 (da_cons (de_var 1) (da_cons (de_lst (da_cons de_non (da_cons de_int (da_cons (de_un un_negD de_int) (da_cons (de_call G__law_reach (hr.mono (by decide)) hg (by rfl) T.o__law_reach.mg T.o__law_reach.fn.kp T.o__law_reach.b pass0 (da_cons (de_var 1) (da_cons de_int da_nil))) da_nil))))) da_nil))) (de_call G__law_pick (hr.mono (by decide)) hg (by rfl) T.o__law_pick.mg T.o__law_pick.fn.kp T.o__law_pick.b pass0 (da_cons (de_var 1) (da_cons (de_lst (da_cons de_non (da_cons de_int (da_cons de_int (da_cons (de_call G__law_reach (hr.mono (by decide)) hg (by rfl) T.o__law_reach.mg T.o__law_reach.fn.kp T.o__law_reach.b pass0 (da_cons (de_var 1) (da_cons de_int da_nil))) da_nil))))) da_nil))))
      (dss_cons (ds_set 8 (sc_law).nd (de_and (de_var 5) (de_and (de_or (de_cmp od_is (de_var 6) de_non) (de_one (de_cmp od_ge (de_var 3) (de_var 6)))) (de_one (de_or (de_cmp od_is (de_var 7) de_non) (de_one (de_cmp od_le (de_var 3) (de_var 7))))))))
      (dss_cons (ds_if (dt_cmp (od_ne hr) (de_callB (cd_repr hr hg) (by rfl) T.b_repr (by decide +kernel) (da_cons (de_lst (da_cons (de_call G_is_integer (hr.mono (by decide)) hg (by rfl) T.o_is_integer.mg T.o_is_integer.fn.kp T.o_is_integer.b pass0 (da_cons (de_var 3) da_nil)) (da_cons (de_callK0 (g := @pickK 0 1 [0]) G_is_integer (hr.mono (by decide)) hg (by rfl) T.o_is_integer.mg T.o_is_integer.fn.kp (kb_of (ks := ["value"]) (n := 0) (ix := [0]) T.o_is_integer.fn (List.cons_ne_nil _ _) fun _ _ _ _ _ _ us ws h1 h2 => match us, ws, h1, h2 with | [], [_], _, _ => rfl) pass0 (pickK_dt 0 1 [0]) (dk_cons (de_var 3) dk_nil)) (da_cons (de_call G_is_within (hr.mono (by decide)) hg (by rfl) T.o_is_within.mg T.o_is_within.fn.kp T.o_is_within.b pass0 (da_cons (de_var 3) (da_cons (de_var 6) (da_cons (de_var 7) da_nil)))) da_nil)))) da_nil)) (de_callB (cd_repr hr hg) (by rfl) T.b_repr (by decide +kernel) (da_cons (de_lst (da_cons (de_var 5) (da_cons (de_var 5) (da_cons (de_var 8) da_nil)))) da_nil))) (dss_one (ds_ret de_bl)) dss_nil)
      (dss_cons (ds_if (dt_cmp (od_ne hr) (de_callB (cd_repr hr hg) (by rfl) T.b_repr (by decide +kernel) (da_cons (de_lst (da_cons (de_call G_is_number (hr.mono (by decide)) hg (by rfl) T.o_is_number.mg T.o_is_number.fn.kp T.o_is_number.b pass0 (da_cons (de_var 3) da_nil)) (da_cons (de_callK0 (g := @pickK 0 1 [0]) G_is_number (hr.mono (by decide)) hg (by rfl) T.o_is_number.mg T.o_is_number.fn.kp (kb_of (ks := ["value"]) (n := 0) (ix := [0]) T.o_is_number.fn (List.cons_ne_nil _ _) fun _ _ _ _ _ _ us ws h1 h2 => match us, ws, h1, h2 with | [], [_], _, _ => rfl) pass0 (pickK_dt 0 1 [0]) (dk_cons (de_var 4) dk_nil)) da_nil))) da_nil)) (de_callB (cd_repr hr hg) (by rfl) T.b_repr (by decide +kernel) (da_cons (de_lst (da_cons (de_call G__law_has_form (hr.mono (by decide)) hg (by rfl) T.o__law_has_form.mg T.o__law_has_form.fn.kp T.o__law_has_form.b pass0 (da_cons (de_var 3) da_nil)) (da_cons (de_call G__law_has_form (hr.mono (by decide)) hg (by rfl) T.o__law_has_form.mg T.o__law_has_form.fn.kp T.o__law_has_form.b pass0 (da_cons (de_var 4) da_nil)) da_nil))) da_nil))) (dss_one (ds_ret de_bl)) dss_nil)
      (dss_cons (ds_set 9 (sc_law).nd (de_call G__law_pick (hr.mono (by decide)) hg (by rfl) T.o__law_pick.mg T.o__law_pick.fn.kp T.o__law_pick.b pass0 (da_cons (de_var 1) (da_cons (de_lst (da_cons (de_tup (da_cons (de_var 3) (da_cons (de_var 4) da_nil))) (da_cons (de_lst (da_cons (de_var 3) (da_cons (de_var 4) da_nil))) (da_cons (de_tup (da_cons (de_var 3) (da_cons (de_var 4) (da_cons (de_var 3) da_nil)))) (da_cons (de_tup (da_cons (de_var 3) da_nil)) da_nil))))) da_nil))))
      (dss_cons (ds_set 10 (sc_law).nd (de_and (de_cmp (od_eq hr) (de_callB (cd_len) (by rfl) T.b_len (by decide +kernel) (da_cons (de_var 9) da_nil)) de_int) (de_and (de_call G__law_has_form (hr.mono (by decide)) hg (by rfl) T.o__law_has_form.mg T.o__law_has_form.fn.kp T.o__law_has_form.b pass0 (da_cons (de_var 3) da_nil)) (de_one (de_call G__law_has_form (hr.mono (by decide)) hg (by rfl) T.o__law_has_form.mg T.o__law_has_form.fn.kp T.o__law_has_form.b pass0 (da_cons (de_var 4) da_nil))))))
      (dss_cons (ds_if (dt_cmp (od_ne hr) (de_callB (cd_repr hr hg) (by rfl) T.b_repr (by decide +kernel) (da_cons (de_lst (da_cons (de_call G_is_point (hr.mono (by decide)) hg (by rfl) T.o_is_point.mg T.o_is_point.fn.kp T.o_is_point.b pass0 (da_cons (de_var 9) da_nil)) (da_cons (de_callK0 (g := @pickK 0 1 [0]) G_is_point (hr.mono (by decide)) hg (by rfl) T.o_is_point.mg T.o_is_point.fn.kp (kb_of (ks := ["value"]) (n := 0) (ix := [0]) T.o_is_point.fn (List.cons_ne_nil _ _) fun _ _ _ _ _ _ us ws h1 h2 => match us, ws, h1, h2 with | [], [_], _, _ => rfl) pass0 (pickK_dt 0 1 [0]) (dk_cons (de_var 9) dk_nil)) (da_cons (de_call G_is_point (hr.mono (by decide)) hg (by rfl) T.o_is_point.mg T.o_is_point.fn.kp T.o_is_point.b pass0 (da_cons (de_var 3) da_nil)) da_nil)))) da_nil)) (de_callB (cd_repr hr hg) (by rfl) T.b_repr (by decide +kernel) (da_cons (de_lst (da_cons (de_var 10) (da_cons (de_var 10) (da_cons (de_call G__law_is_pair (hr.mono (by decide)) hg (by rfl) T.o__law_is_pair.mg T.o__law_is_pair.fn.kp T.o__law_is_pair.b pass0 (da_cons (de_var 3) da_nil)) da_nil)))) da_nil))) (dss_one (ds_ret de_bl)) dss_nil)
      (dss_cons (ds_set 11 (sc_law).nd (de_call G__law_turn (hr.mono (by decide)) hg (by rfl) T.o__law_turn.mg T.o__law_turn.fn.kp T.o__law_turn.b pass0 (da_cons (de_var 1) da_nil)))
      (dss_one (ds_if (dt_cmp (od_ne hr) (de_callB (cd_repr hr hg) (by rfl) T.b_repr (by decide +kernel) (da_cons (de_lst (da_cons (de_call G_is_turn (hr.mono (by decide)) hg (by rfl) T.o_is_turn.mg T.o_is_turn.fn.kp T.o_is_turn.b pass0 (da_cons (de_var 11) da_nil)) (da_cons (de_callK0 (g := @pickK 0 1 [0]) G_is_turn (hr.mono (by decide)) hg (by rfl) T.o_is_turn.mg T.o_is_turn.fn.kp (kb_of (ks := ["value"]) (n := 0) (ix := [0]) T.o_is_turn.fn (List.cons_ne_nil _ _) fun _ _ _ _ _ _ us ws h1 h2 => match us, ws, h1, h2 with | [], [_], _, _ => rfl) pass0 (pickK_dt 0 1 [0]) (dk_cons (de_var 9) dk_nil)) da_nil))) da_nil)) (de_callB (cd_repr hr hg) (by rfl) T.b_repr (by decide +kernel) (da_cons (de_lst (da_cons (de_call G__law_is_round (hr.mono (by decide)) hg (by rfl) T.o__law_is_round.mg T.o__law_is_round.fn.kp T.o__law_is_round.b pass0 (da_cons (de_var 11) da_nil)) (da_cons (de_call G__law_is_round (hr.mono (by decide)) hg (by rfl) T.o__law_is_round.mg T.o__law_is_round.fn.kp T.o__law_is_round.b pass0 (da_cons (de_var 9) da_nil)) da_nil))) da_nil))) (dss_one (ds_ret de_bl)) dss_nil)))))))))))))
      (dss_one (ds_ret (de_and (de_cmp od_isB (de_call G_is_turn (hr.mono (by decide)) hg (by rfl) T.o_is_turn.mg T.o_is_turn.fn.kp T.o_is_turn.b pass0 (da_cons de_non da_nil)) de_bl) (de_and (de_cmp od_isB (de_call G_is_point (hr.mono (by decide)) hg (by rfl) T.o_is_point.mg T.o_is_point.fn.kp T.o_is_point.b pass0 (da_cons de_str da_nil)) de_bl) (de_one (de_cmp od_isB (de_callK0 (g := @pickK 0 3 [0, 1, 2]) G_is_within (hr.mono (by decide)) hg (by rfl) T.o_is_within.mg T.o_is_within.fn.kp (kb_of (ks := ["value", "least", "most"]) (n := 0) (ix := [0, 1, 2]) T.o_is_within.fn (List.cons_ne_nil _ _) fun _ _ _ _ _ _ us ws h1 h2 => match us, ws, h1, h2 with | [], [_, _, _], _, _ => rfl) pass0 (pickK_dt 0 3 [0, 1, 2]) (dk_cons de_bl (dk_cons de_non (dk_cons de_non dk_nil)))) de_bl)))))))) (fun ns hl Q h => ?r0) (fun ms => ?r1)
  case r0 =>
    repeat' (walk_at "d")
    exact ⟨ns, rfl, hl, fun ms => h ms 0⟩
  case r1 =>
    repeat' (walk_at "d")
    refine forD_inv (fun i ρ n => ∃ l, ρ = .no :: .d (.drum ms) :: l ∧ l.length = 10 ∧ n ≤ 40 * i) ⟨_, rfl, rfl, by omega⟩ ?_ ?_
    · intro i d ρ n hi hI k hk
      obtain ⟨l, rfl, hl, hn⟩ := hI
      obtain ⟨a0, a1, a2, a3, a4, a5, a6, a7, a8, a9, rfl⟩ := len10 hl
      have i6 : i < 6 := by
        have := (List.getElem?_eq_some_iff.mp hi).1
        simpa [rgD] using this
      clear hi
      repeat' (walk_at "d")
      all_goals exact hk _ _ ⟨_, rfl, rfl, by omega⟩
    · rintro ρ n ⟨l, rfl, hl, hn⟩
      repeat' (walk_at "d")
      rfl
end
theorem all_mk {l : PySem.W.OpenLaw} {w : World} {K : PySem.W.Frag} {h : Heap} {mg : Str → Option Value} {fa : Addr} (X : K.In h) (G : h.Ns mainGlobals mg) (hfa : mg "law" = some (.ref fa))
    {f_is_integer : Addr} {od_is_integer an_is_integer : Option Addr} {sl_is_integer : Array (Option Value)} {oc_is_integer kV_is_integer dc_is_integer pm_is_integer cd_is_integer ct_is_integer : Value}
    (n_is_integer : PySem.W.nsIn K mainGlobals "is_integer" = some (some (.ref f_is_integer))) (l_is_integer : K.lookup f_is_integer = some ⟨oc_is_integer, od_is_integer, .func (PySem.W.fnOf "is_integer" "is_integer" (defArgs st_is_integer) (defBody st_is_integer) (defScope st_is_integer) .none kV_is_integer dc_is_integer pm_is_integer an_is_integer cd_is_integer ct_is_integer), sl_is_integer⟩) (c_is_integer : PySem.W.codeIn K cd_is_integer "is_integer" = true) (k_is_integer : PySem.W.keepIn K (.ref f_is_integer) = true)
    {f_is_within : Addr} {od_is_within an_is_within : Option Addr} {sl_is_within : Array (Option Value)} {oc_is_within kV_is_within dc_is_within pm_is_within cd_is_within ct_is_within : Value}
    (n_is_within : PySem.W.nsIn K mainGlobals "is_within" = some (some (.ref f_is_within))) (l_is_within : K.lookup f_is_within = some ⟨oc_is_within, od_is_within, .func (PySem.W.fnOf "is_within" "is_within" (defArgs st_is_within) (defBody st_is_within) (defScope st_is_within) .none kV_is_within dc_is_within pm_is_within an_is_within cd_is_within ct_is_within), sl_is_within⟩) (c_is_within : PySem.W.codeIn K cd_is_within "is_within" = true) (k_is_within : PySem.W.keepIn K (.ref f_is_within) = true)
    {f_is_list : Addr} {od_is_list an_is_list : Option Addr} {sl_is_list : Array (Option Value)} {oc_is_list kV_is_list dc_is_list pm_is_list cd_is_list ct_is_list : Value}
    (n_is_list : PySem.W.nsIn K mainGlobals "is_list" = some (some (.ref f_is_list))) (l_is_list : K.lookup f_is_list = some ⟨oc_is_list, od_is_list, .func (PySem.W.fnOf "is_list" "is_list" (defArgs st_is_list) (defBody st_is_list) (defScope st_is_list) .none kV_is_list dc_is_list pm_is_list an_is_list cd_is_list ct_is_list), sl_is_list⟩) (c_is_list : PySem.W.codeIn K cd_is_list "is_list" = true) (k_is_list : PySem.W.keepIn K (.ref f_is_list) = true)
    {f_common : Addr} {od_common an_common : Option Addr} {sl_common : Array (Option Value)} {oc_common kV_common dc_common pm_common cd_common ct_common : Value}
    (n_common : PySem.W.nsIn K mainGlobals "common" = some (some (.ref f_common))) (l_common : K.lookup f_common = some ⟨oc_common, od_common, .func (PySem.W.fnOf "common" "common" (defArgs st_common) (defBody st_common) (defScope st_common) .none kV_common dc_common pm_common an_common cd_common ct_common), sl_common⟩) (c_common : PySem.W.codeIn K cd_common "common" = true) (k_common : PySem.W.keepIn K (.ref f_common) = true)
    {f_is_number : Addr} {od_is_number an_is_number : Option Addr} {sl_is_number : Array (Option Value)} {oc_is_number kV_is_number dc_is_number pm_is_number cd_is_number ct_is_number : Value}
    (n_is_number : PySem.W.nsIn K mainGlobals "is_number" = some (some (.ref f_is_number))) (l_is_number : K.lookup f_is_number = some ⟨oc_is_number, od_is_number, .func (PySem.W.fnOf "is_number" "is_number" (defArgs st_is_number) (defBody st_is_number) (defScope st_is_number) .none kV_is_number dc_is_number pm_is_number an_is_number cd_is_number ct_is_number), sl_is_number⟩) (c_is_number : PySem.W.codeIn K cd_is_number "is_number" = true) (k_is_number : PySem.W.keepIn K (.ref f_is_number) = true)
    {f_is_point : Addr} {od_is_point an_is_point : Option Addr} {sl_is_point : Array (Option Value)} {oc_is_point kV_is_point dc_is_point pm_is_point cd_is_point ct_is_point : Value}
    (n_is_point : PySem.W.nsIn K mainGlobals "is_point" = some (some (.ref f_is_point))) (l_is_point : K.lookup f_is_point = some ⟨oc_is_point, od_is_point, .func (PySem.W.fnOf "is_point" "is_point" (defArgs st_is_point) (defBody st_is_point) (defScope st_is_point) .none kV_is_point dc_is_point pm_is_point an_is_point cd_is_point ct_is_point), sl_is_point⟩) (c_is_point : PySem.W.codeIn K cd_is_point "is_point" = true) (k_is_point : PySem.W.keepIn K (.ref f_is_point) = true)
    {f_is_turn : Addr} {od_is_turn an_is_turn : Option Addr} {sl_is_turn : Array (Option Value)} {oc_is_turn kV_is_turn dc_is_turn pm_is_turn cd_is_turn ct_is_turn : Value}
    (n_is_turn : PySem.W.nsIn K mainGlobals "is_turn" = some (some (.ref f_is_turn))) (l_is_turn : K.lookup f_is_turn = some ⟨oc_is_turn, od_is_turn, .func (PySem.W.fnOf "is_turn" "is_turn" (defArgs st_is_turn) (defBody st_is_turn) (defScope st_is_turn) .none kV_is_turn dc_is_turn pm_is_turn an_is_turn cd_is_turn ct_is_turn), sl_is_turn⟩) (c_is_turn : PySem.W.codeIn K cd_is_turn "is_turn" = true) (k_is_turn : PySem.W.keepIn K (.ref f_is_turn) = true)
    {f__law_sack : Addr} {od__law_sack an__law_sack : Option Addr} {sl__law_sack : Array (Option Value)} {oc__law_sack kV__law_sack dc__law_sack pm__law_sack cd__law_sack ct__law_sack : Value}
    (n__law_sack : PySem.W.nsIn K mainGlobals "_law_sack" = some (some (.ref f__law_sack))) (l__law_sack : K.lookup f__law_sack = some ⟨oc__law_sack, od__law_sack, .func (PySem.W.fnOf "_law_sack" "_law_sack" (defArgs st__law_sack) (defBody st__law_sack) (defScope st__law_sack) .none kV__law_sack dc__law_sack pm__law_sack an__law_sack cd__law_sack ct__law_sack), sl__law_sack⟩) (c__law_sack : PySem.W.codeIn K cd__law_sack "_law_sack" = true) (k__law_sack : PySem.W.keepIn K (.ref f__law_sack) = true)
    {f__law_reach : Addr} {od__law_reach an__law_reach : Option Addr} {sl__law_reach : Array (Option Value)} {oc__law_reach kV__law_reach dc__law_reach pm__law_reach cd__law_reach ct__law_reach : Value}
    (n__law_reach : PySem.W.nsIn K mainGlobals "_law_reach" = some (some (.ref f__law_reach))) (l__law_reach : K.lookup f__law_reach = some ⟨oc__law_reach, od__law_reach, .func (PySem.W.fnOf "_law_reach" "_law_reach" (defArgs st__law_reach) (defBody st__law_reach) (defScope st__law_reach) .none kV__law_reach dc__law_reach pm__law_reach an__law_reach cd__law_reach ct__law_reach), sl__law_reach⟩) (c__law_reach : PySem.W.codeIn K cd__law_reach "_law_reach" = true) (k__law_reach : PySem.W.keepIn K (.ref f__law_reach) = true)
    {f__law_pick : Addr} {od__law_pick an__law_pick : Option Addr} {sl__law_pick : Array (Option Value)} {oc__law_pick kV__law_pick dc__law_pick pm__law_pick cd__law_pick ct__law_pick : Value}
    (n__law_pick : PySem.W.nsIn K mainGlobals "_law_pick" = some (some (.ref f__law_pick))) (l__law_pick : K.lookup f__law_pick = some ⟨oc__law_pick, od__law_pick, .func (PySem.W.fnOf "_law_pick" "_law_pick" (defArgs st__law_pick) (defBody st__law_pick) (defScope st__law_pick) .none kV__law_pick dc__law_pick pm__law_pick an__law_pick cd__law_pick ct__law_pick), sl__law_pick⟩) (c__law_pick : PySem.W.codeIn K cd__law_pick "_law_pick" = true) (k__law_pick : PySem.W.keepIn K (.ref f__law_pick) = true)
    {f__law_has_form : Addr} {od__law_has_form an__law_has_form : Option Addr} {sl__law_has_form : Array (Option Value)} {oc__law_has_form kV__law_has_form dc__law_has_form pm__law_has_form cd__law_has_form ct__law_has_form : Value}
    (n__law_has_form : PySem.W.nsIn K mainGlobals "_law_has_form" = some (some (.ref f__law_has_form))) (l__law_has_form : K.lookup f__law_has_form = some ⟨oc__law_has_form, od__law_has_form, .func (PySem.W.fnOf "_law_has_form" "_law_has_form" (defArgs st__law_has_form) (defBody st__law_has_form) (defScope st__law_has_form) .none kV__law_has_form dc__law_has_form pm__law_has_form an__law_has_form cd__law_has_form ct__law_has_form), sl__law_has_form⟩) (c__law_has_form : PySem.W.codeIn K cd__law_has_form "_law_has_form" = true) (k__law_has_form : PySem.W.keepIn K (.ref f__law_has_form) = true)
    {f__law_value : Addr} {od__law_value an__law_value : Option Addr} {sl__law_value : Array (Option Value)} {oc__law_value kV__law_value dc__law_value pm__law_value cd__law_value ct__law_value : Value}
    (n__law_value : PySem.W.nsIn K mainGlobals "_law_value" = some (some (.ref f__law_value))) (l__law_value : K.lookup f__law_value = some ⟨oc__law_value, od__law_value, .func (PySem.W.fnOf "_law_value" "_law_value" (defArgs st__law_value) (defBody st__law_value) (defScope st__law_value) .none kV__law_value dc__law_value pm__law_value an__law_value cd__law_value ct__law_value), sl__law_value⟩) (c__law_value : PySem.W.codeIn K cd__law_value "_law_value" = true) (k__law_value : PySem.W.keepIn K (.ref f__law_value) = true)
    {f__law_halves : Addr} {od__law_halves an__law_halves : Option Addr} {sl__law_halves : Array (Option Value)} {oc__law_halves kV__law_halves dc__law_halves pm__law_halves cd__law_halves ct__law_halves : Value}
    (n__law_halves : PySem.W.nsIn K mainGlobals "_law_halves" = some (some (.ref f__law_halves))) (l__law_halves : K.lookup f__law_halves = some ⟨oc__law_halves, od__law_halves, .func (PySem.W.fnOf "_law_halves" "_law_halves" (defArgs st__law_halves) (defBody st__law_halves) (defScope st__law_halves) .none kV__law_halves dc__law_halves pm__law_halves an__law_halves cd__law_halves ct__law_halves), sl__law_halves⟩) (c__law_halves : PySem.W.codeIn K cd__law_halves "_law_halves" = true) (k__law_halves : PySem.W.keepIn K (.ref f__law_halves) = true)
    {f__law_is_round : Addr} {od__law_is_round an__law_is_round : Option Addr} {sl__law_is_round : Array (Option Value)} {oc__law_is_round kV__law_is_round dc__law_is_round pm__law_is_round cd__law_is_round ct__law_is_round : Value}
    (n__law_is_round : PySem.W.nsIn K mainGlobals "_law_is_round" = some (some (.ref f__law_is_round))) (l__law_is_round : K.lookup f__law_is_round = some ⟨oc__law_is_round, od__law_is_round, .func (PySem.W.fnOf "_law_is_round" "_law_is_round" (defArgs st__law_is_round) (defBody st__law_is_round) (defScope st__law_is_round) .none kV__law_is_round dc__law_is_round pm__law_is_round an__law_is_round cd__law_is_round ct__law_is_round), sl__law_is_round⟩) (c__law_is_round : PySem.W.codeIn K cd__law_is_round "_law_is_round" = true) (k__law_is_round : PySem.W.keepIn K (.ref f__law_is_round) = true)
    {f__law_fraction : Addr} {od__law_fraction an__law_fraction : Option Addr} {sl__law_fraction : Array (Option Value)} {oc__law_fraction kV__law_fraction dc__law_fraction pm__law_fraction cd__law_fraction ct__law_fraction : Value}
    (n__law_fraction : PySem.W.nsIn K mainGlobals "_law_fraction" = some (some (.ref f__law_fraction))) (l__law_fraction : K.lookup f__law_fraction = some ⟨oc__law_fraction, od__law_fraction, .func (PySem.W.fnOf "_law_fraction" "_law_fraction" (defArgs st__law_fraction) (defBody st__law_fraction) (defScope st__law_fraction) .none kV__law_fraction dc__law_fraction pm__law_fraction an__law_fraction cd__law_fraction ct__law_fraction), sl__law_fraction⟩) (c__law_fraction : PySem.W.codeIn K cd__law_fraction "_law_fraction" = true) (k__law_fraction : PySem.W.keepIn K (.ref f__law_fraction) = true)
    {f__law_turn : Addr} {od__law_turn an__law_turn : Option Addr} {sl__law_turn : Array (Option Value)} {oc__law_turn kV__law_turn dc__law_turn pm__law_turn cd__law_turn ct__law_turn : Value}
    (n__law_turn : PySem.W.nsIn K mainGlobals "_law_turn" = some (some (.ref f__law_turn))) (l__law_turn : K.lookup f__law_turn = some ⟨oc__law_turn, od__law_turn, .func (PySem.W.fnOf "_law_turn" "_law_turn" (defArgs st__law_turn) (defBody st__law_turn) (defScope st__law_turn) .none kV__law_turn dc__law_turn pm__law_turn an__law_turn cd__law_turn ct__law_turn), sl__law_turn⟩) (c__law_turn : PySem.W.codeIn K cd__law_turn "_law_turn" = true) (k__law_turn : PySem.W.keepIn K (.ref f__law_turn) = true)
    {f__law_is_pair : Addr} {od__law_is_pair an__law_is_pair : Option Addr} {sl__law_is_pair : Array (Option Value)} {oc__law_is_pair kV__law_is_pair dc__law_is_pair pm__law_is_pair cd__law_is_pair ct__law_is_pair : Value}
    (n__law_is_pair : PySem.W.nsIn K mainGlobals "_law_is_pair" = some (some (.ref f__law_is_pair))) (l__law_is_pair : K.lookup f__law_is_pair = some ⟨oc__law_is_pair, od__law_is_pair, .func (PySem.W.fnOf "_law_is_pair" "_law_is_pair" (defArgs st__law_is_pair) (defBody st__law_is_pair) (defScope st__law_is_pair) .none kV__law_is_pair dc__law_is_pair pm__law_is_pair an__law_is_pair cd__law_is_pair ct__law_is_pair), sl__law_is_pair⟩) (c__law_is_pair : PySem.W.codeIn K cd__law_is_pair "_law_is_pair" = true) (k__law_is_pair : PySem.W.keepIn K (.ref f__law_is_pair) = true)
    {f_law : Addr} {od_law an_law : Option Addr} {sl_law : Array (Option Value)} {oc_law kV_law dc_law pm_law cd_law ct_law : Value}
    (n_law : PySem.W.nsIn K mainGlobals "law" = some (some (.ref f_law))) (l_law : K.lookup f_law = some ⟨oc_law, od_law, .func (PySem.W.fnOf "law" "law" (defArgs st_law) (defBody st_law) (defScope st_law) .none kV_law dc_law pm_law an_law cd_law ct_law), sl_law⟩) (c_law : PySem.W.codeIn K cd_law "law" = true) (k_law : PySem.W.keepIn K (.ref f_law) = true)
    (b_abs : PySem.W.nsIn K mainGlobals "abs" = some none)
    (b_all : PySem.W.nsIn K mainGlobals "all" = some none)
    (b_bool : PySem.W.nsIn K mainGlobals "bool" = some none)
    (b_int : PySem.W.nsIn K mainGlobals "int" = some none)
    (b_isinstance : PySem.W.nsIn K mainGlobals "isinstance" = some none)
    (b_len : PySem.W.nsIn K mainGlobals "len" = some none)
    (b_list : PySem.W.nsIn K mainGlobals "list" = some none)
    (b_min : PySem.W.nsIn K mainGlobals "min" = some none)
    (b_range : PySem.W.nsIn K mainGlobals "range" = some none)
    (b_repr : PySem.W.nsIn K mainGlobals "repr" = some none)
    (b_tuple : PySem.W.nsIn K mainGlobals "tuple" = some none)
    : ∃ fd : FuncData, (∀ (s : Shared) (v : Value), BindsTo s fd ⟨[v], []⟩ [("_law_script", v)]) ∧ ∀ base : Heap, K.In base → base.Ns mainGlobals mg → FnG l.prog w K mg base CX0 6 fa fd ["_law_script"] (spLaw K) := by
  have e := hfa.symm.trans (PySem.W.mg_of X G n_law)
  have e1 : f_law = fa := by cases e; rfl
  subst e1
  have F_is_integer := fun_mk (st := st_is_integer) l_is_integer c_is_integer k_is_integer
  have O_is_integer : Own K mg "is_integer" st_is_integer ps_is_integer f_is_integer _ := ⟨F_is_integer, PySem.W.mg_of X G n_is_integer, F_is_integer.binds fun _ _ _ _ _ _ us hl => match us, hl with | [_], _ => rfl⟩
  have F_is_within := fun_mk (st := st_is_within) l_is_within c_is_within k_is_within
  have O_is_within : Own K mg "is_within" st_is_within ps_is_within f_is_within _ := ⟨F_is_within, PySem.W.mg_of X G n_is_within, F_is_within.binds fun _ _ _ _ _ _ us hl => match us, hl with | [_, _, _], _ => rfl⟩
  have F_is_list := fun_mk (st := st_is_list) l_is_list c_is_list k_is_list
  have O_is_list : Own K mg "is_list" st_is_list ps_is_list f_is_list _ := ⟨F_is_list, PySem.W.mg_of X G n_is_list, F_is_list.binds fun _ _ _ _ _ _ us hl => match us, hl with | [_], _ => rfl⟩
  have F_common := fun_mk (st := st_common) l_common c_common k_common
  have O_common : Own K mg "common" st_common ps_common f_common _ := ⟨F_common, PySem.W.mg_of X G n_common, F_common.binds fun _ _ _ _ _ _ us hl => match us, hl with | [_, _], _ => rfl⟩
  have F_is_number := fun_mk (st := st_is_number) l_is_number c_is_number k_is_number
  have O_is_number : Own K mg "is_number" st_is_number ps_is_number f_is_number _ := ⟨F_is_number, PySem.W.mg_of X G n_is_number, F_is_number.binds fun _ _ _ _ _ _ us hl => match us, hl with | [_], _ => rfl⟩
  have F_is_point := fun_mk (st := st_is_point) l_is_point c_is_point k_is_point
  have O_is_point : Own K mg "is_point" st_is_point ps_is_point f_is_point _ := ⟨F_is_point, PySem.W.mg_of X G n_is_point, F_is_point.binds fun _ _ _ _ _ _ us hl => match us, hl with | [_], _ => rfl⟩
  have F_is_turn := fun_mk (st := st_is_turn) l_is_turn c_is_turn k_is_turn
  have O_is_turn : Own K mg "is_turn" st_is_turn ps_is_turn f_is_turn _ := ⟨F_is_turn, PySem.W.mg_of X G n_is_turn, F_is_turn.binds fun _ _ _ _ _ _ us hl => match us, hl with | [_], _ => rfl⟩
  have F__law_sack := fun_mk (st := st__law_sack) l__law_sack c__law_sack k__law_sack
  have O__law_sack : Own K mg "_law_sack" st__law_sack ps__law_sack f__law_sack _ := ⟨F__law_sack, PySem.W.mg_of X G n__law_sack, F__law_sack.binds fun _ _ _ _ _ _ us hl => match us, hl with | [_], _ => rfl⟩
  have F__law_reach := fun_mk (st := st__law_reach) l__law_reach c__law_reach k__law_reach
  have O__law_reach : Own K mg "_law_reach" st__law_reach ps__law_reach f__law_reach _ := ⟨F__law_reach, PySem.W.mg_of X G n__law_reach, F__law_reach.binds fun _ _ _ _ _ _ us hl => match us, hl with | [_, _], _ => rfl⟩
  have F__law_pick := fun_mk (st := st__law_pick) l__law_pick c__law_pick k__law_pick
  have O__law_pick : Own K mg "_law_pick" st__law_pick ps__law_pick f__law_pick _ := ⟨F__law_pick, PySem.W.mg_of X G n__law_pick, F__law_pick.binds fun _ _ _ _ _ _ us hl => match us, hl with | [_, _], _ => rfl⟩
  have F__law_has_form := fun_mk (st := st__law_has_form) l__law_has_form c__law_has_form k__law_has_form
  have O__law_has_form : Own K mg "_law_has_form" st__law_has_form ps__law_has_form f__law_has_form _ := ⟨F__law_has_form, PySem.W.mg_of X G n__law_has_form, F__law_has_form.binds fun _ _ _ _ _ _ us hl => match us, hl with | [_], _ => rfl⟩
  have F__law_value := fun_mk (st := st__law_value) l__law_value c__law_value k__law_value
  have O__law_value : Own K mg "_law_value" st__law_value ps__law_value f__law_value _ := ⟨F__law_value, PySem.W.mg_of X G n__law_value, F__law_value.binds fun _ _ _ _ _ _ us hl => match us, hl with | [_], _ => rfl⟩
  have F__law_halves := fun_mk (st := st__law_halves) l__law_halves c__law_halves k__law_halves
  have O__law_halves : Own K mg "_law_halves" st__law_halves ps__law_halves f__law_halves _ := ⟨F__law_halves, PySem.W.mg_of X G n__law_halves, F__law_halves.binds fun _ _ _ _ _ _ us hl => match us, hl with | [_], _ => rfl⟩
  have F__law_is_round := fun_mk (st := st__law_is_round) l__law_is_round c__law_is_round k__law_is_round
  have O__law_is_round : Own K mg "_law_is_round" st__law_is_round ps__law_is_round f__law_is_round _ := ⟨F__law_is_round, PySem.W.mg_of X G n__law_is_round, F__law_is_round.binds fun _ _ _ _ _ _ us hl => match us, hl with | [_], _ => rfl⟩
  have F__law_fraction := fun_mk (st := st__law_fraction) l__law_fraction c__law_fraction k__law_fraction
  have O__law_fraction : Own K mg "_law_fraction" st__law_fraction ps__law_fraction f__law_fraction _ := ⟨F__law_fraction, PySem.W.mg_of X G n__law_fraction, F__law_fraction.binds fun _ _ _ _ _ _ us hl => match us, hl with | [_, _], _ => rfl⟩
  have F__law_turn := fun_mk (st := st__law_turn) l__law_turn c__law_turn k__law_turn
  have O__law_turn : Own K mg "_law_turn" st__law_turn ps__law_turn f__law_turn _ := ⟨F__law_turn, PySem.W.mg_of X G n__law_turn, F__law_turn.binds fun _ _ _ _ _ _ us hl => match us, hl with | [_], _ => rfl⟩
  have F__law_is_pair := fun_mk (st := st__law_is_pair) l__law_is_pair c__law_is_pair k__law_is_pair
  have O__law_is_pair : Own K mg "_law_is_pair" st__law_is_pair ps__law_is_pair f__law_is_pair _ := ⟨F__law_is_pair, PySem.W.mg_of X G n__law_is_pair, F__law_is_pair.binds fun _ _ _ _ _ _ us hl => match us, hl with | [_], _ => rfl⟩
  have F_law := fun_mk (st := st_law) l_law c_law k_law
  have O_law : Own K mg "law" st_law ps_law f_law _ := ⟨F_law, PySem.W.mg_of X G n_law, F_law.binds fun _ _ _ _ _ _ us hl => match us, hl with | [_], _ => rfl⟩
  have T : Txt K mg ⟨f_is_integer, _, f_is_within, _, f_is_list, _, f_common, _, f_is_number, _, f_is_point, _, f_is_turn, _, f__law_sack, _, f__law_reach, _, f__law_pick, _, f__law_has_form, _, f__law_value, _, f__law_halves, _, f__law_is_round, _, f__law_fraction, _, f__law_turn, _, f__law_is_pair, _, f_law, _⟩ := ⟨O_is_integer, O_is_within, O_is_list, O_common, O_is_number, O_is_point, O_is_turn, O__law_sack, O__law_reach, O__law_pick, O__law_has_form, O__law_value, O__law_halves, O__law_is_round, O__law_fraction, O__law_turn, O__law_is_pair, O_law, PySem.W.mg_none_of X G b_abs, PySem.W.mg_none_of X G b_all, PySem.W.mg_none_of X G b_bool, PySem.W.mg_none_of X G b_int, PySem.W.mg_none_of X G b_isinstance, PySem.W.mg_none_of X G b_len, PySem.W.mg_none_of X G b_list, PySem.W.mg_none_of X G b_min, PySem.W.mg_none_of X G b_range, PySem.W.mg_none_of X G b_repr, PySem.W.mg_none_of X G b_tuple⟩
  refine ⟨PySem.W.fnOf "law" "law" (defArgs st_law) (defBody st_law) (defScope st_law) .none kV_law dc_law pm_law an_law cd_law ct_law, fun s v => .of_eq rfl, fun base _ _ => ?_⟩
  have G_is_integer := ok_is_integer (P := l.prog) (w := w) (base := base) T
  have G_is_within := ok_is_within (P := l.prog) (w := w) (base := base) T G_is_integer
  have G_is_list := ok_is_list (P := l.prog) (w := w) (base := base) T
  have G_common := ok_common (P := l.prog) (w := w) (base := base) T
  have G_is_number := ok_is_number (P := l.prog) (w := w) (base := base) T G_is_integer G_is_within G_is_list G_common
  have G_is_point := ok_is_point (P := l.prog) (w := w) (base := base) T G_is_list G_is_number
  have G_is_turn := ok_is_turn (P := l.prog) (w := w) (base := base) T G_is_list G_is_point
  have G__law_sack := ok__law_sack (P := l.prog) (w := w) (base := base) T
  have G__law_reach := ok__law_reach (P := l.prog) (w := w) (base := base) T
  have G__law_pick := ok__law_pick (P := l.prog) (w := w) (base := base) T G__law_reach
  have G__law_has_form := ok__law_has_form (P := l.prog) (w := w) (base := base) T
  have G__law_value := ok__law_value (P := l.prog) (w := w) (base := base) T G__law_reach G__law_pick
  have G__law_halves := ok__law_halves (P := l.prog) (w := w) (base := base) T
  have G__law_is_round := ok__law_is_round (P := l.prog) (w := w) (base := base) T G__law_has_form G__law_halves
  have G__law_fraction := ok__law_fraction (P := l.prog) (w := w) (base := base) T
  have G__law_turn := ok__law_turn (P := l.prog) (w := w) (base := base) T G__law_reach G__law_value G__law_fraction
  have G__law_is_pair := ok__law_is_pair (P := l.prog) (w := w) (base := base) T G__law_has_form
  have G_law := ok_law (P := l.prog) (w := w) (base := base) T G_is_integer G_is_within G_is_number G_is_point G_is_turn G__law_sack G__law_reach G__law_pick G__law_has_form G__law_value G__law_is_round G__law_turn G__law_is_pair
  exact G_law
theorem walk {l : PySem.W.OpenLaw} {q : Program} {loose : List Str} {XP : (Str → Option Value) → Heap → Prop} {YP : World → Heap → Prop} {d : DefRec} {K : Params → PySem.W.Frag} (hn : l.most = some 63) (hdf : d.params.defaults = [])
    (hY : ∀ (w : World) (h : Heap), YP w h → (K w.params).In h)
    (F : ∀ (w : World) (mg : Str → Option Value) (fa : Addr) (h : Heap), (K w.params).In h → h.Ns mainGlobals mg → mg d.name = some (.ref fa) →
      ∃ fd : FuncData, (∀ (s : Shared) (u : Value), BindsTo s fd ⟨[u], []⟩ [("_law_script", u)]) ∧ ∀ base : Heap, (K w.params).In base → base.Ns mainGlobals mg → FnG l.prog w (K w.params) mg base CX0 6 fa fd ["_law_script"] (spLaw (K w.params))) :
    PySem.W.WalkO q loose XP YP l.row.toRowW d [] (fun f vs => PySem.call f vs) :=
  walk_ofG (n := 63) (k := 6) (x := "_law_script") (sp := spLaw) hn (by decide) hdf ⟨rfl, by decide, by decide⟩ hY F (fun _ _ a ns hl _ hS => ⟨a, ns, rfl, hS, hl, fun _ => rfl⟩)
end Lw
open PySem PySem.W PyProof.Rows
set_option maxRecDepth 100000 in
set_option maxHeartbeats 0 in
theorem PySem.Challenge.cw_typedcurve_k01_what_any_value_is_holds : PySem.Challenge.rw_typedcurve_k01_what_any_value_is.Holds := by
  w_on; o_law; k_head; (case hw => w_witness2)
  k_fill
  refine Lw.walk (l := PySem.Challenge.rw_typedcurve_k01_what_any_value_is) rfl rfl (fun w h Y => PySem.W.kIn_of Y) ?F
  case F =>
    intro w mg fa h KX G hmg
    refine' Lw.all_mk KX G hmg ?n_is_integer ?l_is_integer ?c_is_integer ?k_is_integer ?n_is_within ?l_is_within ?c_is_within ?k_is_within ?n_is_list ?l_is_list ?c_is_list ?k_is_list ?n_common ?l_common ?c_common ?k_common ?n_is_number ?l_is_number ?c_is_number ?k_is_number ?n_is_point ?l_is_point ?c_is_point ?k_is_point ?n_is_turn ?l_is_turn ?c_is_turn ?k_is_turn ?n__law_sack ?l__law_sack ?c__law_sack ?k__law_sack ?n__law_reach ?l__law_reach ?c__law_reach ?k__law_reach ?n__law_pick ?l__law_pick ?c__law_pick ?k__law_pick ?n__law_has_form ?l__law_has_form ?c__law_has_form ?k__law_has_form ?n__law_value ?l__law_value ?c__law_value ?k__law_value ?n__law_halves ?l__law_halves ?c__law_halves ?k__law_halves ?n__law_is_round ?l__law_is_round ?c__law_is_round ?k__law_is_round ?n__law_fraction ?l__law_fraction ?c__law_fraction ?k__law_fraction ?n__law_turn ?l__law_turn ?c__law_turn ?k__law_turn ?n__law_is_pair ?l__law_is_pair ?c__law_is_pair ?k__law_is_pair ?n_law ?l_law ?c_law ?k_law ?b_abs ?b_all ?b_bool ?b_int ?b_isinstance ?b_len ?b_list ?b_min ?b_range ?b_repr ?b_tuple
    (case n_is_integer => k_is)
    (case l_is_integer => k_is)
    (case c_is_integer => k_is)
    (case k_is_integer => k_is)
    (case n_is_within => k_is)
    (case l_is_within => k_is)
    (case c_is_within => k_is)
    (case k_is_within => k_is)
    (case n_is_list => k_is)
    (case l_is_list => k_is)
    (case c_is_list => k_is)
    (case k_is_list => k_is)
    (case n_common => k_is)
    (case l_common => k_is)
    (case c_common => k_is)
    (case k_common => k_is)
    (case n_is_number => k_is)
    (case l_is_number => k_is)
    (case c_is_number => k_is)
    (case k_is_number => k_is)
    (case n_is_point => k_is)
    (case l_is_point => k_is)
    (case c_is_point => k_is)
    (case k_is_point => k_is)
    (case n_is_turn => k_is)
    (case l_is_turn => k_is)
    (case c_is_turn => k_is)
    (case k_is_turn => k_is)
    (case n__law_sack => k_is)
    (case l__law_sack => k_is)
    (case c__law_sack => k_is)
    (case k__law_sack => k_is)
    (case n__law_reach => k_is)
    (case l__law_reach => k_is)
    (case c__law_reach => k_is)
    (case k__law_reach => k_is)
    (case n__law_pick => k_is)
    (case l__law_pick => k_is)
    (case c__law_pick => k_is)
    (case k__law_pick => k_is)
    (case n__law_has_form => k_is)
    (case l__law_has_form => k_is)
    (case c__law_has_form => k_is)
    (case k__law_has_form => k_is)
    (case n__law_value => k_is)
    (case l__law_value => k_is)
    (case c__law_value => k_is)
    (case k__law_value => k_is)
    (case n__law_halves => k_is)
    (case l__law_halves => k_is)
    (case c__law_halves => k_is)
    (case k__law_halves => k_is)
    (case n__law_is_round => k_is)
    (case l__law_is_round => k_is)
    (case c__law_is_round => k_is)
    (case k__law_is_round => k_is)
    (case n__law_fraction => k_is)
    (case l__law_fraction => k_is)
    (case c__law_fraction => k_is)
    (case k__law_fraction => k_is)
    (case n__law_turn => k_is)
    (case l__law_turn => k_is)
    (case c__law_turn => k_is)
    (case k__law_turn => k_is)
    (case n__law_is_pair => k_is)
    (case l__law_is_pair => k_is)
    (case c__law_is_pair => k_is)
    (case k__law_is_pair => k_is)
    (case n_law => k_is)
    (case l_law => k_is)
    (case c_law => k_is)
    (case k_law => k_is)
    (case b_abs => k_is)
    (case b_all => k_is)
    (case b_bool => k_is)
    (case b_int => k_is)
    (case b_isinstance => k_is)
    (case b_len => k_is)
    (case b_list => k_is)
    (case b_min => k_is)
    (case b_range => k_is)
    (case b_repr => k_is)
    (case b_tuple => k_is)
#print axioms PySem.Challenge.cw_typedcurve_k01_what_any_value_is_holds
