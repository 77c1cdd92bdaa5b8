import PyProof.Rows.All
import Wide.All
import OpenK.AllK
import Wide.FinOn
import PyProof.ReprRoads
import HandS.ForMost
import HandS.Wide
import HandS.IsInst
import HandS.Deep
import HandS.Flow
import HandS.TupAny
import HandS.Defaults
import HandS.Exc
import HandS.WordsExc
import HandS.NoneIn
import HandS.Style
import HandS.Zip
import HandS.Rev
import KE.GoesMore
import HandS.ExcInit
import HandS.ExcIs
import HandS.ExcField
import HandS.ExcCtx
import KE.KExcIs
import HandS.Lambda
import KE.KDflt
import HandS.EndTab
import PySem.Challenge.RW_typedcurve_k39_words_and_what_they_are_m
set_option Elab.async false
set_option linter.all false
set_option exponentiation.threshold 10000
set_option maxRecDepth 100000
set_option maxHeartbeats 4000000
/-! T1: promises of defs that also know that no repr is under way (guards = some []). -/
namespace DL
open PySem PySem.Spec PyProof.Rows L2

/-- as the layer's promise, but the callee may use that no guard is under way -/
structure FnG (P : Program) (w : World) (K : PySem.W.Frag) (mg : Str → Option Value) (base : Heap) (CX : CXT) (k : Nat) (f : Addr) (fd : FuncData) (ps : List Str) (sp : Sp) : Prop where
  ln : ∀ vs H Q E, sp vs H Q E → vs.length = ps.length
  go : ∀ (A : Around) (outer : List Env) (s : Shared) (H : Hp) (args : Args) (us : List Value) (vs : List V) (Q : VK) (E : XK),
    Room k A → A.guards = some [] → Env0 P w K mg base A outer s H → BindsTo s fd args (ps.zip us) → Vals vs us → sp vs H Q E →
    codeAny (model P w) A (.call (.ref f) args) (CR CX outer P w H s Q E) s

section
variable {P : Program} {w : World} {K : PySem.W.Frag} {mg : Str → Option Value} {base : Heap} {CX : CXT} {k : Nat} {f : Addr} {fd : FuncData} {ps : List Str} {sp : Sp}
theorem FnG.of (F : FnOk P w K mg base CX k f fd ps sp) : FnG P w K mg base CX k f fd ps sp :=
  ⟨F.len, fun A outer s H args us vs Q E hr _ => F.run A outer s H args us vs Q E hr⟩
theorem FnG.up {j : Nat} (F : FnG P w K mg base CX j f fd ps sp) (h : j ≤ k) : FnG P w K mg base CX k f fd ps sp :=
  ⟨F.ln, fun A outer s H args us vs Q E hr => F.go A outer s H args us vs Q E (hr.mono h)⟩
theorem FnG.weaker {sp' : Sp} (F : FnG P w K mg base CX k f fd ps sp) (h : ∀ vs H Q E, sp' vs H Q E → sp vs H Q E) : FnG P w K mg base CX k f fd ps sp' :=
  ⟨fun vs H Q E q => F.ln vs H Q E (h _ _ _ _ q), fun A outer s H args us vs Q E hr hg he hb hv hs => F.go A outer s H args us vs Q E hr hg he hb hv (h _ _ _ _ hs)⟩
end

/-- a def by its body, the guards known -/
theorem fnG_of {CX : CXT} {P : Program} {w : World} {K : PySem.W.Frag} {mg : Str → Option Value} {base : Heap} {k : Nat} {f : Addr} {fd : FuncData} {x qual : Str} {st : Stmt} {N ps : List Str} {sp : Sp}
    (F : Fun K x qual st f fd) (S : FnScope N ps (defScope st)) (ln : ∀ vs H Q E, sp vs H Q E → vs.length = ps.length)
    (body : ∀ (cdv : Value), fd.code = cdv → ∀ (A : Around) (outer : List Env) (s : Shared) (H : Hp) (vs : List V) (Q : VK) (E : XK),
      Room k (A.deeper (envOfC qual (defScope st) s.heap.objs.size f cdv)) → A.guards = some [] → sp vs H Q E →
      ∃ t, PSs (cxOf CX P w K mg base N qual (defScope st) f cdv A outer s H E) (defBody st) t ∧ t { nx := fun _ H' => Q .non H', rt := Q } (start N vs) H) :
    FnG P w K mg base CX (k + 1) f fd ps sp := by
  obtain ⟨oc, od, kV, doc, pm, an, cdv, ct, osl, rfl, lk, hcd⟩ := F.ex
  constructor
  · exact ln
  intro A outer s H args us vs Q E hr hg e0 hb r hsp
  have lnEq := ln _ _ _ _ hsp
  have inK : K.In s.heap := e0.mod.kin.keeps fun b o e => (e0.bs b o e).1
  have noLim : s.heap.NoLimit := e0.mod.nolimit.keeps fun b o e => (e0.bs b o e).1
  have kinds : ∀ y ∈ ps.zip us, (defScope st).names.lookup y.1 = some .local ∨
      ((defScope st).names.lookup y.1 = some .cell ∧ ((cellsFrom (s.heap.objs.size + 1) (defScope st).names []).lookup y.1).isSome = true) := by
    intro ⟨n, v⟩ hy
    cases S.par n (List.of_mem_zip hy).1 with
    | inl q => exact .inl q
    | inr q => exact .inr ⟨q, PySem.W.cellsFrom_some _ _ _ (.inl q)⟩
  apply codeAny_call_function hr.depth (inK _ _ lk) rfl S.co S.gen rfl (PySem.W.codeRec_of inK hcd)
  apply hb
  apply wpAny_newFunctionEnv_cells S.kind kinds
  intro env he s1 x
  subst he
  refine ⟨noLim.keeps x.toInCall.keep, codeAny_func ?_⟩
  obtain ⟨t, ht, hq⟩ := body cdv rfl A outer s H vs Q E (hr.deeper _) hg hsp
  have I := inv_start (CX := CX) (E := E) S hr.hd e0 lnEq r x
  apply wpAny_mono (ht.run [] s1 (start N vs) H _ I hq)
  · intro fl s' hs
    cases fl with
    | ret u =>
      obtain ⟨v, σ', H', J, rv, q⟩ := hs
      exact (⟨v, H', J.os, J.bare, J.base, J.hok, rv, q⟩ : CE outer P w H s Q u s')
    | next =>
      obtain ⟨σ', H', J, q⟩ := hs
      exact (⟨V.non, H', J.os, J.bare, J.base, J.hok, rfl, q⟩ : CE outer P w H s Q Value.none s')
    | brk =>
      obtain ⟨_, _, _, q⟩ := hs
      exact False.elim q
    | cont =>
      obtain ⟨_, _, _, q⟩ := hs
      exact False.elim q
  · intro e s' hs
    exact hs

section
variable {X : Cx} {CX : CXT} {k : Nat} {f : Addr} {fd : FuncData} {ps ks : List Str} {sp : Sp} {dvs : List V} {ds : List Value} {E : XK} {x : Str} {p pos : Pos} {e : Expr} {es : List Expr} {kws : List Keyword} {t tk : TA}
  {g : List Value → List Value → List Value} {gV : List V → List V → List V}

/-- what comes back from the callee -/
theorem back_of {pins : List (Addr × Obj)} {σ : L2.St} {H : Hp} {s : Shared} {Q : VK} {r : Result} {s' : Shared} (hx : Passes CX X E) (I : Inv X pins σ H s) (hq : CR CX X.stack X.prog X.w H s Q E r s') :
    match r with
    | .ok (.ret u) => EP X pins σ Q u s'
    | .ok _ => False
    | .error e => X.xe e s' := by
  cases r with
  | error e => exact hx pins σ H s e s' I hq
  | ok fl =>
    cases fl with
    | ret u => exact I.after hq
    | next => exact hq
    | brk => exact hq
    | cont => exact hq

theorem runG {pins : List (Addr × Obj)} {σ : L2.St} {H : Hp} {s : Shared} {Q : VK} {args us : List Value} {kw : List (Str × Value)} {vs : List V} (F : FnG X.prog X.w X.K X.mg X.base CX k f fd ps sp) (hr : Room k X.A) (hgd : X.A.guards = some [])
    (hx : Passes CX X E) (I : Inv X pins σ H s) (hb : BindsTo s fd ⟨args, kw⟩ (ps.zip us)) (r : Vals vs us) (h : sp vs H Q E) :
    wpAny (model X.prog X.w) X.A (call (.ref f) args kw) (EP X pins σ Q) X.xe s := by
  apply wpAny_call
  apply codeAny_mono (F.go X.A X.stack s H ⟨args, kw⟩ us vs Q E hr hgd I.env0 hb r h)
  intro r s' hq
  have z := back_of hx I hq
  cases r with
  | error e => exact z
  | ok fl =>
    cases fl with
    | ret u => exact z
    | next => exact z.elim
    | brk => exact z.elim
    | cont => exact z.elim

/-- f(e, ..) -/
theorem pe_callG (F : FnG X.prog X.w X.K X.mg X.base CX k f fd ps sp) (hr : Room k X.A) (hgd : X.A.guards = some []) (hg : Gl X x) (hm : X.mg x = some (.ref f)) (hk : PySem.W.keepIn X.K (.ref f) = true) (hb : Binds X.K fd ps ds) (hd : Vals dvs ds) (hx : Passes CX X E)
    (ha : PA X (e :: es) t) (hdb : (x == ("__debug__" : Str)) = false := by decide) (he : starEach (e :: es) X.env = (false, eval e X.env) :: starEach es X.env := by rfl) (hpl : (backTo pos (starEach es X.env)).any (·.1) = false := by rfl) :
    PE X (.Call (.Name x p) (e :: es) [] pos) (tCall sp dvs E t) := by
  constructor
  intro pins s σ H Q I h
  apply wpAny_Call_Name_kw (ld_glob I hg hm ?_ hdb)
  apply PySem.W.callWith_K (h₀ := X.base) I.ok.mod.kin hk (thn (ha.run pos pins s σ H _ I h) ?_) he hpl
  intro us s1 ⟨vs, H1, I1, r, q⟩
  have r2 : Vals (vs ++ dvs) (us ++ ds) := r.append hd
  have ln : (us ++ ds).length = ps.length := r2.length.symm.trans (F.ln _ _ _ _ q)
  exact ⟨I1.kIn, runG F hr hgd hx I1 (hb s1 us I1.kIn ln) r2 q⟩
/-- f() -/
theorem pe_callG0 (F : FnG X.prog X.w X.K X.mg X.base CX k f fd ps sp) (hr : Room k X.A) (hgd : X.A.guards = some []) (hg : Gl X x) (hm : X.mg x = some (.ref f)) (hk : PySem.W.keepIn X.K (.ref f) = true) (hb : Binds X.K fd ps ds) (hd : Vals dvs ds) (hx : Passes CX X E)
    (hdb : (x == ("__debug__" : Str)) = false := by decide) : PE X (.Call (.Name x p) [] [] pos) (tCall sp dvs E tNil) := by
  constructor
  intro pins s σ H Q I h
  apply wpAny_Call_Name_kw (ld_glob I hg hm ?_ hdb)
  apply PySem.W.callWith_K0 I.kIn hk
  have h2 : sp dvs H Q E := h
  have ln : ([] ++ ds).length = ps.length := hd.length.symm.trans (F.ln _ _ _ _ h2)
  exact runG F hr hgd hx I (hb s [] I.kIn ln) hd h2
/-- f(e, .., k = v, ..) -/
theorem pe_callGK (F : FnG X.prog X.w X.K X.mg X.base CX k f fd ps sp) (hr : Room k X.A) (hgd : X.A.guards = some []) (hg : Gl X x) (hm : X.mg x = some (.ref f)) (hk : PySem.W.keepIn X.K (.ref f) = true) (hb : KBinds X.K fd ps ks g gV) (hx : Passes CX X E)
    (ha : PA X (e :: es) t) (hkw : PK X kws tk) (hall : (backToKw pos (keywordEach kws X.env)).all (·.1.isSome) = true := by rfl) (hks : (backToKw pos (keywordEach kws X.env)).filterMap (·.1) = ks := by rfl)
    (hdb : (x == ("__debug__" : Str)) = false := by decide) (he : starEach (e :: es) X.env = (false, eval e X.env) :: starEach es X.env := by rfl)
    (hpl : ((backTo pos (starEach (e :: es) X.env)).any (·.1) || (backToKw pos (keywordEach kws X.env)).any (·.1.isNone)) = false := by rfl) :
    PE X (.Call (.Name x p) (e :: es) kws pos) (tCallK sp gV E t tk) := by
  constructor
  intro pins s σ H Q I h
  apply wpAny_Call_Name_kw (ld_glob I hg hm ?_ hdb)
  apply PySem.W.callWith_KW (h₀ := X.base) I.ok.mod.kin hk hall (thn (ha.run pos pins s σ H _ I h) ?_) hpl he
  intro us s1 ⟨vs, H1, I1, r, q⟩
  apply thn (hkw.run pos pins s1 σ H1 _ I1 q)
  intro ws s2 ⟨zs, H2, I2, rz, q2⟩
  refine ⟨I2.kIn, ?_⟩
  rw [hks]
  have r2 := hb.rel r rz
  have ln : (g us ws).length = ps.length := r2.length.symm.trans (F.ln _ _ _ _ q2)
  exact runG F hr hgd hx I2 (hb.to s2 us ws I2.kIn ln) r2 q2
/-- f(k = v, ..) -/
theorem pe_callGK0 (F : FnG X.prog X.w X.K X.mg X.base CX k f fd ps sp) (hr : Room k X.A) (hgd : X.A.guards = some []) (hg : Gl X x) (hm : X.mg x = some (.ref f)) (hk : PySem.W.keepIn X.K (.ref f) = true) (hb : KBinds X.K fd ps ks g gV) (hx : Passes CX X E)
    (hkw : PK X kws tk) (hall : (backToKw pos (keywordEach kws X.env)).all (·.1.isSome) = true := by rfl) (hks : (backToKw pos (keywordEach kws X.env)).filterMap (·.1) = ks := by rfl)
    (hdb : (x == ("__debug__" : Str)) = false := by decide)
    (hpl : ((backTo pos (starEach [] X.env)).any (·.1) || (backToKw pos (keywordEach kws X.env)).any (·.1.isNone)) = false := by rfl) :
    PE X (.Call (.Name x p) [] kws pos) (tCallK sp gV E tNil tk) := by
  constructor
  intro pins s σ H Q I h
  apply wpAny_Call_Name_kw (ld_glob I hg hm ?_ hdb)
  apply PySem.W.callWith_KW0 (h₀ := X.base) I.ok.mod.kin hk hall ?_ hpl
  apply thn (hkw.run pos pins s σ H _ I h)
  intro ws s2 ⟨zs, H2, I2, rz, q2⟩
  refine ⟨I2.kIn, ?_⟩
  rw [hks]
  have r2 := hb.rel (.nil : Vals [] []) rz
  have ln : (g [] ws).length = ps.length := r2.length.symm.trans (F.ln _ _ _ _ q2)
  exact runG F hr hgd hx I2 (hb.to s2 [] ws I2.kIn ln) r2 q2
end

/-- keywords alone, or all positional ones first: the keywords' values by a function on the two lists -/
theorem KBinds.mk' {K : PySem.W.Frag} {fd : FuncData} {ps ks : List Str} (g : {α : Type} → List α → List α → List α) (n : Nat)
    (hlen : ∀ us ws : List Value, (g us ws).length = ps.length → us.length = n ∧ ws.length = ks.length)
    (h : ∀ us ws : List Value, us.length = n → ws.length = ks.length → bindArgs fd ⟨us, ks.zip ws⟩ = pure (ps.zip (g us ws)))
    (rel : ∀ {vs : List V} {us : List Value} {zs : List V} {ws : List Value}, Vals vs us → Vals zs ws → Vals (g vs zs) (g us ws)) : KBinds K fd ps ks g g :=
  ⟨fun s us ws _ hl => .of_eq (h us ws (hlen us ws hl).1 (hlen us ws hl).2), fun r z => rel r z⟩
end DL
/-! T2: data, what stands for it, slots, the relation of slots and heap. -/
namespace DL
open PySem PySem.Spec L2

/-- data, whole -/
inductive D where
  | non | bl (b : Bool) | int (i : Int) | str (x : Str)
  | lst (xs : List D) | tup (xs : List D) | dct (kvs : List (Key × D))
  | drum (ms : List Int)
  | scr (ns : List Int)
  | ob (C : Str) (fs : List (Str × D))
/-- an own error: its class, its fields -/
structure Er where
  cls : Str
  fs : List (Str × D)

/-- the state of what draws: turn, rest -/
abbrev Sd := Int × Int
/-- a class of the module's top -/
def Cls (K : PySem.W.Frag) (C : Str) (a : Addr) : Prop := PySem.W.nsIn K mainGlobals C = some (some (.ref a))
/-- what draws: its address, its cells -/
structure Dq where
  o : Option (Addr × List Int)
  T : List (Addr × Str)
abbrev qa (q : Dq) : Option Addr := q.o.map Prod.fst
/-- what is not hidden -/
def NE : HO → Prop
  | .ext _ => False
  | .tbl _ => False
  | _ => True
/-- all that is not hidden stays -/
def FrX (H H' : Hp) : Prop := ∀ b o, H b = some o → NE o → H' b = some o
theorem FrX.refl (H : Hp) : FrX H H := fun _ _ e _ => e
theorem FrX.trans {H H1 H2 : Hp} (a : FrX H H1) (b : FrX H1 H2) : FrX H H2 := fun c o e n => b c o (a c o e n) n
theorem FrX.of_same {H H' : Hp} (a : Same H H') : FrX H H' := fun c o e _ => a c o e
theorem same_upd {H : Hp} {p : Addr} {o : HO} (h : H p = none) : Same H (upd H p o) := fun b u e => by
  rw [upd_ne (ne_of_none e h)]; exact e
/-- a caught error lies at a: its class, its fields -/
def ObAt (H : Hp) (a Ca : Addr) (vs : List (Str × V)) : Prop :=
  ∃ (oe : Obj) (fv : Array Value) (dx : Addr), H a = some (.frz oe (.ext fun _ => True)) ∧ oe.cls = .ref Ca ∧ oe.dict = some dx ∧ oe.data = .fields fv ∧ H dx = some (.xd vs)
theorem ObAt.up {H H' : Hp} {a Ca : Addr} {vs : List (Str × V)} (f : FrX H H') (h : ObAt H a Ca vs) : ObAt H' a Ca vs := by
  obtain ⟨oe, fv, dx, h, e1, e2, e3, g⟩ := h
  exact ⟨oe, fv, dx, f _ _ h True.intro, e1, e2, e3, f _ _ g True.intro⟩

section
variable (K : PySem.W.Frag) (q : Dq)
mutual
inductive Dt (H : Hp) : V → D → Prop
  | non : Dt H .non .non
  | bl (b : Bool) : Dt H (.bl b) (.bl b)
  | int (i : Int) : Dt H (.int i) (.int i)
  | str (x : Str) : Dt H (.str x) (.str x)
  | lst {a : Addr} {vs : List V} {ds : List D} : H a = some (.lst vs) → DtAll H vs ds → Dt H (.ref a) (.lst ds)
  | tup {a : Addr} {vs : List V} {ds : List D} : SqT K H a vs → DtAll H vs ds → Dt H (.ref a) (.tup ds)
  | dct {a : Addr} {vs : List (Key × V)} {ds : List (Key × D)} : H a = some (.dK vs) → DtKv H vs ds → Dt H (.ref a) (.dct ds)
  | drum {a : Addr} {ms : List Int} : q.o = some (a, ms) → Dt H (.ref a) (.drum ms)
  | scr {a : Addr} {ns : List Int} : SqL K H a (ns.map V.int) → Dt H (.ref a) (.scr ns)
  | ob {a Ca : Addr} {C : Str} {vs : List (Str × V)} {ds : List (Str × D)} : Cls K C Ca → ObAt H a Ca vs → DtFs H vs ds → Dt H (.ref a) (.ob C ds)
inductive DtAll (H : Hp) : List V → List D → Prop
  | nil : DtAll H [] []
  | cons {v : V} {vs : List V} {d : D} {ds : List D} : Dt H v d → DtAll H vs ds → DtAll H (v :: vs) (d :: ds)
inductive DtKv (H : Hp) : List (Key × V) → List (Key × D) → Prop
  | nil : DtKv H [] []
  | cons {k : Key} {v : V} {vs : List (Key × V)} {d : D} {ds : List (Key × D)} : Dt H v d → DtKv H vs ds → DtKv H ((k, v) :: vs) ((k, d) :: ds)
inductive DtFs (H : Hp) : List (Str × V) → List (Str × D) → Prop
  | nil : DtFs H [] []
  | cons {k : Str} {v : V} {vs : List (Str × V)} {d : D} {ds : List (Str × D)} : Dt H v d → DtFs H vs ds → DtFs H ((k, v) :: vs) ((k, d) :: ds)
end
end

section
variable {K : PySem.W.Frag} {q : Dq} {H H' : Hp}
theorem sqT_up (f : FrX H H') {a : Addr} {vs : List V} (h : SqT K H a vs) : SqT K H' a vs := by
  rcases h with (h | ⟨o, h⟩) | h
  · exact .inl (.inl (f _ _ h True.intro))
  · exact .inl (.inr ⟨o, f _ _ h True.intro⟩)
  · exact .inr h
theorem sqL_up (f : FrX H H') {a : Addr} {vs : List V} (h : SqL K H a vs) : SqL K H' a vs := by
  rcases h with (h | ⟨o, h⟩) | h
  · exact .inl (.inl (f _ _ h True.intro))
  · exact .inl (.inr ⟨o, f _ _ h True.intro⟩)
  · exact .inr h
mutual
theorem Dt.up (f : FrX H H') : ∀ {v : V} {d : D}, Dt K q H v d → Dt K q H' v d
  | _, _, .non => .non
  | _, _, .bl b => .bl b
  | _, _, .int i => .int i
  | _, _, .str x => .str x
  | _, _, .lst h a => .lst (f _ _ h True.intro) (a.up f)
  | _, _, .tup h a => .tup (sqT_up f h) (a.up f)
  | _, _, .dct h a => .dct (f _ _ h True.intro) (a.up f)
  | _, _, .drum h => .drum h
  | _, _, .scr h => .scr (sqL_up f h)
  | _, _, .ob c h a => .ob c (h.up f) (a.up f)
theorem DtAll.up (f : FrX H H') : ∀ {vs : List V} {ds : List D}, DtAll K q H vs ds → DtAll K q H' vs ds
  | _, _, .nil => .nil
  | _, _, .cons h t => .cons (h.up f) (t.up f)
theorem DtKv.up (f : FrX H H') : ∀ {vs : List (Key × V)} {ds : List (Key × D)}, DtKv K q H vs ds → DtKv K q H' vs ds
  | _, _, .nil => .nil
  | _, _, .cons h t => .cons (h.up f) (t.up f)
theorem DtFs.up (f : FrX H H') : ∀ {vs : List (Str × V)} {ds : List (Str × D)}, DtFs K q H vs ds → DtFs K q H' vs ds
  | _, _, .nil => .nil
  | _, _, .cons h t => .cons (h.up f) (t.up f)
end
theorem DtAll.length : ∀ {vs : List V} {ds : List D}, DtAll K q H vs ds → vs.length = ds.length
  | _, _, .nil => rfl
  | _, _, .cons _ t => congrArg Nat.succ t.length
theorem DtAll.get : ∀ {vs : List V} {ds : List D} {i : Nat} {d : D}, DtAll K q H vs ds → ds[i]? = some d → ∃ v, vs[i]? = some v ∧ Dt K q H v d
  | _, _, _, _, .nil, e => by simp at e
  | _, _, 0, _, .cons h _, e => by simp at e; subst e; exact ⟨_, rfl, h⟩
  | _, _, i + 1, _, .cons _ t, e => by
    obtain ⟨v, e1, h1⟩ := t.get (i := i) (by simpa using e)
    exact ⟨v, by simpa using e1, h1⟩
theorem DtAll.getV : ∀ {vs : List V} {ds : List D} {i : Nat} {v : V}, DtAll K q H vs ds → vs[i]? = some v → ∃ d, ds[i]? = some d ∧ Dt K q H v d
  | _, _, _, _, .nil, e => by simp at e
  | _, _, 0, _, .cons h _, e => by simp at e; subst e; exact ⟨_, rfl, h⟩
  | _, _, i + 1, _, .cons _ t, e => by
    obtain ⟨v, e1, h1⟩ := t.getV (i := i) (by simpa using e)
    exact ⟨v, by simpa using e1, h1⟩
theorem DtAll.append : ∀ {vs ws : List V} {ds es : List D}, DtAll K q H vs ds → DtAll K q H ws es → DtAll K q H (vs ++ ws) (ds ++ es)
  | _, _, _, _, .nil, s => s
  | _, _, _, _, .cons h t, s => .cons h (t.append s)
theorem DtAll.set : ∀ {vs : List V} {ds : List D} {v : V} {d : D} (i : Nat), Dt K q H v d → DtAll K q H vs ds → DtAll K q H (vs.set i v) (ds.set i d)
  | _, _, _, _, _, _, .nil => .nil
  | _, _, _, _, 0, h, .cons _ t => .cons h t
  | _, _, _, _, i + 1, h, .cons g t => .cons g (t.set i h)
theorem DtAll.take : ∀ {vs : List V} {ds : List D} (i : Nat), DtAll K q H vs ds → DtAll K q H (vs.take i) (ds.take i)
  | _, _, 0, _ => .nil
  | _, _, _ + 1, .nil => .nil
  | _, _, i + 1, .cons h t => .cons h (t.take i)
theorem DtAll.drop : ∀ {vs : List V} {ds : List D} (i : Nat), DtAll K q H vs ds → DtAll K q H (vs.drop i) (ds.drop i)
  | _, _, 0, t => t
  | _, _, _ + 1, .nil => .nil
  | _, _, i + 1, .cons _ t => t.drop i
end

/-! ### what is hidden: a list that only one slot holds; what draws -/
def MutL (p : Addr) (vs : List V) : HO := .ext fun h => vs.length ≤ sizeLine ∧ ∃ (its : List Value) (n : Nat), Vals vs its ∧ h.get? p = some { cls := .type "list", data := .seq its.toArray n }
/-- the list [cells, turn, rest] -/
def DrO (a c : Addr) (k : Sd) : HO := .ext fun h => ∃ (u v : Tok) (n : Nat), h.get? a = some { cls := .type "list", data := .seq #[.ref c, .int k.1 u, .int k.2 v] n }
/-- a code object of the name c -/
def CodeQ (oc : Obj) (c : Str) : Prop := ∃ (vs : Array Value) (t : Tok), oc.data = .fields vs ∧ vs[1]? = some (.str c t)
abbrev ho1 (o : Obj) : HO := .frz o (.ext fun _ => True)
/-- the table of code objects at P: each one it tells is known, and bears the name c -/
def TabF (H : Hp) (P : Addr) (c : Str) : Prop := ∃ ps : Array Value, H P = some (.tbl ps) ∧ TriplesOk ps.toList ∧ ∀ (pos : Pos) (cv : Value), codeAmong pos ps.toList = some cv → ∃ (a : Addr) (oc : Obj), cv = .ref a ∧ H a = some (ho1 oc) ∧ CodeQ oc c
def TabsF (T : List (Addr × Str)) (H : Hp) : Prop := ∀ p ∈ T, TabF H p.1 p.2
theorem TabsF.nil {H : Hp} : TabsF [] H := fun _ h => nomatch h
theorem TabsF.ext {T : List (Addr × Str)} {H H' : Hp} (t : TabsF T H) (e : ∀ b ps, H b = some (.tbl ps) → H' b = some (.tbl ps)) (e2 : ∀ b oc, H b = some (ho1 oc) → H' b = some (ho1 oc)) : TabsF T H' := fun p hp => by
  obtain ⟨ps, h1, h2, h3⟩ := t p hp
  refine ⟨ps, e _ _ h1, h2, fun pos cv hc => ?_⟩
  obtain ⟨a, oc, e3, e4, e5⟩ := h3 pos cv hc
  exact ⟨a, oc, e3, e2 _ _ e4, e5⟩
theorem TabsF.same {T : List (Addr × Str)} {H H' : Hp} (t : TabsF T H) (e : Same H H') : TabsF T H' := t.ext (fun _ _ h => e _ _ h) fun _ _ h => e _ _ h
/-- something else is written -/
def Mtb : HO → Prop
  | .ext _ => True
  | .lst _ => True
  | _ => False
theorem TabsF.upd {T : List (Addr × Str)} {H : Hp} {p : Addr} {o0 : HO} (t : TabsF T H) (e : H p = some o0) (m : Mtb o0) (o : HO) : TabsF T (upd H p o) := by
  refine t.ext (fun b ps h => ?_) fun b oc h => ?_
  · rw [upd_ne (fun z => by subst z; rw [e] at h; cases h; exact m)]; exact h
  · rw [upd_ne (fun z => by subst z; rw [e] at h; cases h; exact m)]; exact h
def Drm (o : Option (Addr × List Int)) (n : Sd) (H : Hp) : Prop :=
  match o with
  | none => True
  | some z => ∃ (c : Addr), H z.1 = some (DrO z.1 c n) ∧ H c = some (.lst (z.2.map V.int))
def Dr (K : PySem.W.Frag) (q : Dq) (n : Sd) (H : Hp) : Prop := Drm q.o n H ∧ TabsF q.T H
/-- stays; a table of code objects may grow -/
def StO : HO → Option HO → Prop
  | .tbl _, x => ∃ ps, x = some (.tbl ps)
  | o, x => x = some o
theorem StO.of {o : HO} {x : Option HO} (h : x = some o) : StO o x := by cases o <;> first | exact h | exact ⟨_, h⟩
theorem StO.no {o : HO} (h : StO o none) : False := by cases o <;> first | (cases h; done) | (obtain ⟨_, h⟩ := h; cases h)
theorem StO.eq {o : HO} {x : Option HO} (h : StO o x) (n : NE o) : x = some o := by cases o <;> first | exact h | exact n.elim
/-- all but what draws stays -/
def Fr (q : Dq) (H H' : Hp) : Prop := ∀ b o, H b = some o → some b ≠ qa q → StO o (H' b)
theorem Fr.refl {q : Dq} (H : Hp) : Fr q H H := fun _ _ e _ => .of e
theorem Fr.trans {q : Dq} {H H1 H2 : Hp} (a : Fr q H H1) (b : Fr q H1 H2) : Fr q H H2 := fun c o e n => by
  have h := a c o e n
  cases o <;> first | exact b c _ h n | skip
  obtain ⟨ps, h⟩ := h
  have k := b c _ h n
  exact k
theorem Fr.of_same {q : Dq} {H H' : Hp} (a : Same H H') : Fr q H H' := fun c o e _ => .of (a c o e)
theorem Fr.x {K : PySem.W.Frag} {q : Dq} {n : Sd} {H H' : Hp} (a : Fr q H H') (d : Dr K q n H) : FrX H H' := fun b o e ne => by
  obtain ⟨qo, T⟩ := q
  cases qo with
  | none => exact (a b o e (fun z => nomatch z)).eq ne
  | some z =>
    obtain ⟨⟨c, e1, _⟩, _⟩ := d
    refine (a b o e (fun w => ?_)).eq ne
    have w' : b = z.1 := Option.some.inj w
    subst w'
    have e1 : H z.1 = some (DrO z.1 c n) := e1
    rw [e1] at e
    cases e
    exact ne
theorem Dr.same {K : PySem.W.Frag} {q : Dq} {n : Sd} {H H' : Hp} (a : Same H H') (d : Dr K q n H) : Dr K q n H' := by
  obtain ⟨qo, T⟩ := q
  refine ⟨?_, d.2.same a⟩
  cases qo with
  | none => exact True.intro
  | some z =>
    obtain ⟨⟨c, e1, e2⟩, _⟩ := d
    exact ⟨c, a _ _ e1, a _ _ e2⟩
theorem dr_not {K : PySem.W.Frag} {q : Dq} {n : Sd} {H : Hp} {A : Addr} (d : Dr K q n H) (h : H A = none) : some A ≠ qa q := fun z => by
  obtain ⟨qo, T⟩ := q
  cases qo with
  | none => cases z
  | some y =>
    obtain ⟨⟨c, e, _⟩, _⟩ := d
    have e : H y.1 = some (DrO y.1 c n) := e
    have w : A = y.1 := Option.some.inj z
    rw [← w, h] at e
    cases e
theorem dr_mut {K : PySem.W.Frag} {q : Dq} {n : Sd} {H : Hp} {p : Addr} {vs : List V} (d : Dr K q n H) (e : H p = some (MutL p vs)) (hq : some p ≠ qa q) (o : HO) : Dr K q n (upd H p o) := by
  obtain ⟨qo, T⟩ := q
  refine ⟨?_, d.2.upd e True.intro o⟩
  cases qo with
  | none => exact True.intro
  | some z =>
    obtain ⟨⟨c, e1, e2⟩, _⟩ := d
    have e1 : H z.1 = some (DrO z.1 c n) := e1
    have e2 : H c = some (.lst (z.2.map V.int)) := e2
    exact ⟨c, by rw [upd_ne (fun w => hq (by rw [← w]; rfl))]; exact e1, by rw [upd_ne (fun w => by subst w; rw [e] at e2; cases e2)]; exact e2⟩

/-! ### slots -/
inductive Slot where
  | d (x : D)
  | own (ds : List D)
  | no
abbrev SEnv := List Slot

structure Rel (K : PySem.W.Frag) (q : Dq) (H0 : Hp) (ρ : SEnv) (n : Sd) (σ : L2.St) (H : Hp) : Prop where
  len : ρ.length = σ.length
  d : ∀ (i : Nat) (x : D), ρ[i]? = some (Slot.d x) → ∃ v, σ[i]? = some (some v) ∧ Dt K q H v x
  own : ∀ (i : Nat) (ds : List D), ρ[i]? = some (Slot.own ds) → ∃ p vs, σ[i]? = some (some (V.ref p)) ∧ H p = some (MutL p vs) ∧ H0 p = none ∧ DtAll K q H vs ds
  apart : ∀ (i j : Nat) (ds es : List D) (p : Addr), ρ[i]? = some (Slot.own ds) → ρ[j]? = some (Slot.own es) → σ[i]? = some (some (V.ref p)) → σ[j]? = some (some (V.ref p)) → i = j
  dr : Dr K q n H
  fr : Fr q H0 H
  q0 : ∀ a, qa q = some a → H0 a ≠ none

section
variable {K : PySem.W.Frag} {q : Dq} {H0 H H' : Hp} {ρ : SEnv} {n : Sd} {σ : L2.St}
/-- behind a call: all but what draws stayed -/
theorem Rel.up {n' : Sd} (R : Rel K q H0 ρ n σ H) (f : Fr q H H') (dr : Dr K q n' H') : Rel K q H0 ρ n' σ H' := by
  have fx := f.x R.dr
  refine ⟨R.len, fun i x e => ?_, fun i ds e => ?_, R.apart, dr, R.fr.trans f, R.q0⟩
  · obtain ⟨v, e1, h⟩ := R.d i x e
    exact ⟨v, e1, h.up fx⟩
  · obtain ⟨p, vs, e1, e2, e3, h⟩ := R.own i ds e
    refine ⟨p, vs, e1, f p _ e2 (fun z => ?_), e3, h.up fx⟩
    exact R.q0 p z.symm e3
theorem Rel.same (R : Rel K q H0 ρ n σ H) (f : Same H H') : Rel K q H0 ρ n σ H' := R.up (.of_same f) (R.dr.same f)
/-- a slot takes data -/
theorem Rel.set {i : Nat} {v : V} {x : D} (R : Rel K q H0 ρ n σ H) (h : Dt K q H v x) (hi : i < σ.length) : Rel K q H0 (ρ.set i (.d x)) n (σ.set i (some v)) H := by
  have hl := R.len
  refine ⟨by simp [hl], fun j y e => ?_, fun j ds e => ?_, fun j k ds es p e1 e2 e3 e4 => ?_, R.dr, R.fr, R.q0⟩
  · by_cases hj : i = j
    · subst hj
      rw [List.getElem?_set_self (by omega)] at e
      cases e
      exact ⟨v, List.getElem?_set_self hi, h⟩
    · rw [List.getElem?_set_ne hj] at e ⊢
      exact R.d j y e
  · by_cases hj : i = j
    · subst hj
      rw [List.getElem?_set_self (by omega)] at e
      cases e
    · rw [List.getElem?_set_ne hj] at e ⊢
      exact R.own j ds e
  · have nj : i ≠ j := fun z => by subst z; rw [List.getElem?_set_self (by omega)] at e1; cases e1
    have nk : i ≠ k := fun z => by subst z; rw [List.getElem?_set_self (by omega)] at e2; cases e2
    rw [List.getElem?_set_ne nj] at e1 e3
    rw [List.getElem?_set_ne nk] at e2 e4
    exact R.apart j k ds es p e1 e2 e3 e4
end

/-! ### ghost steps: a tracked list is hidden, or shown again -/
section
variable {X : Cx} {pins : List (Addr × Obj)} {σ : L2.St} {H : Hp} {s : Shared} {p : Addr} {vs : List V}
theorem inv_hide (I : Inv X pins σ H s) (e : H p = some (.lst vs)) : Inv X pins σ (upd H p (MutL p vs)) s := by
  obtain ⟨z, its, n, r, g⟩ := (show ObjOk X.prog X.w H s.heap p (.lst vs) from I.hok p _ e)
  refine Inv.write (h' := s.heap) (t' := s.toks) (x := p) (e := p) I (by rw [e]; exact True.intro) (.inl rfl) (fun b u _ h => h) ⟨_, g⟩ ?_
  exact ⟨⟨z, its, n, r, g⟩, ⟨_, g⟩, fun h1 h2 ⟨z, its, n, r, g1⟩ k => ⟨z, its, n, r, k _ g1⟩⟩
theorem inv_show (I : Inv X pins σ H s) (e : H p = some (MutL p vs)) : Inv X pins σ (upd H p (.lst vs)) s := by
  obtain ⟨⟨z, its, n, r, g⟩, _, _⟩ := (show ObjOk X.prog X.w H s.heap p (MutL p vs) from I.hok p _ e)
  exact Inv.write (h' := s.heap) (t' := s.toks) (x := p) (e := p) I (by rw [e]; exact True.intro) (.inl rfl) (fun b u _ h => h) ⟨_, g⟩ ⟨z, its, n, r, g⟩
end

/-! ### readings over data -/
abbrev QD := D → Sd → Prop
abbrev QE := Er → Sd → Prop
abbrev DT := SEnv → Sd → QD → QE → Prop
abbrev DTT := SEnv → Sd → (Bool → Sd → Prop) → QE → Prop
abbrev DTA := SEnv → Sd → (List D → Sd → Prop) → QE → Prop
structure EndsD where
  nx : SEnv → Sd → Prop
  rt : QD
  bk : SEnv → Sd → Prop := fun _ _ => False
  ct : SEnv → Sd → Prop := fun _ _ => False
  ex : QE := fun _ _ => False
abbrev DS := EndsD → SEnv → Sd → Prop
abbrev DG := D → SEnv → Sd → (SEnv → Sd → Prop) → Prop

/-- an own error lies there: its class, its own dict -/
def ErAt (K : PySem.W.Frag) (q : Dq) (H : Hp) (cls : Value) (od : Option Addr) (r : Er) : Prop :=
  (∃ ca, Cls K r.cls ca ∧ cls = .ref ca) ∧ ∃ d vs, od = some d ∧ H d = some (.xd vs) ∧ DtFs K q H vs r.fs
/-- what is wanted of an error is met -/
def ErOk (K : PySem.W.Frag) (q : Dq) (H0 : Hp) (F : QE) (E : XK) : Prop :=
  ∀ r n cls od H', ErAt K q H' cls od r → Fr q H0 H' → Dr K q n H' → F r n → E cls od H'

section
variable (K : PySem.W.Frag) (q : Dq) (H0 : Hp) (E : XK)
def dTE (t : DT) : TE := fun σ H Q => ∃ ρ n Q0 F, Rel K q H0 ρ n σ H ∧ t ρ n Q0 F ∧
  (∀ v H' d n', Dt K q H' v d → Fr q H H' → Rel K q H0 ρ n' σ H' → Q0 d n' → Q v H') ∧ ErOk K q H0 F E
def dTT (t : DTT) : TT := fun σ H Q => ∃ ρ n Q0 F, Rel K q H0 ρ n σ H ∧ t ρ n Q0 F ∧
  (∀ b H' n', Fr q H H' → Rel K q H0 ρ n' σ H' → Q0 b n' → Q b H') ∧ ErOk K q H0 F E
def dTA (t : DTA) : TA := fun σ H Q => ∃ ρ n Q0 F, Rel K q H0 ρ n σ H ∧ t ρ n Q0 F ∧
  (∀ vs H' ds n', DtAll K q H' vs ds → Fr q H H' → Rel K q H0 ρ n' σ H' → Q0 ds n' → Q vs H') ∧ ErOk K q H0 F E
def dTS (t : DS) : TS := fun D σ H => ∃ (ρ : SEnv) (n : Sd) (G : EndsD), Rel K q H0 ρ n σ H ∧ t G ρ n ∧
  (∀ σ' H' ρ' n', FrX H H' → Rel K q H0 ρ' n' σ' H' → G.nx ρ' n' → D.nx σ' H') ∧
  (∀ v H' d n', Dt K q H' v d → FrX H H' → Fr q H0 H' → Dr K q n' H' → G.rt d n' → D.rt v H') ∧
  (∀ σ' H' ρ' n', FrX H H' → Rel K q H0 ρ' n' σ' H' → G.bk ρ' n' → D.bk σ' H') ∧
  (∀ σ' H' ρ' n', FrX H H' → Rel K q H0 ρ' n' σ' H' → G.ct ρ' n' → D.ct σ' H') ∧ ErOk K q H0 G.ex E
/-- a target that stores into the slots ow alone -/
def dTG (ow : List Nat) (g : DG) : TG := fun v σ H Q => ∃ ρ n d R, Rel K q H0 ρ n σ H ∧ Dt K q H v d ∧ g d ρ n R ∧
  ∀ σ' H' ρ' n', FrX H H' → Same H H' → Rel K q H0 ρ' n' σ' H' → σ'.length = σ.length → (∀ j, j ∉ ow → σ'[j]? = σ[j]?) → R ρ' n' → Q σ' H'
end

section
variable (X : Cx) (q : Dq) (H0 : Hp) (E : XK)
structure DE (e : Expr) (t : DT) : Prop where
  pe : PE X e (dTE X.K q H0 E t)
structure DTe (e : Expr) (t : DTT) : Prop where
  pt : PT X e (dTT X.K q H0 E t)
structure DWe (e : Expr) (t : DTT) : Prop where
  pw : PW X e (dTT X.K q H0 E t)
structure DA (es : List Expr) (t : DTA) : Prop where
  pa : PA X es (dTA X.K q H0 E t)
structure DSt (st : Stmt) (t : DS) : Prop where
  ps : PS X st (dTS X.K q H0 E t)
structure DSs (sts : List Stmt) (t : DS) : Prop where
  pss : PSs X sts (dTS X.K q H0 E t)
structure DGt (ow : List Nat) (tg : Expr) (g : DG) : Prop where
  pg : PG X tg (dTG X.K q H0 ow g)
end

theorem _root_.L2.PE.imp {X : Cx} {e : Expr} {t t' : TE} (h : PE X e t) (i : ∀ σ H Q, t' σ H Q → t σ H Q) : PE X e t' := ⟨fun pins s σ H Q I hw => h.run pins s σ H Q I (i σ H Q hw)⟩
theorem _root_.L2.PT.imp {X : Cx} {e : Expr} {t t' : TT} (h : PT X e t) (i : ∀ σ H Q, t' σ H Q → t σ H Q) : PT X e t' := ⟨fun pins s σ H Q I hw => h.run pins s σ H Q I (i σ H Q hw)⟩
theorem _root_.L2.PW.imp {X : Cx} {e : Expr} {t t' : TT} (h : PW X e t) (i : ∀ σ H Q, t' σ H Q → t σ H Q) : PW X e t' := ⟨fun wh pins s σ H Q I hw => h.run wh pins s σ H Q I (i σ H Q hw)⟩
theorem _root_.L2.PA.imp {X : Cx} {e : List Expr} {t t' : TA} (h : PA X e t) (i : ∀ σ H Q, t' σ H Q → t σ H Q) : PA X e t' := ⟨fun pos pins s σ H Q I hw => h.run pos pins s σ H Q I (i σ H Q hw)⟩
theorem _root_.L2.PS.imp {X : Cx} {e : Stmt} {t t' : TS} (h : PS X e t) (i : ∀ D σ H, t' D σ H → t D σ H) : PS X e t' := ⟨fun pins s σ H D I hw => h.run pins s σ H D I (i D σ H hw)⟩
theorem _root_.L2.PSs.imp {X : Cx} {e : List Stmt} {t t' : TS} (h : PSs X e t) (i : ∀ D σ H, t' D σ H → t D σ H) : PSs X e t' := ⟨fun pins s σ H D I hw => h.run pins s σ H D I (i D σ H hw)⟩
theorem _root_.L2.PG.imp {X : Cx} {e : Expr} {t t' : TG} (h : PG X e t) (i : ∀ v σ H Q, t' v σ H Q → t v σ H Q) : PG X e t' := ⟨fun pins s σ H v u Q I r hw => h.run pins s σ H v u Q I r (i v σ H Q hw)⟩
end DL
/-! T3: the rules over data: expressions. -/
namespace DL
open PySem PySem.Spec L2

/-! ### data as the library's data -/
mutual
def D.py : D → PyData
  | .non => .none
  | .bl b => .bool b
  | .int i => .int i
  | .str x => .str x
  | .lst xs => .list (D.pys xs)
  | .tup xs => .tuple (D.pys xs)
  | .dct kvs => .dict (D.pyk kvs)
  | .drum _ => .none
  | .scr _ => .none
  | .ob _ _ => .none
def D.pys : List D → List PyData
  | [] => []
  | x :: xs => x.py :: D.pys xs
def D.pyk : List (Key × D) → List (PyData × PyData)
  | [] => []
  | (.inl i, x) :: xs => (.int i, x.py) :: D.pyk xs
  | (.inr s, x) :: xs => (.str s, x.py) :: D.pyk xs
end
mutual
/-- plain data without dicts: None, truths, ints, texts, lists, tuples -/
def D.plain : D → Bool
  | .non | .bl _ | .int _ | .str _ => true
  | .lst xs | .tup xs => D.plains xs
  | _ => false
def D.plains : List D → Bool
  | [] => true
  | x :: xs => x.plain && D.plains xs
end
mutual
theorem Dt.dp {K : PySem.W.Frag} {q : Dq} {H : Hp} : ∀ {v : V} {d : D}, Dt K q H v d → d.plain = true → Dp K H v d.py
  | _, _, .non, _ => .non
  | _, _, .bl b, _ => .bl b
  | _, _, .int b, _ => .int b
  | _, _, .str b, _ => .str b
  | _, _, .lst h a, p => .lst (.inl (.inl h)) (a.dp (by simpa [D.plain] using p))
  | _, _, .tup h a, p => .tup h (a.dp (by simpa [D.plain] using p))
  | _, _, .dct _ _, p => by simp [D.plain] at p
  | _, _, .drum _, p => by simp [D.plain] at p
  | _, _, .scr _, p => by simp [D.plain] at p
  | _, _, .ob _ _ _, p => by simp [D.plain] at p
theorem DtAll.dp {K : PySem.W.Frag} {q : Dq} {H : Hp} : ∀ {vs : List V} {ds : List D}, DtAll K q H vs ds → D.plains ds = true → DpAll K H vs (D.pys ds)
  | _, _, .nil, _ => .nil
  | _, _, .cons h t, p => by
    simp only [D.plains, Bool.and_eq_true] at p
    exact .cons (h.dp p.1) (t.dp p.2)
end

/-! ### combinators -/
def dVar (i : Nat) : DT := fun ρ n Q _ => ∃ x, ρ[i]? = some (Slot.d x) ∧ Q x n
def dC (x : D) : DT := fun _ n Q _ => Q x n
def dBin (od : D → D → (D → Prop) → Prop) (ta tb : DT) : DT := fun ρ n Q F => ta ρ n (fun x n1 => tb ρ n1 (fun y n2 => od x y (fun z => Q z n2)) F) F
def dUn (od : D → (D → Prop) → Prop) (ta : DT) : DT := fun ρ n Q F => ta ρ n (fun x n1 => od x (fun z => Q z n1)) F
def dAndV (ta tb : DT) : DT := fun ρ n Q F => ta ρ n (fun x n1 => ∃ c, x = .bl c ∧ if c = true then tb ρ n1 Q F else Q (.bl false) n1) F
def dOrV (ta tb : DT) : DT := fun ρ n Q F => ta ρ n (fun x n1 => ∃ c, x = .bl c ∧ if c = true then Q (.bl true) n1 else tb ρ n1 Q F) F
def dNotV (ta : DT) : DT := fun ρ n Q F => ta ρ n (fun x n1 => ∃ c, x = .bl c ∧ Q (.bl (!c)) n1) F
def dIf (tc : DTT) (ta tb : DT) : DT := fun ρ n Q F => tc ρ n (fun c n1 => if c = true then ta ρ n1 Q F else tb ρ n1 Q F) F
def dVal (ta : DT) : DTT := fun ρ n Q F => ta ρ n (fun x n1 => ∃ c, x = .bl c ∧ Q c n1) F
def dAndT (ta tb : DTT) : DTT := fun ρ n Q F => ta ρ n (fun c n1 => if c = true then tb ρ n1 Q F else Q false n1) F
def dOrT (ta tb : DTT) : DTT := fun ρ n Q F => ta ρ n (fun c n1 => if c = true then Q true n1 else tb ρ n1 Q F) F
def dNotT (ta : DTT) : DTT := fun ρ n Q F => ta ρ n (fun c n1 => Q (!c) n1) F
def dNil : DTA := fun _ n Q _ => Q [] n
def dCons (ta : DT) (tr : DTA) : DTA := fun ρ n Q F => ta ρ n (fun x n1 => tr ρ n1 (fun xs n2 => Q (x :: xs) n2) F) F
def dTupE (ts : DTA) : DT := fun ρ n Q F => ts ρ n (fun xs n1 => xs.length ≤ sizeLine ∧ Q (.tup xs) n1) F
def dLstE (ts : DTA) : DT := fun ρ n Q F => ts ρ n (fun xs n1 => xs.length ≤ sizeLine ∧ Q (.lst xs) n1) F

section
variable {X : Cx} {q : Dq} {H0 : Hp} {E : XK} {e a b : Expr} {es : List Expr} {t ta tb : DT} {tt tu : DTT} {ts : DTA} {pos : Pos}

theorem dTE_mk {K : PySem.W.Frag} {ρ : SEnv} {n : Sd} {σ : L2.St} {H : Hp} {Q : VK} {Q0 : QD} {F : QE} (R : Rel K q H0 ρ n σ H) (h : t ρ n Q0 F) (c : ∀ v H' d n', Dt K q H' v d → Fr q H H' → Rel K q H0 ρ n' σ H' → Q0 d n' → Q v H') (o : ErOk K q H0 F E) : dTE K q H0 E t σ H Q := ⟨ρ, n, Q0, F, R, h, c, o⟩
theorem dTT_mk {K : PySem.W.Frag} {ρ : SEnv} {n : Sd} {σ : L2.St} {H : Hp} {Q : Bool → Hp → Prop} {Q0 : Bool → Sd → Prop} {F : QE} (R : Rel K q H0 ρ n σ H) (h : tt ρ n Q0 F) (c : ∀ b H' n', Fr q H H' → Rel K q H0 ρ n' σ H' → Q0 b n' → Q b H') (o : ErOk K q H0 F E) : dTT K q H0 E tt σ H Q := ⟨ρ, n, Q0, F, R, h, c, o⟩
theorem dTA_mk {K : PySem.W.Frag} {ρ : SEnv} {n : Sd} {σ : L2.St} {H : Hp} {Q : List V → Hp → Prop} {Q0 : List D → Sd → Prop} {F : QE} (R : Rel K q H0 ρ n σ H) (h : ts ρ n Q0 F) (c : ∀ vs H' ds n', DtAll K q H' vs ds → Fr q H H' → Rel K q H0 ρ n' σ H' → Q0 ds n' → Q vs H') (o : ErOk K q H0 F E) : dTA K q H0 E ts σ H Q := ⟨ρ, n, Q0, F, R, h, c, o⟩

theorem de_var (i : Nat) {x : Str} (hN : X.N[i]? = some x := by rfl) (hv : Vis X.env.scope x := by first | exact Or.inl rfl | exact Or.inr (Or.inl rfl) | exact Or.inr (Or.inr rfl)) (hd : (x == ("__debug__" : Str)) = false := by decide)
    (hcd : (x == ("__classdict__" : Str)) = false := by decide) : DE X q H0 E (.Name x pos) (dVar i) :=
  ⟨(pe_var hN hv hd hcd).imp fun σ H Q ⟨ρ, n, Q0, F, R, ⟨x, e1, h⟩, c, _⟩ => by
    obtain ⟨v, e2, d⟩ := R.d i x e1
    exact ⟨v, e2, c v H x n d (.refl _) R h⟩⟩
theorem de_int {i j} : DE X q H0 E (.Constant (.int i) j pos) (dC (.int i)) := ⟨pe_int.imp fun σ H Q ⟨ρ, n, Q0, F, R, h, c, _⟩ => c _ H _ n (.int i) (.refl _) R h⟩
theorem de_bl {i j} : DE X q H0 E (.Constant (.bool i) j pos) (dC (.bl i)) := ⟨pe_bl.imp fun σ H Q ⟨ρ, n, Q0, F, R, h, c, _⟩ => c _ H _ n (.bl i) (.refl _) R h⟩
theorem de_non {j} : DE X q H0 E (.Constant .none j pos) (dC .non) := ⟨pe_non.imp fun σ H Q ⟨ρ, n, Q0, F, R, h, c, _⟩ => c _ H _ n .non (.refl _) R h⟩
theorem de_str {i j} : DE X q H0 E (.Constant (.str i) j pos) (dC (.str i)) := ⟨pe_str.imp fun σ H Q ⟨ρ, n, Q0, F, R, h, c, _⟩ => c _ H _ n (.str i) (.refl _) R h⟩
/-- a constant of the module's top, whose data is known of the written part -/
theorem de_glob {x : Str} {v : V} {u : Value} {d : D} (hg : Gl X x) (hm : X.mg x = some u) (r : RelV v u) (hd : ∀ H, Dt X.K q H v d) (hdb : (x == ("__debug__" : Str)) = false := by decide) : DE X q H0 E (.Name x pos) (dC d) :=
  ⟨(pe_glob hg hm r hdb).imp fun σ H Q ⟨ρ, n, Q0, F, R, h, c, _⟩ => c _ H _ n (hd H) (.refl _) R h⟩

/-- two expressions, then an operation on their values -/
theorem dBin_core {K : PySem.W.Frag} {od : D → D → (D → Prop) → Prop} {r : R2} (ho : ∀ H x y dx dy (Q0 : D → Prop) (Q : VK), Dt K q H x dx → Dt K q H y dy → od dx dy Q0 → (∀ v H' d, Dt K q H' v d → Same H H' → Q0 d → Q v H') → r x y H Q)
    {σ : L2.St} {H : Hp} {Q : VK} (h : dTE K q H0 E (dBin od ta tb) σ H Q) : tOp r (dTE K q H0 E ta) (dTE K q H0 E tb) σ H Q := by
  obtain ⟨ρ, n, Q0, F, R, h, c, o⟩ := h
  refine dTE_mk R h (fun x H1 dx n1 hx f1 R1 h1 => ?_) o
  refine dTE_mk R1 h1 (fun y H2 dy n2 hy f2 R2 h2 => ?_) o
  exact ho H2 x y dx dy _ _ (hx.up (f2.x R1.dr)) hy h2 fun v H' d hd hs hq => c v H' d n2 hd ((f1.trans f2).trans (.of_same hs)) (R2.same hs) hq

structure OpD (X : Cx) (q : Dq) (f : Value → Value → Sem Value) (od : D → D → (D → Prop) → Prop) : Prop where
  ex : ∃ r : R2, OpR X f r ∧ ∀ H x y dx dy (Q0 : D → Prop) (Q : VK), Dt X.K q H x dx → Dt X.K q H y dy → od dx dy Q0 → (∀ v H' d, Dt X.K q H' v d → Same H H' → Q0 d → Q v H') → r x y H Q
theorem OpD.or {f : Value → Value → Sem Value} {o o' od : D → D → (D → Prop) → Prop} (h : OpD X q f o) (h' : OpD X q f o') (i : ∀ x y Q, od x y Q → o x y Q ∨ o' x y Q) : OpD X q f od := by
  obtain ⟨r, p, k⟩ := h.ex
  obtain ⟨r', p', k'⟩ := h'.ex
  refine ⟨_, p.or p', fun H x y dx dy Q0 Q hx hy ho c => ?_⟩
  rcases i _ _ _ ho with z | z
  · exact .inl (k H x y dx dy Q0 Q hx hy z c)
  · exact .inr (k' H x y dx dy Q0 Q hx hy z c)
theorem de_bin {op : Operator} {od : D → D → (D → Prop) → Prop} (ho : OpD X q (binaryOp op) od) (ha : DE X q H0 E a ta) (hb : DE X q H0 E b tb) : DE X q H0 E (.BinOp a op b pos) (dBin od ta tb) := by
  obtain ⟨r, p, k⟩ := ho.ex
  exact ⟨(pe_op p ha.pe hb.pe).imp fun σ H Q h => dBin_core k h⟩
theorem de_cmp {op : CmpOp} {od : D → D → (D → Prop) → Prop} (ho : OpD X q (compareOp op) od) (ha : DE X q H0 E a ta) (hb : DE X q H0 E b tb) (hm : behindInMarks op b = false := by first | exact nomark _ | rfl) : DE X q H0 E (.Compare a [op] [b] pos) (dBin od ta tb) := by
  obtain ⟨r, p, k⟩ := ho.ex
  exact ⟨(pe_cmpR p ha.pe hb.pe hm).imp fun σ H Q h => dBin_core k h⟩
/-- xs[i] -/
theorem de_ix {od : D → D → (D → Prop) → Prop} {r : R2} (p : IxR X r) (k : ∀ H x y dx dy (Q0 : D → Prop) (Q : VK), Dt X.K q H x dx → Dt X.K q H y dy → od dx dy Q0 → (∀ v H' d, Dt X.K q H' v d → Same H H' → Q0 d → Q v H') → r x y H Q)
    (ha : DE X q H0 E a ta) (hb : DE X q H0 E b tb) (hs : PlainIx b) : DE X q H0 E (.Subscript a b pos) (dBin od ta tb) :=
  ⟨(pe_ix p ha.pe hb.pe hs).imp fun σ H Q h => dBin_core k h⟩

structure UnD (X : Cx) (q : Dq) (f : Value → Sem Value) (od : D → (D → Prop) → Prop) : Prop where
  ex : ∃ r, UnR X f r ∧ ∀ H x dx (Q0 : D → Prop) (Q : VK), Dt X.K q H x dx → od dx Q0 → (∀ v H' d, Dt X.K q H' v d → Same H H' → Q0 d → Q v H') → r x H Q
theorem de_un {op : UnaryOp} {od : D → (D → Prop) → Prop} (ho : UnD X q (unaryOp op) od) (ha : DE X q H0 E a ta) : DE X q H0 E (.UnaryOp op a pos) (dUn od ta) := by
  obtain ⟨r, p, k⟩ := ho.ex
  refine ⟨(pe_un p ha.pe).imp fun σ H Q ⟨ρ, n, Q0, F, R, h, c, o⟩ => ?_⟩
  refine dTE_mk R h (fun x H1 dx n1 hx f1 R1 h1 => ?_) o
  exact k H1 x dx _ _ hx h1 fun v H' d hd hs hq => c v H' d n1 hd (f1.trans (.of_same hs)) (R1.same hs) hq
def oNeg : D → (D → Prop) → Prop
  | .int i, Q => Q (.int (-i))
  | _, _ => False
theorem un_negD : UnD X q (unaryOp .USub) oNeg := ⟨_, un_neg, fun H x dx Q0 Q hx h c => by
  cases hx <;> simp only [oNeg] at h
  exact ⟨_, rfl, c _ H _ (.int _) (.refl _) h⟩⟩

/-! tests -/
theorem de_and {rest : List Expr} (ha : DE X q H0 E a ta) (hb : DE X q H0 E (.BoolOp .And (b :: rest) pos) tb) : DE X q H0 E (.BoolOp .And (a :: b :: rest) pos) (dAndV ta tb) := by
  refine ⟨(pe_and ha.pe hb.pe).imp fun σ H Q ⟨ρ, n, Q0, F, R, h, c, o⟩ => ?_⟩
  refine dTE_mk R h (fun x H1 dx n1 hx f1 R1 ⟨k, e, h1⟩ => ?_) o
  subst e
  cases hx
  refine ⟨k, rfl, ?_⟩
  cases k with
  | true => exact dTE_mk R1 h1 (fun v H' d n' hd f2 R2 hq => c v H' d n' hd (f1.trans f2) R2 hq) o
  | false => exact c _ H1 _ n1 (.bl false) f1 R1 h1
theorem de_or {rest : List Expr} (ha : DE X q H0 E a ta) (hb : DE X q H0 E (.BoolOp .Or (b :: rest) pos) tb) : DE X q H0 E (.BoolOp .Or (a :: b :: rest) pos) (dOrV ta tb) := by
  refine ⟨(pe_or ha.pe hb.pe).imp fun σ H Q ⟨ρ, n, Q0, F, R, h, c, o⟩ => ?_⟩
  refine dTE_mk R h (fun x H1 dx n1 hx f1 R1 ⟨k, e, h1⟩ => ?_) o
  subst e
  cases hx
  refine ⟨k, rfl, ?_⟩
  cases k with
  | true => exact c _ H1 _ n1 (.bl true) f1 R1 h1
  | false => exact dTE_mk R1 h1 (fun v H' d n' hd f2 R2 hq => c v H' d n' hd (f1.trans f2) R2 hq) o
theorem de_one {op} (h : DE X q H0 E a ta) : DE X q H0 E (.BoolOp op [a] pos) ta := ⟨pe_one h.pe⟩
theorem de_not (ha : DE X q H0 E a ta) : DE X q H0 E (.UnaryOp .Not a pos) (dNotV ta) := by
  refine ⟨(pe_not ha.pe).imp fun σ H Q ⟨ρ, n, Q0, F, R, h, c, o⟩ => ?_⟩
  refine dTE_mk R h (fun x H1 dx n1 hx f1 R1 ⟨k, e, h1⟩ => ?_) o
  subst e
  cases hx
  exact ⟨k, rfl, c _ H1 _ n1 (.bl _) f1 R1 h1⟩
theorem dt_val (ha : DE X q H0 E a ta) (he : ∀ whole, isTrue a X.env whole = (do let v ← whole; standAt a.pos; holding [v] (truthy v)) := by intro _; rfl) : DTe X q H0 E a (dVal ta) := by
  refine ⟨(pt_val ha.pe he).imp fun σ H Q ⟨ρ, n, Q0, F, R, h, c, o⟩ => ?_⟩
  refine dTE_mk R h (fun x H1 dx n1 hx f1 R1 ⟨k, e, h1⟩ => ?_) o
  subst e
  cases hx
  exact ⟨k, rfl, c _ H1 n1 f1 R1 h1⟩
theorem dt_cmp {op : CmpOp} {od : D → D → (D → Prop) → Prop} (ho : OpD X q (compareOp op) od) (ha : DE X q H0 E a ta) (hb : DE X q H0 E b tb) (hm : behindInMarks op b = false := by first | exact nomark _ | rfl) : DTe X q H0 E (.Compare a [op] [b] pos) (dVal (dBin od ta tb)) := by
  obtain ⟨r, p, k⟩ := ho.ex
  refine ⟨(pt_cmpR p ha.pe hb.pe hm).imp fun σ H Q ⟨ρ, n, Q0, F, R, h, c, o⟩ => ?_⟩
  refine dBin_core k (dTE_mk (t := dBin od ta tb) R h (fun x H1 dx n1 hx f1 R1 ⟨k, e, h1⟩ => ?_) o)
  subst e
  cases hx
  exact ⟨k, rfl, c _ H1 n1 f1 R1 h1⟩
theorem dw_and1 (ha : DTe X q H0 E a tt) : DWe X q H0 E (.BoolOp .And [a] pos) tt := ⟨pw_and1 ha.pt⟩
theorem dw_or1 (ha : DTe X q H0 E a tt) : DWe X q H0 E (.BoolOp .Or [a] pos) tt := ⟨pw_or1 ha.pt⟩
theorem dw_and {rest : List Expr} (ha : DTe X q H0 E a tt) (hb : DWe X q H0 E (.BoolOp .And (b :: rest) pos) tu) : DWe X q H0 E (.BoolOp .And (a :: b :: rest) pos) (dAndT tt tu) := by
  refine ⟨(pw_and ha.pt hb.pw).imp fun σ H Q ⟨ρ, n, Q0, F, R, h, c, o⟩ => ?_⟩
  refine dTT_mk R h (fun k H1 n1 f1 R1 h1 => ?_) o
  cases k with
  | true => exact dTT_mk R1 h1 (fun b H' n' f2 R2 hq => c b H' n' (f1.trans f2) R2 hq) o
  | false => exact c _ H1 n1 f1 R1 h1
theorem dw_or {rest : List Expr} (ha : DTe X q H0 E a tt) (hb : DWe X q H0 E (.BoolOp .Or (b :: rest) pos) tu) : DWe X q H0 E (.BoolOp .Or (a :: b :: rest) pos) (dOrT tt tu) := by
  refine ⟨(pw_or ha.pt hb.pw).imp fun σ H Q ⟨ρ, n, Q0, F, R, h, c, o⟩ => ?_⟩
  refine dTT_mk R h (fun k H1 n1 f1 R1 h1 => ?_) o
  cases k with
  | true => exact c _ H1 n1 f1 R1 h1
  | false => exact dTT_mk R1 h1 (fun b H' n' f2 R2 hq => c b H' n' (f1.trans f2) R2 hq) o
theorem dw_t (h : DWe X q H0 E a tt) : DTe X q H0 E a tt := ⟨h.pw.pt⟩
theorem dt_not (ha : DTe X q H0 E a tt) : DTe X q H0 E (.UnaryOp .Not a pos) (dNotT tt) := by
  refine ⟨(pt_not ha.pt).imp fun σ H Q ⟨ρ, n, Q0, F, R, h, c, o⟩ => ?_⟩
  exact dTT_mk R h (fun k H1 n1 f1 R1 h1 => c _ H1 n1 f1 R1 h1) o
theorem de_if {c : Expr} (hc : DTe X q H0 E c tt) (ha : DE X q H0 E a ta) (hb : DE X q H0 E b tb) : DE X q H0 E (.IfExp c a b pos) (dIf tt ta tb) := by
  refine ⟨(pe_ifExp hc.pt ha.pe hb.pe).imp fun σ H Q ⟨ρ, n, Q0, F, R, h, c, o⟩ => ?_⟩
  refine dTT_mk R h (fun k H1 n1 f1 R1 h1 => ?_) o
  cases k with
  | true => exact dTE_mk R1 h1 (fun v H' d n' hd f2 R2 hq => c v H' d n' hd (f1.trans f2) R2 hq) o
  | false => exact dTE_mk R1 h1 (fun v H' d n' hd f2 R2 hq => c v H' d n' hd (f1.trans f2) R2 hq) o

/-! lists of expressions, displays -/
theorem da_nil : DA X q H0 E [] dNil := ⟨pa_nil.imp fun σ H Q ⟨ρ, n, Q0, F, R, h, c, o⟩ => c [] H [] n .nil (.refl _) R h⟩
theorem da_cons (ha : DE X q H0 E e t) (hr : DA X q H0 E es ts) (hs : starEach (e :: es) X.env = (false, eval e X.env) :: starEach es X.env := by rfl) : DA X q H0 E (e :: es) (dCons t ts) := by
  refine ⟨(pa_cons ha.pe hr.pa hs).imp fun σ H Q ⟨ρ, n, Q0, F, R, h, c, o⟩ => ?_⟩
  refine dTE_mk R h (fun x H1 dx n1 hx f1 R1 h1 => ?_) o
  exact dTA_mk R1 h1 (fun vs H2 ds n2 hds f2 R2 h2 => c (x :: vs) H2 (dx :: ds) n2 (.cons (hx.up (f2.x R1.dr)) hds) (f1.trans f2) R2 h2) o
theorem de_tup {x1} (h : DA X q H0 E es ts) : DE X q H0 E (.Tuple es x1 pos) (dTupE ts) := by
  refine ⟨(pe_tup h.pa).imp fun σ H Q ⟨ρ, n, Q0, F, R, h, c, o⟩ => ?_⟩
  refine dTA_mk R h (fun vs H1 ds n1 hds f1 R1 ⟨z, h1⟩ => ⟨by rw [hds.length]; exact z, fun p hp => ?_⟩) o
  have s := same_upd (o := .tup vs) hp
  exact c _ _ (.tup ds) n1 (.tup (SqT.of upd_same) (hds.up (.of_same s))) (f1.trans (.of_same s)) (R1.same s) h1
theorem de_lst (h : DA X q H0 E es ts) : DE X q H0 E (.List es pos) (dLstE ts) := by
  refine ⟨(pe_lst h.pa).imp fun σ H Q ⟨ρ, n, Q0, F, R, h, c, o⟩ => ?_⟩
  refine dTA_mk R h (fun vs H1 ds n1 hds f1 R1 ⟨z, h1⟩ => ⟨by rw [hds.length]; exact z, fun p hp => ?_⟩) o
  have s := same_upd (o := .lst vs) hp
  exact c _ _ (.lst ds) n1 (.lst upd_same (hds.up (.of_same s))) (f1.trans (.of_same s)) (R1.same s) h1
/-- {} -/
theorem de_dnew : DE X q H0 E (.Dict [] [] pos) (dC (.dct [])) := by
  refine ⟨pe_dnewK.imp fun σ H Q ⟨ρ, n, Q0, F, R, h, c, o⟩ p hp => ?_⟩
  have s := same_upd (o := .dK []) hp
  exact c _ _ (.dct []) n (.dct upd_same .nil) (.of_same s) (R.same s) h
end
end DL
/-! T4: operations on data, calls of the text's own defs, built-in functions. -/
namespace DL
open PySem PySem.Spec L2

/-! ### operators -/
/-- what a product may be -/
abbrev MulOk (i j : Int) : Prop := IntMulOk i j
theorem mulOk_l {i j : Int} (h1 : -(2 ^ 64) < i) (h2 : i < 2 ^ 64) : MulOk i j := CMul.ok (.inl ⟨h1, h2⟩)
theorem mulOk_r {i j : Int} (h1 : -(2 ^ 64) < j) (h2 : j < 2 ^ 64) : MulOk i j := CMul.ok (.inr ⟨h1, h2⟩)
theorem mulOk_w {i j : Int} (a b : Nat) (ha : i.natAbs < 2 ^ a) (hb : j.natAbs < 2 ^ b) (h0 : 0 < a := by decide) (h1 : 0 < b := by decide) (h : a + b ≤ 1000000 := by decide) : MulOk i j := (wide_mul ha hb h0 h1 h).ok
def oAdd : D → D → (D → Prop) → Prop
  | .int i, .int j, Q => Q (.int (i + j))
  | .str x, .str y, Q => x.length + y.length ≤ sizeLine ∧ Q (.str (x ++ y))
  | .tup xs, .tup ys, Q => xs.length + ys.length ≤ sizeLine ∧ Q (.tup (xs ++ ys))
  | .lst xs, .lst ys, Q => xs.length + ys.length ≤ sizeLine ∧ Q (.lst (xs ++ ys))
  | _, _, _ => False
def oSub : D → D → (D → Prop) → Prop
  | .int i, .int j, Q => Q (.int (i - j))
  | _, _, _ => False
def oMul : D → D → (D → Prop) → Prop
  | .int i, .int j, Q => MulOk i j ∧ Q (.int (i * j))
  | _, _, _ => False
def oDiv : D → D → (D → Prop) → Prop
  | .int i, .int j, Q => (j ≠ 0 ∧ j.natAbs.log2 < 9000) ∧ Q (.int (i.fdiv j))
  | _, _, _ => False
def oMod : D → D → (D → Prop) → Prop
  | .int i, .int j, Q => j ≠ 0 ∧ Q (.int (i.fmod j))
  | _, _, _ => False
def oPow : D → D → (D → Prop) → Prop
  | .int i, .int j, Q => (0 ≤ j ∧ j ≤ 1000000 ∧ i.natAbs < 2 ^ 64) ∧ Q (.int (i ^ j.toNat))
  | _, _, _ => False
def oBand : D → D → (D → Prop) → Prop
  | .int i, .int j, Q => Q (.int (Builtin.bitAnd i j))
  | _, _, _ => False
def rMulA : R2 := fun x y H Q => ∃ i j, x = V.int i ∧ y = V.int j ∧ MulOk i j ∧ Q (.int (i * j)) H
def rDivA : R2 := fun x y H Q => ∃ i j : Int, x = V.int i ∧ y = V.int j ∧ (j ≠ 0 ∧ j.natAbs.log2 < 9000) ∧ Q (.int (i.fdiv j)) H
section
variable {X : Cx} {q : Dq} {H0 : Hp} {E : XK}
theorem op_mulA : OpR X (binaryOp .Mult) rMulA := by
  intro pins s σ H x y v u Q I rx ry h
  obtain ⟨i, j, rfl, rfl, z, h⟩ := h
  obtain ⟨t, rfl⟩ := rx
  obtain ⟨t', rfl⟩ := ry
  exact PyProof.Rows.mul_int ⟨.int _, H, I.tok _, ⟨_, rfl⟩, h⟩ z
theorem op_divA : OpR X (binaryOp .FloorDiv) rDivA := by
  intro pins s σ H x y v u Q I rx ry h
  obtain ⟨i, j, rfl, rfl, ⟨z1, z2⟩, h⟩ := h
  obtain ⟨t, rfl⟩ := rx
  obtain ⟨t', rfl⟩ := ry
  exact PyProof.Rows.floordiv_int z1 ⟨.int _, H, I.tok _, ⟨_, rfl⟩, h⟩ (.inl (PyProof.noPylong_of_log2 z2))

theorem od_add : OpD X q (binaryOp .Add) oAdd := by
  refine ⟨_, op_add.or (op_add_str.or (op_catA.or op_cat)), fun H x y dx dy Q0 Q hx hy h c => ?_⟩
  cases hx with
  | int i =>
    cases hy <;> simp only [oAdd] at h
    exact .inl ⟨_, _, rfl, rfl, c _ H _ (.int _) (.refl _) h⟩
  | str i =>
    cases hy <;> simp only [oAdd] at h
    exact .inr (.inl ⟨_, _, rfl, rfl, h.1, c _ H _ (.str _) (.refl _) h.2⟩)
  | @tup a vs ds ha va =>
    cases hy <;> simp only [oAdd] at h
    rename_i b ws es hb vb
    refine .inr (.inr (.inl ⟨a, b, vs, ws, rfl, rfl, ha, hb, by rw [va.length, vb.length]; exact h.1, fun e => ?_, fun _ e => ?_, fun _ _ p hp => ?_⟩))
    · subst e
      cases va
      exact c _ H _ (.tup hb vb) (.refl _) h.2
    · subst e
      cases vb
      have h2 := h.2
      rw [List.append_nil] at h2
      exact c _ H _ (.tup ha va) (.refl _) h2
    · have s := same_upd (o := .tup (vs ++ ws)) hp
      exact c _ _ _ (.tup (SqT.of upd_same) ((va.append vb).up (.of_same s))) s h.2
  | @lst a vs ds ha va =>
    cases hy <;> simp only [oAdd] at h
    rename_i b ws es hb vb
    refine .inr (.inr (.inr ⟨a, b, vs, ws, rfl, rfl, ha, hb, by rw [va.length, vb.length]; exact h.1, fun p hp => ?_⟩))
    have s := same_upd (o := .lst (vs ++ ws)) hp
    exact c _ _ _ (.lst upd_same ((va.append vb).up (.of_same s))) s h.2
  | non => simp only [oAdd] at h
  | bl b => simp only [oAdd] at h
  | dct _ _ => simp only [oAdd] at h
  | drum _ => simp only [oAdd] at h
  | scr _ => simp only [oAdd] at h
  | ob _ _ => simp only [oAdd] at h
theorem od_sub : OpD X q (binaryOp .Sub) oSub := ⟨_, op_sub, fun H x y dx dy Q0 Q hx hy h c => by
  cases hx <;> cases hy <;> simp only [oSub] at h
  exact ⟨_, _, rfl, rfl, c _ H _ (.int _) (.refl _) h⟩⟩
theorem od_mul : OpD X q (binaryOp .Mult) oMul := ⟨_, op_mulA, fun H x y dx dy Q0 Q hx hy h c => by
  cases hx <;> cases hy <;> simp only [oMul] at h
  exact ⟨_, _, rfl, rfl, h.1, c _ H _ (.int _) (.refl _) h.2⟩⟩
theorem od_div : OpD X q (binaryOp .FloorDiv) oDiv := ⟨_, op_divA, fun H x y dx dy Q0 Q hx hy h c => by
  cases hx <;> cases hy <;> simp only [oDiv] at h
  exact ⟨_, _, rfl, rfl, h.1, c _ H _ (.int _) (.refl _) h.2⟩⟩
theorem od_mod : OpD X q (binaryOp .Mod) oMod := ⟨_, op_modN, fun H x y dx dy Q0 Q hx hy h c => by
  cases hx <;> cases hy <;> simp only [oMod] at h
  exact ⟨_, _, rfl, rfl, h.1, c _ H _ (.int _) (.refl _) h.2⟩⟩
theorem od_pow : OpD X q (binaryOp .Pow) oPow := ⟨_, op_pow, fun H x y dx dy Q0 Q hx hy h c => by
  cases hx <;> cases hy <;> simp only [oPow] at h
  exact ⟨_, _, rfl, rfl, h.1, c _ H _ (.int _) (.refl _) h.2⟩⟩
theorem od_band : OpD X q (binaryOp .BitAnd) oBand := ⟨_, op_and, fun H x y dx dy Q0 Q hx hy h c => by
  cases hx <;> cases hy <;> simp only [oBand] at h
  exact ⟨_, _, rfl, rfl, c _ H _ (.int _) (.refl _) h⟩⟩

/-! ### comparisons -/
/-- == of data, as the library has it -/
def D.eq (x y : D) : Bool := PyData.eqv x.py y.py
def D.cmpOk (x : D) : Prop := x.plain = true ∧ SeqAt.shaped x.py = true
def oEq : D → D → (D → Prop) → Prop := fun x y Q => (x.cmpOk ∧ y.cmpOk ∧ Q (.bl (D.eq x y))) ∨ ∃ s t, x = .str s ∧ y = .str t ∧ Q (.bl (decide (s = t)))
def oNe : D → D → (D → Prop) → Prop := fun x y Q => (x.cmpOk ∧ y.cmpOk ∧ Q (.bl (!D.eq x y))) ∨ ∃ s t, x = .str s ∧ y = .str t ∧ Q (.bl (!decide (s = t)))
theorem dec_strV (s t : Str) : decide (V.str s = V.str t) = decide (s = t) := by simp
theorem od_eq {k : Nat} (hr : Room k X.A) : OpD X q (compareOp .Eq) oEq := ⟨_, (op_eqD hr.units).or op_eq, fun H x y dx dy Q0 Q hx hy h c => by
  rcases h with h | ⟨s, t, rfl, rfl, h⟩
  · exact .inl ⟨dx.py, dy.py, hx.dp h.1.1, hy.dp h.2.1.1, h.1.2, h.2.1.2, c _ H _ (.bl _) (.refl _) h.2.2⟩
  · cases hx
    cases hy
    exact .inr ⟨rfl, c _ H _ (by rw [dec_strV]; exact .bl _) (.refl _) h⟩⟩
theorem od_ne {k : Nat} (hr : Room k X.A) : OpD X q (compareOp .NotEq) oNe := ⟨_, (op_neD hr.units).or op_ne, fun H x y dx dy Q0 Q hx hy h c => by
  rcases h with h | ⟨s, t, rfl, rfl, h⟩
  · exact .inl ⟨dx.py, dy.py, hx.dp h.1.1, hy.dp h.2.1.1, h.1.2, h.2.1.2, c _ H _ (.bl _) (.refl _) h.2.2⟩
  · cases hx
    cases hy
    exact .inr ⟨rfl, c _ H _ (by rw [dec_strV]; exact .bl _) (.refl _) h⟩⟩
def oLt : D → D → (D → Prop) → Prop
  | .int i, .int j, Q => Q (.bl (decide (i < j)))
  | _, _, _ => False
def oLe : D → D → (D → Prop) → Prop
  | .int i, .int j, Q => Q (.bl (decide (i ≤ j)))
  | _, _, _ => False
def oGt : D → D → (D → Prop) → Prop
  | .int i, .int j, Q => Q (.bl (decide (j < i)))
  | _, _, _ => False
def oGe : D → D → (D → Prop) → Prop
  | .int i, .int j, Q => Q (.bl (decide (j ≤ i)))
  | _, _, _ => False
theorem od_lt : OpD X q (compareOp .Lt) oLt := ⟨_, op_lt, fun H x y dx dy Q0 Q hx hy h c => by
  cases hx <;> cases hy <;> simp only [oLt] at h
  exact ⟨_, _, rfl, rfl, c _ H _ (.bl _) (.refl _) h⟩⟩
theorem od_le : OpD X q (compareOp .LtE) oLe := ⟨_, op_le, fun H x y dx dy Q0 Q hx hy h c => by
  cases hx <;> cases hy <;> simp only [oLe] at h
  exact ⟨_, _, rfl, rfl, c _ H _ (.bl _) (.refl _) h⟩⟩
theorem od_gt : OpD X q (compareOp .Gt) oGt := ⟨_, op_gt, fun H x y dx dy Q0 Q hx hy h c => by
  cases hx <;> cases hy <;> simp only [oGt] at h
  exact ⟨_, _, rfl, rfl, c _ H _ (.bl _) (.refl _) h⟩⟩
theorem od_ge : OpD X q (compareOp .GtE) oGe := ⟨_, op_ge, fun H x y dx dy Q0 Q hx hy h c => by
  cases hx <;> cases hy <;> simp only [oGe] at h
  exact ⟨_, _, rfl, rfl, c _ H _ (.bl _) (.refl _) h⟩⟩
def D.isN : D → Bool
  | .non => true
  | _ => false
def oIs : D → D → (D → Prop) → Prop := fun x y Q => y = .non ∧ Q (.bl x.isN)
def oIsnt : D → D → (D → Prop) → Prop := fun x y Q => y = .non ∧ Q (.bl (!x.isN))
theorem isN_of {K : PySem.W.Frag} {H : Hp} {v : V} {d : D} (h : Dt K q H v d) : decide (v = .non) = d.isN := by
  cases h <;> rfl
theorem od_is : OpD X q (compareOp .Is) oIs := ⟨_, op_isN, fun H x y dx dy Q0 Q hx hy h c => by
  obtain ⟨e, h⟩ := h
  subst e
  cases hy
  refine ⟨rfl, ?_⟩
  rw [isN_of hx]
  exact c _ H _ (.bl _) (.refl _) h⟩
theorem od_isnt : OpD X q (compareOp .IsNot) oIsnt := ⟨_, op_notN, fun H x y dx dy Q0 Q hx hy h c => by
  obtain ⟨e, h⟩ := h
  subst e
  cases hy
  refine ⟨rfl, ?_⟩
  rw [isN_of hx]
  exact c _ H _ (.bl _) (.refl _) h⟩

/-! ### xs[i] -/
def ixD (ds : List D) (i : Int) : Option D := atI ds i
def oIx : D → D → (D → Prop) → Prop
  | .lst ds, .int i, Q => ∃ d, atI ds i = some d ∧ Q d
  | .tup ds, .int i, Q => ∃ d, atI ds i = some d ∧ Q d
  | .str z, .int i, Q => z.length ≤ sizeLine ∧ ∃ c, atI z.cps.toList i = some c ∧ Q (.str ⟨#[c]⟩)
  | _, _, _ => False
theorem atI_dt {K : PySem.W.Frag} {H : Hp} {vs : List V} {ds : List D} (h : DtAll K q H vs ds) {i : Int} {d : D} (e : atI ds i = some d) : ∃ v, atI vs i = some v ∧ Dt K q H v d := by
  unfold atI at e ⊢
  rw [h.length]
  cases z : ixN ds.length i with
  | none => rw [z] at e; cases e
  | some j =>
    rw [z] at e
    exact h.get (i := j) e
theorem ix_core {K : PySem.W.Frag} (H : Hp) (x y : V) (dx dy : D) (Q0 : D → Prop) (Q : VK) (hx : Dt K q H x dx) (hy : Dt K q H y dy) (h : oIx dx dy Q0) (c : ∀ v H' d, Dt K q H' v d → Same H H' → Q0 d → Q v H') : rIx K x y H Q := by
  cases hx <;> cases hy <;> simp only [oIx] at h
  · obtain ⟨z, k, e, h⟩ := h
    exact .inr (.inr ⟨_, _, k, rfl, rfl, z, e, c _ H _ (.str _) (.refl _) h⟩)
  · rename_i a vs ds ha va i
    obtain ⟨d, e, h⟩ := h
    obtain ⟨v, e1, h1⟩ := atI_dt va e
    exact .inl ⟨a, vs, i, v, rfl, rfl, SqL.of ha, e1, c _ H _ h1 (.refl _) h⟩
  · rename_i a vs ds ha va i
    obtain ⟨d, e, h⟩ := h
    obtain ⟨v, e1, h1⟩ := atI_dt va e
    exact .inr (.inl ⟨a, vs, i, v, rfl, rfl, ha, e1, c _ H _ h1 (.refl _) h⟩)
theorem de_at {a b : Expr} {ta tb : DT} {pos : Pos} (ha : DE X q H0 E a ta) (hb : DE X q H0 E b tb) (hs : PlainIx b := by exact fun _ _ => rfl) : DE X q H0 E (.Subscript a b pos) (dBin oIx ta tb) :=
  de_ix ix_seq (fun H x y dx dy Q0 Q hx hy h c => ix_core H x y dx dy Q0 Q hx hy h c) ha hb hs
end

/-! ### calls of the text's own defs -/
abbrev SpD := List D → Sd → QD → QE → Prop
/-- the promise of a def, over data -/
def spD (K : PySem.W.Frag) (T : List (Addr × Str)) (sp : SpD) : Sp := fun vs H Q E => ∃ q ds n Q0 F, q.T = T ∧ DtAll K q H vs ds ∧ Dr K q n H ∧ sp ds n Q0 F ∧
  (∀ v H' d n', Dt K q H' v d → Fr q H H' → Dr K q n' H' → Q0 d n' → Q v H') ∧ ErOk K q H F E
def dCall (sp : SpD) (ts : DTA) : DT := fun ρ n Q F => ts ρ n (fun ds n1 => sp ds n1 Q F) F
def dCallK (sp : SpD) (g : List D → List D → List D) (ts tk : DTA) : DT := fun ρ n Q F => ts ρ n (fun ds n1 => tk ρ n1 (fun es n2 => sp (g ds es) n2 Q F) F) F
structure DK (X : Cx) (q : Dq) (H0 : Hp) (E : XK) (kws : List Keyword) (t : DTA) : Prop where
  pk : PK X kws (dTA X.K q H0 E t)
section
variable {T : List (Addr × Str)} {X : Cx} {q : Dq} {H0 : Hp} {E : XK} {CX : CXT} {k : Nat} {f : Addr} {fd : FuncData} {ps ks : List Str} {sp : SpD} {x : Str} {p pos kpos : Pos} {e : Expr} {es : List Expr} {kws : List Keyword} {t : DT} {ts tk : DTA} {nm : Option Str}
theorem erOk_in {K : PySem.W.Frag} {H : Hp} {F : QE} (o : ErOk K q H0 F E) (f : Fr q H0 H) : ErOk K q H F E := fun r n cls od H' a b c d => o r n cls od H' a (f.trans b) c d
theorem _root_.L2.PK.imp {X : Cx} {e : List Keyword} {t t' : TA} (h : PK X e t) (i : ∀ σ H Q, t' σ H Q → t σ H Q) : PK X e t' := ⟨fun pos pins s σ H Q I hw => h.run pos pins s σ H Q I (i σ H Q hw)⟩
theorem dk_nil : DK X q H0 E [] dNil := ⟨pk_nil.imp fun σ H Q ⟨ρ, n, Q0, F, R, h, c, o⟩ => c [] H [] n .nil (.refl _) R h⟩
theorem dk_cons (ha : DE X q H0 E e t) (hr : DK X q H0 E kws ts) : DK X q H0 E (⟨nm, e, kpos⟩ :: kws) (dCons t ts) := by
  refine ⟨(pk_cons ha.pe hr.pk).imp fun σ H Q ⟨ρ, n, Q0, F, R, h, c, o⟩ => ?_⟩
  refine dTE_mk R h (fun x H1 dx n1 hx f1 R1 h1 => ?_) o
  exact dTA_mk R1 h1 (fun vs H2 ds n2 hds f2 R2 h2 => c (x :: vs) H2 (dx :: ds) n2 (.cons (hx.up (f2.x R1.dr)) hds) (f1.trans f2) R2 h2) o
theorem call_core {K : PySem.W.Frag} (hT : q.T = T) {ρ : SEnv} {n1 : Sd} {σ : L2.St} {H H1 : Hp} {Q : VK} {Q0 : QD} {F : QE} {vs : List V} {ds : List D} (c : ∀ v H' d n', Dt K q H' v d → Fr q H H' → Rel K q H0 ρ n' σ H' → Q0 d n' → Q v H') (o : ErOk K q H0 F E)
    (hds : DtAll K q H1 vs ds) (f1 : Fr q H H1) (R1 : Rel K q H0 ρ n1 σ H1) (h : sp ds n1 Q0 F) : spD K T sp vs H1 Q E :=
  ⟨q, ds, n1, Q0, F, hT, hds, R1.dr, h, fun v H' d n' hd fr dr hq => c v H' d n' hd (f1.trans fr) (R1.up fr dr) hq, erOk_in o R1.fr⟩
theorem de_call (G : FnG X.prog X.w X.K X.mg X.base CX k f fd ps (spD X.K T sp)) (hr : Room k X.A) (hgd : X.A.guards = some []) (hT : q.T = T) (hg : Gl X x) (hm : X.mg x = some (.ref f)) (hk : PySem.W.keepIn X.K (.ref f) = true) (hb : Binds X.K fd ps []) (hx : Passes CX X E)
    (ha : DA X q H0 E (e :: es) ts) (hdb : (x == ("__debug__" : Str)) = false := by decide) (he : starEach (e :: es) X.env = (false, eval e X.env) :: starEach es X.env := by rfl) (hpl : (backTo pos (starEach es X.env)).any (·.1) = false := by rfl) :
    DE X q H0 E (.Call (.Name x p) (e :: es) [] pos) (dCall sp ts) := by
  refine ⟨(pe_callG G hr hgd hg hm hk hb .nil hx ha.pa hdb he hpl).imp fun σ H Q ⟨ρ, n, Q0, F, R, h, c, o⟩ => ?_⟩
  refine dTA_mk R h (fun vs H1 ds n1 hds f1 R1 h1 => ?_) o
  rw [List.append_nil]
  exact call_core hT c o hds f1 R1 h1
theorem de_call0 (G : FnG X.prog X.w X.K X.mg X.base CX k f fd ps (spD X.K T sp)) (hr : Room k X.A) (hgd : X.A.guards = some []) (hT : q.T = T) (hg : Gl X x) (hm : X.mg x = some (.ref f)) (hk : PySem.W.keepIn X.K (.ref f) = true) (hb : Binds X.K fd ps []) (hx : Passes CX X E)
    (hdb : (x == ("__debug__" : Str)) = false := by decide) : DE X q H0 E (.Call (.Name x p) [] [] pos) (dCall sp dNil) := by
  refine ⟨(pe_callG0 G hr hgd hg hm hk hb .nil hx hdb).imp fun σ H Q ⟨ρ, n, Q0, F, R, h, c, o⟩ => ?_⟩
  show spD X.K T sp ([] ++ []) H Q E
  exact call_core hT c o .nil (.refl _) R h
theorem de_callK {g : {α : Type} → List α → List α → List α} (G : FnG X.prog X.w X.K X.mg X.base CX k f fd ps (spD X.K T sp)) (hr : Room k X.A) (hgd : X.A.guards = some []) (hT : q.T = T) (hg : Gl X x) (hm : X.mg x = some (.ref f)) (hk : PySem.W.keepIn X.K (.ref f) = true) (hb : KBinds X.K fd ps ks g g) (hx : Passes CX X E)
    (hgD : ∀ (K : PySem.W.Frag) (q : Dq) (H : Hp) (vs zs : List V) (ds es : List D), DtAll K q H vs ds → DtAll K q H zs es → DtAll K q H (g vs zs) (g ds es))
    (ha : DA X q H0 E (e :: es) ts) (hkw : DK X q H0 E kws tk) (hall : (backToKw pos (keywordEach kws X.env)).all (·.1.isSome) = true := by rfl) (hks : (backToKw pos (keywordEach kws X.env)).filterMap (·.1) = ks := by rfl)
    (hdb : (x == ("__debug__" : Str)) = false := by decide) (he : starEach (e :: es) X.env = (false, eval e X.env) :: starEach es X.env := by rfl)
    (hpl : ((backTo pos (starEach (e :: es) X.env)).any (·.1) || (backToKw pos (keywordEach kws X.env)).any (·.1.isNone)) = false := by rfl) :
    DE X q H0 E (.Call (.Name x p) (e :: es) kws pos) (dCallK sp g ts tk) := by
  refine ⟨(pe_callGK G hr hgd hg hm hk hb hx ha.pa hkw.pk hall hks hdb he hpl).imp fun σ H Q ⟨ρ, n, Q0, F, R, h, c, o⟩ => ?_⟩
  refine dTA_mk R h (fun vs H1 ds n1 hds f1 R1 h1 => ?_) o
  refine dTA_mk R1 h1 (fun zs H2 es n2 hes f2 R2 h2 => ?_) o
  exact call_core hT c o (hgD _ _ _ _ _ _ _ (hds.up (f2.x R1.dr)) hes) (f1.trans f2) R2 h2
theorem de_callK0 {g : {α : Type} → List α → List α → List α} (G : FnG X.prog X.w X.K X.mg X.base CX k f fd ps (spD X.K T sp)) (hr : Room k X.A) (hgd : X.A.guards = some []) (hT : q.T = T) (hg : Gl X x) (hm : X.mg x = some (.ref f)) (hk : PySem.W.keepIn X.K (.ref f) = true) (hb : KBinds X.K fd ps ks g g) (hx : Passes CX X E)
    (hgD : ∀ (K : PySem.W.Frag) (q : Dq) (H : Hp) (vs zs : List V) (ds es : List D), DtAll K q H vs ds → DtAll K q H zs es → DtAll K q H (g vs zs) (g ds es))
    (hkw : DK X q H0 E kws tk) (hall : (backToKw pos (keywordEach kws X.env)).all (·.1.isSome) = true := by rfl) (hks : (backToKw pos (keywordEach kws X.env)).filterMap (·.1) = ks := by rfl)
    (hdb : (x == ("__debug__" : Str)) = false := by decide)
    (hpl : ((backTo pos (starEach [] X.env)).any (·.1) || (backToKw pos (keywordEach kws X.env)).any (·.1.isNone)) = false := by rfl) :
    DE X q H0 E (.Call (.Name x p) [] kws pos) (dCallK sp g dNil tk) := by
  refine ⟨(pe_callGK0 G hr hgd hg hm hk hb hx hkw.pk hall hks hdb hpl).imp fun σ H Q ⟨ρ, n, Q0, F, R, h, c, o⟩ => ?_⟩
  show dTA X.K q H0 E tk σ H _
  refine dTA_mk R h (fun zs H2 es n2 hes f2 R2 h2 => ?_) o
  exact call_core hT c o (hgD _ _ _ _ _ _ _ .nil hes) f2 R2 h2
end

/-! ### built-in functions -/
structure CallD (X : Cx) (q : Dq) (f : Value) (cd : List D → (D → Prop) → Prop) : Prop where
  ex : ∃ r, CallR X f r ∧ ∀ H xs ds (Q0 : D → Prop) (Q : VK), DtAll X.K q H xs ds → cd ds Q0 → (∀ v H' d, Dt X.K q H' v d → Same H H' → Q0 d → Q v H') → r xs H Q
def dCB (cd : List D → (D → Prop) → Prop) (ts : DTA) : DT := fun ρ n Q F => ts ρ n (fun ds n1 => cd ds fun d => Q d n1) F
section
variable {X : Cx} {q : Dq} {H0 : Hp} {E : XK} {x : Str} {p pos : Pos} {e : Expr} {es : List Expr} {ts : DTA} {id T : String} {cd : List D → (D → Prop) → Prop}
theorem dCB_core {K : PySem.W.Frag} {r : List V → Hp → VK → Prop} (k : ∀ H xs ds (Q0 : D → Prop) (Q : VK), DtAll K q H xs ds → cd ds Q0 → (∀ v H' d, Dt K q H' v d → Same H H' → Q0 d → Q v H') → r xs H Q)
    {σ : L2.St} {H : Hp} {Q : VK} (h : dTE K q H0 E (dCB cd ts) σ H Q) : tCB r (dTA K q H0 E ts) σ H Q := by
  obtain ⟨ρ, n, Q0, F, R, h, c, o⟩ := h
  refine dTA_mk R h (fun vs H1 ds n1 hds f1 R1 h1 => ?_) o
  exact k H1 vs ds _ _ hds h1 fun v H' d hd hs hq => c v H' d n1 hd (f1.trans (.of_same hs)) (R1.same hs) hq
theorem de_callB (hc : CallD X q (.builtin id) cd) (hg : Gl X x) (hm : X.mg x = none) (hv : bootBuiltins x = some (.builtin id)) (ha : DA X q H0 E (e :: es) ts) (hn : x ≠ "__name__" := by decide) (hdb : (x == ("__debug__" : Str)) = false := by decide)
    (he : starEach (e :: es) X.env = (false, eval e X.env) :: starEach es X.env := by rfl) (hpl : (backTo pos (starEach es X.env)).any (·.1) = false := by rfl) : DE X q H0 E (.Call (.Name x p) (e :: es) [] pos) (dCB cd ts) := by
  obtain ⟨r, h, k⟩ := hc.ex
  exact ⟨(pe_callB h hg hm hv ha.pa hn hdb he hpl).imp fun σ H Q z => dCB_core k z⟩
theorem de_callTy (hc : CallD X q (.type T) cd) (hg : Gl X x) (hm : X.mg x = none) (hv : bootBuiltins x = some (.type T)) (ha : DA X q H0 E (e :: es) ts) (hn : x ≠ "__name__" := by decide) (hdb : (x == ("__debug__" : Str)) = false := by decide)
    (he : starEach (e :: es) X.env = (false, eval e X.env) :: starEach es X.env := by rfl) (hpl : (backTo pos (starEach es X.env)).any (·.1) = false := by rfl) : DE X q H0 E (.Call (.Name x p) (e :: es) [] pos) (dCB cd ts) := by
  obtain ⟨r, h, k⟩ := hc.ex
  exact ⟨(pe_callTy h hg hm hv ha.pa hn hdb he hpl).imp fun σ H Q z => dCB_core k z⟩

def cLen : List D → (D → Prop) → Prop
  | [.lst ds], Q => Q (.int (ds.length : Nat))
  | [.tup ds], Q => Q (.int (ds.length : Nat))
  | [.str z], Q => z.length ≤ sizeLine ∧ Q (.int (z.length : Nat))
  | _, _ => False
theorem cd_len : CallD X q (.builtin "len") cLen := ⟨_, call_len, fun H xs ds Q0 Q hds h c => by
  cases hds with
  | nil => simp only [cLen] at h
  | cons h1 t1 =>
    cases t1 with
    | cons _ _ => cases h1 <;> simp only [cLen] at h
    | nil =>
      cases h1 <;> simp only [cLen] at h
      · exact ⟨_, _, rfl, ⟨h.1, rfl⟩, c _ H _ (.int _) (.refl _) h.2⟩
      · rename_i a vs ds ha va
        exact ⟨_, ds.length, rfl, .inl ⟨vs, SqL.of ha, va.length.symm⟩, c _ H _ (.int _) (.refl _) h⟩
      · rename_i a vs ds ha va
        exact ⟨_, ds.length, rfl, .inr ⟨vs, ha, va.length.symm⟩, c _ H _ (.int _) (.refl _) h⟩⟩
def cAbs : List D → (D → Prop) → Prop
  | [.int i], Q => Q (.int (if i < 0 then -i else i))
  | _, _ => False
theorem cd_abs : CallD X q (.builtin "abs") cAbs := ⟨_, call_abs, fun H xs ds Q0 Q hds h c => by
  cases hds with
  | nil => simp only [cAbs] at h
  | cons h1 t1 => cases h1 <;> cases t1 <;> simp only [cAbs] at h; exact ⟨_, rfl, c _ H _ (.int _) (.refl _) h⟩⟩
def cInt : List D → (D → Prop) → Prop
  | [.int i], Q => Q (.int i)
  | [.bl b], Q => Q (.int (if b then 1 else 0))
  | _, _ => False
theorem cd_int : CallD X q (.type "int") cInt := ⟨_, call_int1, fun H xs ds Q0 Q hds h c => by
  cases hds with
  | nil => simp only [cInt] at h
  | cons h1 t1 =>
    cases h1 <;> cases t1 <;> simp only [cInt] at h
    · exact .inr ⟨_, rfl, c _ H _ (.int _) (.refl _) h⟩
    · exact .inl ⟨_, rfl, c _ H _ (.int _) (.refl _) h⟩⟩
def cMin2 : List D → (D → Prop) → Prop
  | [.int i, .int j], Q => Q (.int (if j < i then j else i))
  | _, _ => False
theorem cd_min2 (hc : X.calm = true) : CallD X q (.builtin "min") cMin2 := ⟨_, call_min2 hc, fun H xs ds Q0 Q hds h c => by
  cases hds with
  | nil => simp only [cMin2] at h
  | cons h1 t1 =>
    cases t1 with
    | nil => cases h1 <;> simp only [cMin2] at h
    | cons h2 t2 => cases h1 <;> cases h2 <;> cases t2 <;> simp only [cMin2] at h; exact ⟨_, _, rfl, c _ H _ (.int _) (.refl _) h⟩⟩
/-- tuple(xs), list(xs) -/
def cTuple : List D → (D → Prop) → Prop
  | [.lst ds], Q => Q (.tup ds)
  | [.tup ds], Q => Q (.tup ds)
  | _, _ => False
theorem cd_tuple : CallD X q (.type "tuple") cTuple := ⟨_, call_tuple_of, fun H xs ds Q0 Q hds h c => by
  cases hds with
  | nil => simp only [cTuple] at h
  | cons h1 t1 =>
    cases h1 <;> cases t1 <;> simp only [cTuple] at h
    · rename_i a vs ds ha va
      refine ⟨a, vs, rfl, .inl ⟨SqL.of ha, fun l hl => ?_⟩⟩
      have s := same_upd (o := .tup vs) hl
      exact c _ _ _ (.tup (SqT.of upd_same) (va.up (.of_same s))) s h
    · rename_i a vs ds ha va
      exact ⟨a, vs, rfl, .inr ⟨ha, c _ H _ (.tup ha va) (.refl _) h⟩⟩⟩
def cList : List D → (D → Prop) → Prop
  | [.lst ds], Q => Q (.lst ds)
  | [.tup ds], Q => Q (.lst ds)
  | _, _ => False
theorem cd_list : CallD X q (.type "list") cList := ⟨_, call_list_of, fun H xs ds Q0 Q hds h c => by
  cases hds with
  | nil => simp only [cList] at h
  | cons h1 t1 =>
    cases h1 <;> cases t1 <;> simp only [cList] at h
    · rename_i a vs ds ha va
      refine ⟨a, vs, rfl, .inl (SqL.of ha), fun l hl => ?_⟩
      have s := same_upd (o := .lst vs) hl
      exact c _ _ _ (.lst upd_same (va.up (.of_same s))) s h
    · rename_i a vs ds ha va
      refine ⟨a, vs, rfl, .inr ha, fun l hl => ?_⟩
      have s := same_upd (o := .lst vs) hl
      exact c _ _ _ (.lst upd_same (va.up (.of_same s))) s h⟩
/-- all([..]), any([..]) of truths -/
def D.bools : List D → Option (List Bool)
  | [] => some []
  | .bl b :: r => (D.bools r).map (b :: ·)
  | _ :: _ => none
theorem bools_dt {K : PySem.W.Frag} {H : Hp} : ∀ {vs : List V} {ds : List D} {bs : List Bool}, DtAll K q H vs ds → D.bools ds = some bs → vs = bs.map V.bl
  | _, _, _, .nil, e => by simp only [D.bools, Option.some.injEq] at e; subst e; rfl
  | _, _, _, .cons h t, e => by
    cases h <;> simp only [D.bools] at e <;> try cases e
    obtain ⟨bs, e1, e2⟩ := Option.map_eq_some_iff.mp e
    subst e2
    rw [bools_dt t e1]
    rfl
def cAll : List D → (D → Prop) → Prop
  | [.lst ds], Q => ∃ bs, D.bools ds = some bs ∧ Q (.bl (bs.all fun b => b))
  | _, _ => False
theorem cd_all (hc : X.calm = true) : CallD X q (.builtin "all") cAll := ⟨_, cr_all hc, fun H xs ds Q0 Q hds h c => by
  cases hds with
  | nil => simp only [cAll] at h
  | cons h1 t1 =>
    cases h1 <;> cases t1 <;> simp only [cAll] at h
    rename_i a vs ds ha va
    obtain ⟨bs, e, h⟩ := h
    have e2 := bools_dt va e
    subst e2
    exact ⟨a, bs, rfl, SqL.of ha, c _ H _ (.bl _) (.refl _) h⟩⟩
def cAny : List D → (D → Prop) → Prop
  | [.lst ds], Q => ∃ bs, D.bools ds = some bs ∧ Q (.bl (bs.any fun b => b))
  | _, _ => False
theorem cd_any (hc : X.calm = true) : CallD X q (.builtin "any") cAny := ⟨_, cr_any hc, fun H xs ds Q0 Q hds h c => by
  cases hds with
  | nil => simp only [cAny] at h
  | cons h1 t1 =>
    cases h1 <;> cases t1 <;> simp only [cAny] at h
    rename_i a vs ds ha va
    obtain ⟨bs, e, h⟩ := h
    have e2 := bools_dt va e
    subst e2
    exact ⟨a, bs, rfl, SqL.of ha, c _ H _ (.bl _) (.refl _) h⟩⟩
end
end DL
/-! T5: isinstance, repr; targets; statements; loops; comprehensions. -/
namespace DL
open PySem PySem.Spec L2

/-! ### isinstance of built-in classes -/
def D.ty : D → String
  | .non => "NoneType" | .bl _ => "bool" | .int _ => "int" | .str _ => "str" | .lst _ => "list" | .tup _ => "tuple" | .dct _ => "dict" | .drum _ => "?" | .scr _ => "?" | .ob _ _ => "?"
def D.isData : D → Bool
  | .drum _ => false
  | .scr _ => false
  | .ob _ _ => false
  | _ => true
def tyAll : List String := ["NoneType", "bool", "int", "str", "list", "tuple", "dict"]
def tyAsk : List String := ["int", "bool", "str", "list", "tuple", "dict"]
def isB (n T : String) : Bool := n == T || (n == "bool" && T == "int")
theorem kit_tab : ∀ n ∈ tyAll, ∀ T ∈ tyAsk, kitB n T = some (isB n T) := by decide +kernel
def D.isa (d : D) (Ts : List String) : Bool := Ts.any (isB d.ty)
theorem ty_mem {d : D} (h : d.isData = true) : d.ty ∈ tyAll := by
  cases d <;> simp [D.isData, D.ty, tyAll] at h ⊢
theorem tyX_of {K : PySem.W.Frag} {q : Dq} {H : Hp} {v : V} {d : D} (h : Dt K q H v d) (hd : d.isData = true) : TyX K H v (.type d.ty) := by
  cases h with
  | non => exact .base .non
  | bl b => exact .base (.bl b)
  | int b => exact .base (.int b)
  | str b => exact .base (.str b)
  | lst h _ => exact .base (.lst h)
  | tup h _ =>
    rcases h with (h | ⟨o, h⟩) | ⟨o, its, n, h, hc, _⟩
    · exact .base (.tup h)
    · exact .fTuple h
    · exact .kTuple h hc
  | dct h _ => exact .base (.dK h)
  | drum _ => simp [D.isData] at hd
  | scr _ => simp [D.isData] at hd
  | ob _ _ => simp [D.isData] at hd
def dIsi (Ts : List String) (t : DT) : DT := fun ρ n Q F => t ρ n (fun x n1 => x.isData = true ∧ Q (.bl (x.isa Ts)) n1) F
section
variable {X : Cx} {q : Dq} {H0 : Hp} {E : XK} {e : Expr} {t : DT} {p p1 p2 p3 pos : Pos}
theorem de_isi1 {T : Str} {n : String} (hg : Gl X "isinstance") (hm : X.mg "isinstance" = none) (ha : DE X q H0 E e t) (hgT : Gl X T) (hmT : X.mg T = none) (hv : bootBuiltins T = some (.type n)) (hT : n ∈ tyAsk) (hn : T ≠ "__name__" := by decide) (hdb : (T == ("__debug__" : Str)) = false := by decide)
    (he : starEach [e, .Name T p1] X.env = (false, eval e X.env) :: starEach [.Name T p1] X.env := by rfl) (hpl : (backTo pos (starEach [.Name T p1] X.env)).any (·.1) = false := by rfl) :
    DE X q H0 E (.Call (.Name "isinstance" p) [e, .Name T p1] [] pos) (dIsi [n] t) := by
  refine ⟨(pe_callB call_isi hg hm (by decide +kernel) (pa_cons ha.pe (pa_cons (pe_bltn (v := .ty n) hgT hmT hv rfl hn hdb) pa_nil) he) (he := he) (hpl := hpl)).imp fun σ H Q ⟨ρ, m, Q0, F, R, h, c, o⟩ => ?_⟩
  refine dTE_mk R h (fun x H1 dx n1 hx f1 R1 ⟨hd, h1⟩ => ?_) o
  refine ⟨x, .ty n, _, _, _, rfl, .ty n, tyX_of hx hd, kit_ty (kit_tab _ (ty_mem hd) _ hT), ?_⟩
  have e1 : dx.isa [n] = isB dx.ty n := by simp [D.isa]
  rw [← e1]
  exact c _ H1 _ n1 (.bl _) f1 R1 h1
theorem de_isi2 {T U : Str} {n m : String} {kk : _} (hg : Gl X "isinstance") (hm : X.mg "isinstance" = none) (ha : DE X q H0 E e t) (hgT : Gl X T) (hmT : X.mg T = none) (hv : bootBuiltins T = some (.type n)) (hT : n ∈ tyAsk) (hgU : Gl X U) (hmU : X.mg U = none) (hvU : bootBuiltins U = some (.type m)) (hU : m ∈ tyAsk)
    (hn : T ≠ "__name__" := by decide) (hdb : (T == ("__debug__" : Str)) = false := by decide) (hnU : U ≠ "__name__" := by decide) (hdbU : (U == ("__debug__" : Str)) = false := by decide)
    (hs : starEach [.Name T p1, .Name U p2] X.env = (false, eval (.Name T p1) X.env) :: starEach [.Name U p2] X.env := by rfl) (hs2 : starEach [.Name U p2] X.env = (false, eval (.Name U p2) X.env) :: starEach [] X.env := by rfl)
    (he : starEach [e, .Tuple [.Name T p1, .Name U p2] kk p3] X.env = (false, eval e X.env) :: starEach [.Tuple [.Name T p1, .Name U p2] kk p3] X.env := by rfl) (hpl : (backTo pos (starEach [.Tuple [.Name T p1, .Name U p2] kk p3] X.env)).any (·.1) = false := by rfl) :
    DE X q H0 E (.Call (.Name "isinstance" p) [e, .Tuple [.Name T p1, .Name U p2] kk p3] [] pos) (dIsi [n, m] t) := by
  refine ⟨(pe_callB call_isiT hg hm (by decide +kernel) (pa_cons ha.pe (pa_cons (pe_tup (pa_cons (pe_bltn (v := .ty n) hgT hmT hv rfl hn hdb) (pa_cons (pe_bltn (v := .ty m) hgU hmU hvU rfl hnU hdbU) pa_nil hs2) hs)) pa_nil) he) (he := he) (hpl := hpl)).imp fun σ H Q ⟨ρ, mm, Q0, F, R, h, c, o⟩ => ?_⟩
  refine dTE_mk R h (fun x H1 dx n1 hx f1 R1 ⟨hd, h1⟩ => ?_) o
  refine ⟨by show 2 ≤ sizeLine; decide, fun tp htp => ?_⟩
  have s := same_upd (o := .tup [V.ty n, V.ty m]) htp
  refine ⟨x, tp, [.ty n, .ty m], .type dx.ty, [.type n, .type m], dx.isa [n, m], rfl, upd_same, .cons (.ty n) (.cons (.ty m) .nil), tyX_of (hx.up (.of_same s)) hd, ?_, ?_⟩
  · have k1 := kit_ty (K := X.K) (kit_tab _ (ty_mem hd) _ hT)
    have k2 := kit_ty (K := X.K) (kit_tab _ (ty_mem hd) _ hU)
    refine kitAny_cons k1 (fun e1 => kitAny_cons k2 (fun e2 => ?_) fun e2 => ?_) fun e1 => ?_
    · rw [kitAny_nil]
      simp [D.isa, e1, e2]
    · simp [D.isa, e2]
    · simp [D.isa, e1]
  · exact c _ _ _ n1 (.bl _) (f1.trans (.of_same s)) (R1.same s) h1
end

/-! ### repr -/
mutual
/-- no int beyond 570 digits, no dict, no object; texts of common signs -/
def D.rp : D → Prop
  | .non | .bl _ => True
  | .int i => i.natAbs < 10 ^ 570
  | .str x => ∀ c ∈ x.cps.toList, c < 16 ^ 8
  | .lst xs | .tup xs => D.rps xs
  | _ => False
def D.rps : List D → Prop
  | [] => True
  | x :: xs => x.rp ∧ D.rps xs
end
mutual
def D.nodes : D → Nat
  | .str x => 1 + x.length
  | .lst xs | .tup xs => 1 + D.nodesAll xs
  | _ => 1
def D.nodesAll : List D → Nat
  | [] => 0
  | x :: xs => x.nodes + D.nodesAll xs
end
theorem log2_570 {i : Nat} (h : i < 10 ^ 570) : i.log2 < 1920 := by
  by_cases z : i = 0
  · subst z; decide +kernel
  · exact (Nat.log2_lt z).mpr (Nat.lt_trans h (by decide +kernel))
theorem lt10 : (10 : Nat) ^ 570 < 10 ^ 4300 := by decide +kernel
mutual
theorem D.showable : ∀ d : D, d.rp → d.py.showable = true ∧ d.py.hasDict = false
  | .non, _ => ⟨rfl, rfl⟩
  | .bl _, _ => ⟨rfl, rfl⟩
  | .int i, h => ⟨by simp only [D.py, PyData.showable, decide_eq_true_eq]; exact log2_570 (by simpa only [D.rp] using h), rfl⟩
  | .str x, _ => ⟨rfl, rfl⟩
  | .lst xs, h => by
    have z := D.showables xs (by simpa only [D.rp] using h)
    exact ⟨by simpa only [D.py, PyData.showable] using z.1, by simpa only [D.py, PyData.hasDict] using z.2⟩
  | .tup xs, h => by
    have z := D.showables xs (by simpa only [D.rp] using h)
    exact ⟨by simpa only [D.py, PyData.showable] using z.1, by simpa only [D.py, PyData.hasDict] using z.2⟩
  | .dct _, h => by simp only [D.rp] at h
  | .drum _, h => by simp only [D.rp] at h
  | .scr _, h => by simp only [D.rp] at h
  | .ob _ _, h => by simp only [D.rp] at h
theorem D.showables : ∀ ds : List D, D.rps ds → PyData.showableAll (D.pys ds) = true ∧ PyData.hasDictAll (D.pys ds) = false
  | [], _ => ⟨rfl, rfl⟩
  | x :: xs, h => by
    have h' : x.rp ∧ D.rps xs := by simpa only [D.rps] using h
    have a := D.showable x h'.1
    have b := D.showables xs h'.2
    simp only [D.pys, PyData.showableAll, PyData.hasDictAll, a.1, a.2, b.1, b.2, Bool.and_self, Bool.or_self, and_self]
end
theorem D.pys_length : ∀ ds : List D, (D.pys ds).length = ds.length
  | [] => rfl
  | _ :: ds => by simp only [D.pys, List.length_cons, D.pys_length ds]
mutual
theorem D.shown_le : ∀ d : D, d.rp → d.py.shown.length + 2 ≤ 600 * d.nodes
  | .non, _ => by
    have e : (PyData.shown .none).length = 4 := rfl
    simp only [D.py, D.nodes]; omega
  | .bl b, _ => by
    have e : (PyData.shown (.bool b)).length ≤ 5 := by cases b <;> decide
    simp only [D.py, D.nodes]; omega
  | .int i, h => by
    have e := int_text_length_le10 (k := 570) (by decide) (by simpa only [D.rp] using h)
    have e2 : (PyData.shown (.int i)).length = (toString i).length := by
      show (Str.ofString (toString i)).length = _
      rw [ofString_length]
    simp only [D.py, D.nodes]; omega
  | .str x, h => by
    have e := StrLaws.reprText_len x (by simpa only [D.rp] using h)
    have e2 : (PyData.shown (.str x)).length = (reprText x).length := rfl
    simp only [D.py, D.nodes]; omega
  | .lst xs, h => by
    have z := D.shownAll_le xs (by simpa only [D.rp] using h)
    have y := listText_len_le (PyData.shownAll (D.pys xs))
    have w := PyData.shownAll_length (D.pys xs)
    simp only [D.py, PyData.shown, D.nodes]; omega
  | .tup xs, h => by
    have z := D.shownAll_le xs (by simpa only [D.rp] using h)
    have y := tupleText_len_le (PyData.shownAll (D.pys xs))
    have w := PyData.shownAll_length (D.pys xs)
    simp only [D.py, PyData.shown, D.nodes]; omega
  | .dct _, h => by simp only [D.rp] at h
  | .drum _, h => by simp only [D.rp] at h
  | .scr _, h => by simp only [D.rp] at h
  | .ob _ _, h => by simp only [D.rp] at h
theorem D.shownAll_le : ∀ ds : List D, D.rps ds → ((PyData.shownAll (D.pys ds)).map (·.length)).sum + 2 * (D.pys ds).length ≤ 600 * D.nodesAll ds
  | [], _ => by simp only [D.pys, PyData.shownAll, D.nodesAll, List.map_nil, List.sum_nil, List.length_nil]; omega
  | x :: xs, h => by
    have h' : x.rp ∧ D.rps xs := by simpa only [D.rps] using h
    have a := D.shown_le x h'.1
    have b := D.shownAll_le xs h'.2
    simp only [D.pys, PyData.shownAll, D.nodesAll, List.map_cons, List.sum_cons, List.length_cons]
    omega
end
/-- fit for repr -/
def D.rok (d : D) : Prop := d.rp ∧ d.nodes ≤ 20000 ∧ d.py.depth ≤ 60
def D.txt (d : D) : Str := d.py.shown
theorem plain_of_rp : (∀ d : D, d.rp → d.plain = true) := by
  intro d
  refine D.rec (motive_1 := fun d => d.rp → d.plain = true) (motive_2 := fun ds => D.rps ds → D.plains ds = true) (motive_3 := fun _ => True) (motive_4 := fun _ => True) (motive_5 := fun _ => True) (motive_6 := fun _ => True)
    (fun _ => rfl) (fun _ _ => rfl) (fun _ _ => rfl) (fun _ _ => rfl) (fun xs ih h => ?_) (fun xs ih h => ?_) (fun _ _ h => ?_) (fun _ h => ?_) (fun _ h => ?_) (fun _ _ _ h => ?_) (fun _ => rfl) (fun x xs ih1 ih2 h => ?_) True.intro (fun _ _ _ _ => True.intro) True.intro (fun _ _ _ _ => True.intro) (fun _ _ _ => True.intro) (fun _ _ _ => True.intro) d
  · simp only [D.plain]; exact ih (by simpa only [D.rp] using h)
  · simp only [D.plain]; exact ih (by simpa only [D.rp] using h)
  · simp only [D.rp] at h
  · simp only [D.rp] at h
  · simp only [D.rp] at h
  · simp only [D.rp] at h
  · have h' : x.rp ∧ D.rps xs := by simpa only [D.rps] using h
    simp only [D.plains, ih1 h'.1, ih2 h'.2, Bool.and_self]
def cRepr : List D → (D → Prop) → Prop
  | [d], Q => d.rok ∧ Q (.str d.txt)
  | _, _ => False
def rRepr (K : PySem.W.Frag) (q : Dq) : List V → Hp → VK → Prop := fun xs H Q => ∃ x d, xs = [x] ∧ Dt K q H x d ∧ d.rok ∧ Q (.str d.txt) H
section
variable {X : Cx} {q : Dq}
theorem call_repr {k : Nat} (hr : Room k X.A) (hg : X.A.guards = some []) : CallR X (.builtin "repr") (rRepr X.K q) := by
  intro pins s σ H xs us Q I r h
  obtain ⟨x, d, rfl, hd, ⟨h1, h2, h3⟩, z⟩ := h
  cases r with
  | cons r rr =>
    cases rr
    rename_i u
    have fits : d.py.shown.length ≤ sizeLine := by
      have := D.shown_le d h1
      rw [sizeLine_eq]
      omega
    have sh := D.showable d h1
    have hu := hr.units
    obtain ⟨as, rd⟩ := Dp.reads I d.py x u (hd.dp (plain_of_rp d h1)) r
    have go : ∀ a, u = .ref a → wpAny (model X.prog X.w) X.A (call (.builtin "repr") [u]) (EP X pins σ Q) X.xe s := fun a e => by
      subst e
      refine repr_of_reads' rd sh.1 (PyData.noDict_hsm sh.2) hg (by omega) (fun _ _ e => e) (fun h' v tk hk => ?_) fits
      exact ⟨.str d.txt, H, I.kept hk, ⟨v, rfl⟩, z⟩
    cases hd with
    | non => cases r; exact PySem.P.repr_of_none ⟨.str _, H, I.tok _, ⟨_, rfl⟩, z⟩
    | bl b => cases r; exact PySem.P.repr_of_bool ⟨.str _, H, I.tok _, ⟨_, rfl⟩, z⟩
    | int i =>
      obtain ⟨t, rfl⟩ := r
      exact PySem.P.repr_of_int (log2_570 (by simpa only [D.rp] using h1)) ⟨.str _, H, I.tok _, ⟨_, rfl⟩, z⟩
    | str y =>
      obtain ⟨t, rfl⟩ := r
      exact PySem.P.repr_of_str ⟨.str _, H, I.tok _, ⟨_, rfl⟩, z⟩ (by simpa only [D.py, PyData.shown] using fits)
    | lst _ _ => cases r; exact go _ rfl
    | tup _ _ => cases r; exact go _ rfl
    | dct _ _ => simp only [D.rp] at h1
    | drum _ => simp only [D.rp] at h1
    | scr _ => simp only [D.rp] at h1
    | ob _ _ => simp only [D.rp] at h1
theorem cd_repr {k : Nat} (hr : Room k X.A) (hg : X.A.guards = some []) : CallD X q (.builtin "repr") cRepr := ⟨_, call_repr (q := q) hr hg, fun H xs ds Q0 Q hds h c => by
  cases hds with
  | nil => simp only [cRepr] at h
  | cons h1 t1 => cases t1 with
    | nil => exact ⟨_, _, rfl, h1, h.1, c _ H _ (.str _) (.refl _) h.2⟩
    | cons _ _ => simp only [cRepr] at h⟩
end
end DL
/-! T6: targets; statements; loops; comprehensions. -/
namespace DL
open PySem PySem.Spec L2

/-! ### targets -/
abbrev DGs := List D → SEnv → Sd → (SEnv → Sd → Prop) → Prop
def dTGs (K : PySem.W.Frag) (q : Dq) (H0 : Hp) (ow : List Nat) (g : DGs) : TGs := fun vs σ H Q => ∃ ρ n ds R, Rel K q H0 ρ n σ H ∧ DtAll K q H vs ds ∧ g ds ρ n R ∧
  ∀ σ' H' ρ' n', FrX H H' → Same H H' → Rel K q H0 ρ' n' σ' H' → σ'.length = σ.length → (∀ j, j ∉ ow → σ'[j]? = σ[j]?) → R ρ' n' → Q σ' H'
structure DGts (X : Cx) (q : Dq) (H0 : Hp) (ow : List Nat) (es : List Expr) (g : DGs) : Prop where
  pgs : PGs X es (dTGs X.K q H0 ow g)
def dgName (i : Nat) : DG := fun d ρ n R => i < ρ.length ∧ R (ρ.set i (.d d)) n
def dgNil : DGs := fun ds ρ n R => ds = [] ∧ R ρ n
def dgCons (g : DG) (gs : DGs) : DGs := fun ds ρ n R => ∃ d r, ds = d :: r ∧ g d ρ n (fun ρ1 n1 => gs r ρ1 n1 R)
def dgTup (k : Nat) (gs : DGs) : DG := fun d ρ n R => ∃ ds, (d = .tup ds ∨ d = .lst ds) ∧ ds.length = k ∧ gs ds ρ n R
section
variable {X : Cx} {q : Dq} {H0 : Hp} {E : XK} {e : Expr} {es : List Expr} {pos : Pos} {ow ow' : List Nat} {g : DG} {gs : DGs}
theorem _root_.L2.PGs.imp {t t' : TGs} (h : PGs X es t) (i : ∀ v σ H Q, t' v σ H Q → t v σ H Q) : PGs X es t' := ⟨fun pins s σ H v u Q I r hw => h.run pins s σ H v u Q I r (i v σ H Q hw)⟩
theorem _root_.L2.PG.or {t t' : TG} (h : PG X e t) (h' : PG X e t') : PG X e (fun v σ H Q => t v σ H Q ∨ t' v σ H Q) := ⟨fun pins s σ H v u Q I r hw => hw.elim (fun z => h.run pins s σ H v u Q I r z) fun z => h'.run pins s σ H v u Q I r z⟩
theorem dg_name (i : Nat) {x : Str} (hN : X.N.Nodup) (hi : X.N[i]? = some x := by rfl) (hx : Loc X.env.scope x := by first | exact .inl rfl | exact .inr rfl) (hf : X.fn x = true ∨ X.env.scope.names.lookup x = some .local := by first | exact .inl rfl | exact .inr rfl | assumption) : DGt X q H0 [i] (.Name x pos) (dgName i) :=
  ⟨(pg_name hN hi hx hf).imp fun v σ H Q ⟨ρ, n, d, R, Rl, hd, ⟨hl, h⟩, c⟩ => by
    have hl' : i < σ.length := by rw [← Rl.len]; exact hl
    exact c _ H _ n (.refl _) (.refl _) (Rl.set hd hl') (by simp) (fun j hj => by rw [List.getElem?_set_ne (fun z => hj (by simp [z]))]) h⟩
theorem dg_nil : DGts X q H0 [] [] dgNil := ⟨pgs_nil.imp fun vs σ H Q ⟨ρ, n, ds, R, Rl, hd, ⟨e, h⟩, c⟩ => by
  subst e
  cases hd
  exact ⟨rfl, c σ H ρ n (.refl _) (.refl _) Rl rfl (fun _ _ => rfl) h⟩⟩
theorem dg_cons (h1 : DGt X q H0 ow e g) (h2 : DGts X q H0 ow' es gs) (hs : (assignEach (e :: es) X.env).map (·.2) = assign e X.env :: (assignEach es X.env).map (·.2) := by rfl) : DGts X q H0 (ow ++ ow') (e :: es) (dgCons g gs) := by
  refine ⟨(pgs_cons h1.pg h2.pgs hs).imp fun vs σ H Q ⟨ρ, n, ds, R, Rl, hd, ⟨d, r, e, h⟩, c⟩ => ?_⟩
  subst e
  cases hd with
  | cons hd ht =>
    refine ⟨_, _, rfl, ρ, n, d, _, Rl, hd, h, fun σ1 H1 ρ1 n1 f1 s1 R1 l1 a1 hr => ?_⟩
    refine ⟨ρ1, n1, r, R, R1, ht.up f1, hr, fun σ2 H2 ρ2 n2 f2 s2 R2 l2 a2 hq => ?_⟩
    exact c σ2 H2 ρ2 n2 (f1.trans f2) (s1.trans s2) R2 (l2.trans l1) (fun j hj => by
      rw [a2 j fun z => hj (List.mem_append_right _ z), a1 j fun z => hj (List.mem_append_left _ z)]) hq
theorem dg_tup {k : Nat} {kk : Nat} (hc : X.calm = true) (h : DGts X q H0 ow es gs) (hn : (assignEach es X.env).length = k := by rfl) (hst : (assignEach es X.env).findIdx? (·.1) = none := by rfl) : DGt X q H0 ow (.Tuple es kk pos) (dgTup k gs) := by
  refine ⟨((pg_tup (k := kk) hc h.pgs hn hst).or (pg_unl hc h.pgs hn hst)).imp fun v σ H Q ⟨ρ, n, d, R, Rl, hd, ⟨ds, e, hl, h⟩, c⟩ => ?_⟩
  rcases e with e | e
  · subst e
    cases hd with
    | tup ha va => exact .inl ⟨_, _, rfl, ha, va.length.trans hl, ρ, n, ds, R, Rl, va, h, c⟩
  · subst e
    cases hd with
    | lst ha va => exact .inr ⟨_, _, rfl, SqL.of ha, va.length.trans hl, ρ, n, ds, R, Rl, va, h, c⟩
end

/-! ### statements -/
def dRet (t : DT) : DS := fun G ρ n => t ρ n G.rt G.ex
def dRetN : DS := fun G _ n => G.rt .non n
def dDrop (t : DT) : DS := fun G ρ n => t ρ n (fun _ n1 => G.nx ρ n1) G.ex
def dSet (i : Nat) (t : DT) : DS := fun G ρ n => t ρ n (fun x n1 => i < ρ.length ∧ G.nx (ρ.set i (.d x)) n1) G.ex
def dAsg (t : DT) (g : DG) : DS := fun G ρ n => t ρ n (fun x n1 => g x ρ n1 G.nx) G.ex
def dPar (i j : Nat) (ta tb : DT) : DS := fun G ρ n => ta ρ n (fun x n1 => tb ρ n1 (fun y n2 => (i < ρ.length ∧ j < ρ.length) ∧ G.nx ((ρ.set i (.d x)).set j (.d y)) n2) G.ex) G.ex
def dIfS (c : DTT) (t u : DS) : DS := fun G ρ n => c ρ n (fun b n1 => if b = true then t G ρ n1 else u G ρ n1) G.ex
def dNext : DS := fun G ρ n => G.nx ρ n
def dSeq (t u : DS) : DS := fun G ρ n => t { G with nx := u G } ρ n
def dBrk : DS := fun G ρ n => G.bk ρ n
def dCont : DS := fun G ρ n => G.ct ρ n

section
variable {X : Cx} {q : Dq} {H0 : Hp} {E : XK} {e a b : Expr} {es : List Expr} {t ta tb : DT} {tt : DTT} {g : DG} {pos : Pos} {st : Stmt} {sts rest : List Stmt} {s u : DS} {ow : List Nat}
theorem Rel.dr' {K : PySem.W.Frag} {ρ : SEnv} {n : Sd} {σ : L2.St} {H : Hp} (R : Rel K q H0 ρ n σ H) : Dr K q n H := R.dr
theorem dTS_mk {K : PySem.W.Frag} {ρ : SEnv} {n : Sd} {G : EndsD} {σ : L2.St} {H : Hp} {D : Ends} (R : Rel K q H0 ρ n σ H) (h : s G ρ n)
    (cn : ∀ σ' H' ρ' n', FrX H H' → Rel K q H0 ρ' n' σ' H' → G.nx ρ' n' → D.nx σ' H')
    (cr : ∀ v H' d n', Dt K q H' v d → FrX H H' → Fr q H0 H' → Dr K q n' H' → G.rt d n' → D.rt v H')
    (cb : ∀ σ' H' ρ' n', FrX H H' → Rel K q H0 ρ' n' σ' H' → G.bk ρ' n' → D.bk σ' H')
    (cc : ∀ σ' H' ρ' n', FrX H H' → Rel K q H0 ρ' n' σ' H' → G.ct ρ' n' → D.ct σ' H') (o : ErOk K q H0 G.ex E) : dTS K q H0 E s D σ H := ⟨ρ, n, G, R, h, cn, cr, cb, cc, o⟩
theorem ds_ret (he : DE X q H0 E e t) : DSt X q H0 E (.Return (some e) pos) (dRet t) := ⟨(ps_ret he.pe).imp fun D σ H ⟨ρ, n, G, R, h, cn, cr, cb, cc, o⟩ =>
  dTE_mk R h (fun v H' d n' hd f1 R1 hq => cr v H' d n' hd (f1.x R.dr) R1.fr R1.dr hq) o⟩
theorem ds_retN : DSt X q H0 E (.Return none pos) dRetN := ⟨ps_retN.imp fun D σ H ⟨ρ, n, G, R, h, cn, cr, cb, cc, o⟩ => cr _ H _ n .non (.refl _) R.fr R.dr h⟩
theorem ds_expr (he : DE X q H0 E e t) (hs : swapsWith e none pos.line X.env = pure false := by rfl) : DSt X q H0 E (.Expr e pos) (dDrop t) := ⟨(ps_expr he.pe hs).imp fun D σ H ⟨ρ, n, G, R, h, cn, cr, cb, cc, o⟩ =>
  dTE_mk R h (fun v H' d n' hd f1 R1 hq => cn σ H' ρ n' (f1.x R.dr) R1 hq) o⟩
theorem ds_doc {x j pos'} : DSt X q H0 E (.Expr (.Constant (.str x) j pos) pos') dNext := ⟨ps_doc.imp fun D σ H ⟨ρ, n, G, R, h, cn, cr, cb, cc, o⟩ => cn σ H ρ n (.refl _) R h⟩
theorem ds_set (i : Nat) {x : Str} {pos' : Pos} (hN : X.N.Nodup) (he : DE X q H0 E e t) (hi : X.N[i]? = some x := by rfl) (hx : Loc X.env.scope x := by first | exact .inl rfl | exact .inr rfl) (hs : swapsWith e (some (.Name x pos')) pos.line X.env = pure false := by rfl)
    (hf : X.fn x = true ∨ X.env.scope.names.lookup x = some .local := by first | exact .inl rfl | exact .inr rfl | assumption) : DSt X q H0 E (.Assign [.Name x pos'] e pos) (dSet i t) := ⟨(ps_set hN hi hx he.pe hs hf).imp fun D σ H ⟨ρ, n, G, R, h, cn, cr, cb, cc, o⟩ =>
  dTE_mk R h (fun v H' d n' hd f1 R1 ⟨hl, hq⟩ => cn _ H' _ n' (f1.x R.dr) (R1.set hd (by rw [← R1.len]; exact hl)) hq) o⟩
theorem ds_asg {tg : Expr} (he : DE X q H0 E e t) (hg : DGt X q H0 ow tg g) (hs : swapsWithSole [tg] e pos.line X.env = pure false := by rfl) (hw : swappedStores [tg] e X.env = pure none := by rfl)
    (h1 : (assignEach [tg] X.env).map (·.2) = [assign tg X.env] := by rfl) : DSt X q H0 E (.Assign [tg] e pos) (dAsg t g) := ⟨(ps_asg he.pe hg.pg hs hw h1).imp fun D σ H ⟨ρ, n, G, R, h, cn, cr, cb, cc, o⟩ =>
  dTE_mk R h (fun v H' d n' hd f1 R1 hq => ⟨ρ, n', d, G.nx, R1, hd, hq, fun σ2 H2 ρ2 n2 f2 s2 R2 _ _ hr => cn σ2 H2 ρ2 n2 ((f1.x R.dr).trans f2) R2 hr⟩) o⟩
theorem ds_par {x y : Str} {px py pt : Pos} {kt k2 : Nat} {pt2 : Pos} (i j : Nat) (hc : X.calm = true) (hN : X.N.Nodup) (ha : DE X q H0 E a ta) (hb : DE X q H0 E b tb) (hi : X.N[i]? = some x := by rfl) (hj : X.N[j]? = some y := by rfl) (hij : i ≠ j := by decide)
    (hx : X.env.scope.names.lookup x = some .local := by rfl) (hy : X.env.scope.names.lookup y = some .local := by rfl)
    (hw : swappedStores [.Tuple [.Name x px, .Name y py] kt pt] (.Tuple [a, b] k2 pt2) X.env = pure (some [x, y]) := by rfl)
    (hs : swapsWithSole [.Tuple [.Name x px, .Name y py] kt pt] (.Tuple [a, b] k2 pt2) pos.line X.env = pure false := by rfl)
    (hs1 : starEach [a, b] X.env = (false, eval a X.env) :: starEach [b] X.env := by rfl) (hs2 : starEach [b] X.env = (false, eval b X.env) :: starEach [] X.env := by rfl) :
    DSt X q H0 E (.Assign [.Tuple [.Name x px, .Name y py] kt pt] (.Tuple [a, b] k2 pt2) pos) (dPar i j ta tb) := by
  refine ⟨(ps_par hc hN hi hj hij hx hy (pa_cons ha.pe (pa_cons hb.pe pa_nil hs2) hs1) hw hs).imp fun D σ H ⟨ρ, n, G, R, h, cn, cr, cb, cc, o⟩ => ?_⟩
  refine dTE_mk R h (fun v H1 d n1 hd f1 R1 h1 => ?_) o
  refine dTE_mk R1 h1 (fun w H2 d2 n2 hd2 f2 R2 ⟨⟨l1, l2⟩, h2⟩ => ?_) o
  refine ⟨v, w, rfl, cn _ H2 _ n2 ((f1.trans f2).x R.dr) ?_ h2⟩
  have l1' : i < σ.length := by rw [← R2.len]; exact l1
  have l2' : j < (σ.set i (some v)).length := by rw [List.length_set, ← R2.len]; exact l2
  exact (R2.set (hd.up (f2.x R1.dr)) l1').set hd2 l2'
theorem ds_if {c : Expr} {x y : List Stmt} (hc : DTe X q H0 E c tt) (ha : DSs X q H0 E x s) (hb : DSs X q H0 E y u) : DSt X q H0 E (.If c x y pos) (dIfS tt s u) := by
  refine ⟨(ps_if hc.pt ha.pss hb.pss).imp fun D σ H ⟨ρ, n, G, R, h, cn, cr, cb, cc, o⟩ => ?_⟩
  refine dTT_mk R h (fun k H1 n1 f1 R1 h1 => ?_) o
  have fx := f1.x R.dr
  cases k with
  | true => exact dTS_mk R1 h1 (fun σ2 H2 ρ2 n2 f2 R2 hq => cn σ2 H2 ρ2 n2 (fx.trans f2) R2 hq) (fun v H2 d n2 hd f2 r2 d2 hq => cr v H2 d n2 hd (fx.trans f2) r2 d2 hq) (fun σ2 H2 ρ2 n2 f2 R2 hq => cb σ2 H2 ρ2 n2 (fx.trans f2) R2 hq) (fun σ2 H2 ρ2 n2 f2 R2 hq => cc σ2 H2 ρ2 n2 (fx.trans f2) R2 hq) o
  | false => exact dTS_mk R1 h1 (fun σ2 H2 ρ2 n2 f2 R2 hq => cn σ2 H2 ρ2 n2 (fx.trans f2) R2 hq) (fun v H2 d n2 hd f2 r2 d2 hq => cr v H2 d n2 hd (fx.trans f2) r2 d2 hq) (fun σ2 H2 ρ2 n2 f2 R2 hq => cb σ2 H2 ρ2 n2 (fx.trans f2) R2 hq) (fun σ2 H2 ρ2 n2 f2 R2 hq => cc σ2 H2 ρ2 n2 (fx.trans f2) R2 hq) o
theorem dss_nil : DSs X q H0 E [] dNext := ⟨pss_nil.imp fun D σ H ⟨ρ, n, G, R, h, cn, cr, cb, cc, o⟩ => cn σ H ρ n (.refl _) R h⟩
theorem dss_one (h : DSt X q H0 E st s) : DSs X q H0 E [st] s := ⟨pss_one h.ps⟩
theorem dss_cons (h1 : DSt X q H0 E st s) (h2 : DSs X q H0 E rest u) : DSs X q H0 E (st :: rest) (dSeq s u) := by
  refine ⟨(pss_cons h1.ps h2.pss).imp fun D σ H ⟨ρ, n, G, R, h, cn, cr, cb, cc, o⟩ => ?_⟩
  refine dTS_mk (G := { G with nx := u G }) R h (fun σ1 H1 ρ1 n1 f1 R1 h1 => ?_) cr cb cc o
  exact dTS_mk R1 h1 (fun σ2 H2 ρ2 n2 f2 R2 hq => cn σ2 H2 ρ2 n2 (f1.trans f2) R2 hq) (fun v H2 d n2 hd f2 r2 d2 hq => cr v H2 d n2 hd (f1.trans f2) r2 d2 hq) (fun σ2 H2 ρ2 n2 f2 R2 hq => cb σ2 H2 ρ2 n2 (f1.trans f2) R2 hq) (fun σ2 H2 ρ2 n2 f2 R2 hq => cc σ2 H2 ρ2 n2 (f1.trans f2) R2 hq) o
theorem ds_pass : DSt X q H0 E (.Pass pos) dNext := ⟨ps_pass.imp fun D σ H ⟨ρ, n, G, R, h, cn, cr, cb, cc, o⟩ => cn σ H ρ n (.refl _) R h⟩
theorem ds_brk : DSt X q H0 E (.Break pos) dBrk := ⟨ps_break.imp fun D σ H ⟨ρ, n, G, R, h, cn, cr, cb, cc, o⟩ => cb σ H ρ n (.refl _) R h⟩
theorem ds_cont : DSt X q H0 E (.Continue pos) dCont := ⟨ps_continue.imp fun D σ H ⟨ρ, n, G, R, h, cn, cr, cb, cc, o⟩ => cc σ H ρ n (.refl _) R h⟩
end

/-! ### while -/
def dWhile (c : DTT) (tb : DS) : DS := fun G ρ n => ∃ W : Nat → SEnv → Sd → Prop, (∃ m, W m ρ n) ∧ ∀ m ρ n, W m ρ n →
  c ρ n (fun b n1 => if b = true then tb { nx := fun ρ' n' => ∃ m', m' < m ∧ W m' ρ' n', rt := G.rt, bk := G.nx, ct := fun ρ' n' => ∃ m', m' < m ∧ W m' ρ' n', ex := G.ex } ρ n1 else G.nx ρ n1) G.ex
theorem ds_while {X : Cx} {q : Dq} {H0 : Hp} {E : XK} {c : Expr} {body : List Stmt} {tc : DTT} {tb : DS} {pos : Pos} (hp : PassesOwn (model X.prog X.w) X.A X.env X.xe) (hc : DTe X q H0 E c tc) (hb : DSs X q H0 E body tb) : DSt X q H0 E (.While c body [] pos) (dWhile tc tb) := by
  refine ⟨(ps_while hp hc.pt hb.pss).imp fun D σ H ⟨ρ, n, G, R, ⟨W, ⟨m0, w0⟩, h⟩, cn, cr, cb, cc, o⟩ => ?_⟩
  refine ⟨fun m σ1 H1 => FrX H H1 ∧ ∃ ρ1 n1, Rel X.K q H0 ρ1 n1 σ1 H1 ∧ W m ρ1 n1, ⟨m0, .refl _, ρ, n, R, w0⟩, ?_⟩
  rintro m σ1 H1 ⟨f1, ρ1, n1, R1, w1⟩
  refine dTT_mk R1 (h m ρ1 n1 w1) (fun k H2 n2 f2 R2 h2 => ?_) o
  have fx := f1.trans (f2.x R1.dr)
  cases k with
  | true =>
    refine ⟨fun σ' H' => ∃ m', m' < m ∧ FrX H H' ∧ ∃ ρ1 n1, Rel X.K q H0 ρ1 n1 σ' H' ∧ W m' ρ1 n1, fun _ _ z => z, ?_⟩
    exact dTS_mk R2 h2 (fun σ3 H3 ρ3 n3 f3 R3 ⟨m', lt, w3⟩ => ⟨m', lt, fx.trans f3, ρ3, n3, R3, w3⟩) (fun v H3 d n3 hd f3 r3 d3 hq => cr v H3 d n3 hd (fx.trans f3) r3 d3 hq) (fun σ3 H3 ρ3 n3 f3 R3 hq => cn σ3 H3 ρ3 n3 (fx.trans f3) R3 hq)
      (fun σ3 H3 ρ3 n3 f3 R3 ⟨m', lt, w3⟩ => ⟨m', lt, fx.trans f3, ρ3, n3, R3, w3⟩) o
  | false => exact cn σ1 H2 ρ1 n2 fx R2 h2

/-! ### what is walked -/
structure ItOk (K : PySem.W.Frag) (q : Dq) (J : It) (ds : List D) (H1 : Hp) : Prop where
  go : ∀ i H, FrX H1 H → i < ds.length → J.go i H
  yld : ∀ i H x H', FrX H1 H → i < ds.length → J.yld i H x H' → Same H H' ∧ ∃ d, ds[i]? = some d ∧ ∀ Hm, FrX H1 Hm → (∀ b o, H b = none → H' b = some o → Hm b = some o) → Dt K q Hm x d
  stop : ∀ H, FrX H1 H → J.stop ds.length H
abbrev DTI := SEnv → Sd → (List D → Sd → Prop) → QE → Prop
def dTI (K : PySem.W.Frag) (q : Dq) (H0 : Hp) (E : XK) (t : DTI) : TI := fun σ H R => ∃ ρ n Q0 F, Rel K q H0 ρ n σ H ∧ t ρ n Q0 F ∧
  (∀ J H' ds n', ItOk K q J ds H' → Fr q H H' → Rel K q H0 ρ n' σ H' → Q0 ds n' → R J H') ∧ ErOk K q H0 F E
structure DI (X : Cx) (q : Dq) (H0 : Hp) (E : XK) (tg iter : Expr) (t : DTI) : Prop where
  pi : PI X tg iter (dTI X.K q H0 E t)
theorem _root_.L2.PI.imp {X : Cx} {tg e : Expr} {t t' : TI} (h : PI X tg e t) (i : ∀ σ H R, t' σ H R → t σ H R) : PI X tg e t' := ⟨fun pins s σ H R I hw => h.run pins s σ H R I (i σ H R hw)⟩
theorem _root_.L2.PI.or {X : Cx} {tg e : Expr} {t t' : TI} (h : PI X tg e t) (h' : PI X tg e t') : PI X tg e (fun σ H R => t σ H R ∨ t' σ H R) := ⟨fun pins s σ H R I hw => hw.elim (fun z => h.run pins s σ H R I z) fun z => h'.run pins s σ H R I z⟩
section
variable {X : Cx} {q : Dq} {H0 : Hp} {E : XK} {tg e a b : Expr} {t ta tb : DT} {ts : DTA} {p pos : Pos}
theorem itOk_list {K : PySem.W.Frag} {H : Hp} {a : Addr} {vs : List V} {ds : List D} (ha : H a = some (.lst vs)) (va : DtAll K q H vs ds) : ItOk K q (Itl K a) ds H where
  go := fun i H1 f hi => ⟨vs, vs[i]'(by rw [va.length]; exact hi), SqL.of (f _ _ ha True.intro), by simp⟩
  yld := fun i H1 x H2 f hi ⟨e1, k⟩ => by
    subst e1
    obtain ⟨d, e2, hd⟩ := va.getV (k vs (SqL.of (f _ _ ha True.intro)))
    exact ⟨.refl _, d, e2, fun Hm fm _ => hd.up fm⟩
  stop := fun H1 f => ⟨vs, SqL.of (f _ _ ha True.intro), by rw [va.length]; exact Nat.le_refl _⟩
theorem itOk_tup {K : PySem.W.Frag} {H : Hp} {a : Addr} {vs : List V} {ds : List D} (ha : SqT K H a vs) (va : DtAll K q H vs ds) : ItOk K q (Itt K a) ds H where
  go := fun i H1 f hi => ⟨vs, vs[i]'(by rw [va.length]; exact hi), sqT_up f ha, by simp⟩
  yld := fun i H1 x H2 f hi ⟨e1, k⟩ => by
    subst e1
    obtain ⟨d, e2, hd⟩ := va.getV (k vs (sqT_up f ha))
    exact ⟨.refl _, d, e2, fun Hm fm _ => hd.up fm⟩
  stop := fun H1 f => ⟨vs, sqT_up f ha, by rw [va.length]; exact Nat.le_refl _⟩
/-- over a list or a tuple -/
def dSeqI (t : DT) : DTI := fun ρ n Q F => t ρ n (fun x n1 => ∃ ds, (x = .lst ds ∨ x = .tup ds) ∧ Q ds n1) F
theorem di_seq (he : DE X q H0 E e t) : DI X q H0 E tg e (dSeqI t) := by
  have h1 : PI X tg e (fun σ H R => dTE X.K q H0 E t σ H fun x H1 => ∃ a, x = .ref a ∧ (((∃ xs, SqL X.K H1 a xs) ∧ R (Itl X.K a) H1) ∨ ((∃ xs, SqT X.K H1 a xs) ∧ R (Itt X.K a) H1))) := by
    refine ⟨fun pins s σ H R I h => ?_⟩
    refine thn (he.pe.run pins s σ H _ I h) fun v s1 ⟨x, H1, I1, r1, q1⟩ => ?_
    obtain ⟨a, e, q1⟩ := q1
    subst e
    cases r1
    rcases q1 with ⟨⟨xs, hq⟩, q⟩ | ⟨⟨xs, hq⟩, q⟩
    · obtain ⟨its, rv, p, hz⟩ := I1.list hq
      refine wpAny_pyIter_list p.isList ?_
      refine ⟨s1.heap.objs.size, [s1.heap.objs.size], _, _, H1, rfl, I1.kept (t' := s1.toks) fun b o e => Heap.get?_push_of_some _ e, turn_list a _, ⟨_, Heap.get?_push_size _ rfl, rfl, rfl⟩, fun b hb => ?_, q⟩
      have e : b = s1.heap.objs.size := by simpa using hb
      subst e
      exact I1.fpOk (Nat.le_refl _) (I1.hok.fresh (Nat.le_refl _))
    · obtain ⟨its, rv, p, hz⟩ := I1.tuple hq
      refine wpAny_pyIter_tuple (show s1.heap.IsTuple a its.toArray from p) ?_
      refine ⟨s1.heap.objs.size, [s1.heap.objs.size], _, _, H1, rfl, I1.kept (t' := s1.toks) fun b o e => Heap.get?_push_of_some _ e, turn_tuple a _, ⟨_, Heap.get?_push_size _ rfl, rfl, rfl⟩, fun b hb => ?_, q⟩
      have e : b = s1.heap.objs.size := by simpa using hb
      subst e
      exact I1.fpOk (Nat.le_refl _) (I1.hok.fresh (Nat.le_refl _))
  refine ⟨h1.imp fun σ H R ⟨ρ, n, Q0, F, Rl, h, c, o⟩ => ?_⟩
  refine dTE_mk Rl h (fun x H1 dx n1 hx f1 R1 ⟨ds, e, h1⟩ => ?_) o
  rcases e with e | e
  · subst e
    cases hx with
    | lst ha va => exact ⟨_, rfl, .inl ⟨⟨_, SqL.of ha⟩, c _ H1 ds n1 (itOk_list ha va) f1 R1 h1⟩⟩
  · subst e
    cases hx with
    | tup ha va => exact ⟨_, rfl, .inr ⟨⟨_, ha⟩, c _ H1 ds n1 (itOk_tup ha va) f1 R1 h1⟩⟩
/-- the ints from lo on, n of them -/
def rgD (lo : Int) (n : Nat) : List D := (List.range n).map fun (i : Nat) => D.int (lo + (i : Int))
theorem rgD_length (lo : Int) (n : Nat) : (rgD lo n).length = n := by simp [rgD]
theorem itOk_rng {K : PySem.W.Frag} {H : Hp} {lo : Int} {n : Nat} : ItOk K q (Itr lo n) (rgD lo n) H where
  go := fun i H1 f hi => by rw [rgD_length] at hi; exact hi
  yld := fun i H1 x H2 f hi ⟨e1, e2⟩ => by
    subst e1 e2
    rw [rgD_length] at hi
    exact ⟨.refl _, .int (lo + i), by simp [rgD, hi], fun Hm fm _ => .int _⟩
  stop := fun H1 f => by rw [rgD_length]; exact Nat.le_refl n
def dRng1 (ta : DT) : DTI := fun ρ n Q F => ta ρ n (fun x n1 => ∃ j : Int, x = .int j ∧ (-(2 ^ 62) ≤ j ∧ j < 2 ^ 62) ∧ Q (rgD 0 j.toNat) n1) F
theorem di_rng1 (hg : Gl X "range") (hm : X.mg "range" = none) (ha : DE X q H0 E a ta) (hs : starEach [a] X.env = [(false, eval a X.env)] := by rfl) : DI X q H0 E tg (.Call (.Name "range" p) [a] [] pos) (dRng1 ta) := by
  refine ⟨(pi_range1 hg hm (pa_cons ha.pe pa_nil (by rw [hs]; rfl)) hs).imp fun σ H R ⟨ρ, n, Q0, F, Rl, h, c, o⟩ => ?_⟩
  refine dTE_mk Rl h (fun x H1 dx n1 hx f1 R1 ⟨j, e, ⟨h1, h2⟩, h3⟩ => ?_) o
  subst e
  cases hx
  exact ⟨j, rfl, h1, h2, c _ H1 _ n1 itOk_rng f1 R1 h3⟩
def dRng2 (ta tb : DT) : DTI := fun ρ n Q F => ta ρ n (fun x n1 => tb ρ n1 (fun y n2 => ∃ i j : Int, x = .int i ∧ y = .int j ∧ (-(2 ^ 62) ≤ i ∧ i < 2 ^ 62 ∧ -(2 ^ 62) ≤ j ∧ j < 2 ^ 62) ∧ Q (rgD i (j - i).toNat) n2) F) F
theorem di_rng2 (hg : Gl X "range") (hm : X.mg "range" = none) (ha : DE X q H0 E a ta) (hb : DE X q H0 E b tb) (hs : starEach [a, b] X.env = [(false, eval a X.env), (false, eval b X.env)] := by rfl) (hs2 : starEach [b] X.env = [(false, eval b X.env)] := by rfl) : DI X q H0 E tg (.Call (.Name "range" p) [a, b] [] pos) (dRng2 ta tb) := by
  refine ⟨(pi_range2 hg hm (pa_cons ha.pe (pa_cons hb.pe pa_nil (by rw [hs2]; rfl)) (by rw [hs, hs2])) hs hs2).imp fun σ H R ⟨ρ, n, Q0, F, Rl, h, c, o⟩ => ?_⟩
  refine dTE_mk Rl h (fun x H1 dx n1 hx f1 R1 h1 => ?_) o
  refine dTE_mk R1 h1 (fun y H2 dy n2 hy f2 R2 ⟨i, j, e1, e2, hb, h3⟩ => ?_) o
  subst e1 e2
  cases hx
  cases hy
  exact ⟨i, j, rfl, hb, c _ H2 _ n2 itOk_rng (f1.trans f2) R2 h3⟩
end

/-! ### for -/
def forD (g : DG) (tb : DS) (G : EndsD) : List D → SEnv → Sd → Prop
  | [], ρ, n => G.nx ρ n
  | d :: ds, ρ, n => g d ρ n (fun ρ1 n1 => tb { nx := forD g tb G ds, rt := G.rt, bk := G.nx, ct := forD g tb G ds, ex := G.ex } ρ1 n1)
def dFor (it : DTI) (g : DG) (tb : DS) : DS := fun G ρ n => it ρ n (fun ds n1 => forD g tb G ds ρ n1) G.ex
theorem ds_for {X : Cx} {q : Dq} {H0 : Hp} {E : XK} {tg iter : Expr} {body : List Stmt} {it : DTI} {g : DG} {tb : DS} {ow : List Nat} {pos : Pos} (hp : PassesOwn (model X.prog X.w) X.A X.env X.xe) (hc : X.calm = true) (hi : DI X q H0 E tg iter it) (hg : DGt X q H0 ow tg g) (hb : DSs X q H0 E body tb)
    (hs : ∀ x, foldedSetIterable iter X.env x = pure x := by intro _; rfl) : DSt X q H0 E (.For tg iter body [] pos) (dFor it g tb) := by
  refine ⟨(ps_for hp hc hi.pi hg.pg hb.pss hs).imp fun D σ H ⟨ρ, n, G, R, h, cn, cr, cb, cc, o⟩ => ?_⟩
  refine ⟨ρ, n, _, G.ex, R, h, fun J H1 ds n1 ok f1 R1 h1 => ?_, o⟩
  have f1x := f1.x R.dr
  refine ⟨fun i m σ' H' => m = ds.length - i ∧ i ≤ ds.length ∧ FrX H1 H' ∧ ∃ ρ' n', Rel X.K q H0 ρ' n' σ' H' ∧ forD g tb G (ds.drop i) ρ' n', ⟨ds.length, by simp, Nat.zero_le _, .refl _, ρ, n1, R1, h1⟩, ?_⟩
  rintro i m σ2 H2 ⟨rfl, hi, f2, ρ2, n2, R2, h2⟩
  by_cases hlt : i < ds.length
  · refine .inr ⟨ok.go i H2 f2 hlt, fun σ' H' => FrX H1 H' ∧ ∃ ρ' n', Rel X.K q H0 ρ' n' σ' H' ∧ forD g tb G (ds.drop (i + 1)) ρ' n', fun σ' H' z => ⟨ds.length - (i + 1), by omega, rfl, hlt, z⟩, fun x H3 y => ?_⟩
    obtain ⟨s3, d, e3, k3⟩ := ok.yld i H2 x H3 f2 hlt y
    have f3 : FrX H1 H3 := f2.trans (.of_same s3)
    have hd := k3 H3 f3 fun _ _ _ z => z
    have e4 : ds.drop i = d :: ds.drop (i + 1) := by
      rw [List.drop_eq_getElem_cons hlt]
      congr
      exact Option.some.inj ((List.getElem?_eq_getElem hlt).symm.trans e3)
    rw [e4] at h2
    refine ⟨ρ2, n2, d, _, R2.same s3, hd, h2, fun σ4 H4 ρ4 n4 f4 s4 R4 _ _ h4 => ?_⟩
    have f14 := f3.trans f4
    exact dTS_mk R4 h4 (fun σ5 H5 ρ5 n5 f5 R5 h5 => ⟨f14.trans f5, ρ5, n5, R5, h5⟩) (fun v H5 d n5 hd f5 r5 d5 hq => cr v H5 d n5 hd ((f1x.trans f14).trans f5) r5 d5 hq) (fun σ5 H5 ρ5 n5 f5 R5 h5 => cn σ5 H5 ρ5 n5 ((f1x.trans f14).trans f5) R5 h5)
      (fun σ5 H5 ρ5 n5 f5 R5 h5 => ⟨f14.trans f5, ρ5, n5, R5, h5⟩) o
  · have e : i = ds.length := by omega
    subst e
    rw [List.drop_length] at h2
    exact .inl ⟨ok.stop H2 f2, cn σ2 H2 ρ2 n2 (f1x.trans f2) R2 h2⟩
end DL
/-! T7: comprehensions; lists that one slot owns. -/
namespace DL
open PySem PySem.Spec L2

theorem upd_id {H : Hp} {a : Addr} {o : HO} (h : H a = some o) : upd H a o = H := by
  funext b
  unfold upd
  split
  · rename_i e
    subst e
    exact h.symm
  · rfl
theorem same_updd {H H' : Hp} {a : Addr} {o : HO} (s : Same H H') : Same (upd H a o) (upd H' a o) := fun b u e => by
  by_cases hb : b = a
  · subst hb
    rw [upd_same] at e ⊢
    exact e
  · rw [upd_ne hb] at e ⊢
    exact s b u e

/-! ### a list that grows is hidden while the block runs -/
section
variable {X : Cx} {e : Expr} {ifs : List Expr} {t : TE} {tt : TT} {g : TG}
def mkE (t : TE) : TE := fun σ H Q => ∃ A xs, H A = some (.lst xs) ∧ t σ (upd H A (MutL A xs)) fun v H' => H' A = some (MutL A xs) ∧ Q v (upd H' A (.lst xs))
def mkT (t : TT) : TT := fun σ H Q => ∃ A xs, H A = some (.lst xs) ∧ t σ (upd H A (MutL A xs)) fun v H' => H' A = some (MutL A xs) ∧ Q v (upd H' A (.lst xs))
def mkG (t : TG) : TG := fun v σ H Q => ∃ A xs, H A = some (.lst xs) ∧ t v σ (upd H A (MutL A xs)) fun σ' H' => H' A = some (MutL A xs) ∧ Q σ' (upd H' A (.lst xs))
theorem pe_mk' (h : PE X e t) : PE X e (mkE t) := ⟨fun pins s σ H Q I ⟨A, xs, e1, hw⟩ =>
  thn (h.run pins s σ _ _ (inv_hide I e1) hw) fun v s1 ⟨x, H1, I1, r1, e2, q1⟩ => ⟨x, _, inv_show I1 e2, r1, q1⟩⟩
theorem pt_mk (h : PT X e tt) : PT X e (mkT tt) := ⟨fun pins s σ H Q I ⟨A, xs, e1, hw⟩ =>
  thn (h.run pins s σ _ _ (inv_hide I e1) hw) fun v s1 ⟨H1, I1, e2, q1⟩ => ⟨_, inv_show I1 e2, q1⟩⟩
theorem pg_mk (h : PG X e g) : PG X e (mkG g) := ⟨fun pins s σ H v u Q I r ⟨A, xs, e1, hw⟩ =>
  thn (h.run pins s σ _ v u _ (inv_hide I e1) r hw) fun _ s1 ⟨σ1, H1, I1, e2, q1⟩ => ⟨σ1, _, inv_show I1 e2, q1⟩⟩
end

/-- no test, or one -/
structure DPts (X : Cx) (q : Dq) (H0 : Hp) (E : XK) (ifs : List Expr) (t : DTT) : Prop where
  pts : PTs X ifs (mkT (dTT X.K q H0 E t))
def dYes : DTT := fun _ n Q _ => Q true n
section
variable {X : Cx} {q : Dq} {H0 : Hp} {E : XK} {c : Expr} {tt : DTT}
theorem _root_.L2.PTs.imp {ifs : List Expr} {t t' : TT} (h : PTs X ifs t) (i : ∀ σ H Q, t' σ H Q → t σ H Q) : PTs X ifs t' := ⟨fun pins s σ H Q I hw => h.run pins s σ H Q I (i σ H Q hw)⟩
theorem dp_nil : DPts X q H0 E [] dYes := ⟨pts_nil.imp fun σ H Q ⟨A, xs, e1, ρ, n, Q0, F, R, h, k, o⟩ => by
  have z := (k true _ n (.refl _) R h).2
  rw [upd_upd, upd_id e1] at z
  exact z⟩
theorem dp_one (h : DTe X q H0 E c tt) : DPts X q H0 E [c] tt := ⟨pts_one (pt_mk h.pt)⟩
end

def wipeD (ρ : SEnv) : List Nat → SEnv
  | [] => ρ
  | v :: vs => (wipeD ρ vs).set v .no
theorem wipe_get {σ : L2.St} {i : Nat} : ∀ {vs : List Nat}, i ∉ vs → (wipe σ vs)[i]? = σ[i]?
  | [], _ => rfl
  | v :: vs, h => by
    simp only [List.mem_cons, not_or] at h
    unfold wipe
    rw [List.getElem?_set_ne (Ne.symm h.1)]
    exact wipe_get h.2
theorem wipe_in {σ : L2.St} {i : Nat} : ∀ {vs : List Nat}, i ∈ vs → i < σ.length → (wipe σ vs)[i]? = some none
  | v :: vs, h, hl => by
    unfold wipe
    by_cases e : v = i
    · subst e
      rw [List.getElem?_set_self (by rw [wipe_length]; exact hl)]
    · rw [List.getElem?_set_ne e]
      exact wipe_in ((List.mem_cons.mp h).resolve_left (Ne.symm e)) hl
theorem wipeD_length (ρ : SEnv) : ∀ vs : List Nat, (wipeD ρ vs).length = ρ.length
  | [] => rfl
  | v :: vs => by unfold wipeD; rw [List.length_set, wipeD_length ρ vs]
theorem wipeD_get {ρ : SEnv} {i : Nat} : ∀ {vs : List Nat}, i ∉ vs → (wipeD ρ vs)[i]? = ρ[i]?
  | [], _ => rfl
  | v :: vs, h => by
    simp only [List.mem_cons, not_or] at h
    unfold wipeD
    rw [List.getElem?_set_ne (Ne.symm h.1)]
    exact wipeD_get h.2
theorem wipeD_in {ρ : SEnv} {i : Nat} : ∀ {vs : List Nat}, i ∈ vs → i < ρ.length → (wipeD ρ vs)[i]? = some .no
  | v :: vs, h, hl => by
    unfold wipeD
    by_cases e : v = i
    · subst e
      rw [List.getElem?_set_self (by rw [wipeD_length]; exact hl)]
    · rw [List.getElem?_set_ne e]
      exact wipeD_in ((List.mem_cons.mp h).resolve_left (Ne.symm e)) hl
theorem wipe_agree {σ σ' : L2.St} {ow vs : List Nat} (hl : σ'.length = σ.length) (h : ∀ j, j ∉ ow → σ'[j]? = σ[j]?) (hs : ∀ j ∈ ow, j ∈ vs) : wipe σ' vs = wipe σ vs := by
  apply List.ext_getElem?
  intro i
  by_cases hi : i ∈ vs
  · by_cases hb : i < σ.length
    · rw [wipe_in hi (by rw [hl]; exact hb), wipe_in hi hb]
    · rw [List.getElem?_eq_none (by rw [wipe_length, hl]; omega), List.getElem?_eq_none (by rw [wipe_length]; omega)]
  · rw [wipe_get hi, wipe_get hi]
    exact h i fun z => hi (hs i z)
theorem Rel.wipe {K : PySem.W.Frag} {q : Dq} {H0 H : Hp} {ρ : SEnv} {n : Sd} {σ : L2.St} (R : Rel K q H0 ρ n σ H) (vs : List Nat) : Rel K q H0 (wipeD ρ vs) n (L2.wipe σ vs) H := by
  have out : ∀ {i : Nat} {s : Slot}, (wipeD ρ vs)[i]? = some s → s ≠ .no → i ∉ vs ∧ ρ[i]? = some s := fun {i s} e hs => by
    by_cases hi : i ∈ vs
    · by_cases hl : i < ρ.length
      · rw [wipeD_in hi hl] at e
        exact absurd (Option.some.inj e).symm hs
      · rw [List.getElem?_eq_none (by rw [wipeD_length]; omega)] at e
        cases e
    · rw [wipeD_get hi] at e
      exact ⟨hi, e⟩
  refine ⟨by rw [wipeD_length, wipe_length]; exact R.len, fun i x e => ?_, fun i ds e => ?_, fun i j ds es p e1 e2 e3 e4 => ?_, R.dr, R.fr, R.q0⟩
  · obtain ⟨hi, e⟩ := out e (by intro z; cases z)
    rw [wipe_get hi]
    exact R.d i x e
  · obtain ⟨hi, e⟩ := out e (by intro z; cases z)
    rw [wipe_get hi]
    exact R.own i ds e
  · obtain ⟨hi, e1⟩ := out e1 (by intro z; cases z)
    obtain ⟨hj, e2⟩ := out e2 (by intro z; cases z)
    rw [wipe_get hi] at e3
    rw [wipe_get hj] at e4
    exact R.apart i j ds es p e1 e2 e3 e4

/-- [elt for target in iter if ..] over data -/
def lcD (g : DG) (tt : DTT) (te : DT) (ρ0 : SEnv) (Q : QD) : List D → List D → Sd → Prop
  | [], acc, n => Q (.lst acc) n
  | d :: ds, acc, n => g d ρ0 n (fun ρ1 n1 => tt ρ1 n1 (fun b n2 => if b = true then te ρ1 n2 (fun y n3 => lcD g tt te ρ0 Q ds (acc ++ [y]) n3) (fun _ _ => False) else lcD g tt te ρ0 Q ds acc n2) (fun _ _ => False))
def dLc (it : DTI) (g : DG) (tt : DTT) (te : DT) (vs : List Nat) : DT := fun ρ n Q F => it ρ n (fun ds n1 => ds.length ≤ sizeLine ∧ lcD g tt te (wipeD ρ vs) Q ds [] n1) F
section
variable {X : Cx} {q : Dq} {H0 : Hp} {E : XK} {elt tg iter : Expr} {ifs : List Expr} {scope : Scope} {own : List (Str × Nat)} {pos : Pos} {it : DTI} {g : DG} {tt : DTT} {te : DT} {ow : List Nat}
theorem erOk_no {K : PySem.W.Frag} : ErOk K q H0 (fun _ _ => False) L2.E0 := fun _ _ _ _ _ _ _ _ z => z.elim
theorem lc_core' {K : PySem.W.Frag} {σ : L2.St} {H : Hp} {Q : VK} {vs : List Nat} (how : ∀ j ∈ ow, j ∈ vs) (h : dTE K q H0 E (dLc it g tt te vs) σ H Q) :
    tLc (dTI K q H0 E it) (mkG (dTG K q H0 ow g)) (mkT (dTT K q H0 L2.E0 tt)) (mkE (dTE K q H0 L2.E0 te)) vs σ H Q := by
  obtain ⟨ρ, n, Q0, F, R, h, c, o⟩ := h
  refine ⟨ρ, n, _, F, R, h, fun J H1 ds n1 ok f1 R1 ⟨hz, h1⟩ => ?_, o⟩
  intro A hA
  have aq : some A ≠ qa q := fun z => dr_not R1.dr hA z
  have h0 : H0 A = none := by
    cases e : H0 A with
    | none => rfl
    | some u =>
      have := R1.fr A u e aq
      rw [hA] at this
      exact this.no.elim
  -- the wished end, from a heap in which the list stands
  have close : ∀ (Hm : Hp) (acc : List V) (ac : List D) (n' : Sd), Hm A = some (MutL A acc) → Rel K q H0 (wipeD ρ vs) n' (wipe σ vs) Hm → FrX H1 Hm → Fr q H1 Hm → DtAll K q Hm acc ac → Q0 (.lst ac) n' → Q (.ref A) (upd Hm A (.lst acc)) := by
    intro Hm acc ac n' eA Rm fm fqm da hq
    have fu : FrX Hm (upd Hm A (.lst acc)) := fun b u e ne => by
      have hb : b ≠ A := fun z => by subst z; rw [eA] at e; cases e; exact ne
      rw [upd_ne hb]; exact e
    have f0 : Fr q H1 (upd Hm A (.lst acc)) := fun b u e nq => by
      have hb : b ≠ A := ne_of_none e hA
      rw [upd_ne hb]; exact fqm b u e nq
    have dr : Dr K q n' (upd Hm A (.lst acc)) := dr_mut Rm.dr eA aq _
    exact c _ _ _ n' (.lst upd_same (da.up fu)) (f1.trans f0) (R1.up f0 dr) hq
  have Rw := R1.wipe vs
  refine ⟨fun i m H2 => m = ds.length - i ∧ i ≤ ds.length ∧ ∃ acc ac n2 Hm, H2 = upd Hm A (.lst acc) ∧ Hm A = some (MutL A acc) ∧ acc.length ≤ i ∧ Rel K q H0 (wipeD ρ vs) n2 (wipe σ vs) Hm ∧ FrX H1 Hm ∧ Fr q H1 Hm ∧ DtAll K q Hm acc ac ∧ lcD g tt te (wipeD ρ vs) Q0 (ds.drop i) ac n2,
    ⟨ds.length, by simp, Nat.zero_le _, [], [], n1, upd H1 A (MutL A []), by rw [upd_upd], upd_same, Nat.le_refl _, Rw.same (same_upd hA), .of_same (same_upd hA), .of_same (same_upd hA), .nil, h1⟩, ?_⟩
  rintro i m H2 ⟨rfl, hi, acc, ac, n2, Hm, rfl, eA, hl, Rm, fm, fqm, da, h2⟩
  have fU : FrX H1 (upd Hm A (.lst acc)) := fun b u e ne => by
    rw [upd_ne (ne_of_none e hA)]; exact fm b u e ne
  by_cases hlt : i < ds.length
  · let W : Hp → Prop := fun H3 => i + 1 ≤ ds.length ∧ ∃ acc ac n2 Hm, H3 = upd Hm A (.lst acc) ∧ Hm A = some (MutL A acc) ∧ acc.length ≤ i + 1 ∧ Rel K q H0 (wipeD ρ vs) n2 (wipe σ vs) Hm ∧ FrX H1 Hm ∧ Fr q H1 Hm ∧ DtAll K q Hm acc ac ∧ lcD g tt te (wipeD ρ vs) Q0 (ds.drop (i + 1)) ac n2
    refine .inr ⟨ok.go i _ fU hlt, W, fun H' z => ⟨ds.length - (i + 1), by omega, rfl, z⟩, fun x H3 y => ?_⟩
    obtain ⟨s3, d, e3, k3⟩ := ok.yld i _ x H3 fU hlt y
    have e4 : ds.drop i = d :: ds.drop (i + 1) := by
      rw [List.drop_eq_getElem_cons hlt]
      congr
      exact Option.some.inj ((List.getElem?_eq_getElem hlt).symm.trans e3)
    rw [e4] at h2
    have eA3 : H3 A = some (.lst acc) := s3 A _ upd_same
    have s4 : Same Hm (upd H3 A (MutL A acc)) := by
      have z : Same (upd (upd Hm A (.lst acc)) A (MutL A acc)) (upd H3 A (MutL A acc)) := same_updd s3
      rw [upd_upd, upd_id eA] at z
      exact z
    have f4 : FrX H1 (upd H3 A (MutL A acc)) := fm.trans (.of_same s4)
    have hd := k3 _ f4 fun b u hb hu => by
      have hne : b ≠ A := fun z => by subst z; rw [upd_same] at hb; cases hb
      rw [upd_ne hne]; exact hu
    refine ⟨A, acc, eA3, wipeD ρ vs, n2, d, _, Rm.same s4, hd, h2, fun σ5 H5 ρ5 n5 f5 s5 R5 l5 a5 h5 => ?_⟩
    have eA5 : H5 A = some (MutL A acc) := s5 A _ upd_same
    have f15 : FrX H1 H5 := f4.trans f5
    have fq15 : Fr q H1 H5 := (fqm.trans (.of_same s4)).trans (.of_same s5)
    have dm5 : DtAll K q H5 acc ac := da.up ((FrX.of_same s4).trans f5)
    have wz : wipe σ5 vs = wipe σ vs := by
      have e1 := wipe_agree (vs := vs) l5 a5 how
      rw [e1]
      apply List.ext_getElem?
      intro j
      by_cases hj : j ∈ vs
      · by_cases hb : j < σ.length
        · rw [wipe_in hj (by rw [wipe_length]; exact hb), wipe_in hj hb]
        · rw [List.getElem?_eq_none (by rw [wipe_length, wipe_length]; omega), List.getElem?_eq_none (by rw [wipe_length]; omega)]
      · rw [wipe_get hj]
    refine ⟨eA5, wz, A, acc, upd_same, ?_⟩
    rw [upd_upd, upd_id eA5]
    -- back to the block's beginning: what the target stored is forgotten
    have back : ∀ {n6 : Sd} {H6 : Hp}, Fr q H5 H6 → Dr K q n6 H6 → Rel K q H0 (wipeD ρ vs) n6 (wipe σ vs) H6 := fun {n6 H6} f d6 =>
      (Rm.same s4).up ((Fr.of_same s5).trans f) d6
    refine dTT_mk R5 h5 (fun b H6 n6 f6 R6 h6 => ?_) erOk_no
    have eA6 : H6 A = some (MutL A acc) := f6 A _ eA5 aq
    refine ⟨eA6, ?_⟩
    cases b with
    | true =>
      refine ⟨A, acc, upd_same, ?_⟩
      rw [upd_upd, upd_id eA6]
      refine dTE_mk R6 h6 (fun v H7 dy n7 hy f7 R7 h7 => ?_) erOk_no
      have eA7 : H7 A = some (MutL A acc) := f7 A _ eA6 aq
      have f67 : Fr q H5 H7 := f6.trans f7
      have fx57 : FrX H5 H7 := f67.x R5.dr
      have hsz : acc.length < sizeLine := by
        have h3 : acc.length ≤ i := hl
        omega
      refine ⟨eA7, acc, upd_same, hsz, ?_⟩
      rw [upd_upd]
      -- the hidden list takes the new item
      have sU : ∀ b u, H7 b = some u → b ≠ A → upd H7 A (MutL A (acc ++ [v])) b = some u := fun b u e hb => by rw [upd_ne hb]; exact e
      have fxU : FrX H7 (upd H7 A (MutL A (acc ++ [v]))) := fun b u e ne => sU b u e fun z => by subst z; rw [eA7] at e; cases e; exact ne
      have R8 := back f67 R7.dr
      have drU : Dr K q n7 (upd H7 A (MutL A (acc ++ [v]))) := dr_mut R7.dr eA7 aq _
      have hnA : ∀ p, H1 p ≠ none → p ≠ A := fun p z w => by subst w; exact z hA
      have RU : Rel K q H0 (wipeD ρ vs) n7 (wipe σ vs) (upd H7 A (MutL A (acc ++ [v]))) := by
        have fq17 : Fr q H1 H7 := fq15.trans f67
        refine Rw.up (fun b u e nq => ?_) drU
        rw [upd_ne (ne_of_none e hA)]
        exact fq17 b u e nq
      refine ⟨hlt, acc ++ [v], ac ++ [dy], n7, upd H7 A (MutL A (acc ++ [v])), by rw [upd_upd], upd_same, by simp; omega, RU, (f15.trans fx57).trans fxU, ?_, ?_, h7⟩
      · intro b u e nq
        rw [upd_ne (ne_of_none e hA)]
        exact (fq15.trans f67) b u e nq
      · exact ((dm5.up fx57).append (.cons hy .nil)).up fxU
    | false =>
      have fx56 : FrX H5 H6 := f6.x R5.dr
      exact ⟨hlt, acc, ac, n6, H6, rfl, eA6, Nat.le_succ_of_le hl, back f6 R6.dr, f15.trans fx56, fq15.trans f6, dm5.up fx56, h6⟩
  · have e : i = ds.length := by omega
    subst e
    rw [List.drop_length] at h2
    exact .inl ⟨ok.stop _ fU, close Hm acc ac n2 eA Rm fm fqm da h2⟩

theorem de_lc (hc : X.calm = true) (hN : X.N.Nodup) (hi : DI X q H0 E tg iter it) (ok : BlkOk X.N X.env.scope scope own) (how : ∀ j ∈ ow, j ∈ own.map (·.2))
    (hg : ∀ (s : Shared) (H : Hp) (C : Addr) (cl : List (Str × Addr)) (fp : List Addr), DGt (X.blk s H scope (compEnvC scope cl C X.env) fp) q H0 ow tg g)
    (ht : ∀ (s : Shared) (H : Hp) (C : Addr) (cl : List (Str × Addr)) (fp : List Addr), DPts (X.blk s H scope (compEnvC scope cl C X.env) fp) q H0 L2.E0 ifs tt)
    (he : ∀ (s : Shared) (H : Hp) (C : Addr) (cl : List (Str × Addr)) (fp : List Addr), DE (X.blk s H scope (compEnvC scope cl C X.env) fp) q H0 L2.E0 elt te) (hs : ∀ x, foldedSetIterable iter X.env x = pure x := by intro _; rfl) :
    DE X q H0 E (.ListComp elt [⟨tg, iter, ifs, 0⟩] scope pos) (dLc it g tt te (own.map (·.2))) :=
  ⟨(pe_lc hc hN hi.pi ok (fun s H C cl fp => pg_mk (hg s H C cl fp).pg) (fun s H C cl fp => (ht s H C cl fp).pts) (fun s H C cl fp => pe_mk' (he s H C cl fp).pe) hs).imp fun σ H Q h => lc_core' how h⟩
/-- y = [..] in one line: stored within the block's frame -/
theorem ds_setLc (i : Nat) {y : Str} {py spos : Pos} (hc : X.calm = true) (hN : X.N.Nodup) (hi : DI X q H0 E tg iter it) (ok : BlkOk X.N X.env.scope scope own) (how : ∀ j ∈ ow, j ∈ own.map (·.2))
    (hg : ∀ (s : Shared) (H : Hp) (C : Addr) (cl : List (Str × Addr)) (fp : List Addr), DGt (X.blk s H scope (compEnvC scope cl C X.env) fp) q H0 ow tg g)
    (ht : ∀ (s : Shared) (H : Hp) (C : Addr) (cl : List (Str × Addr)) (fp : List Addr), DPts (X.blk s H scope (compEnvC scope cl C X.env) fp) q H0 L2.E0 ifs tt)
    (he : ∀ (s : Shared) (H : Hp) (C : Addr) (cl : List (Str × Addr)) (fp : List Addr), DE (X.blk s H scope (compEnvC scope cl C X.env) fp) q H0 L2.E0 elt te)
    (hy : X.N[i]? = some y := by rfl) (hyl : X.env.scope.names.lookup y = some .local := by rfl) (hsw : swapsWith (.ListComp elt [⟨tg, iter, ifs, 0⟩] scope pos) (some (.Name y py)) spos.line X.env = pure true := by exact sw_true rfl rfl rfl (by decide +kernel)) (hs : ∀ x, foldedSetIterable iter X.env x = pure x := by intro _; rfl) :
    DSt X q H0 E (.Assign [.Name y py] (.ListComp elt [⟨tg, iter, ifs, 0⟩] scope pos) spos) (dSet i (dLc it g tt te (own.map (·.2)))) :=
  ⟨(ps_setLc hc hN hy hyl hsw hi.pi ok (fun s H C cl fp => pg_mk (hg s H C cl fp).pg) (fun s H C cl fp => (ht s H C cl fp).pts) (fun s H C cl fp => pe_mk' (he s H C cl fp).pe) hs).imp fun D σ H ⟨ρ, n, G, R, h, cn, cr, cb, cc, o⟩ => by
    have h' : dLc it g tt te (own.map (·.2)) ρ n (fun x n1 => i < ρ.length ∧ G.nx (ρ.set i (.d x)) n1) G.ex := h
    have z : dTE X.K q H0 E (dLc it g tt te (own.map (·.2))) σ H (fun x H1 => gName i x σ H1 D.nx) :=
      dTE_mk R h' (fun v H' d n' hd f1 R1 hq => cn (σ.set i (some v)) H' (ρ.set i (.d d)) n' (f1.x R.dr) (R1.set hd (by rw [← R1.len]; exact hq.1)) hq.2) o
    exact lc_core' how z⟩

end
end DL
/-! T8: a def by its body, over data; what draws, read and stored. -/
namespace DL
open PySem PySem.Spec L2
open PyProof.Rows (envOfC)

/-! ### a def by its body -/
def startD (N : List Str) (ds : List D) : SEnv := ds.map Slot.d ++ List.replicate (N.length - ds.length) Slot.no
theorem start_rel {K : PySem.W.Frag} {q : Dq} {H : Hp} {N : List Str} {vs : List V} {ds : List D} {n : Sd} (h : DtAll K q H vs ds) (dr : Dr K q n H) : Rel K q H (startD N ds) n (L2.start N vs) H := by
  have hl := h.length
  have get : ∀ (i : Nat) (s : Slot), (startD N ds)[i]? = some s → s ≠ .no → ∃ x, s = .d x ∧ ds[i]? = some x := fun i s e hs => by
    unfold startD at e
    by_cases hi : i < ds.length
    · rw [List.getElem?_append_left (by simpa using hi), List.getElem?_map] at e
      cases z : ds[i]? with
      | none => rw [z] at e; cases e
      | some x => rw [z] at e; cases e; exact ⟨x, rfl, rfl⟩
    · rw [List.getElem?_append_right (by simpa using hi), List.getElem?_replicate] at e
      split at e
      · exact absurd (Option.some.inj e).symm hs
      · cases e
  refine ⟨by simp [startD, L2.start, hl], fun i x e => ?_, fun i xs e => ?_, fun i j xs ys p e1 e2 e3 e4 => ?_, dr, .refl _, fun a e => ?_⟩
  · obtain ⟨y, e1, e2⟩ := get i _ e (by intro z; cases z)
    cases e1
    obtain ⟨v, e3, h3⟩ := h.get e2
    refine ⟨v, ?_, h3⟩
    unfold L2.start
    obtain ⟨hi, _⟩ := List.getElem?_eq_some_iff.mp e3
    rw [List.getElem?_append_left (by simpa using hi), List.getElem?_map, e3]
    rfl
  · obtain ⟨y, e1, _⟩ := get i _ e (by intro z; cases z)
    cases e1
  · obtain ⟨y, e1, _⟩ := get i _ e1 (by intro z; cases z)
    cases e1
  · exact fun z => dr_not dr z e.symm
/-- a def that lets no exception out -/
theorem fnD0 {T : List (Addr × Str)} {P : Program} {w : World} {K : PySem.W.Frag} {mg : Str → Option Value} {base : Heap} {k : Nat} {f : Addr} {fd : FuncData} {x qual : Str} {st : Stmt} {N ps : List Str} {sp : SpD} {t : DS}
    (F : Fun K x qual st f fd) (S : FnScope N ps (defScope st)) (ln : ∀ ds n Q F, sp ds n Q F → ds.length = ps.length)
    (body : ∀ (q : Dq), q.T = T → ∀ (cdv : Value), fd.code = cdv → ∀ (A : Around) (outer : List PySem.Env) (s : Shared) (H : Hp) (E : XK), Room k (A.deeper (envOfC qual (defScope st) s.heap.objs.size f cdv)) → A.guards = some [] →
      DSs (cxOf CX0 P w K mg base N qual (defScope st) f cdv A outer s H E).nox q H L2.E0 (defBody st) t)
    (rd : ∀ ds n Q F, sp ds n Q F → t { nx := fun _ n' => Q .non n', rt := Q } (startD N ds) n) : FnG P w K mg base CX0 (k + 1) f fd ps (spD K T sp) := by
  refine fnG_of F S (fun vs H Q E h => ?_) fun cdv hcd A outer s H vs Q E hr hg h => ?_
  · obtain ⟨q, ds, n, Q0, F, _, hds, _, hs, _⟩ := h
    rw [hds.length]
    exact ln ds n Q0 F hs
  · obtain ⟨q, ds, n, Q0, F, hT, hds, dr, hs, c, o⟩ := h
    refine ⟨_, (body q hT cdv hcd A outer s H E hr hg).pss.nox, ?_⟩
    refine dTS_mk (start_rel hds dr) (rd ds n Q0 F hs) (fun σ' H' ρ' n' _ R' h' => c _ H' _ n' .non R'.fr R'.dr h') (fun v H' d n' hd _ fr dr' hq => c v H' d n' hd fr dr' hq) (fun _ _ _ _ _ _ z => z.elim) (fun _ _ _ _ _ _ z => z.elim) erOk_no

/-! ### what draws -/
section
variable {X : Cx} {pins : List (Addr × Obj)} {σ : L2.St} {H : Hp} {s : Shared} {a c : Addr} {k : Sd}
theorem inv_dshow (I : Inv X pins σ H s) (e : H a = some (DrO a c k)) : Inv X pins σ (upd H a (.lst [.ref c, .int k.1, .int k.2])) s := by
  obtain ⟨⟨u, v, n, g⟩, _, _⟩ := (show ObjOk X.prog X.w H s.heap a (DrO a c k) from I.hok a _ e)
  exact Inv.write (h' := s.heap) (t' := s.toks) (x := a) (e := a) I (by rw [e]; exact True.intro) (.inl rfl) (fun b u _ h => h) ⟨_, g⟩ ⟨by show 3 ≤ sizeLine; decide, [.ref c, .int k.1 u, .int k.2 v], n, .cons rfl (.cons ⟨u, rfl⟩ (.cons ⟨v, rfl⟩ .nil)), g⟩
theorem inv_dhide (I : Inv X pins σ H s) (e : H a = some (.lst [.ref c, .int k.1, .int k.2])) : Inv X pins σ (upd H a (DrO a c k)) s := by
  obtain ⟨z, its, n, rv, g⟩ := (show ObjOk X.prog X.w H s.heap a (.lst _) from I.hok a _ e)
  cases rv with
  | cons r1 rv =>
    cases rv with
    | cons r2 rv =>
      cases rv with
      | cons r3 rv =>
        cases rv
        cases r1
        obtain ⟨u, rfl⟩ := r2
        obtain ⟨v, rfl⟩ := r3
        have g' : s.heap.get? a = some { cls := .type "list", data := .seq #[.ref c, .int k.1 u, .int k.2 v] n } := g
        refine Inv.write (h' := s.heap) (t' := s.toks) (x := a) (e := a) I (by rw [e]; exact True.intro) (.inl rfl) (fun b u _ h => h) ⟨_, g'⟩ ?_
        exact ⟨⟨u, v, n, g'⟩, ⟨_, g'⟩, fun a1 a2 ⟨u, v, n, y⟩ k => ⟨u, v, n, k _ y⟩⟩
end
/-- drum[i] -/
def dDrum (i : Nat) (j : Int) : DT := fun ρ n Q _ => ∃ ns : List Int, ρ[i]? = some (Slot.d (.drum ns)) ∧
  ((j = 0 ∧ Q (.lst (ns.map D.int)) n) ∨ (j = 1 ∧ Q (.int n.1) n) ∨ (j = 2 ∧ Q (.int n.2) n))
/-- drum[i] = e -/
def dDrumSet (i : Nat) (j : Int) (te : DT) : DS := fun G ρ n => te ρ n (fun x n1 => (∃ ns : List Int, ρ[i]? = some (Slot.d (.drum ns))) ∧ ∃ z : Int, x = .int z ∧ ((j = 1 ∧ G.nx ρ (z, n1.2)) ∨ (j = 2 ∧ G.nx ρ (n1.1, z)))) G.ex
section
variable {X : Cx} {q : Dq} {H0 : Hp} {E : XK} {e : Expr} {t : DT} {p pos : Pos}
theorem dt_ints {K : PySem.W.Frag} {H : Hp} : ∀ ns : List Int, DtAll K q H (ns.map V.int) (ns.map D.int)
  | [] => .nil
  | n :: ns => .cons (.int n) (dt_ints ns)
theorem de_drum (i : Nat) {x : Str} {j : Int} {jj : Nat} {px : Pos} (hN : X.N[i]? = some x := by rfl) (hv : Vis X.env.scope x := by first | exact Or.inl rfl | exact Or.inr (Or.inl rfl) | exact Or.inr (Or.inr rfl)) (hd : (x == ("__debug__" : Str)) = false := by decide)
    (hcd : (x == ("__classdict__" : Str)) = false := by decide) (hs : PlainIx (.Constant (.int j) jj p) := by exact fun _ _ => rfl) : DE X q H0 E (.Subscript (.Name x px) (.Constant (.int j) jj p) pos) (dDrum i j) := by
  have h0 : PE X (.Subscript (.Name x px) (.Constant (.int j) jj p) pos) (tOp (rIxL X.K) (tVar i) (tC (.int j))) := pe_ix ix_list (pe_var hN hv hd hcd) pe_int hs
  have h1 : PE X (.Subscript (.Name x px) (.Constant (.int j) jj p) pos) (fun σ H Q => ∃ a c k, σ[i]? = some (some (.ref a)) ∧ H a = some (DrO a c k) ∧ ∃ v, atI [V.ref c, .int k.1, .int k.2] j = some v ∧ Q v H) := by
    refine ⟨fun pins s σ H Q I ⟨a, c, k, e1, e2, v, ev, hq⟩ => ?_⟩
    have I1 := inv_dshow I e2
    refine thn (h0.run pins s σ _ (fun u H' => u = v ∧ H' = upd H a (.lst [.ref c, .int k.1, .int k.2])) I1 ⟨_, e1, a, _, _, _, rfl, rfl, SqL.of upd_same, ev, rfl, rfl⟩) fun u s1 ⟨y, H1, I2, r2, e3, e4⟩ => ?_
    subst e3 e4
    have I3 := inv_dhide (k := k) I2 upd_same
    rw [upd_upd, upd_id e2] at I3
    exact ⟨y, H, I3, r2, hq⟩
  refine ⟨h1.imp fun σ H Q ⟨ρ, n, Q0, F, R, ⟨ns, e1, h⟩, c, o⟩ => ?_⟩
  obtain ⟨v, e2, hd⟩ := R.d i _ e1
  cases hd with
  | drum hq =>
    rename_i a
    obtain ⟨d1, _⟩ := R.dr
    rw [hq] at d1
    obtain ⟨cc, e3, e4⟩ := d1
    refine ⟨a, cc, n, e2, e3, ?_⟩
    rcases h with ⟨rfl, h⟩ | ⟨rfl, h⟩ | ⟨rfl, h⟩
    · exact ⟨_, rfl, c _ H _ n (.lst e4 (dt_ints ns)) (.refl _) R h⟩
    · exact ⟨_, rfl, c _ H _ n (.int _) (.refl _) R h⟩
    · exact ⟨_, rfl, c _ H _ n (.int _) (.refl _) R h⟩
theorem ds_drum (i : Nat) {x : Str} {j : Int} {jj : Nat} {px tp : Pos} (he : DE X q H0 E e t) (hN : X.N[i]? = some x := by rfl) (hv : Vis X.env.scope x := by first | exact Or.inl rfl | exact Or.inr (Or.inl rfl) | exact Or.inr (Or.inr rfl)) (hd : (x == ("__debug__" : Str)) = false := by decide)
    (hcd : (x == ("__classdict__" : Str)) = false := by decide) (ha : ∀ v, assign (.Subscript (.Name x px) (.Constant (.int j) jj p) tp) X.env v = (do
      let ov ← holding [v] (eval (.Name x px) X.env)
      let iv ← holding [v, ov] (eval (.Constant (.int j) jj p) X.env)
      standAt tp
      holding [v, ov, iv] (setItem ov iv v)
      release [v, ov, iv] []) := by intro _; rfl)
    (hs : swapsWithSole [.Subscript (.Name x px) (.Constant (.int j) jj p) tp] e pos.line X.env = pure false := by rfl) (hw : swappedStores [.Subscript (.Name x px) (.Constant (.int j) jj p) tp] e X.env = pure none := by rfl)
    (h1 : (assignEach [.Subscript (.Name x px) (.Constant (.int j) jj p) tp] X.env).map (·.2) = [assign (.Subscript (.Name x px) (.Constant (.int j) jj p) tp) X.env] := by rfl) :
    DSt X q H0 E (.Assign [.Subscript (.Name x px) (.Constant (.int j) jj p) tp] e pos) (dDrumSet i j t) := by
  have g0 : PG X (.Subscript (.Name x px) (.Constant (.int j) jj p) tp) (gSub (tVar i) (tC (.int j)) _) := pg_sub (pe_var hN hv hd hcd) pe_int set_list ha
  have g1 : PG X (.Subscript (.Name x px) (.Constant (.int j) jj p) tp) (fun v σ H Q => ∃ a c k z, v = .int z ∧ σ[i]? = some (some (.ref a)) ∧ H a = some (DrO a c k) ∧ ∃ k' : Sd, ((j = 1 ∧ k' = (z, k.2)) ∨ (j = 2 ∧ k' = (k.1, z))) ∧ Q σ (upd H a (DrO a c k'))) := by
    refine ⟨fun pins s σ H v u Q I r ⟨a, c, k, z, e0, e1, e2, k', hk, h⟩ => ?_⟩
    subst e0
    have I1 := inv_dshow I e2
    have fin : ∀ (s1 : Shared) (H1 : Hp), H1 = upd H a (.lst [.ref c, .int k'.1, .int k'.2]) → Inv X pins σ H1 s1 → ∃ σ' H', Inv X pins σ' H' s1 ∧ Q σ' H' := fun s1 H1 eH J => by
      subst eH
      have J2 := inv_dhide (k := k') J upd_same
      rw [upd_upd] at J2
      exact ⟨σ, _, J2, h⟩
    rcases hk with ⟨rfl, rfl⟩ | ⟨rfl, rfl⟩
    · refine thn (g0.run pins s σ _ (.int z) u (fun σ' H' => σ' = σ ∧ H' = upd H a (.lst [.ref c, .int z, .int k.2])) I1 r ⟨_, e1, ?_⟩) fun _ s1 ⟨σ1, H1, J, e3, e4⟩ => ?_
      · exact ⟨a, _, _, 1, rfl, rfl, upd_same, rfl, rfl, by rw [upd_upd]; rfl⟩
      · subst e3
        exact fin s1 H1 e4 J
    · refine thn (g0.run pins s σ _ (.int z) u (fun σ' H' => σ' = σ ∧ H' = upd H a (.lst [.ref c, .int k.1, .int z])) I1 r ⟨_, e1, ?_⟩) fun _ s1 ⟨σ1, H1, J, e3, e4⟩ => ?_
      · exact ⟨a, _, _, 2, rfl, rfl, upd_same, rfl, rfl, by rw [upd_upd]; rfl⟩
      · subst e3
        exact fin s1 H1 e4 J
  refine ⟨(ps_asg he.pe g1 hs hw h1).imp fun D σ H ⟨ρ, n, G, R, h, cn, cr, cb, cc, o⟩ => ?_⟩
  refine dTE_mk R h (fun v H1 d n1 hd f1 R1 ⟨⟨ns, e1⟩, z, e0, hz⟩ => ?_) o
  subst e0
  cases hd
  obtain ⟨v2, e2, hd2⟩ := R1.d i _ e1
  cases hd2 with
  | drum hq =>
    rename_i a
    obtain ⟨d1, dT⟩ := R1.dr
    rw [hq] at d1
    obtain ⟨c, e3, e4⟩ := d1
    have key : ∀ n' : Sd, Rel X.K q H0 ρ n' σ (upd H1 a (DrO a c n')) := fun n' => by
      refine R1.up (fun b u e nq => ?_) ⟨?_, dT.upd e3 True.intro _⟩
      · have hb : b ≠ a := fun w => nq (by show some b = q.o.map Prod.fst; rw [w, hq]; rfl)
        rw [upd_ne hb]; exact .of e
      · rw [hq]
        exact ⟨c, upd_same, by rw [upd_ne (fun w => by subst w; rw [e3] at e4; cases e4)]; exact e4⟩
    have fx : ∀ k', FrX H (upd H1 a (DrO a c k')) := fun k' b u e ne => by
      have e' := f1.x R.dr b u e ne
      have hb : b ≠ a := fun w => by subst w; rw [e3] at e'; cases e'; exact ne
      rw [upd_ne hb]; exact e'
    rcases hz with ⟨rfl, hy⟩ | ⟨rfl, hy⟩
    · exact ⟨a, c, n1, z, rfl, e2, e3, _, .inl ⟨rfl, rfl⟩, cn σ _ ρ _ (fx _) (key _) hy⟩
    · exact ⟨a, c, n1, z, rfl, e2, e3, _, .inr ⟨rfl, rfl⟩, cn σ _ ρ _ (fx _) (key _) hy⟩
end
end DL
/-! T9: the law's own end, for promises that know the guards. -/
namespace DL
open PySem PySem.Spec PyProof.Rows L2

section
variable {P : Program} {w : World} {K : PySem.W.Frag} {mg mb : Str → Option Value} {k : Nat} {fa a : Addr} {fd : FuncData} {x : Str} {sp : Sp} {s1 : Shared} {vs : List Value} {ns : List Int}
/-- the run, once the abstract heap at the law's entry is chosen: nothing but the script stands in it -/
theorem entry_run (KX : K.In s1.heap) (hns : s1.heap.Ns mainGlobals mg) (hb : s1.heap.Ns builtinsNs mb) (hbb : ∀ x : Str, x ≠ "__name__" → mb x = bootBuiltins x) (hlim : s1.heap.NoLimit) (hg : s1.gens = #[])
    (ha : s1.heap.get? a = some { cls := .type "list", data := .seq vs.toArray }) (hr : Room k callerA)
    (F : ∀ base : Heap, K.In base → base.Ns mainGlobals mg → FnG P w K mg base CX0 k fa fd [x] sp) (hbind : ∀ (s : Shared) (u : Value), BindsTo s fd ⟨[u], []⟩ [(x, u)])
    (H : Hp) (hO : Only H) (hok : HOk P w H s1.heap) (hA : ∀ b, H b ≠ none → b = a) (hK : H a ≠ none → K.lookup a = none) (hsp : sp [.ref a] H (fun v _ => v = .bl true) fun _ _ _ => False) :
    codeAny (model P w) callerA (.call (.ref fa) ⟨[.ref a], []⟩) (fun r s' => r = .ok (.ret (.bool true)) ∧ OldK s1.heap s'.heap ∧ s'.os = s1.os ∧ AllBare s'.gens) s1 := by
  have at_a : ∀ {b : Addr} {u : HO}, H b = some u → b = a := fun {b u} e => hA b (by rw [e]; simp)
  have plain : ∀ {b : Addr} {o : Obj} {es : Array DictEntry} {ep : Nat}, s1.heap.get? b = some o → o.data = .dict es ep → H b = none := by
    intro b o es ep e d
    cases q : H b with
    | none => rfl
    | some u =>
      rw [at_a q, ha] at e
      cases e
      have d' : Data.seq vs.toArray _ = Data.dict es ep := d
      cases d'
  have ns' : ∀ {b : Addr} {m : Str → Option Value}, s1.heap.Ns b m → (hidT s1.heap H).Ns b m := by
    intro b m ⟨o, es, ep, e, d, r⟩
    exact ⟨o, es, ep, hidT_get e (plain e d), d, r⟩
  have inB : K.In (hidT s1.heap H) := fun b o e => hidT_get (KX b o e) (by
    cases q : H b with
    | none => rfl
    | some u =>
      have e1 := at_a q
      subst e1
      rw [hK (by rw [q]; simp)] at e
      cases e)
  have e0 : Env0 P w K mg (hidT s1.heap H) callerA [] s1 H := by
    refine ⟨rfl, ⟨inB, ns' hns, ⟨mb, ns' hb, hbb⟩, ?_⟩, fun b o e => of_hidT e, Nat.le_of_eq (hidT_size _ _), trivial, fun b hb => absurd (show b ∈ ([] : List Addr) from hb) (by simp), hok, .of_eq hg⟩
    obtain ⟨mc, h1, h2⟩ := hlim
    exact ⟨mc, ns' h1, h2⟩
  apply codeAny_mono ((F _ inB (ns' hns)).go callerA [] s1 H ⟨[.ref a], []⟩ [.ref a] [.ref a] _ _ hr rfl e0 (hbind s1 (.ref a)) (.cons rfl .nil) hsp)
  intro r s' h
  cases r with
  | error e => exact (show False from h).elim
  | ok fl =>
    cases fl with
    | next => exact (show False from h).elim
    | brk => exact (show False from h).elim
    | cont => exact (show False from h).elim
    | ret u =>
      obtain ⟨v, H', os, bare, un, hok', r', q⟩ := h
      have q' : v = .bl true := q
      subst q'
      have eu : u = Value.bool true := r'
      subst eu
      refine ⟨rfl, OldK.of_keep fun b o e => ?_, os, bare⟩
      cases q : H b with
      | none => exact un.keep b o e q (fun z => absurd (show b ∈ ([] : List Addr) from z) (by simp)) (by simp)
      | some u =>
        rcases hO b with z | ⟨ob, xs, z⟩
        · rw [q] at z; cases z
        · obtain ⟨e1, _⟩ := hok b _ z
          obtain ⟨e2, _⟩ := hok' b _ (un.frzs b ob _ z)
          rw [e] at e1
          cases e1
          exact e2
/-- what the law's own heap may be: the script, locked; or nothing, where the script is one of the module's own -/
theorem entry_call (KX : K.In s1.heap) (hns : s1.heap.Ns mainGlobals mg) (hb : s1.heap.Ns builtinsNs mb) (hbb : ∀ x : Str, x ≠ "__name__" → mb x = bootBuiltins x) (hlim : s1.heap.NoLimit) (hg : s1.gens = #[])
    (ha : s1.heap.get? a = some { cls := .type "list", data := .seq vs.toArray }) (hi : IntsAre vs ns) (hl : ns.length ≤ sizeLine) (hr : Room k callerA)
    (F : ∀ base : Heap, K.In base → base.Ns mainGlobals mg → FnG P w K mg base CX0 k fa fd [x] sp) (hbind : ∀ (s : Shared) (u : Value), BindsTo s fd ⟨[u], []⟩ [(x, u)])
    (hsp : ∀ H : Hp, Only H → SqL K H a (ns.map V.int) → sp [.ref a] H (fun v _ => v = .bl true) fun _ _ _ => False) :
    codeAny (model P w) callerA (.call (.ref fa) ⟨[.ref a], []⟩) (fun r s' => r = .ok (.ret (.bool true)) ∧ OldK s1.heap s'.heap ∧ s'.os = s1.os ∧ AllBare s'.gens) s1 := by
  have rv := vals_ints hi
  cases hk : K.lookup a with
  | some o =>
    have e := KX a o hk
    rw [ha] at e
    cases e
    refine entry_run KX hns hb hbb hlim hg ha hr F hbind (fun _ => none) (fun _ => .inl rfl) (fun b u z => ?_) (fun b z => absurd rfl z) (fun z => absurd rfl z) (hsp _ (fun _ => .inl rfl) (.inr ⟨_, vs.toArray, _, hk, rfl, rfl, rfl, by rw [List.size_toArray, hi.length]; exact hl, by simpa using rv⟩))
    have z' : (none : Option HO) = some u := z
    cases z'
  | none =>
    let o0 : Obj := { cls := .type "list", data := .seq vs.toArray }
    let H : Hp := fun b => if b = a then some (.frz o0 (.lst (ns.map V.int))) else none
    have Ha : H a = some (.frz o0 (.lst (ns.map V.int))) := if_pos rfl
    have Hn : ∀ b, b ≠ a → H b = none := fun b hb => if_neg hb
    have hO : Only H := fun b => by
      by_cases hb : b = a
      · subst hb; exact .inr ⟨_, _, Ha⟩
      · exact .inl (Hn b hb)
    refine entry_run KX hns hb hbb hlim hg ha hr F hbind H hO (fun b u z => ?_) (fun b z => ?_) (fun _ => hk) (hsp _ hO (.inl (.inr ⟨_, Ha⟩)))
    · by_cases hb : b = a
      · subst hb
        rw [Ha] at z
        cases z
        exact ⟨ha, by rw [List.length_map]; exact hl, vs, _, rv, ha⟩
      · rw [Hn b hb] at z
        cases z
    · by_cases hb : b = a
      · exact hb
      · exact absurd (Hn b hb) z
end
/-- what k_head leaves, from the law's promise -/
theorem walk_ofG {l : PySem.W.OpenLaw} {n k : Nat} {q : Program} {loose : List Str} {XP : (Str → Option Value) → Heap → Prop} {YP : World → Heap → Prop} {d : DefRec} {K : Params → PySem.W.Frag} {sp : PySem.W.Frag → Sp} {x : Str}
    (hn : l.most = some n) (hn2 : n ≤ sizeLine) (hdf : d.params.defaults = []) (hr : Room k callerA) (hY : ∀ (w : World) (h : Heap), YP w h → (K w.params).In h)
    (F : ∀ (w : World) (mg : Str → Option Value) (fa : Addr) (h : Heap), (K w.params).In h → h.Ns mainGlobals mg → mg d.name = some (.ref fa) →
      ∃ fd : FuncData, (∀ (s : Shared) (u : Value), BindsTo s fd ⟨[u], []⟩ [(x, u)]) ∧
        ∀ base : Heap, (K w.params).In base → base.Ns mainGlobals mg → FnG l.prog w (K w.params) mg base CX0 k fa fd [x] (sp (K w.params)))
    (hsp : ∀ (K : PySem.W.Frag) (H : Hp) (a : Addr) (ns : List Int), ns.length ≤ n → Only H → SqL K H a (ns.map V.int) → sp K [.ref a] H (fun v _ => v = .bl true) fun _ _ _ => False) :
    PySem.W.WalkO q loose XP YP l.row.toRowW d [] (fun f vs => PySem.call f vs) := by
  apply Att.attach_call hn hdf
  intro w s0 s1 mg mb fa o pm cd doc a vs ns G Y ho hd hcd hmg hobj hints hlen hg
  have KX := hY w _ Y
  obtain ⟨fd, hb, hF⟩ := F w mg fa _ KX G.T.g hmg
  exact entry_call KX G.T.g G.T.b G.T.builtins G.T.nolimit hg hobj hints (Nat.le_trans hlen hn2) hr hF hb fun H hO hS => hsp _ H a ns hlen hO hS

/-! ### the law: the first statement makes what draws -/
/-- what the law is asked: the script, any end True -/
def spLaw (K : PySem.W.Frag) (T : List (Addr × Str)) : Sp := fun vs H Q _ => ∃ (a : Addr) (ns : List Int), vs = [.ref a] ∧ SqL K H a (ns.map V.int) ∧ ns.length ≤ 63 ∧ TabsF T H ∧ ∀ H', Q (.bl true) H'
end DL
/-! T11: defs of the text, their promises by number of parameters, keywords. -/
namespace DL
open PySem PySem.Spec L2
/-- a def of the module as it stands behind the top -/
structure Own (K : PySem.W.Frag) (mg : Str → Option Value) (x : Str) (st : Stmt) (ps : List Str) (f : Addr) (fd : FuncData) : Prop where
  fn : Fun K x x st f fd
  mg : mg x = some (.ref f)
  b : Binds K fd ps []
/-! keywords -/
def pickK (n m : Nat) (ix : List Nat) {α : Type} (us ws : List α) : List α := if us.length = n ∧ ws.length = m then ix.filterMap fun i => (us ++ ws)[i]? else []
theorem pick_vals {n m : Nat} {vs zs : List V} {us ws : List Value} (r : Vals vs us) (z : Vals zs ws) : ∀ ix : List Nat, Vals (ix.filterMap fun i => (vs ++ zs)[i]?) (ix.filterMap fun i => (us ++ ws)[i]?)
  | [] => .nil
  | i :: ix => by
    have ih := pick_vals (n := n) (m := m) r z ix
    have a := r.append z
    rw [List.filterMap_cons, List.filterMap_cons]
    cases e : (vs ++ zs)[i]? with
    | none => rw [a.none_of e]; exact ih
    | some v =>
      obtain ⟨u, e2, h⟩ := a.get e
      rw [e2]
      exact .cons h ih
theorem pick_dts {K : PySem.W.Frag} {q : Dq} {H : Hp} {vs zs : List V} {ds es : List D} (r : DtAll K q H vs ds) (z : DtAll K q H zs es) : ∀ ix : List Nat, DtAll K q H (ix.filterMap fun i => (vs ++ zs)[i]?) (ix.filterMap fun i => (ds ++ es)[i]?)
  | [] => .nil
  | i :: ix => by
    have ih := pick_dts r z ix
    have a := r.append z
    rw [List.filterMap_cons, List.filterMap_cons]
    cases e : (vs ++ zs)[i]? with
    | none =>
      have e2 : (ds ++ es)[i]? = none := by
        have h1 := a.length
        have h2 := List.getElem?_eq_none_iff.mp e
        exact List.getElem?_eq_none_iff.mpr (by omega)
      rw [e2]; exact ih
    | some v =>
      obtain ⟨d, e2, h⟩ := a.getV e
      rw [e2]
      exact .cons h ih
theorem pickK_dt (n m : Nat) (ix : List Nat) (K : PySem.W.Frag) (q : Dq) (H : Hp) (vs zs : List V) (ds es : List D) (r : DtAll K q H vs ds) (z : DtAll K q H zs es) : DtAll K q H (pickK n m ix vs zs) (pickK n m ix ds es) := by
  unfold pickK
  rw [r.length, z.length]
  split
  · exact pick_dts r z ix
  · exact .nil
theorem kb_of {K : PySem.W.Frag} {x : Str} {st : Stmt} {f : Addr} {fd : FuncData} {ps ks : List Str} {n : Nat} {ix : List Nat} (F : Fun K x x st f fd) (hp : ps ≠ [])
    (h : ∀ (kV doc pm : Value) (an : Option Addr) (cdv ct : Value) (us ws : List Value), us.length = n → ws.length = ks.length → bindArgs (PySem.W.fnOf x x (defArgs st) (defBody st) (defScope st) .none kV doc pm an cdv ct) ⟨us, ks.zip ws⟩ = pure (ps.zip (pickK n ks.length ix us ws))) :
    KBinds K fd ps ks (pickK n ks.length ix) (pickK n ks.length ix) := by
  obtain ⟨oc, od, kV, doc, pm, an, cdv, ct, osl, rfl, lk, hcd⟩ := F.ex
  refine ⟨fun s us ws _ hl => ?_, fun {vs us zs ws} r z => ?_⟩
  · by_cases e : us.length = n ∧ ws.length = ks.length
    · exact .of_eq (h kV doc pm an cdv ct us ws e.1 e.2)
    · unfold pickK at hl
      rw [if_neg e] at hl
      exact absurd (List.length_eq_zero_iff.mp hl.symm) hp
  · unfold pickK
    rw [r.length, z.length]
    split
    · exact pick_vals (n := 0) (m := 0) r z ix
    · exact .nil
end DL
/-! T12: lists that one slot owns: made, stored into, grown, let go; the law's own beginning. -/
namespace DL
open PySem PySem.Spec L2
section
variable {K : PySem.W.Frag} {q : Dq} {H0 H : Hp} {ρ : SEnv} {n : Sd} {σ : L2.St} {i : Nat} {p : Addr} {vs ws : List V} {ds es : List D}
theorem Rel.ownAt (R : Rel K q H0 ρ n σ H) (e : ρ[i]? = some (.own ds)) : ∃ p vs, σ[i]? = some (some (.ref p)) ∧ H p = some (MutL p vs) ∧ H0 p = none ∧ DtAll K q H vs ds ∧ some p ≠ qa q := by
  obtain ⟨p, vs, a, b, c, d⟩ := R.own i ds e
  exact ⟨p, vs, a, b, c, d, fun z => R.q0 p z.symm c⟩
theorem frx_mut (e : H p = some (MutL p vs)) (o : HO) : FrX H (upd H p o) := fun b u h ne => by
  have hb : b ≠ p := fun z => by subst z; rw [e] at h; cases h; exact ne
  rw [upd_ne hb]; exact h
/-- the owned list gets other items -/
theorem Rel.mut (R : Rel K q H0 ρ n σ H) (e : ρ[i]? = some (.own ds)) (es1 : σ[i]? = some (some (.ref p))) (eH : H p = some (MutL p vs)) (h : DtAll K q H ws es) : Rel K q H0 (ρ.set i (.own es)) n σ (upd H p (MutL p ws)) := by
  obtain ⟨p', vs', a1, a2, a3, a4, a5⟩ := R.ownAt e
  have ep : p' = p := by rw [a1] at es1; cases es1; rfl
  subst ep
  have fx := frx_mut eH (MutL p' ws)
  have hi : i < ρ.length := (List.getElem?_eq_some_iff.mp e).1
  have ne : ∀ j xs pj, j ≠ i → ρ[j]? = some (.own xs) → σ[j]? = some (some (.ref pj)) → pj ≠ p' := fun j xs pj hj e1 e2 z => by
    subst z
    exact hj (R.apart j i xs ds pj e1 e e2 a1)
  refine ⟨by rw [List.length_set]; exact R.len, fun j x e1 => ?_, fun j xs e1 => ?_, fun j k xs ys pj e1 e2 e3 e4 => ?_, dr_mut R.dr eH a5 _, fun b o e1 nq => ?_, R.q0⟩
  · by_cases hj : i = j
    · subst hj
      rw [List.getElem?_set_self hi] at e1
      cases e1
    · rw [List.getElem?_set_ne hj] at e1
      obtain ⟨v, b1, b2⟩ := R.d j x e1
      exact ⟨v, b1, b2.up fx⟩
  · by_cases hj : i = j
    · subst hj
      rw [List.getElem?_set_self hi] at e1
      cases e1
      exact ⟨p', ws, a1, upd_same, a3, h.up fx⟩
    · rw [List.getElem?_set_ne hj] at e1
      obtain ⟨pj, vj, b1, b2, b3, b4⟩ := R.own j xs e1
      exact ⟨pj, vj, b1, by rw [upd_ne (ne j xs pj (Ne.symm hj) e1 b1)]; exact b2, b3, b4.up fx⟩
  · have back : ∀ {m : Nat} {zs : List D}, (ρ.set i (.own es))[m]? = some (.own zs) → ∃ zs', ρ[m]? = some (.own zs') := fun {m zs} ee => by
      by_cases hm : i = m
      · subst hm; exact ⟨ds, e⟩
      · rw [List.getElem?_set_ne hm] at ee; exact ⟨zs, ee⟩
    obtain ⟨xs', f1⟩ := back e1
    obtain ⟨ys', f2⟩ := back e2
    exact R.apart j k xs' ys' pj f1 f2 e3 e4
  · have hb : b ≠ p' := fun z => by subst z; rw [a3] at e1; cases e1
    rw [upd_ne hb]; exact R.fr b o e1 nq
/-- the owned list is let go: data from then on -/
theorem Rel.free (R : Rel K q H0 ρ n σ H) (e : ρ[i]? = some (.own ds)) (es1 : σ[i]? = some (some (.ref p))) (eH : H p = some (MutL p vs)) (h : DtAll K q H vs ds) : Rel K q H0 (ρ.set i (.d (.lst ds))) n σ (upd H p (.lst vs)) := by
  obtain ⟨p', vs', a1, a2, a3, a4, a5⟩ := R.ownAt e
  have ep : p' = p := by rw [a1] at es1; cases es1; rfl
  subst ep
  have fx := frx_mut eH (.lst vs)
  have hi : i < ρ.length := (List.getElem?_eq_some_iff.mp e).1
  refine ⟨by rw [List.length_set]; exact R.len, fun j x e1 => ?_, fun j xs e1 => ?_, fun j k xs ys pj e1 e2 e3 e4 => ?_, dr_mut R.dr eH a5 _, fun b o e1 nq => ?_, R.q0⟩
  · by_cases hj : i = j
    · subst hj
      rw [List.getElem?_set_self hi] at e1
      cases e1
      exact ⟨_, a1, .lst upd_same (h.up fx)⟩
    · rw [List.getElem?_set_ne hj] at e1
      obtain ⟨v, b1, b2⟩ := R.d j x e1
      exact ⟨v, b1, b2.up fx⟩
  · by_cases hj : i = j
    · subst hj
      rw [List.getElem?_set_self hi] at e1
      cases e1
    · rw [List.getElem?_set_ne hj] at e1
      obtain ⟨pj, vj, b1, b2, b3, b4⟩ := R.own j xs e1
      refine ⟨pj, vj, b1, ?_, b3, b4.up fx⟩
      rw [upd_ne (fun z => by subst z; exact hj (R.apart i j ds xs pj e e1 a1 b1))]; exact b2
  · have back : ∀ {m : Nat} {zs : List D}, (ρ.set i (.d (.lst ds)))[m]? = some (.own zs) → ρ[m]? = some (.own zs) := fun {m zs} ee => by
      by_cases hm : i = m
      · subst hm; rw [List.getElem?_set_self hi] at ee; cases ee
      · rw [List.getElem?_set_ne hm] at ee; exact ee
    exact R.apart j k xs ys pj (back e1) (back e2) e3 e4
  · have hb : b ≠ p' := fun z => by subst z; rw [a3] at e1; cases e1
    rw [upd_ne hb]; exact R.fr b o e1 nq
/-- a new list, hidden, in a slot -/
theorem Rel.take (R : Rel K q H0 ρ n σ H) (hi : i < σ.length) (hp : H p = none) (h : DtAll K q H vs ds) : Rel K q H0 (ρ.set i (.own ds)) n (σ.set i (some (.ref p))) (upd H p (MutL p vs)) := by
  have s := same_upd (o := MutL p vs) hp
  have R' := R.same s
  have hl := R.len
  have hq : some p ≠ qa q := dr_not R.dr hp
  have h0 : H0 p = none := by
    cases e : H0 p with
    | none => rfl
    | some u => have := R.fr p u e hq; rw [hp] at this; exact this.no.elim
  have np : ∀ (j : Nat) (xs : List D), ρ[j]? = some (Slot.own xs) → σ[j]? ≠ some (some (V.ref p)) := fun j xs e z => by
    obtain ⟨pj, vj, b1, b2, _⟩ := R.own j xs e
    rw [b1] at z; cases z
    rw [hp] at b2; cases b2
  refine ⟨by rw [List.length_set, List.length_set]; exact hl, fun j x e1 => ?_, fun j xs e1 => ?_, fun j k xs ys pj e1 e2 e3 e4 => ?_, R'.dr, R'.fr, R.q0⟩
  · by_cases hj : i = j
    · subst hj
      rw [List.getElem?_set_self (by omega)] at e1
      cases e1
    · rw [List.getElem?_set_ne hj] at e1 ⊢
      exact R'.d j x e1
  · by_cases hj : i = j
    · subst hj
      rw [List.getElem?_set_self (by omega)] at e1
      cases e1
      exact ⟨p, vs, List.getElem?_set_self hi, upd_same, h0, h.up (.of_same s)⟩
    · rw [List.getElem?_set_ne hj] at e1 ⊢
      exact R'.own j xs e1
  · by_cases hj : i = j
    · by_cases hk : i = k
      · omega
      · subst hj
        rw [List.getElem?_set_self hi] at e3
        rw [List.getElem?_set_ne hk] at e2 e4
        cases e3
        exact absurd e4 (np k ys e2)
    · rw [List.getElem?_set_ne hj] at e1 e3
      by_cases hk : i = k
      · subst hk
        rw [List.getElem?_set_self hi] at e4
        cases e4
        exact absurd e3 (np j xs e1)
      · rw [List.getElem?_set_ne hk] at e2 e4
        exact R.apart j k xs ys pj e1 e2 e3 e4
end

/-! ### rules -/
section
variable {X : Cx} {q : Dq} {H0 : Hp} {E : XK} {e a : Expr} {es : List Expr} {t ta : DT} {ts : DTA} {pos : Pos} {st : Stmt} {sts : List Stmt} {u : DS}
/-- what follows a statement stands over a heap in which a list is hidden -/
theorem ps_hideNx {t : TS} (h : PS X st t) : PS X st (fun D σ H => t { D with nx := fun σ' H' => ∃ p vs, H' p = some (.lst vs) ∧ D.nx σ' (upd H' p (MutL p vs)) } σ H) := by
  refine ⟨fun pins s σ H D I hw => thn (h.run pins s σ H _ I hw) fun f s1 z => ?_⟩
  cases f with
  | next =>
    obtain ⟨σ', H', I', p, vs, e1, k⟩ := z
    exact ⟨σ', _, inv_hide I' e1, k⟩
  | ret v => exact z
  | brk => exact z
  | cont => exact z
def dSetOwn (i : Nat) (ts : DTA) : DS := fun G ρ n => ts ρ n (fun xs n1 => xs.length ≤ sizeLine ∧ i < ρ.length ∧ G.nx (ρ.set i (.own xs)) n1) G.ex
/-- x = [a, b, ..], the list to be changed later -/
theorem ds_setOwn (i : Nat) {x : Str} {pos' lpos : Pos} (hN : X.N.Nodup) (h : DA X q H0 E es ts) (hi : X.N[i]? = some x := by rfl) (hx : Loc X.env.scope x := by first | exact .inl rfl | exact .inr rfl) (hs : swapsWith (.List es lpos) (some (.Name x pos')) pos.line X.env = pure false := by rfl)
    (hf : X.fn x = true ∨ X.env.scope.names.lookup x = some .local := by first | exact .inl rfl | exact .inr rfl | assumption) : DSt X q H0 E (.Assign [.Name x pos'] (.List es lpos) pos) (dSetOwn i ts) := by
  refine ⟨(ps_hideNx (ps_set hN hi hx (pe_lst h.pa) hs hf)).imp fun D σ H ⟨ρ, n, G, R, h, cn, cr, cb, cc, o⟩ => ?_⟩
  refine dTA_mk R h (fun vs H1 ds n1 hds f1 R1 ⟨z, hl, h1⟩ => ⟨by rw [hds.length]; exact z, fun p hp => ?_⟩) o
  refine ⟨p, vs, upd_same, ?_⟩
  rw [upd_upd]
  exact cn _ _ _ n1 ((f1.x R.dr).trans (.of_same (same_upd hp))) (R1.take (by rw [← R1.len]; exact hl) hp hds) h1
def dOwnSet (i : Nat) (tk tv : DT) : DS := fun G ρ n => ∃ ds, ρ[i]? = some (Slot.own ds) ∧ tv ρ n (fun v n1 => tk ρ n1 (fun k n2 => ∃ z j, k = .int z ∧ ixN ds.length z = some j ∧ G.nx (ρ.set i (.own (ds.set j v))) n2) G.ex) G.ex
def rSetM : V → V → V → Hp → (Hp → Prop) → Prop := fun o i v H Q => ∃ p xs k j, o = .ref p ∧ i = .int k ∧ H p = some (MutL p xs) ∧ ixN xs.length k = some j ∧ Q (upd H p (MutL p (xs.set j v)))
theorem set_mut : PSet X rSetM := by
  intro pins s σ H o i v ov iv u Q I ro ri rv ⟨p, xs, k, j, e1, e2, e3, e4, hq⟩
  refine thn (set_list pins s σ (upd H p (.lst xs)) o i v ov iv u (fun H' => H' = upd H p (.lst (xs.set j v))) (inv_show I e3) ro ri rv ⟨p, xs, k, j, e1, e2, upd_same, e4, by rw [upd_upd]⟩) fun _ s1 ⟨H1, I1, e5⟩ => ?_
  subst e5
  have I2 := inv_hide I1 upd_same
  rw [upd_upd] at I2
  exact ⟨_, I2, hq⟩
/-- x[k] = v, x an owned list -/
theorem ds_ownSet (i : Nat) {x : Str} {px tp : Pos} {k : Expr} {tk : DT} (hk : DE X q H0 E k tk) (he : DE X q H0 E e t) (hN : X.N[i]? = some x := by rfl) (hv : Vis X.env.scope x := by first | exact Or.inl rfl | exact Or.inr (Or.inl rfl) | exact Or.inr (Or.inr rfl)) (hd : (x == ("__debug__" : Str)) = false := by decide)
    (hcd : (x == ("__classdict__" : Str)) = false := by decide) (ha : ∀ v, assign (.Subscript (.Name x px) k tp) X.env v = (do
      let ov ← holding [v] (eval (.Name x px) X.env)
      let iv ← holding [v, ov] (eval k X.env)
      standAt tp
      holding [v, ov, iv] (setItem ov iv v)
      release [v, ov, iv] []) := by intro _; rfl)
    (hs : swapsWithSole [.Subscript (.Name x px) k tp] e pos.line X.env = pure false := by rfl) (hw : swappedStores [.Subscript (.Name x px) k tp] e X.env = pure none := by rfl)
    (h1 : (assignEach [.Subscript (.Name x px) k tp] X.env).map (·.2) = [assign (.Subscript (.Name x px) k tp) X.env] := by rfl) :
    DSt X q H0 E (.Assign [.Subscript (.Name x px) k tp] e pos) (dOwnSet i tk t) := by
  refine ⟨(ps_asg he.pe (pg_sub (pe_var hN hv hd hcd) hk.pe set_mut ha) hs hw h1).imp fun D σ H ⟨ρ, n, G, R, ⟨ds, e0, h⟩, cn, cr, cb, cc, o⟩ => ?_⟩
  refine dTE_mk R h (fun v H1 d n1 hd f1 R1 h1 => ?_) o
  obtain ⟨p, vs, e1, e2, e3, e4, e5⟩ := R1.ownAt e0
  refine ⟨_, e1, ?_⟩
  refine dTE_mk R1 h1 (fun kv H2 kd n2 hk2 f2 R2 ⟨z, j, e6, e7, h2⟩ => ?_) o
  subst e6
  cases hk2
  have fx := f2.x R1.dr
  have e8 : H2 p = some (MutL p vs) := f2 p _ e2 e5
  have hvs := e4.up fx
  refine ⟨p, vs, z, j, rfl, rfl, e8, by rw [e4.length]; exact e7, ?_⟩
  exact cn σ _ _ n2 (((f1.trans f2).x R.dr).trans (frx_mut e8 _)) (R2.mut e0 e1 e8 (hvs.set j (hd.up fx))) h2
/-- from here on the list is data -/
def dFree (i : Nat) (u : DS) : DS := fun G ρ n => ∃ ds, ρ[i]? = some (Slot.own ds) ∧ u G (ρ.set i (.d (.lst ds))) n
theorem pss_show {t : TS} (h : PSs X sts t) : PSs X sts (fun D σ H => ∃ p vs, H p = some (MutL p vs) ∧ t D σ (upd H p (.lst vs))) :=
  ⟨fun pins s σ H D I ⟨p, vs, e, hw⟩ => h.run pins s σ _ D (inv_show I e) hw⟩
theorem dss_free (i : Nat) (h : DSs X q H0 E sts u) : DSs X q H0 E sts (dFree i u) := by
  refine ⟨(pss_show h.pss).imp fun D σ H ⟨ρ, n, G, R, ⟨ds, e0, h⟩, cn, cr, cb, cc, o⟩ => ?_⟩
  obtain ⟨p, vs, e1, e2, e3, e4, e5⟩ := R.ownAt e0
  have fx := frx_mut e2 (.lst vs)
  refine ⟨p, vs, e2, dTS_mk (R.free e0 e1 e2 e4) h (fun σ2 H2 ρ2 n2 f2 R2 hq => cn σ2 H2 ρ2 n2 (fx.trans f2) R2 hq) (fun v H2 d n2 hd f2 r2 d2 hq => cr v H2 d n2 hd (fx.trans f2) r2 d2 hq) (fun σ2 H2 ρ2 n2 f2 R2 hq => cb σ2 H2 ρ2 n2 (fx.trans f2) R2 hq) (fun σ2 H2 ρ2 n2 f2 R2 hq => cc σ2 H2 ρ2 n2 (fx.trans f2) R2 hq) o⟩

/-! ### the law's own beginning -/
theorem pss_law {T : List (Addr × Str)} {rest : List Stmt} (h : ∀ q, q.T = T → ∀ H0, DSs X q H0 E rest u) : PSs X rest (fun D σ H => ∃ (p c : Addr), H p = some (.lst [.ref c, .int 0, .int 0]) ∧ ∃ q, q.T = T ∧ ∃ H0, dTS X.K q H0 E u D σ (upd H p (DrO p c (0, 0)))) :=
  ⟨fun pins s σ H D I ⟨p, c, e, q, hT, H0, hw⟩ => (h q hT H0).pss.run pins s σ _ D (inv_dhide (k := (0, 0)) I e) hw⟩
theorem law_rel {K : PySem.W.Frag} {H : Hp} {p c : Addr} {ms : List Int} {m i : Nat} {σ : L2.St} (hi : i < m) (hl : σ.length = m) (hσ : σ[i]? = some (some (.ref p))) (e2 : H c = some (.lst (ms.map V.int))) (e1 : H p = some (DrO p c (0, 0))) {T : List (Addr × Str)} (hT : TabsF T H) :
    Rel K ⟨some (p, ms), T⟩ H ((List.replicate m Slot.no).set i (.d (.drum ms))) (0, 0) σ H := by
  have key : ∀ (j : Nat) (s : Slot), ((List.replicate m Slot.no).set i (.d (.drum ms)))[j]? = some s → s ≠ .no → j = i ∧ s = .d (.drum ms) := fun j s e ne => by
    by_cases hj : i = j
    · subst hj
      rw [List.getElem?_set_self (by simpa using hi)] at e
      exact ⟨rfl, (Option.some.inj e).symm⟩
    · rw [List.getElem?_set_ne hj, List.getElem?_replicate] at e
      split at e
      · exact absurd (Option.some.inj e).symm ne
      · cases e
  refine ⟨by simp [hl], fun j x e => ?_, fun j xs e => ?_, fun j k xs ys pj e _ _ _ => ?_, ⟨⟨c, e1, e2⟩, hT⟩, .refl _, fun a e => ?_⟩
  · obtain ⟨e3, e4⟩ := key j _ e (by intro z; cases z)
    subst e3
    cases e4
    exact ⟨_, hσ, .drum rfl⟩
  · obtain ⟨_, e4⟩ := key j _ e (by intro z; cases z)
    cases e4
  · obtain ⟨_, e4⟩ := key j _ e (by intro z; cases z)
    cases e4
  · cases e
    rw [e1]
    exact fun z => by cases z
end
end DL
/-! T13: more operators; what the draw's reading needs. -/
namespace DL
open PySem PySem.Spec L2
def CPowA (i j : Int) : Prop := 0 ≤ j ∧ ((j ≤ 1000000 ∧ i.natAbs < 2 ^ 64) ∨ (j ≤ 16 ∧ i.natAbs < 2 ^ 4096))
theorem bits_4096 {i : Int} (h : i.natAbs < 2 ^ 4096) : Builtin.Int.intBits i ≤ 4096 := by
  unfold Builtin.Int.intBits
  by_cases z : i = 0
  · subst z; decide
  · rw [if_neg (by simpa using z)]
    exact (Nat.log2_lt (by omega)).mpr h
theorem op_powA {X : Cx} : OpR X (binaryOp .Pow) (rI CPowA fun i j => .int (i ^ j.toNat)) := opI fun i j _ _ _ _ _ hc q => by
  rcases hc.2 with ⟨h1, h2⟩ | ⟨h1, h2⟩
  · exact PyProof.Rows.pow_int_small hc.1 h1 h2 q
  · refine PyProof.Rows.pow_int hc.1 ?_ q
    have a := bits_4096 h2
    have b := hc.1
    have e : (Builtin.Int.intBits i : Int) * j ≤ 4096 * 16 := Int.mul_le_mul (by omega) h1 b (by omega)
    omega
def oPowA : D → D → (D → Prop) → Prop
  | .int i, .int j, Q => CPowA i j ∧ Q (.int (i ^ j.toNat))
  | _, _, _ => False
def oIsB : D → D → (D → Prop) → Prop
  | .bl i, .bl j, Q => Q (.bl (decide (i = j)))
  | _, _, _ => False
def oNotB : D → D → (D → Prop) → Prop
  | .bl i, .bl j, Q => Q (.bl (!decide (i = j)))
  | _, _, _ => False
section
variable {X : Cx} {q : Dq}
theorem od_powA : OpD X q (binaryOp .Pow) oPowA := ⟨_, op_powA, fun H x y dx dy Q0 Q hx hy h c => by
  cases hx <;> cases hy <;> simp only [oPowA] at h
  exact ⟨_, _, rfl, rfl, h.1, c _ H _ (.int _) (.refl _) h.2⟩⟩
theorem od_isB : OpD X q (compareOp .Is) oIsB := ⟨_, op_isBl, fun H x y dx dy Q0 Q hx hy h c => by
  cases hx <;> cases hy <;> simp only [oIsB] at h
  exact ⟨_, _, rfl, rfl, c _ H _ (.bl _) (.refl _) h⟩⟩
theorem od_notB : OpD X q (compareOp .IsNot) oNotB := ⟨_, op_notBl, fun H x y dx dy Q0 Q hx hy h c => by
  cases hx <;> cases hy <;> simp only [oNotB] at h
  exact ⟨_, _, rfl, rfl, c _ H _ (.bl _) (.refl _) h⟩⟩
end
end DL
/-! T14: slices; the law by its first statement and the rest. -/
namespace DL
open PySem PySem.Spec L2
open PyProof.Rows (envOfC)
abbrev DTO := SEnv → Sd → (Option Int → Sd → Prop) → QE → Prop
def dNoPart : DTO := fun _ n Q _ => Q none n
def dPart (t : DT) : DTO := fun ρ n Q F => t ρ n (fun x n1 => ∃ i : Int, x = .int i ∧ Q (some i) n1) F
def dTO (K : PySem.W.Frag) (q : Dq) (H0 : Hp) (E : XK) (t : DTO) : TO := fun σ H Q => ∃ ρ n Q0 F, Rel K q H0 ρ n σ H ∧ t ρ n Q0 F ∧
  (∀ o H' n', Fr q H H' → Rel K q H0 ρ n' σ H' → Q0 o n' → Q o H') ∧ ErOk K q H0 F E
structure DO (X : Cx) (q : Dq) (H0 : Hp) (E : XK) (e : Option Expr) (t : DTO) : Prop where
  po : PO X e (dTO X.K q H0 E t)
def cutD {α : Type} (xs : List α) (lo hi : Option Int) : List α := (xs.drop (HT.sIx xs.length 0 lo)).take (HT.sIx xs.length xs.length hi - HT.sIx xs.length 0 lo)
def oSl : D → Option Int → Option Int → (D → Prop) → Prop
  | .lst ds, l, u, P => P (.lst (cutD ds l u))
  | .tup ds, l, u, P => P (.tup (cutD ds l u))
  | .scr ns, l, u, P => P (.lst ((cutD ns l u).map D.int))
  | _, _, _, _ => False
def dSlice (te : DT) (lo hi : DTO) : DT := fun ρ n Q F => te ρ n (fun x n1 => lo ρ n1 (fun l n2 => hi ρ n2 (fun u n3 => oSl x l u fun z => Q z n3) F) F) F
section
variable {X : Cx} {q : Dq} {H0 : Hp} {E : XK} {e : Expr} {lo hi : Option Expr} {te : DT} {tl th : DTO} {pos p2 : Pos}
theorem PO.imp {e : Option Expr} {t t' : TO} (h : PO X e t) (i : ∀ σ H Q, t' σ H Q → t σ H Q) : PO X e t' := ⟨fun pins s σ H Q I z => h.run pins s σ H Q I (i _ _ _ z)⟩
theorem do_none : DO X q H0 E none dNoPart := ⟨PO.imp po_none fun σ H Q ⟨ρ, n, Q0, F, R, h, c, o⟩ => c _ H n (.refl _) R h⟩
theorem do_some (h : DE X q H0 E e te) : DO X q H0 E (some e) (dPart te) := ⟨PO.imp (po_some h.pe) fun σ H Q ⟨ρ, n, Q0, F, R, h, c, o⟩ =>
  dTE_mk R h (fun v H' d n' hd f1 R1 ⟨i, e1, hq⟩ => by subst e1; cases hd; exact ⟨i, rfl, c _ H' n' f1 R1 hq⟩) o⟩
theorem DtAll.cut {K : PySem.W.Frag} {H : Hp} {vs : List V} {ds : List D} (l u : Option Int) (h : DtAll K q H vs ds) : DtAll K q H (cutV vs l u) (cutD ds l u) := by
  unfold cutV cutD
  rw [h.length]
  exact (h.drop _).take _
theorem cut_ints (ns : List Int) (l u : Option Int) : cutV (ns.map V.int) l u = (cutD ns l u).map V.int := by
  unfold cutV cutD
  rw [List.length_map, List.map_take, List.map_drop]
theorem cut_whole {ds : List D} {l u : Option Int} (h : HT.sIx ds.length 0 l = 0 ∧ HT.sIx ds.length ds.length u = ds.length) : cutD ds l u = ds := by
  unfold cutD
  rw [h.1, h.2, List.drop_zero, Nat.sub_zero, List.take_length]
theorem de_slice (he : DE X q H0 E e te) (hl : DO X q H0 E lo tl) (hu : DO X q H0 E hi th) : DE X q H0 E (.Subscript e (.Slice lo hi none p2) pos) (dSlice te tl th) := by
  refine ⟨(pe_slice (sl_list.or sl_tupA) he.pe hl.po hu.po).imp fun σ H Q ⟨ρ, n, Q0, F, R, h, c, o⟩ => ?_⟩
  refine dTE_mk R h (fun v H1 d n1 hd f1 R1 h1 => ?_) o
  refine ⟨ρ, n1, _, F, R1, h1, fun l H2 n2 f2 R2 h2 => ?_, o⟩
  refine ⟨ρ, n2, _, F, R2, h2, fun u H3 n3 f3 R3 h3 => ?_, o⟩
  have hd3 := hd.up ((f2.trans f3).x R1.dr)
  have fin : ∀ (z : D) (p : Addr) (ob : HO), H3 p = none → Dt X.K q (upd H3 p ob) (.ref p) z → Q0 z n3 → Q (.ref p) (upd H3 p ob) := fun z p ob hp hz hq =>
    c _ _ _ n3 hz ((f1.trans (f2.trans f3)).trans (.of_same (same_upd hp))) (R3.same (same_upd hp)) hq
  cases hd3 with
  | lst ha hs => exact .inl ⟨_, _, rfl, SqL.of ha, fun p hp => fin _ p _ hp (.lst upd_same ((hs.up (.of_same (same_upd hp))).cut l u)) h3⟩
  | scr ha => exact .inl ⟨_, _, rfl, ha, fun p hp => by
      refine fin _ p _ hp ?_ h3
      rw [cut_ints]
      exact .lst upd_same (dt_ints _)⟩
  | tup ha hs =>
    refine .inr ⟨_, _, rfl, ha, fun hw => ?_, fun hw p hp => fin _ p _ hp (.tup (.inl (.inl upd_same)) ((hs.up (.of_same (same_upd hp))).cut l u)) h3⟩
    rw [hs.length] at hw
    have h3' := h3
    simp only [oSl] at h3'
    rw [cut_whole hw] at h3'
    exact c _ _ _ n3 (.tup ha hs) (f1.trans (f2.trans f3)) R3 h3'
  | _ => simp only [oSl] at h3
end
/-! ### the law -/
theorem dts_ints {K : PySem.W.Frag} {q : Dq} {H : Hp} : ∀ {vs : List V} {ms : List Int}, DtAll K q H vs (ms.map D.int) → vs = ms.map V.int
  | [], [], _ => rfl
  | _, _ :: _, .cons h t => by
    cases h
    rw [List.map_cons, dts_ints t]
theorem law_fn {T : List (Addr × Str)} {P : Program} {w : World} {K : PySem.W.Frag} {mg : Str → Option Value} {base : Heap} {k : Nat} {f : Addr} {fd : FuncData} {x qual lp : Str} {st st0 : Stmt} {rest : List Stmt} {N : List Str} {t0 : DT} {u : DS}
    (F : Fun K x qual st f fd) (S : FnScope N [lp] (defScope st)) (hst : defBody st = st0 :: rest) (hm : 1 < N.length)
    (b0 : ∀ (cdv : Value), fd.code = cdv → ∀ (A : Around) (outer : List PySem.Env) (s : Shared) (H : Hp) (E : XK), Room k (A.deeper (envOfC qual (defScope st) s.heap.objs.size f cdv)) → A.guards = some [] →
      DSt (cxOf CX0 P w K mg base N qual (defScope st) f cdv A outer s H E).nox ⟨none, T⟩ H L2.E0 st0 (dSet 1 t0))
    (b1 : ∀ (q : Dq), q.T = T → ∀ (H0 : Hp) (cdv : Value), fd.code = cdv → ∀ (A : Around) (outer : List PySem.Env) (s : Shared) (H : Hp) (E : XK), Room k (A.deeper (envOfC qual (defScope st) s.heap.objs.size f cdv)) → A.guards = some [] →
      DSs (cxOf CX0 P w K mg base N qual (defScope st) f cdv A outer s H E).nox q H0 L2.E0 rest u)
    (r0 : ∀ ns : List Int, ns.length ≤ 63 → ∀ Q : QD, (∀ (ms : List Int) (n : Sd), Q (.lst [.lst (ms.map D.int), .int 0, .int 0]) n) → t0 (startD N [.scr ns]) (0, 0) Q fun _ _ => False)
    (r1 : ∀ ms : List Int, u { nx := fun _ _ => False, rt := fun d _ => d = .bl true } ((List.replicate N.length Slot.no).set 1 (.d (.drum ms))) (0, 0)) :
    FnG P w K mg base CX0 (k + 1) f fd [lp] (spLaw K T) := by
  refine fnG_of F S (fun vs H Q E h => ?_) fun cdv hcd A outer s H vs Q E hr hg h => ?_
  · obtain ⟨a, ns, rfl, _⟩ := h
    rfl
  · obtain ⟨a, ns, rfl, hS, hl, hTT, hQ⟩ := h
    rw [hst]
    refine ⟨_, (pss_cons (b0 cdv hcd A outer s H E hr hg).ps (pss_law (T := T) fun q hT H0 => b1 q hT H0 cdv hcd A outer s H E hr hg)).nox, ?_⟩
    have sl : (startD N [.scr ns]).length = N.length := by
      show ([D.scr ns].map Slot.d ++ List.replicate (N.length - 1) Slot.no).length = _
      simp; omega
    refine dTS_mk (G := { nx := fun ρ _ => ρ.length = N.length ∧ ∃ ms : List Int, ρ[1]? = some (.d (.lst [.lst (ms.map D.int), .int 0, .int 0])), rt := fun _ _ => False }) (n := (0, 0)) (start_rel (q := ⟨none, T⟩) (ds := [.scr ns]) (.cons (.scr hS) .nil) ⟨True.intro, hTT⟩)
      (r0 ns hl _ fun ms n => ⟨by rw [sl]; exact hm, by rw [List.length_set]; exact sl, ms, List.getElem?_set_self (by rw [sl]; exact hm)⟩) (fun σ' H' ρ' n' _ R' h' => ?_) (fun _ _ _ _ _ _ _ _ z => z.elim) (fun _ _ _ _ _ _ z => z.elim) (fun _ _ _ _ _ _ z => z.elim) erOk_no
    obtain ⟨hl', ms, e⟩ := h'
    obtain ⟨v, e1, hd⟩ := R'.d 1 _ e
    cases hd with
    | lst hp hs =>
      rename_i p vs
      cases hs with
      | cons h1 t1 => cases t1 with
        | cons h2 t2 => cases t2 with
          | cons h3 t3 =>
            cases t3
            cases h2
            cases h3
            cases h1 with
            | lst hc hcs =>
              rename_i c ws
              have ew := dts_ints hcs
              subst ew
              have ne : c ≠ p := fun z => by
                subst z
                rw [hp] at hc
                have z1 := congrArg List.length (HO.lst.inj (Option.some.inj hc))
                cases ms with
                | nil => simp at z1
                | cons m ms =>
                  have z2 := HO.lst.inj (Option.some.inj hc)
                  rw [List.map_cons] at z2
                  have z3 := (List.cons.inj z2).1
                  cases z3
              refine ⟨p, c, hp, ⟨some (p, ms), T⟩, rfl, upd H' p (DrO p c (0, 0)), ?_⟩
              refine dTS_mk (law_rel hm (by rw [← R'.len]; exact hl') e1 (by rw [upd_ne ne]; exact hc) upd_same (R'.dr.2.upd hp True.intro _)) (r1 ms) (fun _ _ _ _ _ _ z => z.elim) (fun v H2 d n2 hd _ _ _ hq => ?_) (fun _ _ _ _ _ _ z => z.elim) (fun _ _ _ _ _ _ z => z.elim) erOk_no
              subst hq
              cases hd
              exact hQ H2
end DL
/-! T16: == [], != [] of lists of whatever. -/
namespace DL
open PySem PySem.Spec L2
def rEqNil (K : PySem.W.Frag) : R2 := fun x y H Q => ∃ a b xs, x = .ref a ∧ y = .ref b ∧ SqL K H a xs ∧ SqL K H b [] ∧ Q (.bl xs.isEmpty) H
def rNeNil (K : PySem.W.Frag) : R2 := fun x y H Q => ∃ a b xs, x = .ref a ∧ y = .ref b ∧ SqL K H a xs ∧ SqL K H b [] ∧ Q (.bl (!xs.isEmpty)) H
section
variable {X : Cx} {q : Dq}
theorem op_eqNil (hu : X.A.units + 64 < cLine) : OpR X (compareOp .Eq) (rEqNil X.K) := by
  intro pins s σ H x y v u Q I rx ry h
  obtain ⟨a, b, xs, rfl, rfl, ha, hb, hq⟩ := h
  cases xs with
  | nil => exact op_eqD hu pins s σ H _ _ v u Q I rx ry ⟨.list [], .list [], .lst ha .nil, .lst hb .nil, rfl, rfl, hq⟩
  | cons z zs =>
    cases (show v = Value.ref a from rx)
    cases (show u = Value.ref b from ry)
    obtain ⟨us, r1, p1, _⟩ := I.list ha
    obtain ⟨ws, r2, p2, _⟩ := I.list hb
    cases r1
    cases r2
    exact SeqAt.RcAt.lists_lengths p1.isList p2.isList (by simp) (by omega) X.prog X.w _ _ ⟨.bl false, H, I, rfl, hq⟩
theorem op_neNil (hu : X.A.units + 64 < cLine) : OpR X (compareOp .NotEq) (rNeNil X.K) := by
  intro pins s σ H x y v u Q I rx ry h
  obtain ⟨a, b, xs, rfl, rfl, ha, hb, hq⟩ := h
  cases xs with
  | nil => exact op_neD hu pins s σ H _ _ v u Q I rx ry ⟨.list [], .list [], .lst ha .nil, .lst hb .nil, rfl, rfl, hq⟩
  | cons z zs =>
    cases (show v = Value.ref a from rx)
    cases (show u = Value.ref b from ry)
    obtain ⟨us, r1, p1, _⟩ := I.list ha
    obtain ⟨ws, r2, p2, _⟩ := I.list hb
    cases r1
    cases r2
    exact SeqAt.RcNeAt.lists_lengths p1.isList p2.isList (by simp) (by omega) X.prog X.w _ _ ⟨.bl true, H, I, rfl, hq⟩
def oEqNil : D → D → (D → Prop) → Prop
  | .lst ds, .lst [], Q => Q (.bl ds.isEmpty)
  | _, _, _ => False
def oNeNil : D → D → (D → Prop) → Prop
  | .lst ds, .lst [], Q => Q (.bl (!ds.isEmpty))
  | _, _, _ => False
theorem isE {K : PySem.W.Frag} {H : Hp} {vs : List V} {ds : List D} (h : DtAll K q H vs ds) : vs.isEmpty = ds.isEmpty := by
  cases h <;> rfl
theorem od_eqNil {k : Nat} (hr : Room k X.A) : OpD X q (compareOp .Eq) oEqNil := ⟨_, op_eqNil hr.units, fun H x y dx dy Q0 Q hx hy h c => by
  cases hx with
  | lst ha hs =>
    cases hy with
    | lst hb ht =>
      cases ht with
      | nil => exact ⟨_, _, _, rfl, rfl, SqL.of ha, SqL.of hb, by rw [isE hs]; exact c _ H _ (.bl _) (.refl _) h⟩
      | cons _ _ => simp only [oEqNil] at h
    | _ => simp only [oEqNil] at h
  | _ => simp only [oEqNil] at h⟩
theorem od_neNil {k : Nat} (hr : Room k X.A) : OpD X q (compareOp .NotEq) oNeNil := ⟨_, op_neNil hr.units, fun H x y dx dy Q0 Q hx hy h c => by
  cases hx with
  | lst ha hs =>
    cases hy with
    | lst hb ht =>
      cases ht with
      | nil => exact ⟨_, _, _, rfl, rfl, SqL.of ha, SqL.of hb, by rw [isE hs]; exact c _ H _ (.bl _) (.refl _) h⟩
      | cons _ _ => simp only [oNeNil] at h
    | _ => simp only [oNeNil] at h
  | _ => simp only [oNeNil] at h⟩
end
end DL
/-! F16: what a text computes, as functions on data. -/
namespace DL
open PySem PySem.Spec L2
open PyProof.Rows (envOfC)

/-- an answer and the state of what draws; an own error; anything else -/
inductive R (α : Type) where
  | ok (a : α) (s : Sd)
  | er (e : Er) (s : Sd)
  | bad
namespace R
variable {α β : Type}
def bind (r : R α) (k : α → Sd → R β) : R β := match r with
  | .ok a s => k a s
  | .er e s => .er e s
  | .bad => .bad
def opt (o : Option α) (s : Sd) : R α := match o with
  | some a => .ok a s
  | none => .bad
def calm (r : R α) : R α := match r with
  | .ok a s => .ok a s
  | _ => .bad
def wp (r : R α) (Q : α → Sd → Prop) (F : QE) : Prop := match r with
  | .ok a s => Q a s
  | .er e s => F e s
  | .bad => False
theorem bind_wp {r : R α} {k : α → Sd → R β} {Q : β → Sd → Prop} {F : QE} (h : (r.bind k).wp Q F) : r.wp (fun a s => (k a s).wp Q F) F := by
  cases r <;> exact h
theorem opt_wp {o : Option α} {s : Sd} {Q : α → Sd → Prop} {F : QE} (h : (opt o s).wp Q F) : ∃ a, o = some a ∧ Q a s := by
  cases o with
  | none => exact h.elim
  | some a => exact ⟨a, rfl, h⟩
theorem wp_mono {r : R α} {Q Q' : α → Sd → Prop} {F F' : QE} (h : r.wp Q F) (i : ∀ a s, Q a s → Q' a s) (j : ∀ e s, F e s → F' e s) : r.wp Q' F' := by
  cases r with
  | ok a s => exact i a s h
  | er e s => exact j e s h
  | bad => exact h
theorem calm_wp {r : R α} {Q : α → Sd → Prop} {F F' : QE} (h : r.calm.wp Q F) : r.wp Q F' := by
  cases r with
  | ok a s => exact h
  | er e s => exact h.elim
  | bad => exact h
theorem bind_ok (a : α) (s : Sd) (k : α → Sd → R β) : (R.ok a s).bind k = k a s := rfl
theorem bind_er (e : Er) (s : Sd) (k : α → Sd → R β) : (R.er e s : R α).bind k = .er e s := rfl
theorem bind_bad (k : α → Sd → R β) : (R.bad : R α).bind k = .bad := rfl
theorem opt_some (a : α) (s : Sd) : opt (some a) s = .ok a s := rfl
theorem opt_none (s : Sd) : (opt none s : R α) = .bad := rfl
theorem calm_ok (a : α) (s : Sd) : (R.ok a s).calm = .ok a s := rfl
end R
abbrev FT (α : Type) := SEnv → Sd → R α
abbrev FE := FT D
abbrev FB := FT Bool
abbrev FA := FT (List D)
abbrev SpF := List D → Sd → R D
inductive RS where
  | nx (ρ : SEnv) (s : Sd)
  | rt (d : D) (s : Sd)
  | bk (ρ : SEnv) (s : Sd)
  | ct (ρ : SEnv) (s : Sd)
  | er (e : Er) (s : Sd)
  | bad
abbrev FS := SEnv → Sd → RS
abbrev FG := D → SEnv → Option SEnv
abbrev FGs := List D → SEnv → Option SEnv
def R.to {α : Type} (r : R α) (k : α → Sd → RS) : RS := match r with
  | .ok a s => k a s
  | .er e s => .er e s
  | .bad => .bad
theorem R.to_ok {α : Type} (a : α) (s : Sd) (k : α → Sd → RS) : (R.ok a s).to k = k a s := rfl
theorem R.to_er {α : Type} (e : Er) (s : Sd) (k : α → Sd → RS) : (R.er e s : R α).to k = .er e s := rfl
theorem R.to_bad {α : Type} (k : α → Sd → RS) : (R.bad : R α).to k = .bad := rfl
def RS.wp (r : RS) (G : EndsD) : Prop := match r with
  | .nx ρ s => G.nx ρ s
  | .rt d s => G.rt d s
  | .bk ρ s => G.bk ρ s
  | .ct ρ s => G.ct ρ s
  | .er e s => G.ex e s
  | .bad => False
theorem R.to_wp {α : Type} {r : R α} {k : α → Sd → RS} {G : EndsD} (h : (r.to k).wp G) : r.wp (fun a s => (k a s).wp G) G.ex := by
  cases r <;> exact h
/-- behind a statement -/
def RS.then (r : RS) (k : FS) : RS := match r with
  | .nx ρ s => k ρ s
  | .rt d s => .rt d s
  | .bk ρ s => .bk ρ s
  | .ct ρ s => .ct ρ s
  | .er e s => .er e s
  | .bad => .bad
theorem RS.then_nx (ρ : SEnv) (s : Sd) (k : FS) : (RS.nx ρ s).then k = k ρ s := rfl
theorem RS.then_rt (d : D) (s : Sd) (k : FS) : (RS.rt d s).then k = .rt d s := rfl
theorem RS.then_bk (ρ : SEnv) (s : Sd) (k : FS) : (RS.bk ρ s).then k = .bk ρ s := rfl
theorem RS.then_ct (ρ : SEnv) (s : Sd) (k : FS) : (RS.ct ρ s).then k = .ct ρ s := rfl
theorem RS.then_er (e : Er) (s : Sd) (k : FS) : (RS.er e s).then k = .er e s := rfl
theorem RS.then_bad (k : FS) : (RS.bad).then k = .bad := rfl

def rd {α : Type} (f : FT α) : SEnv → Sd → (α → Sd → Prop) → QE → Prop := fun ρ n Q F => (f ρ n).wp Q F
def rdS (f : FS) : DS := fun G ρ n => (f ρ n).wp G
def rdG (g : FG) : DG := fun d ρ n R => ∃ ρ', g d ρ = some ρ' ∧ R ρ' n
def rdGs (g : FGs) : DGs := fun d ρ n R => ∃ ρ', g d ρ = some ρ' ∧ R ρ' n

section
variable {X : Cx} {q : Dq} {H0 : Hp} {E : XK} {e : Expr} {es : List Expr} {oe : Option Expr} {kws : List Keyword} {st : Stmt} {sts : List Stmt} {t t' : DT} {tt tt' : DTT} {ts ts' : DTA} {s s' : DS} {g g' : DG} {gs gs' : DGs} {ow : List Nat}
theorem DE.imp (h : DE X q H0 E e t) (i : ∀ ρ n Q F, t' ρ n Q F → t ρ n Q F) : DE X q H0 E e t' := ⟨h.pe.imp fun σ H Q ⟨ρ, n, Q0, F, R, h, c, o⟩ => ⟨ρ, n, Q0, F, R, i _ _ _ _ h, c, o⟩⟩
theorem DTe.imp (h : DTe X q H0 E e tt) (i : ∀ ρ n Q F, tt' ρ n Q F → tt ρ n Q F) : DTe X q H0 E e tt' := ⟨h.pt.imp fun σ H Q ⟨ρ, n, Q0, F, R, h, c, o⟩ => ⟨ρ, n, Q0, F, R, i _ _ _ _ h, c, o⟩⟩
theorem DWe.imp (h : DWe X q H0 E e tt) (i : ∀ ρ n Q F, tt' ρ n Q F → tt ρ n Q F) : DWe X q H0 E e tt' := ⟨h.pw.imp fun σ H Q ⟨ρ, n, Q0, F, R, h, c, o⟩ => ⟨ρ, n, Q0, F, R, i _ _ _ _ h, c, o⟩⟩
theorem DA.imp (h : DA X q H0 E es ts) (i : ∀ ρ n Q F, ts' ρ n Q F → ts ρ n Q F) : DA X q H0 E es ts' := ⟨h.pa.imp fun σ H Q ⟨ρ, n, Q0, F, R, h, c, o⟩ => ⟨ρ, n, Q0, F, R, i _ _ _ _ h, c, o⟩⟩
theorem DK.imp (h : DK X q H0 E kws ts) (i : ∀ ρ n Q F, ts' ρ n Q F → ts ρ n Q F) : DK X q H0 E kws ts' := ⟨h.pk.imp fun σ H Q ⟨ρ, n, Q0, F, R, h, c, o⟩ => ⟨ρ, n, Q0, F, R, i _ _ _ _ h, c, o⟩⟩
theorem DSt.imp (h : DSt X q H0 E st s) (i : ∀ G ρ n, s' G ρ n → s G ρ n) : DSt X q H0 E st s' := ⟨h.ps.imp fun D σ H ⟨ρ, n, G, R, h, c⟩ => ⟨ρ, n, G, R, i _ _ _ h, c⟩⟩
theorem DSs.imp (h : DSs X q H0 E sts s) (i : ∀ G ρ n, s' G ρ n → s G ρ n) : DSs X q H0 E sts s' := ⟨h.pss.imp fun D σ H ⟨ρ, n, G, R, h, c⟩ => ⟨ρ, n, G, R, i _ _ _ h, c⟩⟩
theorem DGt.imp (h : DGt X q H0 ow e g) (i : ∀ d ρ n R, g' d ρ n R → g d ρ n R) : DGt X q H0 ow e g' := ⟨h.pg.imp fun v σ H Q ⟨ρ, n, d, R, r, hd, h, c⟩ => ⟨ρ, n, d, R, r, hd, i _ _ _ _ h, c⟩⟩
theorem DGts.imp (h : DGts X q H0 ow es gs) (i : ∀ d ρ n R, gs' d ρ n R → gs d ρ n R) : DGts X q H0 ow es gs' := ⟨h.pgs.imp fun v σ H Q ⟨ρ, n, d, R, r, hd, h, c⟩ => ⟨ρ, n, d, R, r, hd, i _ _ _ _ h, c⟩⟩
theorem DO.imp {t t' : DTO} (h : DO X q H0 E oe t) (i : ∀ ρ n Q F, t' ρ n Q F → t ρ n Q F) : DO X q H0 E oe t' := ⟨PO.imp h.po fun σ H Q ⟨ρ, n, Q0, F, R, h, c, o⟩ => ⟨ρ, n, Q0, F, R, i _ _ _ _ h, c, o⟩⟩
theorem DI.imp {tg : Expr} {t t' : DTI} (h : DI X q H0 E tg e t) (i : ∀ ρ n Q F, t' ρ n Q F → t ρ n Q F) : DI X q H0 E tg e t' := ⟨h.pi.imp fun σ H Q ⟨ρ, n, Q0, F, R, h, c, o⟩ => ⟨ρ, n, Q0, F, R, i _ _ _ _ h, c, o⟩⟩
theorem DPts.imp {ifs : List Expr} (h : DPts X q H0 E ifs tt) (i : ∀ ρ n Q F, tt' ρ n Q F → tt ρ n Q F) : DPts X q H0 E ifs tt' :=
  ⟨h.pts.imp fun σ H Q ⟨A, xs, e1, ρ, n, Q0, F, R, h, c, o⟩ => ⟨A, xs, e1, ρ, n, Q0, F, R, i _ _ _ _ h, c, o⟩⟩
end

/-! ### expressions -/
abbrev FEx (X : Cx) (q : Dq) (H0 : Hp) (E : XK) (e : Expr) (f : FE) := DE X q H0 E e (rd f)
abbrev FTe (X : Cx) (q : Dq) (H0 : Hp) (E : XK) (e : Expr) (f : FB) := DTe X q H0 E e (rd f)
abbrev FWe (X : Cx) (q : Dq) (H0 : Hp) (E : XK) (e : Expr) (f : FB) := DWe X q H0 E e (rd f)
abbrev FAs (X : Cx) (q : Dq) (H0 : Hp) (E : XK) (es : List Expr) (f : FA) := DA X q H0 E es (rd f)
abbrev FKs (X : Cx) (q : Dq) (H0 : Hp) (E : XK) (es : List Keyword) (f : FA) := DK X q H0 E es (rd f)
abbrev FSt (X : Cx) (q : Dq) (H0 : Hp) (E : XK) (st : Stmt) (f : FS) := DSt X q H0 E st (rdS f)
abbrev FSs (X : Cx) (q : Dq) (H0 : Hp) (E : XK) (sts : List Stmt) (f : FS) := DSs X q H0 E sts (rdS f)
abbrev FGt (X : Cx) (q : Dq) (H0 : Hp) (ow : List Nat) (e : Expr) (g : FG) := DGt X q H0 ow e (rdG g)
abbrev FGts (X : Cx) (q : Dq) (H0 : Hp) (ow : List Nat) (es : List Expr) (g : FGs) := DGts X q H0 ow es (rdGs g)
abbrev FIt (X : Cx) (q : Dq) (H0 : Hp) (E : XK) (tg e : Expr) (f : FA) := DI X q H0 E tg e (rd f)
abbrev FPt (X : Cx) (q : Dq) (H0 : Hp) (E : XK) (o : Option Expr) (f : FT (Option Int)) := DO X q H0 E o (rd f)

def fVar (i : Nat) : FE := fun ρ s => match ρ[i]? with
  | some (.d x) => .ok x s
  | _ => .bad
def fC (x : D) : FE := fun _ s => .ok x s
def fBin (o : D → D → Option D) (a b : FE) : FE := fun ρ s => (a ρ s).bind fun x s => (b ρ s).bind fun y s => .opt (o x y) s
def fUn (o : D → Option D) (a : FE) : FE := fun ρ s => (a ρ s).bind fun x s => .opt (o x) s
def toB : D → Option Bool
  | .bl b => some b
  | .lst ds => some (!ds.isEmpty)
  | _ => none
def toBl : D → Option Bool
  | .bl b => some b
  | _ => none
def fAndV (a b : FE) : FE := fun ρ s => (a ρ s).bind fun x s => (R.opt (toBl x) s).bind fun c s => if c = true then b ρ s else .ok (.bl false) s
def fOrV (a b : FE) : FE := fun ρ s => (a ρ s).bind fun x s => (R.opt (toBl x) s).bind fun c s => if c = true then .ok (.bl true) s else b ρ s
def fNotV (a : FE) : FE := fun ρ s => (a ρ s).bind fun x s => (R.opt (toBl x) s).bind fun c s => .ok (.bl (!c)) s
def fIfE (c : FB) (a b : FE) : FE := fun ρ s => (c ρ s).bind fun t s => if t = true then a ρ s else b ρ s
def fVal (a : FE) : FB := fun ρ s => (a ρ s).bind fun x s => .opt (toBl x) s
def fAndT (a b : FB) : FB := fun ρ s => (a ρ s).bind fun c s => if c = true then b ρ s else .ok false s
def fOrT (a b : FB) : FB := fun ρ s => (a ρ s).bind fun c s => if c = true then .ok true s else b ρ s
def fNotT (a : FB) : FB := fun ρ s => (a ρ s).bind fun c s => .ok (!c) s
def fNil : FA := fun _ s => .ok [] s
def fCons (a : FE) (r : FA) : FA := fun ρ s => (a ρ s).bind fun x s => (r ρ s).bind fun xs s => .ok (x :: xs) s
def fTup (r : FA) : FE := fun ρ s => (r ρ s).bind fun xs s => .ok (.tup xs) s
def fLst (r : FA) : FE := fun ρ s => (r ρ s).bind fun xs s => .ok (.lst xs) s
def fIsi (Ts : List String) (a : FE) : FE := fun ρ s => (a ρ s).bind fun x s => if x.isData = true then .ok (.bl (x.isa Ts)) s else .bad
def fCall (m : SpF) (r : FA) : FE := fun ρ s => (r ρ s).bind fun ds s => m ds s
def fCallK (m : SpF) (g : List D → List D → List D) (r k : FA) : FE := fun ρ s => (r ρ s).bind fun ds s => (k ρ s).bind fun es s => m (g ds es) s
def fCB (c : List D → Option D) (r : FA) : FE := fun ρ s => (r ρ s).bind fun ds s => .opt (c ds) s
def fNoPart : FT (Option Int) := fun _ s => .ok none s
def toI : D → Option Int
  | .int i => some i
  | _ => none
def fPart (a : FE) : FT (Option Int) := fun ρ s => (a ρ s).bind fun x s => (R.opt (toI x) s).bind fun i s => .ok (some i) s
def slF : D → Option Int → Option Int → Option D
  | .lst ds, l, u => some (.lst (cutD ds l u))
  | .tup ds, l, u => some (.tup (cutD ds l u))
  | .scr ns, l, u => some (.lst ((cutD ns l u).map D.int))
  | _, _, _ => none
def fSlice (a : FE) (lo hi : FT (Option Int)) : FE := fun ρ s => (a ρ s).bind fun x s => (lo ρ s).bind fun l s => (hi ρ s).bind fun u s => .opt (slF x l u) s
def fDrum (i : Nat) (j : Int) : FE := fun ρ s => match ρ[i]? with
  | some (.d (.drum ns)) => if j = 0 then .ok (.lst (ns.map D.int)) s else if j = 1 then .ok (.int s.1) s else if j = 2 then .ok (.int s.2) s else .bad
  | _ => .bad
/-- lengths of written displays -/
def lenA (r : FA) (n : Nat) : Prop := ∀ ρ s xs s', r ρ s = .ok xs s' → xs.length = n
theorem lenA_nil : lenA fNil 0 := fun ρ s xs s' h => by cases h; rfl
theorem lenA_cons {a : FE} {r : FA} {n : Nat} (h : lenA r n) : lenA (fCons a r) (n + 1) := fun ρ s xs s' e => by
  unfold fCons at e
  cases e1 : a ρ s with
  | ok x s1 =>
    rw [e1] at e
    simp only [R.bind_ok] at e
    cases e2 : r ρ s1 with
    | ok ys s2 =>
      rw [e2] at e
      simp only [R.bind_ok] at e
      cases e
      rw [List.length_cons, h _ _ _ _ e2]
    | er _ _ => rw [e2] at e; cases e
    | bad => rw [e2] at e; cases e
  | er _ _ => rw [e1] at e; cases e
  | bad => rw [e1] at e; cases e

section
variable {X : Cx} {q : Dq} {H0 : Hp} {E : XK} {e a b : Expr} {es : List Expr} {kws : List Keyword} {fa fb : FE} {ta tb : FB} {fs fk : FA} {pos p : Pos}
theorem fe_var (i : Nat) {x : Str} (hN : X.N[i]? = some x := by rfl) (hv : Vis X.env.scope x := by first | exact Or.inl rfl | exact Or.inr (Or.inl rfl) | exact Or.inr (Or.inr rfl)) (hd : (x == ("__debug__" : Str)) = false := by decide)
    (hcd : (x == ("__classdict__" : Str)) = false := by decide) : FEx X q H0 E (.Name x pos) (fVar i) := (de_var i hN hv hd hcd).imp fun ρ n Q F h => by
  unfold rd fVar at h
  cases z : ρ[i]? with
  | none => rw [z] at h; exact h.elim
  | some sl =>
    rw [z] at h
    cases sl with
    | d x => exact ⟨x, z, h⟩
    | own _ => exact h.elim
    | no => exact h.elim
theorem fe_c {x : D} (h : DE X q H0 E e (dC x)) : FEx X q H0 E e (fC x) := h.imp fun ρ n Q F h => h
theorem fe_int {i j} : FEx X q H0 E (.Constant (.int i) j pos) (fC (.int i)) := fe_c de_int
theorem fe_bl {i j} : FEx X q H0 E (.Constant (.bool i) j pos) (fC (.bl i)) := fe_c de_bl
theorem fe_non {j} : FEx X q H0 E (.Constant .none j pos) (fC .non) := fe_c de_non
theorem fe_str {i j} : FEx X q H0 E (.Constant (.str i) j pos) (fC (.str i)) := fe_c de_str
theorem fe_dnew : FEx X q H0 E (.Dict [] [] pos) (fC (.dct [])) := fe_c de_dnew
/-- an operator by its function -/
structure OpF (X : Cx) (q : Dq) (f : Value → Value → Sem Value) (o : D → D → Option D) : Prop where
  ex : ∃ od, OpD X q f od ∧ ∀ x y z P, o x y = some z → P z → od x y P
theorem bin_imp {od : D → D → (D → Prop) → Prop} {o : D → D → Option D} (k : ∀ x y z P, o x y = some z → P z → od x y P) {ρ : SEnv} {n : Sd} {Q : QD} {F : QE} (h : rd (fBin o fa fb) ρ n Q F) : dBin od (rd fa) (rd fb) ρ n Q F := by
  refine R.wp_mono (R.bind_wp h) (fun x s h => ?_) fun _ _ h => h
  refine R.wp_mono (R.bind_wp h) (fun y s h => ?_) fun _ _ h => h
  obtain ⟨z, e, h⟩ := R.opt_wp h
  exact k x y z _ e h
theorem fe_bin {op : Operator} {o : D → D → Option D} (ho : OpF X q (binaryOp op) o) (ha : FEx X q H0 E a fa) (hb : FEx X q H0 E b fb) : FEx X q H0 E (.BinOp a op b pos) (fBin o fa fb) := by
  obtain ⟨od, h, k⟩ := ho.ex
  exact (de_bin h ha hb).imp fun ρ n Q F h => bin_imp k h
theorem fe_cmp {op : CmpOp} {o : D → D → Option D} (ho : OpF X q (compareOp op) o) (ha : FEx X q H0 E a fa) (hb : FEx X q H0 E b fb) (hm : behindInMarks op b = false := by first | exact nomark _ | rfl) : FEx X q H0 E (.Compare a [op] [b] pos) (fBin o fa fb) := by
  obtain ⟨od, h, k⟩ := ho.ex
  exact (de_cmp h ha hb hm).imp fun ρ n Q F h => bin_imp k h
theorem toBl_eq {x : D} {c : Bool} (h : toBl x = some c) : x = .bl c := by
  cases x <;> simp only [toBl] at h <;> cases h; rfl
theorem val_imp {ρ : SEnv} {n : Sd} {Q : Bool → Sd → Prop} {F : QE} {t : DT} (k : ∀ Q, (fa ρ n).wp Q F → t ρ n Q F) (h : rd (fVal fa) ρ n Q F) : dVal t ρ n Q F := by
  refine k _ (R.wp_mono (R.bind_wp h) (fun x s h => ?_) fun _ _ h => h)
  obtain ⟨c, e, h⟩ := R.opt_wp h
  exact ⟨c, toBl_eq e, h⟩
theorem ft_cmp {op : CmpOp} {o : D → D → Option D} (ho : OpF X q (compareOp op) o) (ha : FEx X q H0 E a fa) (hb : FEx X q H0 E b fb) (hm : behindInMarks op b = false := by first | exact nomark _ | rfl) : FTe X q H0 E (.Compare a [op] [b] pos) (fVal (fBin o fa fb)) := by
  obtain ⟨od, h, k⟩ := ho.ex
  exact (dt_cmp h ha hb hm).imp fun ρ n Q F h => val_imp (fun Q h => bin_imp k h) h
theorem ft_val (ha : FEx X q H0 E a fa) (he : ∀ whole, isTrue a X.env whole = (do let v ← whole; standAt a.pos; holding [v] (truthy v)) := by intro _; rfl) : FTe X q H0 E a (fVal fa) := (dt_val ha he).imp fun ρ n Q F h => val_imp (fun Q h => h) h
theorem fe_un {op : UnaryOp} {od : D → (D → Prop) → Prop} {o : D → Option D} (ho : UnD X q (unaryOp op) od) (k : ∀ x z P, o x = some z → P z → od x P) (ha : FEx X q H0 E a fa) : FEx X q H0 E (.UnaryOp op a pos) (fUn o fa) := (de_un ho ha).imp fun ρ n Q F h => by
  refine R.wp_mono (R.bind_wp h) (fun x s h => ?_) fun _ _ h => h
  obtain ⟨z, e, h⟩ := R.opt_wp h
  exact k x z _ e h
theorem fe_and {rest : List Expr} (ha : FEx X q H0 E a fa) (hb : FEx X q H0 E (.BoolOp .And (b :: rest) pos) fb) : FEx X q H0 E (.BoolOp .And (a :: b :: rest) pos) (fAndV fa fb) := (de_and ha hb).imp fun ρ n Q F h => by
  refine R.wp_mono (R.bind_wp h) (fun x s h => ?_) fun _ _ h => h
  obtain ⟨c, e, h⟩ := R.opt_wp (R.bind_wp h)
  refine ⟨c, toBl_eq e, ?_⟩
  cases c <;> exact h
theorem fe_or {rest : List Expr} (ha : FEx X q H0 E a fa) (hb : FEx X q H0 E (.BoolOp .Or (b :: rest) pos) fb) : FEx X q H0 E (.BoolOp .Or (a :: b :: rest) pos) (fOrV fa fb) := (de_or ha hb).imp fun ρ n Q F h => by
  refine R.wp_mono (R.bind_wp h) (fun x s h => ?_) fun _ _ h => h
  obtain ⟨c, e, h⟩ := R.opt_wp (R.bind_wp h)
  refine ⟨c, toBl_eq e, ?_⟩
  cases c <;> exact h
theorem fe_one {op} (h : FEx X q H0 E a fa) : FEx X q H0 E (.BoolOp op [a] pos) fa := de_one h
theorem fe_not (ha : FEx X q H0 E a fa) : FEx X q H0 E (.UnaryOp .Not a pos) (fNotV fa) := (de_not ha).imp fun ρ n Q F h => by
  refine R.wp_mono (R.bind_wp h) (fun x s h => ?_) fun _ _ h => h
  obtain ⟨c, e, h⟩ := R.opt_wp (R.bind_wp h)
  exact ⟨c, toBl_eq e, h⟩
theorem fw_and1 (ha : FTe X q H0 E a ta) : FWe X q H0 E (.BoolOp .And [a] pos) ta := dw_and1 ha
theorem fw_or1 (ha : FTe X q H0 E a ta) : FWe X q H0 E (.BoolOp .Or [a] pos) ta := dw_or1 ha
theorem fw_and {rest : List Expr} (ha : FTe X q H0 E a ta) (hb : FWe X q H0 E (.BoolOp .And (b :: rest) pos) tb) : FWe X q H0 E (.BoolOp .And (a :: b :: rest) pos) (fAndT ta tb) := (dw_and ha hb).imp fun ρ n Q F h => by
  refine R.wp_mono (R.bind_wp h) (fun c s h => ?_) fun _ _ h => h
  cases c <;> exact h
theorem fw_or {rest : List Expr} (ha : FTe X q H0 E a ta) (hb : FWe X q H0 E (.BoolOp .Or (b :: rest) pos) tb) : FWe X q H0 E (.BoolOp .Or (a :: b :: rest) pos) (fOrT ta tb) := (dw_or ha hb).imp fun ρ n Q F h => by
  refine R.wp_mono (R.bind_wp h) (fun c s h => ?_) fun _ _ h => h
  cases c <;> exact h
theorem fw_t (h : FWe X q H0 E a ta) : FTe X q H0 E a ta := dw_t h
theorem ft_not (ha : FTe X q H0 E a ta) : FTe X q H0 E (.UnaryOp .Not a pos) (fNotT ta) := (dt_not ha).imp fun ρ n Q F h => by
  exact R.wp_mono (R.bind_wp h) (fun c s h => h) fun _ _ h => h
theorem fe_if {c : Expr} (hc : FTe X q H0 E c ta) (ha : FEx X q H0 E a fa) (hb : FEx X q H0 E b fb) : FEx X q H0 E (.IfExp c a b pos) (fIfE ta fa fb) := (de_if hc ha hb).imp fun ρ n Q F h => by
  refine R.wp_mono (R.bind_wp h) (fun c s h => ?_) fun _ _ h => h
  cases c <;> exact h
theorem fa_nil : FAs X q H0 E [] fNil := da_nil.imp fun ρ n Q F h => h
theorem fa_cons (ha : FEx X q H0 E e fa) (hr : FAs X q H0 E es fs) (hs : starEach (e :: es) X.env = (false, eval e X.env) :: starEach es X.env := by rfl) : FAs X q H0 E (e :: es) (fCons fa fs) := (da_cons ha hr hs).imp fun ρ n Q F h => by
  refine R.wp_mono (R.bind_wp h) (fun x s h => ?_) fun _ _ h => h
  exact R.wp_mono (R.bind_wp h) (fun xs s h => h) fun _ _ h => h
theorem len_imp {n0 : Nat} (hl : lenA fs n0) {ρ : SEnv} {n : Sd} {Q : List D → Sd → Prop} {F : QE} (h : (fs ρ n).wp Q F) : (fs ρ n).wp (fun xs s => xs.length = n0 ∧ Q xs s) F := by
  cases z : fs ρ n with
  | ok xs s => rw [z] at h; exact ⟨hl _ _ _ _ z, h⟩
  | er e s => rw [z] at h; exact h
  | bad => rw [z] at h; exact h
theorem fe_tup {x1} {k : Nat} (h : FAs X q H0 E es fs) (hl : lenA fs k) (hk : k ≤ 20000 := by decide) : FEx X q H0 E (.Tuple es x1 pos) (fTup fs) := (de_tup h).imp fun ρ n Q F h => by
  refine R.wp_mono (len_imp hl (R.bind_wp h)) (fun xs s h => ⟨?_, h.2⟩) fun _ _ h => h
  rw [h.1, sizeLine_eq]; omega
theorem fe_lst {k : Nat} (h : FAs X q H0 E es fs) (hl : lenA fs k) (hk : k ≤ 20000 := by decide) : FEx X q H0 E (.List es pos) (fLst fs) := (de_lst h).imp fun ρ n Q F h => by
  refine R.wp_mono (len_imp hl (R.bind_wp h)) (fun xs s h => ⟨?_, h.2⟩) fun _ _ h => h
  rw [h.1, sizeLine_eq]; omega
theorem isi_imp {Ts : List String} {ρ : SEnv} {n : Sd} {Q : QD} {F : QE} (h : rd (fIsi Ts fa) ρ n Q F) : dIsi Ts (rd fa) ρ n Q F := by
  refine R.wp_mono (R.bind_wp h) (fun x s h => ?_) fun _ _ h => h
  by_cases z : x.isData = true
  · rw [if_pos z] at h; exact ⟨z, h⟩
  · rw [if_neg z] at h; exact h.elim
theorem fe_isi {Ts : List String} (h : DE X q H0 E e (dIsi Ts (rd fa))) : FEx X q H0 E e (fIsi Ts fa) := h.imp fun ρ n Q F h => isi_imp h

/-! calls -/
def spF (m : SpF) : SpD := fun ds n Q F => (m ds n).wp Q F
variable {CX : CXT} {k : Nat} {f : Addr} {fd : FuncData} {ps ks : List Str} {m : SpF} {x : Str}
theorem fe_call (G : FnG X.prog X.w X.K X.mg X.base CX k f fd ps (spD X.K T (spF m))) (hr : Room k X.A) (hgd : X.A.guards = some []) (hT : q.T = T) (hg : Gl X x) (hm : X.mg x = some (.ref f)) (hk : PySem.W.keepIn X.K (.ref f) = true) (hb : Binds X.K fd ps []) (hx : Passes CX X E)
    (ha : FAs X q H0 E (e :: es) fs) (hdb : (x == ("__debug__" : Str)) = false := by decide) (he : starEach (e :: es) X.env = (false, eval e X.env) :: starEach es X.env := by rfl) (hpl : (backTo pos (starEach es X.env)).any (·.1) = false := by rfl) :
    FEx X q H0 E (.Call (.Name x p) (e :: es) [] pos) (fCall m fs) := (de_call G hr hgd hT hg hm hk hb hx ha hdb he hpl).imp fun ρ n Q F h => R.bind_wp h
theorem fe_call0 (G : FnG X.prog X.w X.K X.mg X.base CX k f fd ps (spD X.K T (spF m))) (hr : Room k X.A) (hgd : X.A.guards = some []) (hT : q.T = T) (hg : Gl X x) (hm : X.mg x = some (.ref f)) (hk : PySem.W.keepIn X.K (.ref f) = true) (hb : Binds X.K fd ps []) (hx : Passes CX X E)
    (hdb : (x == ("__debug__" : Str)) = false := by decide) : FEx X q H0 E (.Call (.Name x p) [] [] pos) (fCall m fNil) := (de_call0 G hr hgd hT hg hm hk hb hx hdb).imp fun ρ n Q F h => h
theorem fe_callK {g : {α : Type} → List α → List α → List α} (G : FnG X.prog X.w X.K X.mg X.base CX k f fd ps (spD X.K T (spF m))) (hr : Room k X.A) (hgd : X.A.guards = some []) (hT : q.T = T) (hg : Gl X x) (hm : X.mg x = some (.ref f)) (hk : PySem.W.keepIn X.K (.ref f) = true) (hb : KBinds X.K fd ps ks g g) (hx : Passes CX X E)
    (hgD : ∀ (K : PySem.W.Frag) (q : Dq) (H : Hp) (vs zs : List V) (ds es : List D), DtAll K q H vs ds → DtAll K q H zs es → DtAll K q H (g vs zs) (g ds es))
    (ha : FAs X q H0 E (e :: es) fs) (hkw : FKs X q H0 E kws fk) (hall : (backToKw pos (keywordEach kws X.env)).all (·.1.isSome) = true := by rfl) (hks : (backToKw pos (keywordEach kws X.env)).filterMap (·.1) = ks := by rfl)
    (hdb : (x == ("__debug__" : Str)) = false := by decide) (he : starEach (e :: es) X.env = (false, eval e X.env) :: starEach es X.env := by rfl)
    (hpl : ((backTo pos (starEach (e :: es) X.env)).any (·.1) || (backToKw pos (keywordEach kws X.env)).any (·.1.isNone)) = false := by rfl) :
    FEx X q H0 E (.Call (.Name x p) (e :: es) kws pos) (fCallK m g fs fk) := (de_callK G hr hgd hT hg hm hk hb hx hgD ha hkw hall hks hdb he hpl).imp fun ρ n Q F h => by
  refine R.wp_mono (R.bind_wp h) (fun xs s h => ?_) fun _ _ h => h
  exact R.wp_mono (R.bind_wp h) (fun ys s h => h) fun _ _ h => h
theorem fe_callK0 {g : {α : Type} → List α → List α → List α} (G : FnG X.prog X.w X.K X.mg X.base CX k f fd ps (spD X.K T (spF m))) (hr : Room k X.A) (hgd : X.A.guards = some []) (hT : q.T = T) (hg : Gl X x) (hm : X.mg x = some (.ref f)) (hk : PySem.W.keepIn X.K (.ref f) = true) (hb : KBinds X.K fd ps ks g g) (hx : Passes CX X E)
    (hgD : ∀ (K : PySem.W.Frag) (q : Dq) (H : Hp) (vs zs : List V) (ds es : List D), DtAll K q H vs ds → DtAll K q H zs es → DtAll K q H (g vs zs) (g ds es))
    (hkw : FKs X q H0 E kws fk) (hall : (backToKw pos (keywordEach kws X.env)).all (·.1.isSome) = true := by rfl) (hks : (backToKw pos (keywordEach kws X.env)).filterMap (·.1) = ks := by rfl)
    (hdb : (x == ("__debug__" : Str)) = false := by decide)
    (hpl : ((backTo pos (starEach [] X.env)).any (·.1) || (backToKw pos (keywordEach kws X.env)).any (·.1.isNone)) = false := by rfl) :
    FEx X q H0 E (.Call (.Name x p) [] kws pos) (fCallK m g fNil fk) := (de_callK0 G hr hgd hT hg hm hk hb hx hgD hkw hall hks hdb hpl).imp fun ρ n Q F h => by
  exact R.wp_mono (R.bind_wp h) (fun ys s h => h) fun _ _ h => h
theorem fk_nil : FKs X q H0 E [] fNil := dk_nil.imp fun ρ n Q F h => h
theorem fk_cons {nm : Option Str} {kpos : Pos} (ha : FEx X q H0 E e fa) (hr : FKs X q H0 E kws fs) : FKs X q H0 E (⟨nm, e, kpos⟩ :: kws) (fCons fa fs) := (dk_cons ha hr).imp fun ρ n Q F h => by
  refine R.wp_mono (R.bind_wp h) (fun x s h => ?_) fun _ _ h => h
  exact R.wp_mono (R.bind_wp h) (fun xs s h => h) fun _ _ h => h
/-- a built-in function by its function -/
structure CallF (X : Cx) (q : Dq) (f : Value) (c : List D → Option D) : Prop where
  ex : ∃ cd, CallD X q f cd ∧ ∀ ds z P, c ds = some z → P z → cd ds P
theorem cb_imp {cd : List D → (D → Prop) → Prop} {c : List D → Option D} (k : ∀ ds z P, c ds = some z → P z → cd ds P) {ρ : SEnv} {n : Sd} {Q : QD} {F : QE} (h : rd (fCB c fs) ρ n Q F) : dCB cd (rd fs) ρ n Q F := by
  refine R.wp_mono (R.bind_wp h) (fun xs s h => ?_) fun _ _ h => h
  obtain ⟨z, e, h⟩ := R.opt_wp h
  exact k xs z _ e h
theorem fe_callB {id : String} {c : List D → Option D} (hc : CallF X q (.builtin id) c) (hg : Gl X x) (hm : X.mg x = none) (hv : bootBuiltins x = some (.builtin id)) (ha : FAs X q H0 E (e :: es) fs) (hn : x ≠ "__name__" := by decide) (hdb : (x == ("__debug__" : Str)) = false := by decide)
    (he : starEach (e :: es) X.env = (false, eval e X.env) :: starEach es X.env := by rfl) (hpl : (backTo pos (starEach es X.env)).any (·.1) = false := by rfl) : FEx X q H0 E (.Call (.Name x p) (e :: es) [] pos) (fCB c fs) := by
  obtain ⟨cd, h, k⟩ := hc.ex
  exact (de_callB h hg hm hv ha hn hdb he hpl).imp fun ρ n Q F h => cb_imp k h
theorem fe_callTy {T : String} {c : List D → Option D} (hc : CallF X q (.type T) c) (hg : Gl X x) (hm : X.mg x = none) (hv : bootBuiltins x = some (.type T)) (ha : FAs X q H0 E (e :: es) fs) (hn : x ≠ "__name__" := by decide) (hdb : (x == ("__debug__" : Str)) = false := by decide)
    (he : starEach (e :: es) X.env = (false, eval e X.env) :: starEach es X.env := by rfl) (hpl : (backTo pos (starEach es X.env)).any (·.1) = false := by rfl) : FEx X q H0 E (.Call (.Name x p) (e :: es) [] pos) (fCB c fs) := by
  obtain ⟨cd, h, k⟩ := hc.ex
  exact (de_callTy h hg hm hv ha hn hdb he hpl).imp fun ρ n Q F h => cb_imp k h
/-! xs[i], slices, what draws -/
def ixF : D → D → Option D
  | .lst ds, .int i => atI ds i
  | .tup ds, .int i => atI ds i
  | .str z, .int i => if z.length ≤ sizeLine then (atI z.cps.toList i).map fun c => .str ⟨#[c]⟩ else none
  | _, _ => none
theorem ix_imp : ∀ x y z P, ixF x y = some z → P z → oIx x y P := fun x y z P e h => by
  cases x <;> cases y <;> simp only [ixF] at e <;> try (cases e; done)
  · split at e
    · obtain ⟨c, e1, e2⟩ := Option.map_eq_some_iff.mp e
      subst e2
      exact ⟨by assumption, c, e1, h⟩
    · cases e
  · exact ⟨z, e, h⟩
  · exact ⟨z, e, h⟩
theorem fe_at (ha : FEx X q H0 E a fa) (hb : FEx X q H0 E b fb) (hs : PlainIx b := by exact fun _ _ => rfl) : FEx X q H0 E (.Subscript a b pos) (fBin ixF fa fb) := (de_at ha hb hs).imp fun ρ n Q F h => bin_imp ix_imp h
theorem fo_none : FPt X q H0 E none fNoPart := do_none.imp fun ρ n Q F h => h
theorem fo_some (h : FEx X q H0 E e fa) : FPt X q H0 E (some e) (fPart fa) := (do_some h).imp fun ρ n Q F h => by
  refine R.wp_mono (R.bind_wp h) (fun x s h => ?_) fun _ _ h => h
  obtain ⟨i, e, h⟩ := R.opt_wp (R.bind_wp h)
  refine ⟨i, ?_, h⟩
  cases x <;> simp only [toI] at e <;> cases e; rfl
theorem fe_slice {lo hi : Option Expr} {fl fh : FT (Option Int)} {p2 : Pos} (he : FEx X q H0 E e fa) (hl : FPt X q H0 E lo fl) (hu : FPt X q H0 E hi fh) : FEx X q H0 E (.Subscript e (.Slice lo hi none p2) pos) (fSlice fa fl fh) := (de_slice he hl hu).imp fun ρ n Q F h => by
  refine R.wp_mono (R.bind_wp h) (fun x s h => ?_) fun _ _ h => h
  refine R.wp_mono (R.bind_wp h) (fun l s h => ?_) fun _ _ h => h
  refine R.wp_mono (R.bind_wp h) (fun u s h => ?_) fun _ _ h => h
  obtain ⟨z, e, h⟩ := R.opt_wp h
  cases x <;> simp only [slF] at e <;> cases e <;> exact h
theorem fe_drum (i : Nat) {j : Int} {jj : Nat} {px : Pos} (hN : X.N[i]? = some x := by rfl) (hv : Vis X.env.scope x := by first | exact Or.inl rfl | exact Or.inr (Or.inl rfl) | exact Or.inr (Or.inr rfl)) (hd : (x == ("__debug__" : Str)) = false := by decide)
    (hcd : (x == ("__classdict__" : Str)) = false := by decide) (hs : PlainIx (.Constant (.int j) jj p) := by exact fun _ _ => rfl) : FEx X q H0 E (.Subscript (.Name x px) (.Constant (.int j) jj p) pos) (fDrum i j) := (de_drum i hN hv hd hcd hs).imp fun ρ n Q F h => by
  unfold rd fDrum at h
  cases z : ρ[i]? with
  | none => rw [z] at h; exact h.elim
  | some sl =>
    rw [z] at h
    cases sl with
    | own _ => exact h.elim
    | no => exact h.elim
    | d y =>
      cases y <;> first | exact h.elim | skip
      rename_i ns
      refine ⟨ns, z, ?_⟩
      simp only at h
      split at h
      · exact .inl ⟨by assumption, h⟩
      · split at h
        · exact .inr (.inl ⟨by assumption, h⟩)
        · split at h
          · exact .inr (.inr ⟨by assumption, h⟩)
          · exact h.elim
end

/-! ### targets -/
def gName (i : Nat) : FG := fun d ρ => if i < ρ.length then some (ρ.set i (.d d)) else none
def gNil : FGs := fun ds ρ => match ds with
  | [] => some ρ
  | _ => none
def gCons (g : FG) (gs : FGs) : FGs := fun ds ρ => match ds with
  | d :: r => (g d ρ).bind fun ρ1 => gs r ρ1
  | _ => none
def gTup (k : Nat) (gs : FGs) : FG := fun d ρ => match d with
  | .tup ds => if ds.length = k then gs ds ρ else none
  | .lst ds => if ds.length = k then gs ds ρ else none
  | _ => none
section
variable {X : Cx} {q : Dq} {H0 : Hp} {E : XK} {e : Expr} {es : List Expr} {pos : Pos} {ow ow' : List Nat} {g : FG} {gs : FGs}
theorem fg_name (i : Nat) {x : Str} (hN : X.N.Nodup) (hi : X.N[i]? = some x := by rfl) (hx : Loc X.env.scope x := by first | exact .inl rfl | exact .inr rfl) (hf : X.fn x = true ∨ X.env.scope.names.lookup x = some .local := by first | exact .inl rfl | exact .inr rfl | assumption) : FGt X q H0 [i] (.Name x pos) (gName i) :=
  (dg_name i hN hi hx hf).imp fun d ρ n R ⟨ρ', e, h⟩ => by
    unfold gName at e
    split at e
    · cases e; exact ⟨by assumption, h⟩
    · cases e
theorem fg_nil : FGts X q H0 [] [] gNil := dg_nil.imp fun ds ρ n R ⟨ρ', e, h⟩ => by
  cases ds with
  | nil => cases e; exact ⟨rfl, h⟩
  | cons _ _ => cases e
theorem fg_cons (h1 : FGt X q H0 ow e g) (h2 : FGts X q H0 ow' es gs) (hs : (assignEach (e :: es) X.env).map (·.2) = assign e X.env :: (assignEach es X.env).map (·.2) := by rfl) : FGts X q H0 (ow ++ ow') (e :: es) (gCons g gs) := (dg_cons h1 h2 hs).imp fun ds ρ n R ⟨ρ', e, h⟩ => by
  cases ds with
  | nil => cases e
  | cons d r =>
    obtain ⟨ρ1, e1, e2⟩ := Option.bind_eq_some_iff.mp e
    exact ⟨d, r, rfl, ρ1, e1, ρ', e2, h⟩
theorem fg_tup {k : Nat} {kk : Nat} (hc : X.calm = true) (h : FGts X q H0 ow es gs) (hn : (assignEach es X.env).length = k := by rfl) (hst : (assignEach es X.env).findIdx? (·.1) = none := by rfl) : FGt X q H0 ow (.Tuple es kk pos) (gTup k gs) := (dg_tup hc h hn hst).imp fun d ρ n R ⟨ρ', e, h⟩ => by
  cases d <;> simp only [gTup] at e <;> try (cases e; done)
  · split at e
    · exact ⟨_, .inr rfl, by assumption, ρ', e, h⟩
    · cases e
  · split at e
    · exact ⟨_, .inl rfl, by assumption, ρ', e, h⟩
    · cases e
end

/-! ### what is walked -/
def fSeqI (a : FE) : FA := fun ρ s => (a ρ s).bind fun x s => match x with
  | .lst ds => .ok ds s
  | .tup ds => .ok ds s
  | _ => .bad
def rgOk (i : Int) : Prop := -(2 ^ 62) ≤ i ∧ i < 2 ^ 62
instance (i : Int) : Decidable (rgOk i) := by unfold rgOk; infer_instance
def rng1 : D → Option (List D)
  | .int j => if rgOk j then some (rgD 0 j.toNat) else none
  | _ => none
def rng2 : D → D → Option (List D)
  | .int i, .int j => if rgOk i ∧ rgOk j then some (rgD i (j - i).toNat) else none
  | _, _ => none
def fRng1 (a : FE) : FA := fun ρ s => (a ρ s).bind fun x s => .opt (rng1 x) s
def fRng2 (a b : FE) : FA := fun ρ s => (a ρ s).bind fun x s => (b ρ s).bind fun y s => .opt (rng2 x y) s
section
variable {X : Cx} {q : Dq} {H0 : Hp} {E : XK} {tg e a b : Expr} {fa fb : FE} {p pos : Pos}
theorem fi_seq (he : FEx X q H0 E e fa) : FIt X q H0 E tg e (fSeqI fa) := (di_seq he).imp fun ρ n Q F h => by
  refine R.wp_mono (R.bind_wp h) (fun x s h => ?_) fun _ _ h => h
  cases x <;> first | exact ⟨_, .inl rfl, h⟩ | exact ⟨_, .inr rfl, h⟩ | exact h.elim
theorem fi_rng1 (hg : Gl X "range") (hm : X.mg "range" = none) (ha : FEx X q H0 E a fa) (hs : starEach [a] X.env = [(false, eval a X.env)] := by rfl) : FIt X q H0 E tg (.Call (.Name "range" p) [a] [] pos) (fRng1 fa) := (di_rng1 hg hm ha hs).imp fun ρ n Q F h => by
  refine R.wp_mono (R.bind_wp h) (fun x s h => ?_) fun _ _ h => h
  obtain ⟨z, e, h⟩ := R.opt_wp h
  cases x <;> simp only [rng1] at e <;> try (cases e; done)
  split at e
  · cases e; exact ⟨_, rfl, by assumption, h⟩
  · cases e
theorem fi_rng2 (hg : Gl X "range") (hm : X.mg "range" = none) (ha : FEx X q H0 E a fa) (hb : FEx X q H0 E b fb) (hs : starEach [a, b] X.env = [(false, eval a X.env), (false, eval b X.env)] := by rfl) (hs2 : starEach [b] X.env = [(false, eval b X.env)] := by rfl) : FIt X q H0 E tg (.Call (.Name "range" p) [a, b] [] pos) (fRng2 fa fb) := (di_rng2 hg hm ha hb hs hs2).imp fun ρ n Q F h => by
  refine R.wp_mono (R.bind_wp h) (fun x s h => ?_) fun _ _ h => h
  refine R.wp_mono (R.bind_wp h) (fun y s h => ?_) fun _ _ h => h
  obtain ⟨z, e, h⟩ := R.opt_wp h
  cases x <;> cases y <;> simp only [rng2] at e <;> try (cases e; done)
  split at e
  · rename_i c
    cases e
    exact ⟨_, _, rfl, rfl, ⟨c.1.1, c.1.2, c.2.1, c.2.2⟩, h⟩
  · cases e
end

/-! ### comprehensions -/
def lcF (g : FG) (tt : FB) (te : FE) (ρ0 : SEnv) : List D → Sd → R (List D)
  | [], s => .ok [] s
  | d :: ds, s => match g d ρ0 with
    | none => .bad
    | some ρ1 => ((tt ρ1 s).calm).bind fun b s => if b = true then ((te ρ1 s).calm).bind fun y s => (lcF g tt te ρ0 ds s).bind fun ys s => .ok (y :: ys) s else lcF g tt te ρ0 ds s
def fLc (it : FA) (g : FG) (tt : FB) (te : FE) (vs : List Nat) : FE := fun ρ s => (it ρ s).bind fun ds s => if ds.length ≤ sizeLine then (lcF g tt te (wipeD ρ vs) ds s).bind fun ys s => .ok (.lst ys) s else .bad
def fYes : FB := fun _ s => .ok true s
theorem lc_imp {g : FG} {tt : FB} {te : FE} {ρ : SEnv} {Q : QD} : ∀ {ds acc : List D} {s : Sd}, ((lcF g tt te ρ ds s).bind fun ys s => .ok (D.lst (acc ++ ys)) s).wp Q (fun _ _ => False) → lcD (rdG g) (rd tt) (rd te) ρ Q ds acc s
  | [], acc, s, h => by
    simp only [lcF, R.bind_ok, List.append_nil] at h
    exact h
  | d :: ds, acc, s, h => by
    simp only [lcF] at h
    cases e : g d ρ with
    | none => rw [e] at h; exact h.elim
    | some ρ1 =>
      rw [e] at h
      dsimp only at h
      refine ⟨ρ1, e, ?_⟩
      show ((tt ρ1 s)).wp _ _
      cases e1 : tt ρ1 s with
      | er _ _ => rw [e1] at h; exact h.elim
      | bad => rw [e1] at h; exact h.elim
      | ok b s1 =>
        rw [e1] at h
        simp only [R.calm_ok, R.bind_ok] at h
        show (if b = true then _ else _)
        cases b with
        | false => exact lc_imp h
        | true =>
          simp only [if_true] at h
          show ((te ρ1 s1)).wp _ _
          cases e2 : te ρ1 s1 with
          | er _ _ => rw [e2] at h; exact h.elim
          | bad => rw [e2] at h; exact h.elim
          | ok y s2 =>
            rw [e2] at h
            simp only [R.calm_ok, R.bind_ok] at h
            show lcD _ _ _ _ _ _ _ _
            refine lc_imp ?_
            cases e3 : lcF g tt te ρ ds s2 with
            | er _ _ => rw [e3] at h; exact h.elim
            | bad => rw [e3] at h; exact h.elim
            | ok ys s3 =>
              rw [e3] at h
              simp only [R.bind_ok, List.append_assoc, List.singleton_append] at h ⊢
              exact h
theorem lc_imp0 {it : FA} {g : FG} {tt : FB} {te : FE} {vs : List Nat} {ρ : SEnv} {n : Sd} {Q : QD} {F : QE} (h : rd (fun ρ s => (fLc it g tt te vs ρ s).calm) ρ n Q F) : dLc (rd it) (rdG g) (rd tt) (rd te) vs ρ n Q F := by
  have h1 : ((fLc it g tt te vs ρ n).calm).wp Q F := h
  unfold fLc at h1
  show (it ρ n).wp _ _
  cases e : it ρ n with
  | er _ _ => rw [e] at h1; exact h1.elim
  | bad => rw [e] at h1; exact h1.elim
  | ok ds s =>
    rw [e] at h1
    simp only [R.bind_ok] at h1
    by_cases z : ds.length ≤ sizeLine
    · rw [if_pos z] at h1
      exact ⟨z, lc_imp (acc := []) (by rw [show (fun ys s => R.ok (D.lst ([] ++ ys)) s) = fun ys s => R.ok (D.lst ys) s from rfl]; exact R.calm_wp h1)⟩
    · rw [if_neg z] at h1; exact h1.elim
def fLcC (it : FA) (g : FG) (tt : FB) (te : FE) (vs : List Nat) : FE := fun ρ s => (fLc it g tt te vs ρ s).calm
section
variable {X : Cx} {q : Dq} {H0 : Hp} {E : XK} {elt tg iter : Expr} {ifs : List Expr} {scope : Scope} {own : List (Str × Nat)} {pos : Pos} {it : FA} {g : FG} {tt : FB} {te : FE} {ow : List Nat} {c : Expr}
abbrev FPts (X : Cx) (q : Dq) (H0 : Hp) (E : XK) (ifs : List Expr) (f : FB) := DPts X q H0 E ifs (rd f)
theorem fp_nil : FPts X q H0 E [] fYes := dp_nil.imp fun ρ n Q F h => h
theorem fp_one (h : FTe X q H0 E c tt) : FPts X q H0 E [c] tt := dp_one h
theorem fe_lc (hc : X.calm = true) (hN : X.N.Nodup) (hi : FIt X q H0 E tg iter it) (ok : BlkOk X.N X.env.scope scope own) (how : ∀ j ∈ ow, j ∈ own.map (·.2))
    (hg : ∀ (s : Shared) (H : Hp) (C : Addr) (cl : List (Str × Addr)) (fp : List Addr), FGt (X.blk s H scope (compEnvC scope cl C X.env) fp) q H0 ow tg g)
    (ht : ∀ (s : Shared) (H : Hp) (C : Addr) (cl : List (Str × Addr)) (fp : List Addr), FPts (X.blk s H scope (compEnvC scope cl C X.env) fp) q H0 L2.E0 ifs tt)
    (he : ∀ (s : Shared) (H : Hp) (C : Addr) (cl : List (Str × Addr)) (fp : List Addr), FEx (X.blk s H scope (compEnvC scope cl C X.env) fp) q H0 L2.E0 elt te) (hs : ∀ x, foldedSetIterable iter X.env x = pure x := by intro _; rfl) :
    FEx X q H0 E (.ListComp elt [⟨tg, iter, ifs, 0⟩] scope pos) (fLcC it g tt te (own.map (·.2))) := (de_lc hc hN hi ok how hg ht he hs).imp fun ρ n Q F h => lc_imp0 h
end

/-! ### statements -/
def fRet (a : FE) : FS := fun ρ s => (a ρ s).to fun x s => .rt x s
def fRetN : FS := fun _ s => .rt .non s
def fDrop (a : FE) : FS := fun ρ s => (a ρ s).to fun _ s => .nx ρ s
def fSet (i : Nat) (a : FE) : FS := fun ρ s => (a ρ s).to fun x s => if i < ρ.length then .nx (ρ.set i (.d x)) s else .bad
def fAsg (a : FE) (g : FG) : FS := fun ρ s => (a ρ s).to fun x s => match g x ρ with
  | some ρ1 => .nx ρ1 s
  | none => .bad
def fPar (i j : Nat) (a b : FE) : FS := fun ρ s => (a ρ s).to fun x s => (b ρ s).to fun y s => if i < ρ.length ∧ j < ρ.length then .nx ((ρ.set i (.d x)).set j (.d y)) s else .bad
def fIf (c : FB) (a b : FS) : FS := fun ρ s => (c ρ s).to fun t s => if t = true then a ρ s else b ρ s
def fNext : FS := fun ρ s => .nx ρ s
def fSeq (a b : FS) : FS := fun ρ s => (a ρ s).then b
def fBrk : FS := fun ρ s => .bk ρ s
def fCont : FS := fun ρ s => .ct ρ s
def fNo : FS := fun _ _ => .bad
def fDrumSet (i : Nat) (j : Int) (a : FE) : FS := fun ρ s => (a ρ s).to fun x s => match ρ[i]?, x with
  | some (.d (.drum _)), .int z => if j = 1 then .nx ρ (z, s.2) else if j = 2 then .nx ρ (s.1, z) else .bad
  | _, _ => .bad
def fSetOwn (i : Nat) (r : FA) : FS := fun ρ s => (r ρ s).to fun xs s => if i < ρ.length ∧ xs.length ≤ sizeLine then .nx (ρ.set i (.own xs)) s else .bad
def fOwnSet (i : Nat) (k v : FE) : FS := fun ρ s => match ρ[i]? with
  | some (.own ds) => (v ρ s).to fun x s => (k ρ s).to fun z s => match z with
    | .int z => (match ixN ds.length z with
      | some j => .nx (ρ.set i (.own (ds.set j x))) s
      | none => .bad)
    | _ => .bad
  | _ => .bad
def fFree (i : Nat) (u : FS) : FS := fun ρ s => match ρ[i]? with
  | some (.own ds) => u (ρ.set i (.d (.lst ds))) s
  | _ => .bad
def forF (g : FG) (b : FS) : List D → FS
  | [], ρ, s => .nx ρ s
  | d :: ds, ρ, s => match g d ρ with
    | none => .bad
    | some ρ1 => match b ρ1 s with
      | .nx ρ2 s2 => forF g b ds ρ2 s2
      | .ct ρ2 s2 => forF g b ds ρ2 s2
      | .bk ρ2 s2 => .nx ρ2 s2
      | r => r
def fFor (it : FA) (g : FG) (b : FS) : FS := fun ρ s => (it ρ s).to fun ds s => forF g b ds ρ s
/-- one turn of a while -/
def whStep (c : FB) (b : FS) (k : FS) : FS := fun ρ s => (c ρ s).to fun t s => if t = true then (match b ρ s with
      | .nx ρ2 s2 => k ρ2 s2
      | .ct ρ2 s2 => k ρ2 s2
      | .bk ρ2 s2 => .nx ρ2 s2
      | r => r) else .nx ρ s
def whN (c : FB) (b : FS) : Nat → FS
  | 0 => fun _ _ => .bad
  | k + 1 => whStep c b (whN c b k)
open Classical in
noncomputable def fWhile (c : FB) (b : FS) : FS := fun ρ s => if h : ∃ k, whN c b k ρ s ≠ .bad then whN c b h.choose ρ s else .bad
theorem whStep_t {c : FB} {b k : FS} {ρ : SEnv} {s s1 : Sd} (e : c ρ s = .ok true s1) : whStep c b k ρ s = (match b ρ s1 with
      | .nx ρ2 s2 => k ρ2 s2
      | .ct ρ2 s2 => k ρ2 s2
      | .bk ρ2 s2 => .nx ρ2 s2
      | r => r) := by
  unfold whStep
  rw [e]
  rfl
theorem whStep_mono {c : FB} {b k k' : FS} {ρ : SEnv} {s : Sd} (h : ∀ ρ s, k ρ s ≠ .bad → k' ρ s = k ρ s) (hn : whStep c b k ρ s ≠ .bad) : whStep c b k' ρ s = whStep c b k ρ s := by
  unfold whStep at hn ⊢
  cases e : c ρ s with
  | er _ _ => rfl
  | bad => rfl
  | ok t s1 =>
    rw [e] at hn
    simp only [R.to_ok] at hn ⊢
    cases t with
    | false => rfl
    | true =>
      simp only [if_true] at hn ⊢
      cases e2 : b ρ s1 with
      | nx ρ2 s2 => rw [e2] at hn; exact h _ _ hn
      | ct ρ2 s2 => rw [e2] at hn; exact h _ _ hn
      | _ => rfl
theorem whN_mono {c : FB} {b : FS} : ∀ {k : Nat} {ρ : SEnv} {s : Sd}, whN c b k ρ s ≠ .bad → whN c b (k + 1) ρ s = whN c b k ρ s
  | 0, _, _, h => absurd rfl h
  | k + 1, ρ, s, h => whStep_mono (fun ρ s h => whN_mono h) h
theorem whN_le {c : FB} {b : FS} {k : Nat} {ρ : SEnv} {s : Sd} (h : whN c b k ρ s ≠ .bad) : ∀ j, whN c b (k + j) ρ s = whN c b k ρ s
  | 0 => rfl
  | j + 1 => by
    have e := whN_le h j
    rw [← e, show k + (j + 1) = (k + j) + 1 from rfl]
    exact whN_mono (by rw [e]; exact h)
theorem fWhile_of {c : FB} {b : FS} {k : Nat} {ρ : SEnv} {s : Sd} (h : whN c b k ρ s ≠ .bad) : fWhile c b ρ s = whN c b k ρ s := by
  have hx : ∃ k, whN c b k ρ s ≠ .bad := ⟨k, h⟩
  unfold fWhile
  rw [dif_pos hx]
  have h2 := hx.choose_spec
  have a := whN_le h hx.choose
  have b := whN_le h2 k
  rw [Nat.add_comm] at b
  rw [← a, b]
theorem fWhile_bad {c : FB} {b : FS} {ρ : SEnv} {s : Sd} (h : ∀ k, whN c b k ρ s = .bad) : fWhile c b ρ s = .bad := by
  unfold fWhile
  rw [dif_neg fun ⟨k, z⟩ => z (h k)]
/-- a while is one turn and the while again -/
theorem fWhile_eq (c : FB) (b : FS) (ρ : SEnv) (s : Sd) : fWhile c b ρ s = whStep c b (fWhile c b) ρ s := by
  by_cases h : ∃ k, whN c b k ρ s ≠ .bad
  · obtain ⟨k, h⟩ := h
    cases k with
    | zero => exact absurd rfl h
    | succ k =>
      rw [fWhile_of h]
      exact (whStep_mono (fun ρ s h => fWhile_of h) h).symm
  · have h' : ∀ k, whN c b k ρ s = .bad := fun k => Classical.byContradiction fun z => h ⟨k, z⟩
    rw [fWhile_bad h']
    unfold whStep
    have h1 := fun k => h' (k + 1)
    cases e : c ρ s with
    | er _ _ => have z := h1 0; simp only [whN, whStep, e] at z; cases z
    | bad => rfl
    | ok t s1 =>
      simp only [R.to_ok]
      cases t with
      | false => have z := h1 0; simp only [whN, whStep, e] at z; cases z
      | true =>
        simp only [if_true]
        cases e2 : b ρ s1 with
        | nx ρ2 s2 =>
          refine (fWhile_bad fun k => ?_).symm
          have z := h1 k
          simp only [whN, whStep, e, R.to_ok, if_true, e2] at z
          exact z
        | ct ρ2 s2 =>
          refine (fWhile_bad fun k => ?_).symm
          have z := h1 k
          simp only [whN, whStep, e, R.to_ok, if_true, e2] at z
          exact z
        | bad => rfl
        | _ => exact absurd ((whStep_t e).symm.trans (h1 0)) (by rw [e2]; intro z; cases z)
section
variable {X : Cx} {q : Dq} {H0 : Hp} {E : XK} {e a b : Expr} {es : List Expr} {fa fb : FE} {fs : FA} {tt : FB} {g : FG} {pos : Pos} {st : Stmt} {sts rest : List Stmt} {s u : FS} {ow : List Nat}
theorem fs_ret (he : FEx X q H0 E e fa) : FSt X q H0 E (.Return (some e) pos) (fRet fa) := (ds_ret he).imp fun G ρ n h => R.to_wp h
theorem fs_retN : FSt X q H0 E (.Return none pos) fRetN := ds_retN.imp fun G ρ n h => h
theorem fs_expr (he : FEx X q H0 E e fa) (hs : swapsWith e none pos.line X.env = pure false := by rfl) : FSt X q H0 E (.Expr e pos) (fDrop fa) := (ds_expr he hs).imp fun G ρ n h => R.to_wp h
theorem fs_doc {x j pos'} : FSt X q H0 E (.Expr (.Constant (.str x) j pos) pos') fNext := ds_doc.imp fun G ρ n h => h
theorem set_imp {i : Nat} {ρ : SEnv} {n : Sd} {G : EndsD} (h : rdS (fSet i fa) G ρ n) : dSet i (rd fa) G ρ n := by
  refine R.wp_mono (R.to_wp h) (fun x s h => ?_) fun _ _ h => h
  by_cases z : i < ρ.length
  · rw [if_pos z] at h; exact ⟨z, h⟩
  · rw [if_neg z] at h; exact h.elim
theorem fs_set (i : Nat) {x : Str} {pos' : Pos} (hN : X.N.Nodup) (he : FEx X q H0 E e fa) (hi : X.N[i]? = some x := by rfl) (hx : Loc X.env.scope x := by first | exact .inl rfl | exact .inr rfl) (hs : swapsWith e (some (.Name x pos')) pos.line X.env = pure false := by rfl)
    (hf : X.fn x = true ∨ X.env.scope.names.lookup x = some .local := by first | exact .inl rfl | exact .inr rfl | assumption) : FSt X q H0 E (.Assign [.Name x pos'] e pos) (fSet i fa) := (ds_set i hN he hi hx hs hf).imp fun G ρ n h => set_imp h
theorem fs_asg {tg : Expr} (he : FEx X q H0 E e fa) (hg : FGt X q H0 ow tg g) (hs : swapsWithSole [tg] e pos.line X.env = pure false := by rfl) (hw : swappedStores [tg] e X.env = pure none := by rfl)
    (h1 : (assignEach [tg] X.env).map (·.2) = [assign tg X.env] := by rfl) : FSt X q H0 E (.Assign [tg] e pos) (fAsg fa g) := (ds_asg he hg hs hw h1).imp fun G ρ n h => by
  refine R.wp_mono (R.to_wp h) (fun x s h => ?_) fun _ _ h => h
  cases z : g x ρ with
  | none => simp only [z] at h; exact h.elim
  | some ρ1 => simp only [z] at h; exact ⟨ρ1, z, h⟩
theorem fs_par {x y : Str} {px py pt : Pos} {kt k2 : Nat} {pt2 : Pos} (i j : Nat) (hc : X.calm = true) (hN : X.N.Nodup) (ha : FEx X q H0 E a fa) (hb : FEx X q H0 E b fb) (hi : X.N[i]? = some x := by rfl) (hj : X.N[j]? = some y := by rfl) (hij : i ≠ j := by decide)
    (hx : X.env.scope.names.lookup x = some .local := by rfl) (hy : X.env.scope.names.lookup y = some .local := by rfl)
    (hw : swappedStores [.Tuple [.Name x px, .Name y py] kt pt] (.Tuple [a, b] k2 pt2) X.env = pure (some [x, y]) := by rfl)
    (hs : swapsWithSole [.Tuple [.Name x px, .Name y py] kt pt] (.Tuple [a, b] k2 pt2) pos.line X.env = pure false := by rfl)
    (hs1 : starEach [a, b] X.env = (false, eval a X.env) :: starEach [b] X.env := by rfl) (hs2 : starEach [b] X.env = (false, eval b X.env) :: starEach [] X.env := by rfl) :
    FSt X q H0 E (.Assign [.Tuple [.Name x px, .Name y py] kt pt] (.Tuple [a, b] k2 pt2) pos) (fPar i j fa fb) := (ds_par i j hc hN ha hb hi hj hij hx hy hw hs hs1 hs2).imp fun G ρ n h => by
  refine R.wp_mono (R.to_wp h) (fun x s h => ?_) fun _ _ h => h
  refine R.wp_mono (R.to_wp h) (fun y s h => ?_) fun _ _ h => h
  by_cases z : i < ρ.length ∧ j < ρ.length
  · rw [if_pos z] at h; exact ⟨z, h⟩
  · rw [if_neg z] at h; exact h.elim
theorem fs_if {c : Expr} {x y : List Stmt} (hc : FTe X q H0 E c tt) (ha : FSs X q H0 E x s) (hb : FSs X q H0 E y u) : FSt X q H0 E (.If c x y pos) (fIf tt s u) := (ds_if hc ha hb).imp fun G ρ n h => by
  refine R.wp_mono (R.to_wp h) (fun x s h => ?_) fun _ _ h => h
  cases x <;> exact h
theorem fss_nil : FSs X q H0 E [] fNext := dss_nil.imp fun G ρ n h => h
theorem fss_one (h : FSt X q H0 E st s) : FSs X q H0 E [st] s := dss_one h
theorem fss_cons (h1 : FSt X q H0 E st s) (h2 : FSs X q H0 E rest u) : FSs X q H0 E (st :: rest) (fSeq s u) := (dss_cons h1 h2).imp fun G ρ n h => by
  have h' : ((s ρ n).then u).wp G := h
  show (s ρ n).wp _
  cases e : s ρ n <;> rw [e] at h' <;> exact h'
theorem fs_pass : FSt X q H0 E (.Pass pos) fNext := ds_pass.imp fun G ρ n h => h
theorem fs_brk : FSt X q H0 E (.Break pos) fBrk := ds_brk.imp fun G ρ n h => h
theorem fs_cont : FSt X q H0 E (.Continue pos) fCont := ds_cont.imp fun G ρ n h => h
/-- what is never reached -/
theorem fs_no : FSt X q H0 E st fNo := ⟨⟨fun pins s σ H D I ⟨ρ, n, G, R, h, _⟩ => False.elim h⟩⟩
theorem fs_drum (i : Nat) {x : Str} {j : Int} {jj : Nat} {px tp p : Pos} (he : FEx X q H0 E e fa) (hN : X.N[i]? = some x := by rfl) (hv : Vis X.env.scope x := by first | exact Or.inl rfl | exact Or.inr (Or.inl rfl) | exact Or.inr (Or.inr rfl)) (hd : (x == ("__debug__" : Str)) = false := by decide)
    (hcd : (x == ("__classdict__" : Str)) = false := by decide) (ha : ∀ v, assign (.Subscript (.Name x px) (.Constant (.int j) jj p) tp) X.env v = (do
      let ov ← holding [v] (eval (.Name x px) X.env)
      let iv ← holding [v, ov] (eval (.Constant (.int j) jj p) X.env)
      standAt tp
      holding [v, ov, iv] (setItem ov iv v)
      release [v, ov, iv] []) := by intro _; rfl)
    (hs : swapsWithSole [.Subscript (.Name x px) (.Constant (.int j) jj p) tp] e pos.line X.env = pure false := by rfl) (hw : swappedStores [.Subscript (.Name x px) (.Constant (.int j) jj p) tp] e X.env = pure none := by rfl)
    (h1 : (assignEach [.Subscript (.Name x px) (.Constant (.int j) jj p) tp] X.env).map (·.2) = [assign (.Subscript (.Name x px) (.Constant (.int j) jj p) tp) X.env] := by rfl) :
    FSt X q H0 E (.Assign [.Subscript (.Name x px) (.Constant (.int j) jj p) tp] e pos) (fDrumSet i j fa) := (ds_drum i he hN hv hd hcd ha hs hw h1).imp fun G ρ n h => by
  refine R.wp_mono (R.to_wp h) (fun x s h => ?_) fun _ _ h => h
  cases z : ρ[i]? with
  | none => simp only [z] at h; exact h.elim
  | some sl =>
    simp only [z] at h
    cases sl with
    | own _ => exact h.elim
    | no => exact h.elim
    | d y =>
      cases y <;> first | exact h.elim | skip
      cases x <;> first | exact h.elim | skip
      refine ⟨⟨_, rfl⟩, _, rfl, ?_⟩
      simp only at h
      split at h
      · exact .inl ⟨by assumption, h⟩
      · split at h
        · exact .inr ⟨by assumption, h⟩
        · exact h.elim
theorem fs_setOwn (i : Nat) {x : Str} {pos' lpos : Pos} (hN : X.N.Nodup) (h : FAs X q H0 E es fs) (hi : X.N[i]? = some x := by rfl) (hx : Loc X.env.scope x := by first | exact .inl rfl | exact .inr rfl) (hs : swapsWith (.List es lpos) (some (.Name x pos')) pos.line X.env = pure false := by rfl)
    (hf : X.fn x = true ∨ X.env.scope.names.lookup x = some .local := by first | exact .inl rfl | exact .inr rfl | assumption) : FSt X q H0 E (.Assign [.Name x pos'] (.List es lpos) pos) (fSetOwn i fs) := (ds_setOwn i hN h hi hx hs hf).imp fun G ρ n h => by
  refine R.wp_mono (R.to_wp h) (fun x s h => ?_) fun _ _ h => h
  by_cases z : i < ρ.length ∧ x.length ≤ sizeLine
  · rw [if_pos z] at h; exact ⟨z.2, z.1, h⟩
  · rw [if_neg z] at h; exact h.elim
theorem fs_ownSet (i : Nat) {x : Str} {px tp : Pos} {k : Expr} {fk : FE} (hk : FEx X q H0 E k fk) (he : FEx X q H0 E e fa) (hN : X.N[i]? = some x := by rfl) (hv : Vis X.env.scope x := by first | exact Or.inl rfl | exact Or.inr (Or.inl rfl) | exact Or.inr (Or.inr rfl)) (hd : (x == ("__debug__" : Str)) = false := by decide)
    (hcd : (x == ("__classdict__" : Str)) = false := by decide) (ha : ∀ v, assign (.Subscript (.Name x px) k tp) X.env v = (do
      let ov ← holding [v] (eval (.Name x px) X.env)
      let iv ← holding [v, ov] (eval k X.env)
      standAt tp
      holding [v, ov, iv] (setItem ov iv v)
      release [v, ov, iv] []) := by intro _; rfl)
    (hs : swapsWithSole [.Subscript (.Name x px) k tp] e pos.line X.env = pure false := by rfl) (hw : swappedStores [.Subscript (.Name x px) k tp] e X.env = pure none := by rfl)
    (h1 : (assignEach [.Subscript (.Name x px) k tp] X.env).map (·.2) = [assign (.Subscript (.Name x px) k tp) X.env] := by rfl) :
    FSt X q H0 E (.Assign [.Subscript (.Name x px) k tp] e pos) (fOwnSet i fk fa) := (ds_ownSet i hk he hN hv hd hcd ha hs hw h1).imp fun G ρ n h => by
  have h' : (fOwnSet i fk fa ρ n).wp G := h
  unfold fOwnSet at h'
  cases z : ρ[i]? with
  | none => simp only [z] at h'; exact h'.elim
  | some sl =>
    simp only [z] at h'
    cases sl with
    | d _ => exact h'.elim
    | no => exact h'.elim
    | own ds =>
      refine ⟨ds, z, ?_⟩
      refine R.wp_mono (R.to_wp h') (fun x s h => ?_) fun _ _ h => h
      refine R.wp_mono (R.to_wp h) (fun y s h => ?_) fun _ _ h => h
      cases y <;> first | exact h.elim | skip
      rename_i w
      simp only at h
      cases z2 : ixN ds.length w with
      | none => simp only [z2] at h; exact h.elim
      | some j => simp only [z2] at h; exact ⟨w, j, rfl, z2, h⟩
theorem fss_free (i : Nat) (h : FSs X q H0 E sts u) : FSs X q H0 E sts (fFree i u) := (dss_free i h).imp fun G ρ n h => by
  have h' : (fFree i u ρ n).wp G := h
  unfold fFree at h'
  cases z : ρ[i]? with
  | none => simp only [z] at h'; exact h'.elim
  | some sl =>
    simp only [z] at h'
    cases sl with
    | d _ => exact h'.elim
    | no => exact h'.elim
    | own ds => exact ⟨ds, z, h'⟩
theorem for_imp {G : EndsD} : ∀ {ds : List D} {ρ : SEnv} {n : Sd}, (forF g s ds ρ n).wp G → forD (rdG g) (rdS s) G ds ρ n
  | [], ρ, n, h => h
  | d :: ds, ρ, n, h => by
    simp only [forF] at h
    cases e : g d ρ with
    | none => rw [e] at h; exact h.elim
    | some ρ1 =>
      rw [e] at h
      dsimp only at h
      refine ⟨ρ1, e, ?_⟩
      show (s ρ1 n).wp _
      cases e2 : s ρ1 n <;> rw [e2] at h <;> dsimp only at h <;> first | exact for_imp h | exact h
theorem fs_for {tg iter : Expr} {body : List Stmt} {it : FA} (hp : PassesOwn (model X.prog X.w) X.A X.env X.xe) (hc : X.calm = true) (hi : FIt X q H0 E tg iter it) (hg : FGt X q H0 ow tg g) (hb : FSs X q H0 E body s)
    (hs : ∀ x, foldedSetIterable iter X.env x = pure x := by intro _; rfl) : FSt X q H0 E (.For tg iter body [] pos) (fFor it g s) := (ds_for hp hc hi hg hb hs).imp fun G ρ n h => by
  exact R.wp_mono (R.to_wp h) (fun ds s h => for_imp h) fun _ _ h => h
theorem fs_while {c : Expr} {body : List Stmt} (hp : PassesOwn (model X.prog X.w) X.A X.env X.xe) (hc : FTe X q H0 E c tt) (hb : FSs X q H0 E body s) : FSt X q H0 E (.While c body [] pos) (fWhile tt s) := (ds_while hp hc hb).imp fun G ρ n h => by
  have h' : (fWhile tt s ρ n).wp G := h
  by_cases hx : ∃ k, whN tt s k ρ n ≠ .bad
  · obtain ⟨k, hk⟩ := hx
    rw [fWhile_of hk] at h'
    refine ⟨fun m ρ n => (whN tt s m ρ n).wp G, ⟨k, h'⟩, fun m ρ n h => ?_⟩
    cases m with
    | zero => exact h.elim
    | succ m =>
      simp only [whN, whStep] at h
      refine R.wp_mono (R.to_wp h) (fun t s1 h => ?_) fun _ _ h => h
      cases t with
      | false => exact h
      | true =>
        simp only [if_true] at h ⊢
        show (s ρ s1).wp _
        cases e2 : s ρ s1 <;> rw [e2] at h <;> first | exact ⟨m, Nat.lt_succ_self m, h⟩ | exact h
  · rw [fWhile_bad fun k => Classical.byContradiction fun z => hx ⟨k, z⟩] at h'
    exact h'.elim
end

/-! ### defs -/
def RS.fin (r : RS) : R D := match r with
  | .nx _ s => .ok .non s
  | .rt d s => .ok d s
  | _ => .bad
theorem RS.fin_nx (ρ : SEnv) (s : Sd) : (RS.nx ρ s).fin = .ok .non s := rfl
theorem RS.fin_rt (d : D) (s : Sd) : (RS.rt d s).fin = .ok d s := rfl
theorem RS.fin_bad : (RS.bad).fin = .bad := rfl
/-- a def of k parameters, n names in all -/
def fnM (k n : Nat) (b : FS) : SpF := fun ds s => if ds.length = k then (b (ds.map Slot.d ++ List.replicate (n - k) Slot.no) s).fin else .bad
theorem fnM_eq {k n : Nat} {b : FS} {ds : List D} {s : Sd} (h : ds.length = k) : fnM k n b ds s = (b (ds.map Slot.d ++ List.replicate (n - k) Slot.no) s).fin := if_pos h
theorem fnF {T : List (Addr × Str)} {P : Program} {w : World} {K : PySem.W.Frag} {mg : Str → Option Value} {base : Heap} {k : Nat} {f : Addr} {fd : FuncData} {x qual : Str} {st : Stmt} {N ps : List Str} {b : FS} {kp kn : Nat} {m : SpF}
    (F : Fun K x qual st f fd) (S : FnScope N ps (defScope st)) (hm : m = fnM kp kn b) (hp : ps.length = kp) (hn : N.length = kn)
    (body : ∀ (q : Dq), q.T = T → ∀ (cdv : Value), fd.code = cdv → ∀ (A : Around) (outer : List PySem.Env) (s : Shared) (H : Hp) (E : XK), Room k (A.deeper (envOfC qual (defScope st) s.heap.objs.size f cdv)) → A.guards = some [] →
      FSs (cxOf CX0 P w K mg base N qual (defScope st) f cdv A outer s H E).nox q H L2.E0 (defBody st) b) : FnG P w K mg base CX0 (k + 1) f fd ps (spD K T (spF m)) := by
  subst hm hp hn
  refine fnD0 F S (fun ds n Q F h => ?_) body fun ds n Q F h => ?_
  · by_cases z : ds.length = ps.length
    · exact z
    · have h' : (fnM ps.length N.length b ds n).wp Q F := h
      unfold fnM at h'
      rw [if_neg z] at h'
      exact h'.elim
  · have h' : (fnM ps.length N.length b ds n).wp Q F := h
    unfold fnM at h'
    by_cases z : ds.length = ps.length
    · rw [if_pos z] at h'
      show (b (startD N ds) n).wp _
      have e : startD N ds = ds.map Slot.d ++ List.replicate (N.length - ps.length) Slot.no := by unfold startD; rw [z]
      rw [e]
      cases e2 : b (ds.map Slot.d ++ List.replicate (N.length - ps.length) Slot.no) n <;> rw [e2] at h' <;> exact h'
    · rw [if_neg z] at h'
      exact h'.elim
/-- the law -/
theorem lawF {T : List (Addr × Str)} {P : Program} {w : World} {K : PySem.W.Frag} {mg : Str → Option Value} {base : Heap} {k : Nat} {f : Addr} {fd : FuncData} {x qual lp : Str} {st st0 : Stmt} {rest : List Stmt} {N : List Str} {f0 : FE} {u : FS} {kn : Nat}
    (F : Fun K x qual st f fd) (S : FnScope N [lp] (defScope st)) (hst : defBody st = st0 :: rest) (hn : N.length = kn) (hm : 1 < N.length)
    (b0 : ∀ (cdv : Value), fd.code = cdv → ∀ (A : Around) (outer : List PySem.Env) (s : Shared) (H : Hp) (E : XK), Room k (A.deeper (envOfC qual (defScope st) s.heap.objs.size f cdv)) → A.guards = some [] →
      FSt (cxOf CX0 P w K mg base N qual (defScope st) f cdv A outer s H E).nox ⟨none, T⟩ H L2.E0 st0 (fSet 1 f0))
    (b0' : ∀ (cdv : Value), fd.code = cdv → ∀ (A : Around) (outer : List PySem.Env) (s : Shared) (H : Hp) (E : XK), Room k (A.deeper (envOfC qual (defScope st) s.heap.objs.size f cdv)) → A.guards = some [] →
      DSt (cxOf CX0 P w K mg base N qual (defScope st) f cdv A outer s H E).nox ⟨none, T⟩ H L2.E0 st0 (dSet 1 (rd f0)))
    (b1 : ∀ (q : Dq), q.T = T → ∀ (H0 : Hp) (cdv : Value), fd.code = cdv → ∀ (A : Around) (outer : List PySem.Env) (s : Shared) (H : Hp) (E : XK), Room k (A.deeper (envOfC qual (defScope st) s.heap.objs.size f cdv)) → A.guards = some [] →
      FSs (cxOf CX0 P w K mg base N qual (defScope st) f cdv A outer s H E).nox q H0 L2.E0 rest u)
    (r0 : ∀ ns : List Int, ns.length ≤ 63 → ∃ (ms : List Int) (s : Sd), f0 (Slot.d (.scr ns) :: List.replicate (kn - 1) Slot.no) (0, 0) = .ok (.lst [.lst (ms.map D.int), .int 0, .int 0]) s)
    (r1 : ∀ ms : List Int, ∃ s, u (Slot.no :: Slot.d (.drum ms) :: List.replicate (kn - 2) Slot.no) (0, 0) = .rt (.bl true) s) :
    FnG P w K mg base CX0 (k + 1) f fd [lp] (spLaw K T) := by
  subst hn
  refine law_fn F S hst hm b0' b1 (fun ns hl Q h => ?_) fun ms => ?_
  · obtain ⟨ms, s, e⟩ := r0 ns hl
    show (f0 (startD N [.scr ns]) (0, 0)).wp _ _
    have e2 : startD N [.scr ns] = Slot.d (.scr ns) :: List.replicate (N.length - 1) Slot.no := rfl
    rw [e2, e]
    exact h ms s
  · obtain ⟨s, e⟩ := r1 ms
    show (u ((List.replicate N.length Slot.no).set 1 (.d (.drum ms))) (0, 0)).wp _
    have e2 : (List.replicate N.length Slot.no).set 1 (.d (.drum ms)) = Slot.no :: Slot.d (.drum ms) :: List.replicate (N.length - 2) Slot.no := by
      obtain ⟨m, hm'⟩ : ∃ m, N.length = m + 2 := ⟨N.length - 2, by omega⟩
      rw [hm']
      rfl
    rw [e2, e]
    rfl
end DL
/-! F17: operators and built-in functions as functions on data; zip, enumerate, reversed. -/
namespace DL
open PySem PySem.Spec L2 RZ RT
instance {i j : Int} : Decidable (MulOk i j) := by unfold MulOk IntMulOk; infer_instance
instance {i j : Int} : Decidable (CPowA i j) := by unfold CPowA; infer_instance
def addF : D → D → Option D
  | .int i, .int j => some (.int (i + j))
  | .str x, .str y => if x.length + y.length ≤ sizeLine then some (.str (x ++ y)) else none
  | .tup xs, .tup ys => if xs.length + ys.length ≤ sizeLine then some (.tup (xs ++ ys)) else none
  | .lst xs, .lst ys => if xs.length + ys.length ≤ sizeLine then some (.lst (xs ++ ys)) else none
  | _, _ => none
def subF : D → D → Option D
  | .int i, .int j => some (.int (i - j))
  | _, _ => none
def mulF : D → D → Option D
  | .int i, .int j => if MulOk i j then some (.int (i * j)) else none
  | _, _ => none
def DivOk (j : Int) : Prop := j ≠ 0 ∧ j.natAbs.log2 < 9000
instance {j : Int} : Decidable (DivOk j) := by unfold DivOk; infer_instance
def divF : D → D → Option D
  | .int i, .int j => if DivOk j then some (.int (i.fdiv j)) else none
  | _, _ => none
def modF : D → D → Option D
  | .int i, .int j => if j ≠ 0 then some (.int (i.fmod j)) else none
  | _, _ => none
def powF : D → D → Option D
  | .int i, .int j => if CPowA i j then some (.int (i ^ j.toNat)) else none
  | _, _ => none
def bandF : D → D → Option D
  | .int i, .int j => some (.int (Builtin.bitAnd i j))
  | _, _ => none
def negF : D → Option D
  | .int i => some (.int (-i))
  | _ => none
def D.okEq (x : D) : Bool := x.plain && SeqAt.shaped x.py
theorem okEq_ok {x : D} (h : x.okEq = true) : x.cmpOk := by
  unfold D.okEq at h
  rw [Bool.and_eq_true] at h
  exact h
def eqF : D → D → Option D := fun x y => if x.okEq = true ∧ y.okEq = true then some (.bl (D.eq x y)) else match x, y with
  | .str s, .str t => some (.bl (decide (s = t)))
  | .lst ds, .lst [] => some (.bl ds.isEmpty)
  | _, _ => none
def neF : D → D → Option D := fun x y => if x.okEq = true ∧ y.okEq = true then some (.bl (!D.eq x y)) else match x, y with
  | .str s, .str t => some (.bl (!decide (s = t)))
  | .lst ds, .lst [] => some (.bl (!ds.isEmpty))
  | _, _ => none
def ltF : D → D → Option D
  | .int i, .int j => some (.bl (decide (i < j)))
  | _, _ => none
def leF : D → D → Option D
  | .int i, .int j => some (.bl (decide (i ≤ j)))
  | _, _ => none
def gtF : D → D → Option D
  | .int i, .int j => some (.bl (decide (j < i)))
  | _, _ => none
def geF : D → D → Option D
  | .int i, .int j => some (.bl (decide (j ≤ i)))
  | _, _ => none
def isF : D → D → Option D
  | x, .non => some (.bl x.isN)
  | .bl i, .bl j => some (.bl (decide (i = j)))
  | _, _ => none
def isntF : D → D → Option D
  | x, .non => some (.bl (!x.isN))
  | .bl i, .bl j => some (.bl (!decide (i = j)))
  | _, _ => none
def oMix (o o' : D → D → (D → Prop) → Prop) : D → D → (D → Prop) → Prop := fun x y Q => o x y Q ∨ o' x y Q
section
variable {X : Cx} {q : Dq} {k : Nat}
theorem opf_add : OpF X q (binaryOp .Add) addF := ⟨_, od_add, fun x y z P e h => by
  cases x <;> cases y <;> simp only [addF] at e <;> try (cases e; done)
  · cases e; exact h
  all_goals
    split at e
    · cases e; exact ⟨by assumption, h⟩
    · cases e⟩
theorem opf_sub : OpF X q (binaryOp .Sub) subF := ⟨_, od_sub, fun x y z P e h => by
  cases x <;> cases y <;> simp only [subF] at e <;> try (cases e; done)
  cases e; exact h⟩
theorem opf_mul : OpF X q (binaryOp .Mult) mulF := ⟨_, od_mul, fun x y z P e h => by
  cases x <;> cases y <;> simp only [mulF] at e <;> try (cases e; done)
  split at e
  · cases e; exact ⟨by assumption, h⟩
  · cases e⟩
theorem opf_div : OpF X q (binaryOp .FloorDiv) divF := ⟨_, od_div, fun x y z P e h => by
  cases x <;> cases y <;> simp only [divF] at e <;> try (cases e; done)
  split at e
  · cases e; exact ⟨by assumption, h⟩
  · cases e⟩
theorem opf_mod : OpF X q (binaryOp .Mod) modF := ⟨_, od_mod, fun x y z P e h => by
  cases x <;> cases y <;> simp only [modF] at e <;> try (cases e; done)
  split at e
  · cases e; exact ⟨by assumption, h⟩
  · cases e⟩
theorem opf_pow : OpF X q (binaryOp .Pow) powF := ⟨_, od_powA, fun x y z P e h => by
  cases x <;> cases y <;> simp only [powF] at e <;> try (cases e; done)
  split at e
  · cases e; exact ⟨by assumption, h⟩
  · cases e⟩
theorem opf_band : OpF X q (binaryOp .BitAnd) bandF := ⟨_, od_band, fun x y z P e h => by
  cases x <;> cases y <;> simp only [bandF] at e <;> try (cases e; done)
  cases e; exact h⟩
theorem neg_imp : ∀ x z P, negF x = some z → P z → oNeg x P := fun x z P e h => by
  cases x <;> simp only [negF] at e <;> try (cases e; done)
  cases e; exact h
theorem opf_lt : OpF X q (compareOp .Lt) ltF := ⟨_, od_lt, fun x y z P e h => by
  cases x <;> cases y <;> simp only [ltF] at e <;> try (cases e; done)
  cases e; exact h⟩
theorem opf_le : OpF X q (compareOp .LtE) leF := ⟨_, od_le, fun x y z P e h => by
  cases x <;> cases y <;> simp only [leF] at e <;> try (cases e; done)
  cases e; exact h⟩
theorem opf_gt : OpF X q (compareOp .Gt) gtF := ⟨_, od_gt, fun x y z P e h => by
  cases x <;> cases y <;> simp only [gtF] at e <;> try (cases e; done)
  cases e; exact h⟩
theorem opf_ge : OpF X q (compareOp .GtE) geF := ⟨_, od_ge, fun x y z P e h => by
  cases x <;> cases y <;> simp only [geF] at e <;> try (cases e; done)
  cases e; exact h⟩
theorem opf_is : OpF X q (compareOp .Is) isF := ⟨oMix oIs oIsB, od_is.or od_isB fun _ _ _ h => h, fun x y z P e h => by
  cases y with
  | non => cases x <;> (cases e; exact .inl ⟨rfl, h⟩)
  | bl j =>
    cases x <;> simp only [isF] at e <;> try (cases e; done)
    cases e; exact .inr h
  | _ => cases x <;> cases e⟩
theorem opf_isnt : OpF X q (compareOp .IsNot) isntF := ⟨oMix oIsnt oNotB, od_isnt.or od_notB fun _ _ _ h => h, fun x y z P e h => by
  cases y with
  | non => cases x <;> (cases e; exact .inl ⟨rfl, h⟩)
  | bl j =>
    cases x <;> simp only [isntF] at e <;> try (cases e; done)
    cases e; exact .inr h
  | _ => cases x <;> cases e⟩
theorem opf_eq (hr : Room k X.A) : OpF X q (compareOp .Eq) eqF := ⟨oMix oEq oEqNil, (od_eq hr).or (od_eqNil hr) fun _ _ _ h => h, fun x y z P e h => by
  unfold eqF at e
  split at e
  · rename_i c
    cases e
    exact .inl (.inl ⟨okEq_ok c.1, okEq_ok c.2, h⟩)
  · split at e
    · cases e; exact .inl (.inr ⟨_, _, rfl, rfl, h⟩)
    · cases e; exact .inr h
    · cases e⟩
theorem opf_ne (hr : Room k X.A) : OpF X q (compareOp .NotEq) neF := ⟨oMix oNe oNeNil, (od_ne hr).or (od_neNil hr) fun _ _ _ h => h, fun x y z P e h => by
  unfold neF at e
  split at e
  · rename_i c
    cases e
    exact .inl (.inl ⟨okEq_ok c.1, okEq_ok c.2, h⟩)
  · split at e
    · cases e; exact .inl (.inr ⟨_, _, rfl, rfl, h⟩)
    · cases e; exact .inr h
    · cases e⟩
end

/-! built-in functions -/
def lenF : List D → Option D
  | [.lst ds] => some (.int (ds.length : Nat))
  | [.tup ds] => some (.int (ds.length : Nat))
  | [.str z] => if z.length ≤ sizeLine then some (.int (z.length : Nat)) else none
  | _ => none
def absF : List D → Option D
  | [.int i] => some (.int (if i < 0 then -i else i))
  | _ => none
def intF : List D → Option D
  | [.int i] => some (.int i)
  | [.bl b] => some (.int (if b then 1 else 0))
  | _ => none
def min2F : List D → Option D
  | [.int i, .int j] => some (.int (if j < i then j else i))
  | _ => none
def tupleF : List D → Option D
  | [.lst ds] => some (.tup ds)
  | [.tup ds] => some (.tup ds)
  | _ => none
def listF : List D → Option D
  | [.lst ds] => some (.lst ds)
  | [.tup ds] => some (.lst ds)
  | _ => none
def allF : List D → Option D
  | [.lst ds] => (D.bools ds).map fun bs => .bl (bs.all fun b => b)
  | _ => none
def anyF : List D → Option D
  | [.lst ds] => (D.bools ds).map fun bs => .bl (bs.any fun b => b)
  | _ => none
mutual
def D.rpB : D → Bool
  | .non | .bl _ => true
  | .int i => decide (i.natAbs < 10 ^ 570)
  | .str x => x.cps.toList.all fun c => decide (c < 16 ^ 8)
  | .lst xs | .tup xs => D.rpsB xs
  | _ => false
def D.rpsB : List D → Bool
  | [] => true
  | x :: xs => x.rpB && D.rpsB xs
end
mutual
theorem D.rpB_ok : ∀ {d : D}, d.rpB = true → d.rp
  | .non, _ => by simp only [D.rp]
  | .bl _, _ => by simp only [D.rp]
  | .int i, h => by simpa only [D.rp, D.rpB, decide_eq_true_eq] using h
  | .str x, h => by
    simp only [D.rpB, List.all_eq_true, decide_eq_true_eq] at h
    simpa only [D.rp] using h
  | .lst xs, h => by simp only [D.rp]; exact D.rpsB_ok (by simpa only [D.rpB] using h)
  | .tup xs, h => by simp only [D.rp]; exact D.rpsB_ok (by simpa only [D.rpB] using h)
  | .dct _, h => by simp only [D.rpB] at h; cases h
  | .drum _, h => by simp only [D.rpB] at h; cases h
  | .scr _, h => by simp only [D.rpB] at h; cases h
  | .ob _ _, h => by simp only [D.rpB] at h; cases h
theorem D.rpsB_ok : ∀ {ds : List D}, D.rpsB ds = true → D.rps ds
  | [], _ => by simp only [D.rps]
  | x :: xs, h => by
    simp only [D.rpsB, Bool.and_eq_true] at h
    simp only [D.rps]
    exact ⟨D.rpB_ok h.1, D.rpsB_ok h.2⟩
end
def D.rokB (d : D) : Prop := d.rpB = true ∧ d.nodes ≤ 20000 ∧ d.py.depth ≤ 60
instance {d : D} : Decidable d.rokB := by unfold D.rokB; infer_instance
def reprF : List D → Option D
  | [d] => if d.rokB then some (.str d.txt) else none
  | _ => none
section
variable {X : Cx} {q : Dq} {k : Nat}
theorem cf_len : CallF X q (.builtin "len") lenF := ⟨_, cd_len, fun ds z P e h => by
  unfold lenF at e
  split at e
  · cases e; exact h
  · cases e; exact h
  · split at e
    · cases e; exact ⟨by assumption, h⟩
    · cases e
  · cases e⟩
theorem cf_abs : CallF X q (.builtin "abs") absF := ⟨_, cd_abs, fun ds z P e h => by
  unfold absF at e
  split at e <;> cases e; exact h⟩
theorem cf_int : CallF X q (.type "int") intF := ⟨_, cd_int, fun ds z P e h => by
  unfold intF at e
  split at e <;> cases e <;> exact h⟩
theorem cf_min2 (hc : X.calm = true) : CallF X q (.builtin "min") min2F := ⟨_, cd_min2 hc, fun ds z P e h => by
  unfold min2F at e
  split at e <;> cases e; exact h⟩
theorem cf_tuple : CallF X q (.type "tuple") tupleF := ⟨_, cd_tuple, fun ds z P e h => by
  unfold tupleF at e
  split at e <;> cases e <;> exact h⟩
theorem cf_list : CallF X q (.type "list") listF := ⟨_, cd_list, fun ds z P e h => by
  unfold listF at e
  split at e <;> cases e <;> exact h⟩
theorem cf_all (hc : X.calm = true) : CallF X q (.builtin "all") allF := ⟨_, cd_all hc, fun ds z P e h => by
  unfold allF at e
  split at e
  · obtain ⟨bs, e1, e2⟩ := Option.map_eq_some_iff.mp e
    subst e2
    exact ⟨bs, e1, h⟩
  · cases e⟩
theorem cf_any (hc : X.calm = true) : CallF X q (.builtin "any") anyF := ⟨_, cd_any hc, fun ds z P e h => by
  unfold anyF at e
  split at e
  · obtain ⟨bs, e1, e2⟩ := Option.map_eq_some_iff.mp e
    subst e2
    exact ⟨bs, e1, h⟩
  · cases e⟩
theorem cf_repr (hr : Room k X.A) (hg : X.A.guards = some []) : CallF X q (.builtin "repr") reprF := ⟨_, cd_repr hr hg, fun ds z P e h => by
  unfold reprF at e
  split at e
  · split at e
    · rename_i c
      cases e
      exact ⟨⟨D.rpB_ok c.1, c.2.1, c.2.2⟩, h⟩
    · cases e
  · cases e⟩
end

/-! what is walked -/
def zipD (xs ys : List D) : List D := List.zipWith (fun x y => D.tup [x, y]) xs ys
def fZip (a b : FE) : FA := fun ρ s => (a ρ s).bind fun x s => (b ρ s).bind fun y s => match x, y with
  | .lst xs, .lst ys => .ok (zipD xs ys) s
  | .tup xs, .tup ys => .ok (zipD xs ys) s
  | _, _ => .bad
def enumD (xs : List D) : List D := xs.zipIdx.map fun p => D.tup [.int (p.2 : Nat), p.1]
def fEnum (a : FE) : FA := fun ρ s => (a ρ s).bind fun x s => match x with
  | .lst xs => .ok (enumD xs) s
  | _ => .bad
def fRev (a : FE) : FA := fun ρ s => (a ρ s).bind fun x s => match x with
  | .lst xs => .ok xs.reverse s
  | .tup xs => .ok xs.reverse s
  | _ => .bad
section
variable {K : PySem.W.Frag} {q : Dq} {H : Hp}
theorem sqL_at {a : Addr} {vs : List V} (ha : H a = some (.lst vs)) : SqL K H a vs := SqL.of ha
theorem zip_len (xs ys : List D) : (zipD xs ys).length = min xs.length ys.length := by simp [zipD]
theorem zip_get {xs ys : List D} {i : Nat} {x y : D} (e1 : xs[i]? = some x) (e2 : ys[i]? = some y) : (zipD xs ys)[i]? = some (.tup [x, y]) := by
  unfold zipD
  rw [List.getElem?_zipWith, e1, e2]
theorem new_tup {Hm H' : Hp} {T : Addr} {vs : List V} {ds : List D} (hT : H T = none) (e : H' = upd H T (.tup vs)) (k : ∀ b o, H b = none → H' b = some o → Hm b = some o) (h : DtAll K q Hm vs ds) : Dt K q Hm (.ref T) (.tup ds) := by
  subst e
  exact .tup (SqT.of (k T _ hT upd_same)) h
theorem itOk_zip {a b : Addr} {vs ws : List V} {xs ys : List D} (ha : H a = some (.lst vs)) (va : DtAll K q H vs xs) (hb : H b = some (.lst ws)) (vb : DtAll K q H ws ys) : ItOk K q (Itz K a b) (zipD xs ys) H where
  go := fun i H1 f hi => by
    rw [zip_len] at hi
    exact ⟨vs, ws, vs[i]'(by rw [va.length]; omega), ws[i]'(by rw [vb.length]; omega), SqL.of (f _ _ ha True.intro), SqL.of (f _ _ hb True.intro), by simp, by simp⟩
  yld := fun i H1 x H2 f hi ⟨T, u, w, e1, e2, e3, e4, e5⟩ => by
    subst e1
    refine ⟨by rw [e3]; exact same_upd e2, ?_⟩
    obtain ⟨d1, g1, h1⟩ := va.getV (e4 vs (SqL.of (f _ _ ha True.intro)))
    obtain ⟨d2, g2, h2⟩ := vb.getV (e5 ws (SqL.of (f _ _ hb True.intro)))
    exact ⟨_, zip_get g1 g2, fun Hm fm k => new_tup e2 e3 k (.cons (h1.up fm) (.cons (h2.up fm) .nil))⟩
  stop := fun H1 f => ⟨vs, ws, SqL.of (f _ _ ha True.intro), SqL.of (f _ _ hb True.intro), by
    rw [zip_len, va.length, vb.length]; omega⟩
theorem itOk_zipT {a b : Addr} {vs ws : List V} {xs ys : List D} (ha : SqT K H a vs) (va : DtAll K q H vs xs) (hb : SqT K H b ws) (vb : DtAll K q H ws ys) : ItOk K q (ItzT K a b) (zipD xs ys) H where
  go := fun i H1 f hi => by
    rw [zip_len] at hi
    exact ⟨vs, ws, vs[i]'(by rw [va.length]; omega), ws[i]'(by rw [vb.length]; omega), sqT_up f ha, sqT_up f hb, by simp, by simp⟩
  yld := fun i H1 x H2 f hi ⟨T, u, w, e1, e2, e3, e4, e5⟩ => by
    subst e1
    refine ⟨by rw [e3]; exact same_upd e2, ?_⟩
    obtain ⟨d1, g1, h1⟩ := va.getV (e4 vs (sqT_up f ha))
    obtain ⟨d2, g2, h2⟩ := vb.getV (e5 ws (sqT_up f hb))
    exact ⟨_, zip_get g1 g2, fun Hm fm k => new_tup e2 e3 k (.cons (h1.up fm) (.cons (h2.up fm) .nil))⟩
  stop := fun H1 f => ⟨vs, ws, sqT_up f ha, sqT_up f hb, by
    rw [zip_len, va.length, vb.length]; omega⟩
theorem itOk_enum {a : Addr} {vs : List V} {xs : List D} (ha : H a = some (.lst vs)) (va : DtAll K q H vs xs) : ItOk K q (Ite K a) (enumD xs) H where
  go := fun i H1 f hi => by
    have hi' : i < xs.length := by simpa [enumD] using hi
    exact ⟨vs, vs[i]'(by rw [va.length]; exact hi'), SqL.of (f _ _ ha True.intro), by simp⟩
  yld := fun i H1 x H2 f hi ⟨T, u, e1, e2, e3, e4⟩ => by
    subst e1
    refine ⟨by rw [e3]; exact same_upd e2, ?_⟩
    obtain ⟨d1, g1, h1⟩ := va.getV (e4 vs (SqL.of (f _ _ ha True.intro)))
    refine ⟨.tup [.int (i : Nat), d1], ?_, fun Hm fm k => new_tup e2 e3 k (.cons (.int _) (.cons (h1.up fm) .nil))⟩
    unfold enumD
    rw [List.getElem?_map, List.getElem?_zipIdx, g1]
    simp
  stop := fun H1 f => ⟨vs, SqL.of (f _ _ ha True.intro), by rw [va.length]; simp [enumD]⟩
theorem rev_get {xs : List D} {i : Nat} {d : D} (hi : i < xs.length) (e : xs[xs.length - 1 - i]? = some d) : xs.reverse[i]? = some d := by
  rw [List.getElem?_reverse hi]; exact e
theorem itOk_rev {a : Addr} {vs : List V} {xs : List D} (ha : H a = some (.lst vs)) (va : DtAll K q H vs xs) : ItOk K q (Itv K a vs.length) xs.reverse H where
  go := fun i H1 f hi => by
    have hi' : i < xs.length := by simpa using hi
    have := va.length
    exact ⟨by omega, vs, vs[vs.length - 1 - i]'(by omega), SqL.of (f _ _ ha True.intro), by simp⟩
  yld := fun i H1 x H2 f hi ⟨e1, e4⟩ => by
    subst e1
    have hi' : i < xs.length := by simpa using hi
    obtain ⟨d1, g1, h1⟩ := va.getV (e4 vs (SqL.of (f _ _ ha True.intro)))
    exact ⟨.refl _, d1, rev_get hi' (by rw [va.length] at g1; exact g1), fun Hm fm _ => h1.up fm⟩
  stop := fun H1 f => by rw [List.length_reverse, ← va.length]; exact Nat.le_refl _
theorem itOk_revT {a : Addr} {vs : List V} {xs : List D} (ha : SqT K H a vs) (va : DtAll K q H vs xs) : ItOk K q (ItvT K a vs.length) xs.reverse H where
  go := fun i H1 f hi => by
    have hi' : i < xs.length := by simpa using hi
    have := va.length
    exact ⟨by omega, vs, vs[vs.length - 1 - i]'(by omega), sqT_up f ha, by simp⟩
  yld := fun i H1 x H2 f hi ⟨e1, e4⟩ => by
    subst e1
    have hi' : i < xs.length := by simpa using hi
    obtain ⟨d1, g1, h1⟩ := va.getV (e4 vs (sqT_up f ha))
    exact ⟨.refl _, d1, rev_get hi' (by rw [va.length] at g1; exact g1), fun Hm fm _ => h1.up fm⟩
  stop := fun H1 f => by rw [List.length_reverse, ← va.length]; exact Nat.le_refl _
end
section
variable {X : Cx} {q : Dq} {H0 : Hp} {E : XK} {e e2 : Expr} {fa fb : FE} {p pos tpos : Pos} {elts : List Expr} {kk : Nat}
theorem fi_zip (hg : Gl X "zip") (hm : X.mg "zip" = none) (ha : FEx X q H0 E e fa) (hb : FEx X q H0 E e2 fb)
    (hs : starEach [e, e2] X.env = (false, eval e X.env) :: starEach [e2] X.env := by rfl) (hs2 : starEach [e2] X.env = (false, eval e2 X.env) :: starEach [] X.env := by rfl) (hpl : (backTo pos (starEach [e2] X.env)).any (·.1) = false := by rfl) :
    FIt X q H0 E (.Tuple elts kk tpos) (.Call (.Name "zip" p) [e, e2] [] pos) (fZip fa fb) := by
  refine ⟨(pi_zipA hg hm (pa_cons ha.pe (pa_cons hb.pe pa_nil hs2) hs) hs hpl).imp fun σ H RR ⟨ρ, n, Q0, F, Rl, h, c, o⟩ => ?_⟩
  refine dTE_mk Rl (R.bind_wp h) (fun x H1 dx n1 hx f1 R1 h1 => ?_) o
  refine dTE_mk R1 (R.bind_wp h1) (fun y H2 dy n2 hy f2 R2 h2 => ?_) o
  have hx2 := hx.up (f2.x R1.dr)
  cases hx2 with
  | lst ha va =>
    cases hy with
    | lst hb vb => exact ⟨_, _, _, _, rfl, .inl ⟨SqL.of ha, SqL.of hb, c _ H2 _ n2 (itOk_zip ha va hb vb) (f1.trans f2) R2 h2⟩⟩
    | _ => exact h2.elim
  | tup ha va =>
    cases hy with
    | tup hb vb => exact ⟨_, _, _, _, rfl, .inr ⟨ha, hb, c _ H2 _ n2 (itOk_zipT ha va hb vb) (f1.trans f2) R2 h2⟩⟩
    | _ => exact h2.elim
  | _ => exact h2.elim
theorem fi_enum (hg : Gl X "enumerate") (hm : X.mg "enumerate" = none) (ha : FEx X q H0 E e fa) (hs : starEach [e] X.env = [(false, eval e X.env)] := by rfl) :
    FIt X q H0 E (.Tuple elts kk tpos) (.Call (.Name "enumerate" p) [e] [] pos) (fEnum fa) := by
  refine ⟨(pi_enum hg hm (pa_cons ha.pe pa_nil (by rw [hs]; rfl)) hs).imp fun σ H RR ⟨ρ, n, Q0, F, Rl, h, c, o⟩ => ?_⟩
  refine dTE_mk Rl (R.bind_wp h) (fun x H1 dx n1 hx f1 R1 h1 => ?_) o
  cases hx with
  | lst ha va => exact ⟨_, _, rfl, SqL.of ha, c _ H1 _ n1 (itOk_enum ha va) f1 R1 h1⟩
  | _ => exact h1.elim
theorem fi_rev {tg : Expr} (hg : Gl X "reversed") (hm : X.mg "reversed" = none) (ha : FEx X q H0 E e fa) (hs : starEach [e] X.env = (false, eval e X.env) :: starEach [] X.env := by rfl) :
    FIt X q H0 E tg (.Call (.Name "reversed" p) [e] [] pos) (fRev fa) := by
  refine ⟨(pi_revA hg hm ha.pe hs).imp fun σ H RR ⟨ρ, n, Q0, F, Rl, h, c, o⟩ => ?_⟩
  refine dTE_mk Rl (R.bind_wp h) (fun x H1 dx n1 hx f1 R1 h1 => ?_) o
  cases hx with
  | lst ha va => exact ⟨_, _, rfl, .inl ⟨SqL.of ha, c _ H1 _ n1 (itOk_rev ha va) f1 R1 h1⟩⟩
  | tup ha va => exact ⟨_, _, rfl, .inr ⟨ha, c _ H1 _ n1 (itOk_revT ha va) f1 R1 h1⟩⟩
  | _ => exact h1.elim
end
end DL
/-! F18: more statements. -/
namespace DL
open PySem PySem.Spec L2
def fPar3 (i j l : Nat) (a b c : FE) : FS := fun ρ s => (a ρ s).to fun x s => (b ρ s).to fun y s => (c ρ s).to fun z s => if i < ρ.length ∧ j < ρ.length ∧ l < ρ.length then .nx (((ρ.set i (.d x)).set j (.d y)).set l (.d z)) s else .bad
section
variable {X : Cx} {q : Dq} {H0 : Hp} {E : XK} {a b c : Expr} {fa fb fc : FE} {pos : Pos}
theorem fs_par3 {x y z : Str} {px py pz pt : Pos} {kt k2 : Nat} {pt2 : Pos} (i j l : Nat) (hc : X.calm = true) (hN : X.N.Nodup) (ha : FEx X q H0 E a fa) (hb : FEx X q H0 E b fb) (hcc : FEx X q H0 E c fc) (hi : X.N[i]? = some x := by rfl) (hj : X.N[j]? = some y := by rfl) (hl : X.N[l]? = some z := by rfl) (hij : i ≠ j := by decide) (hil : i ≠ l := by decide) (hjl : j ≠ l := by decide)
    (hx : X.env.scope.names.lookup x = some .local := by rfl) (hy : X.env.scope.names.lookup y = some .local := by rfl) (hz : X.env.scope.names.lookup z = some .local := by rfl)
    (hw : swappedStores [.Tuple [.Name x px, .Name y py, .Name z pz] kt pt] (.Tuple [a, b, c] k2 pt2) X.env = pure (some [x, y, z]) := by rfl)
    (hs : swapsWithSole [.Tuple [.Name x px, .Name y py, .Name z pz] kt pt] (.Tuple [a, b, c] k2 pt2) pos.line X.env = pure false := by rfl)
    (hs1 : starEach [a, b, c] X.env = (false, eval a X.env) :: starEach [b, c] X.env := by rfl) (hs2 : starEach [b, c] X.env = (false, eval b X.env) :: starEach [c] X.env := by rfl) (hs3 : starEach [c] X.env = (false, eval c X.env) :: starEach [] X.env := by rfl) :
    FSt X q H0 E (.Assign [.Tuple [.Name x px, .Name y py, .Name z pz] kt pt] (.Tuple [a, b, c] k2 pt2) pos) (fPar3 i j l fa fb fc) := by
  refine ⟨(ps_par3 hc hN hi hj hl hij hil hjl hx hy hz (pa_cons ha.pe (pa_cons hb.pe (pa_cons hcc.pe pa_nil hs3) hs2) hs1) hw hs).imp fun D σ H ⟨ρ, n, G, Rr, h, cn, cr, cb, cc, o⟩ => ?_⟩
  refine dTE_mk Rr (R.to_wp h) (fun v H1 d n1 hd f1 R1 h1 => ?_) o
  refine dTE_mk R1 (R.to_wp h1) (fun w H2 d2 n2 hd2 f2 R2 h2 => ?_) o
  refine dTE_mk R2 (R.to_wp h2) (fun u H3 d3 n3 hd3 f3 R3 h3 => ?_) o
  by_cases z : i < ρ.length ∧ j < ρ.length ∧ l < ρ.length
  · rw [if_pos z] at h3
    obtain ⟨z1, z2, z3⟩ := z
    have e := R3.len
    have hx := (hd.up (f2.x R1.dr)).up (f3.x R2.dr)
    have hy := hd2.up (f3.x R2.dr)
    refine ⟨v, w, u, rfl, cn _ H3 _ n3 (((f1.trans f2).trans f3).x Rr.dr) ?_ h3⟩
    exact ((R3.set hx (by omega)).set hy (by rw [List.length_set]; omega)).set hd3 (by rw [List.length_set, List.length_set]; omega)
  · rw [if_neg z] at h3; exact h3.elim
end
section
variable {X : Cx} {q : Dq} {H0 : Hp} {E : XK} {elt tg iter : Expr} {ifs : List Expr} {scope : Scope} {own : List (Str × Nat)} {pos : Pos} {it : FA} {g : FG} {tt : FB} {te : FE} {ow : List Nat}
theorem fs_setLc (i : Nat) {y : Str} {py spos : Pos} (hc : X.calm = true) (hN : X.N.Nodup) (hi : FIt X q H0 E tg iter it) (ok : BlkOk X.N X.env.scope scope own) (how : ∀ j ∈ ow, j ∈ own.map (·.2))
    (hg : ∀ (s : Shared) (H : Hp) (C : Addr) (cl : List (Str × Addr)) (fp : List Addr), FGt (X.blk s H scope (compEnvC scope cl C X.env) fp) q H0 ow tg g)
    (ht : ∀ (s : Shared) (H : Hp) (C : Addr) (cl : List (Str × Addr)) (fp : List Addr), FPts (X.blk s H scope (compEnvC scope cl C X.env) fp) q H0 L2.E0 ifs tt)
    (he : ∀ (s : Shared) (H : Hp) (C : Addr) (cl : List (Str × Addr)) (fp : List Addr), FEx (X.blk s H scope (compEnvC scope cl C X.env) fp) q H0 L2.E0 elt te)
    (hy : X.N[i]? = some y := by rfl) (hyl : X.env.scope.names.lookup y = some .local := by rfl) (hsw : swapsWith (.ListComp elt [⟨tg, iter, ifs, 0⟩] scope pos) (some (.Name y py)) spos.line X.env = pure true := by exact sw_true rfl rfl rfl (by decide +kernel)) (hs : ∀ x, foldedSetIterable iter X.env x = pure x := by intro _; rfl) :
    FSt X q H0 E (.Assign [.Name y py] (.ListComp elt [⟨tg, iter, ifs, 0⟩] scope pos) spos) (fSet i (fLcC it g tt te (own.map (·.2)))) :=
  (ds_setLc i hc hN hi ok how hg ht he hy hyl hsw hs).imp fun G ρ n h => lc_imp0 (R.wp_mono (R.to_wp h) (fun x s h => by
    by_cases z : i < ρ.length
    · rw [if_pos z] at h; exact ⟨z, h⟩
    · rw [if_neg z] at h; exact h.elim) fun _ _ h => h)
end
end DL
/-! F19: in and not in; constants of the module's top; enumerate of tuples. -/
namespace DL
open PySem PySem.Spec L2
def inL (x : D) (ds : List D) : Bool := ds.any fun z => D.eq z x
def inF (x y : D) : Option D := match y with
  | .lst ds => if x.okEq = true ∧ (D.lst ds).okEq = true then some (.bl (inL x ds)) else none
  | .tup ds => if x.okEq = true ∧ (D.tup ds).okEq = true then some (.bl (inL x ds)) else none
  | .str j => match x with
    | .str i => some (.bl (!(Builtin.Str.occurrences j i 0 j.length 1).isEmpty))
    | _ => none
  | _ => none
def ninF (x y : D) : Option D := match y with
  | .lst ds => if x.okEq = true ∧ (D.lst ds).okEq = true then some (.bl (!inL x ds)) else none
  | .tup ds => if x.okEq = true ∧ (D.tup ds).okEq = true then some (.bl (!inL x ds)) else none
  | .str j => match x with
    | .str i => some (.bl (!(!(Builtin.Str.occurrences j i 0 j.length 1).isEmpty)))
    | _ => none
  | _ => none
theorem any_py (x : D) : ∀ ds : List D, ((D.pys ds).any fun z => PyData.eqv z x.py) = inL x ds
  | [] => rfl
  | d :: ds => by
    have ih := any_py x ds
    simp only [D.pys, List.any_cons, ih, inL]
    rfl
section
variable {X : Cx} {q : Dq}
def rInDT (K : PySem.W.Frag) : R2 := fun x y H Q => ∃ d ds, Dp K H x d ∧ Dp K H y (.tuple ds) ∧ SeqAt.shaped d = true ∧ SeqAt.shaped (.tuple ds) = true ∧ Q (.bl (ds.any fun z => PyData.eqv z d)) H
def rNotInDT (K : PySem.W.Frag) : R2 := fun x y H Q => ∃ d ds, Dp K H x d ∧ Dp K H y (.tuple ds) ∧ SeqAt.shaped d = true ∧ SeqAt.shaped (.tuple ds) = true ∧ Q (.bl (!ds.any fun z => PyData.eqv z d)) H
theorem room_in_shapedT {ds : List PyData} {d : PyData} {u : Nat} (hd : SeqAt.shaped d = true) (hu : u + 65 < cLine) : u + 1 + min (PyData.depthAll ds) d.depth < cLine := by
  have h : d.depth ≤ 64 := by
    unfold SeqAt.shaped at hd
    rw [Bool.and_eq_true, decide_eq_true_eq] at hd
    exact hd.2
  omega
theorem op_inDT (hu : X.A.units + 65 < cLine) : OpR X (compareOp .In) (rInDT X.K) := by
  intro pins s σ H x y v u Q I rx ry h
  obtain ⟨d, ds, hd, he, sd, se, q⟩ := h
  obtain ⟨as, r1⟩ := Dp.reads I d x v hd rx
  obtain ⟨bs, r2⟩ := Dp.reads I (.tuple ds) y u he ry
  exact SeqAt.in_tuple_reads r2 r1 (SeqAt.canLay_of_shaped se) (SeqAt.canLay_of_shaped sd) (room_in_shapedT sd hu) ⟨.bl _, H, I, rfl, q⟩
theorem op_notInDT (hu : X.A.units + 65 < cLine) : OpR X (compareOp .NotIn) (rNotInDT X.K) := by
  intro pins s σ H x y v u Q I rx ry h
  obtain ⟨d, ds, hd, he, sd, se, q⟩ := h
  obtain ⟨as, r1⟩ := Dp.reads I d x v hd rx
  obtain ⟨bs, r2⟩ := Dp.reads I (.tuple ds) y u he ry
  exact SeqAt.notIn_tuple_reads r2 r1 (SeqAt.canLay_of_shaped se) (SeqAt.canLay_of_shaped sd) (room_in_shapedT sd hu) ⟨.bl _, H, I, rfl, q⟩
def oIn : D → D → (D → Prop) → Prop := fun x y P => (∃ ds, (y = .lst ds ∨ y = .tup ds) ∧ x.cmpOk ∧ y.cmpOk ∧ P (.bl (inL x ds))) ∨ ∃ i j, x = .str i ∧ y = .str j ∧ P (.bl (!(Builtin.Str.occurrences j i 0 j.length 1).isEmpty))
def oNotIn : D → D → (D → Prop) → Prop := fun x y P => (∃ ds, (y = .lst ds ∨ y = .tup ds) ∧ x.cmpOk ∧ y.cmpOk ∧ P (.bl (!inL x ds))) ∨ ∃ i j, x = .str i ∧ y = .str j ∧ P (.bl (!(!(Builtin.Str.occurrences j i 0 j.length 1).isEmpty)))
theorem od_in {k : Nat} (hr : Room k X.A) : OpD X q (compareOp .In) oIn := by
  have hu : X.A.units + 65 < cLine := by have := hr.un; omega
  refine ⟨_, (op_inD hu).or ((op_inDT hu).or op_in_str), fun H x y dx dy Q0 Q hx hy h c => ?_⟩
  rcases h with ⟨ds, e, h1, h2, h3⟩ | ⟨i, j, rfl, rfl, h3⟩
  · rcases e with rfl | rfl
    · exact .inl ⟨dx.py, D.pys ds, hx.dp h1.1, hy.dp h2.1, h1.2, h2.2, by rw [any_py]; exact c _ H _ (.bl _) (.refl _) h3⟩
    · exact .inr (.inl ⟨dx.py, D.pys ds, hx.dp h1.1, hy.dp h2.1, h1.2, h2.2, by rw [any_py]; exact c _ H _ (.bl _) (.refl _) h3⟩)
  · cases hx
    cases hy
    exact .inr (.inr ⟨i, j, rfl, rfl, c _ H _ (.bl _) (.refl _) h3⟩)
theorem od_notIn {k : Nat} (hr : Room k X.A) : OpD X q (compareOp .NotIn) oNotIn := by
  have hu : X.A.units + 65 < cLine := by have := hr.un; omega
  refine ⟨_, (op_notInD hu).or ((op_notInDT hu).or op_notin_str), fun H x y dx dy Q0 Q hx hy h c => ?_⟩
  rcases h with ⟨ds, e, h1, h2, h3⟩ | ⟨i, j, rfl, rfl, h3⟩
  · rcases e with rfl | rfl
    · exact .inl ⟨dx.py, D.pys ds, hx.dp h1.1, hy.dp h2.1, h1.2, h2.2, by rw [any_py]; exact c _ H _ (.bl _) (.refl _) h3⟩
    · exact .inr (.inl ⟨dx.py, D.pys ds, hx.dp h1.1, hy.dp h2.1, h1.2, h2.2, by rw [any_py]; exact c _ H _ (.bl _) (.refl _) h3⟩)
  · cases hx
    cases hy
    exact .inr (.inr ⟨i, j, rfl, rfl, c _ H _ (.bl _) (.refl _) h3⟩)
theorem opf_in {k : Nat} (hr : Room k X.A) : OpF X q (compareOp .In) inF := ⟨_, od_in hr, fun x y z P e h => by
  unfold inF at e
  split at e
  · split at e
    · rename_i c; cases e; exact .inl ⟨_, .inl rfl, okEq_ok c.1, okEq_ok c.2, h⟩
    · cases e
  · split at e
    · rename_i c; cases e; exact .inl ⟨_, .inr rfl, okEq_ok c.1, okEq_ok c.2, h⟩
    · cases e
  · split at e
    · cases e; exact .inr ⟨_, _, rfl, rfl, h⟩
    · cases e
  · cases e⟩
theorem opf_notin {k : Nat} (hr : Room k X.A) : OpF X q (compareOp .NotIn) ninF := ⟨_, od_notIn hr, fun x y z P e h => by
  unfold ninF at e
  split at e
  · split at e
    · rename_i c; cases e; exact .inl ⟨_, .inl rfl, okEq_ok c.1, okEq_ok c.2, h⟩
    · cases e
  · split at e
    · rename_i c; cases e; exact .inl ⟨_, .inr rfl, okEq_ok c.1, okEq_ok c.2, h⟩
    · cases e
  · split at e
    · cases e; exact .inr ⟨_, _, rfl, rfl, h⟩
    · cases e
  · cases e⟩
end
/-! constants of the module's top -/
def KD (K : PySem.W.Frag) (u : Value) (d : D) : Prop := ∃ v, RelV v u ∧ ∀ (q : Dq) (H : Hp), Dt K q H v d
def KDs (K : PySem.W.Frag) (us : List Value) (ds : List D) : Prop := ∃ vs, Vals vs us ∧ ∀ (q : Dq) (H : Hp), DtAll K q H vs ds
section
variable {K : PySem.W.Frag}
theorem kd_int {i : Int} {t : Tok} : KD K (.int i t) (.int i) := ⟨.int i, ⟨t, rfl⟩, fun _ _ => .int i⟩
theorem kd_str {i : Str} {t : Tok} : KD K (.str i t) (.str i) := ⟨.str i, ⟨t, rfl⟩, fun _ _ => .str i⟩
theorem kd_bl {i : Bool} : KD K (.bool i) (.bl i) := ⟨.bl i, rfl, fun _ _ => .bl i⟩
theorem kd_non : KD K .none .non := ⟨.non, rfl, fun _ _ => .non⟩
theorem kds_nil : KDs K [] [] := ⟨[], .nil, fun _ _ => .nil⟩
theorem kds_cons {u : Value} {us : List Value} {d : D} {ds : List D} (h : KD K u d) (t : KDs K us ds) : KDs K (u :: us) (d :: ds) := by
  obtain ⟨v, r, hd⟩ := h
  obtain ⟨vs, rs, hds⟩ := t
  exact ⟨v :: vs, .cons r rs, fun q H => .cons (hd q H) (hds q H)⟩
theorem kd_tup {a : Addr} {od : Option Addr} {us : List Value} {n : Nat} {ds : List D} {sl : Array (Option Value)} (l : K.lookup a = some ⟨.type "tuple", od, .seq us.toArray n, sl⟩) (hz : us.length ≤ sizeLine) (h : KDs K us ds) : KD K (.ref a) (.tup ds) := by
  obtain ⟨vs, rs, hds⟩ := h
  exact ⟨.ref a, rfl, fun q H => .tup (.inr ⟨_, us.toArray, n, l, rfl, rfl, by rw [List.size_toArray]; exact hz, rs⟩) (hds q H)⟩
end
end DL
/-! F20: enumerate of a tuple. -/
namespace DL
open PySem PySem.Spec L2 RZ RT
open PySem (wpAny wpAny_pyIter_tuple IsEnum IsEnumOut)
open PySem.AutoSeq1 (wpAny_loadPart')
theorem meets_enumerate_newT (l : Addr) (items : Array Value) (n : Nat) (dct : Option Addr) (sl : Array (Option Value)) :
    Meets (Builtin.«enumerate.__new__» ⟨[.type "enumerate", .ref l], []⟩) (fun _ R s => s.heap.get? l = some { cls := .type "tuple", dict := dct, data := .seq items n, slots := sl } ∧
      R (.ok (.ret (.ref (s.heap.push { cls := .type "tuple_iterator", data := .fields #[.ref l, .int 0 0] }).objs.size)))
        { s with heap := (s.heap.push { cls := .type "tuple_iterator", data := .fields #[.ref l, .int 0 0] }).push { cls := .type "enumerate", data := .fields #[.none, .bool false, .ref s.heap.objs.size, rawInt 0, .none, .none] } }) :=
  .of_wp fun prog w A R s h => by
    obtain ⟨hp, g, d, tk, os⟩ := s; obtain ⟨hl, h⟩ := h
    have hsub := sub_enumerate
    have hL : Heap.IsTuple (Shared.heap ⟨hp, g, d, tk, os⟩) l items := ⟨_, hl, rfl, n, rfl⟩
    wp_walk using wpAny_loadPart' hl
    refine wpAny_stack_any fun st => wpAny_pure ?_
    split
    · rename_i c _ _ _ _ _
      cases (c == Value.type "enumerate")
      · wp_walk using wpAny_loadPart' hl, wpAny_pyIter_tuple hL
        exact ⟨_, rfl, h⟩
      · wp_walk using wpAny_loadPart' hl, wpAny_pyIter_tuple hL
        exact ⟨_, rfl, h⟩
    · wp_walk using wpAny_loadPart' hl, wpAny_pyIter_tuple hL
      exact ⟨_, rfl, h⟩
section
variable {prog : Program} {w : World} {A : Around} {E : Value → Shared → Prop} {s : Shared}
theorem call_enumerate_tuple {l : Addr} {items : Array Value} {Q : Value → Shared → Prop} (hL : s.heap.IsTuple l items)
    (h : ∀ h', IsEnum h' (s.heap.objs.size + 1) s.heap.objs.size 0 .none → h'.IsTupleIter s.heap.objs.size l 0 → h'.objs.size = s.heap.objs.size + 2 →
      (∀ b o, s.heap.get? b = some o → h'.get? b = some o) → Q (.ref (s.heap.objs.size + 1)) { s with heap := h' }) :
    wpAny (model prog w) A (call (.type "enumerate") [.ref l]) Q E s := by
  obtain ⟨⟨c, dct, dt, sl⟩, hl, hc, n, hd⟩ := hL
  replace hc : c = .type "tuple" := hc
  replace hd : dt = .seq items n := hd
  subst hc hd
  refine callType_new F.called_enumerate (by decide) (F.typeCall_enumerate_1 _) (F.newCall_enumerate_1 _) (fun obj => F.args_object_init_2 obj _) F.entry_enumerate_new
    (meets_enumerate_newT l items n dct sl) ⟨hl, ?_⟩
  have hz : (s.heap.push { cls := .type "tuple_iterator", data := .fields #[.ref l, .int 0 0] }).objs.size = s.heap.objs.size + 1 := Heap.size_push ..
  show _ ∧ _
  rw [hz]
  have he : IsEnum ((s.heap.push { cls := .type "tuple_iterator", data := .fields #[.ref l, .int 0 0] }).push
      { cls := .type "enumerate", data := .fields #[.none, .bool false, .ref s.heap.objs.size, rawInt 0, .none, .none] }) (s.heap.objs.size + 1) s.heap.objs.size 0 .none := by
    have := Heap.get?_push_size (s.heap.push { cls := .type "tuple_iterator", data := .fields #[.ref l, .int 0 0] })
      (o := { cls := .type "enumerate", data := .fields #[.none, .bool false, .ref s.heap.objs.size, rawInt 0, .none, .none] }) rfl
    rw [hz] at this; exact this
  refine ⟨⟨_, he, rfl⟩, h _ he ⟨_, Heap.get?_push_of_some _ (Heap.get?_push_size _ rfl), rfl, rfl⟩ (by rw [Heap.size_push, hz]) fun b o x => Heap.get?_push_of_some _ (Heap.get?_push_of_some _ x)⟩
end
/-- the tuple at a as it stands at each turn, in new pairs with the place -/
def IteT (K : PySem.W.Frag) (a : Addr) (n : Nat) : It :=
  ⟨fun i H => ∃ (xs : List V) (x : V), SqT K H a xs ∧ xs.length = n ∧ xs[i]? = some x, fun i H v H' => ∃ T x, v = .ref T ∧ H T = none ∧ H' = upd H T (.tup [.int (i : Nat), x]) ∧ ∀ xs, SqT K H a xs → xs[i]? = some x, fun i H => n ≤ i ∧ ∃ xs : List V, SqT K H a xs ∧ xs.length = n⟩
theorem turn_enumT {P : Program} {w : World} {K : PySem.W.Frag} {elts : List Expr} {kk : Nat} {tpos : Pos} (a e it : Addr) (n : Nat) :
    Turn P w K (.Tuple elts kk tpos) (IteT K a n) [e, it] e (fun i h => (∃ old, IsEnum h e it ((i : Nat) : Int) old) ∧ h.IsTupleIter it a i ∧ e ≠ it ∧ a ≠ it ∧ a ≠ e ∧ i ≤ n) where
  mem := by simp
  obj := fun i h st b hb => by
    obtain ⟨⟨old, he⟩, ⟨o, ho, hc, hd⟩, _⟩ := st
    have e' : b = e ∨ b = it := by simpa using hb
    rcases e' with z | z
    · rw [z]; exact ⟨_, he, fun v q => nomatch q⟩
    · rw [z]; exact ⟨o, ho, fun v q => by rw [hd] at q; cases q⟩
  keep := fun i h h' st k => let ⟨⟨old, he⟩, hi, hne⟩ := st; ⟨⟨old, k e (by simp) _ he⟩, hi.at fun o q => k it (by simp) o q, hne⟩
  item := by
    intro X hP hw hK hc i pins s σ H E I hf st hg
    subst hP hw hK
    obtain ⟨⟨old, he⟩, hit, hne, ha1, ha2, hin⟩ := st
    obtain ⟨xs, x, hq, hxn, hx⟩ := hg
    obtain ⟨its, rv, p, hz⟩ := I.tuple hq
    obtain ⟨u, hu, ru⟩ := rv.get hx
    have hel : e < s.heap.objs.size := Heap.lt_size he
    have hil : it < s.heap.objs.size := by obtain ⟨_, q, _⟩ := hit; exact Heap.lt_size q
    have p' : s.heap.IsTuple a its.toArray := p
    have Dw := Draws.tuple (prog := X.prog) (w := X.w) (A := X.A.in1) (I.ok.hd hc) it a ha1 its.toArray
    have hlt : i < its.toArray.size := by
      obtain ⟨q, _⟩ := List.getElem?_eq_some_iff.mp hu
      simpa using q
    refine wpAny_pyNext_enum_itemD Dw he ⟨hit, p'⟩ hlt hne (by simp only [List.mem_cons, List.not_mem_nil, or_false]; rintro (z | z); exact hne z; exact ha2 z.symm) fun y h' tk hy ho hst hT hsz hk => ?_
    have ey : y = u := by
      have hy' : its.toArray[i]? = some y := hy
      have : its[i]? = some y := by simpa using hy'
      rw [hu] at this
      exact (Option.some.inj this).symm
    subst ey
    refine ⟨_, rfl, wpAny_letOwnedTupleGo_enum (s := { s with heap := h', toks := tk + 1 }) ho fun h'' he' sb => ?_⟩
    have hT2 : h''.get? s.heap.objs.size = some { cls := .type "tuple", data := .seq #[.int i tk, y] } := (sb.2 _ (Nat.ne_of_gt hel)).trans hT
    have new : ObjOk X.prog X.w (upd H s.heap.objs.size (.tup [.int (i : Nat), x])) h'' s.heap.objs.size (.tup [.int (i : Nat), x]) :=
      ⟨by show 2 ≤ sizeLine; decide, [.int i tk, y], .cons ⟨_, rfl⟩ (.cons ru .nil), ⟨_, hT2, rfl, _, rfl⟩⟩
    have I1 : Inv X pins σ (upd H s.heap.objs.size (.tup [.int (i : Nat), x])) { s with heap := h'', toks := tk + 1 } :=
      I.turnedNew (ch := [e, it]) (fun b ob hb q => (sb.2 b (fun z => hb (by simp [z]))).trans (hk b ob (fun z => hb (by simp [z])) (fun z => hb (by simp [z])) q)) hf (Nat.le_refl _) new
    refine ⟨.ref s.heap.objs.size, _, I1, rfl, ⟨_, x, rfl, I.hok.fresh (Nat.le_refl _), rfl, fun ys hy => by rw [I.tuple_inj hy hq]; exact hx⟩, ⟨⟨y, ?_⟩, hst.1.at fun o q => (sb.2 it (Ne.symm hne)).trans q, hne, ha1, ha2, by have := (List.getElem?_eq_some_iff.mp hx).1; omega⟩, fun b hb => ?_⟩
    · have e1 : ((i + 1 : Nat) : Int) = (i : Int) + 1 := by omega
      rw [e1]; exact he'
    · have hb' : b < s.heap.objs.size := by
        have e' : b = e ∨ b = it := by simpa using hb
        rcases e' with z | z
        · rw [z]; exact hel
        · rw [z]; exact hil
      rw [upd_ne (Nat.ne_of_lt hb')]
      exact (hf b hb).1
  done := by
    intro X hP hw hK hc i pins s σ H E I hf st hg
    subst hP hw hK
    obtain ⟨⟨old, he⟩, hit, hne, ha1, ha2, hin⟩ := st
    obtain ⟨hni, xs, hq, hx⟩ := hg
    obtain ⟨its, rv, p, hz⟩ := I.tuple hq
    have p' : s.heap.IsTuple a its.toArray := p
    obtain ⟨f0, f1, f2, f3, f4, f5⟩ := hf it (by simp)
    have hl := rv.length
    have Dw := Draws.tuple (prog := X.prog) (w := X.w) (A := X.A.in1) (I.ok.hd hc) it a ha1 its.toArray
    have ei : i = its.toArray.size := by rw [List.size_toArray]; omega
    subst ei
    exact wpAny_pyNext_enum_endD Dw he ⟨hit, p'⟩ fun h' eb => ⟨rfl, I.turned (t' := s.toks) (fun b o hb q => eb b o hb q) f0 f1 f3 f4 f5⟩
  self := fun A i s Q E st h => let ⟨⟨_, he⟩, _⟩ := st; wpAny_pyIter_enum he h
def iEnumA (K : PySem.W.Frag) (ta : TA) : TI := fun σ H R => ta σ H fun vs H1 => ∃ a xs, vs = [.ref a] ∧ ((SqL K H1 a xs ∧ R (Ite K a) H1) ∨ (SqT K H1 a xs ∧ R (IteT K a xs.length) H1))
theorem pi_enumA {X : Cx} {e : Expr} {ta : TA} {p pos tpos : Pos} {elts : List Expr} {kk : Nat} (hg : Gl X "enumerate") (hm : X.mg "enumerate" = none) (ha : PA X [e] ta) (hs : starEach [e] X.env = [(false, eval e X.env)] := by rfl) :
    PI X (.Tuple elts kk tpos) (.Call (.Name "enumerate" p) [e] [] pos) (iEnumA X.K ta) := by
  refine ⟨fun pins s σ H R I h => ?_⟩
  refine PyProof.Rows.Call_ (ld_blt I hg hm PyProof.Rows.boot_enumerate (PyProof.Rows.callWith_type1 (thn (ha.run pos pins s σ H _ I h) fun us s1 ⟨vs, H1, I1, r1, q1⟩ => ?_) hs rfl))
  obtain ⟨a, xs, ex, q1⟩ := q1
  subst ex
  cases r1 with
  | cons r rr =>
    cases rr
    cases r
    have fpo : ∀ {H1 : Hp}, ∀ b ∈ [s1.heap.objs.size + 1, s1.heap.objs.size], s1.heap.objs.size ≤ b := fun {H1} b hb => by
      have e' : b = s1.heap.objs.size + 1 ∨ b = s1.heap.objs.size := by simpa using hb
      rcases e' with z | z
      · rw [z]; exact Nat.le_add_right _ _
      · rw [z]; exact Nat.le_refl _
    rcases q1 with ⟨hq, q⟩ | ⟨hq, q⟩
    · obtain ⟨its, rv, p', hz⟩ := I1.list hq
      refine call_enumerate_list p'.isList fun h' he hit hsz hk => wpAny_pyIter_enum he ?_
      have I2 : Inv X pins σ H1 { s1 with heap := h' } := I1.kept (t' := s1.toks) hk
      exact ⟨s1.heap.objs.size + 1, [s1.heap.objs.size + 1, s1.heap.objs.size], _, _, H1, rfl, I2, turn_enum a (s1.heap.objs.size + 1) s1.heap.objs.size, ⟨⟨.none, he⟩, hit, Nat.succ_ne_self _⟩, fun b hb => I1.fpOk (fpo (H1 := H1) b hb) (I1.hok.fresh (fpo (H1 := H1) b hb)), q⟩
    · obtain ⟨its, rv, p', hz⟩ := I1.tuple hq
      have p2 : s1.heap.IsTuple a its.toArray := p'
      have al : a < s1.heap.objs.size := by obtain ⟨o, ho, _⟩ := p2; exact Heap.lt_size ho
      refine call_enumerate_tuple p2 fun h' he hit hsz hk => wpAny_pyIter_enum he ?_
      have I2 : Inv X pins σ H1 { s1 with heap := h' } := I1.kept (t' := s1.toks) hk
      exact ⟨s1.heap.objs.size + 1, [s1.heap.objs.size + 1, s1.heap.objs.size], _, _, H1, rfl, I2, turn_enumT a (s1.heap.objs.size + 1) s1.heap.objs.size xs.length, ⟨⟨.none, he⟩, hit, Nat.succ_ne_self _, Nat.ne_of_lt al, Nat.ne_of_lt (Nat.lt_succ_of_lt al), Nat.zero_le _⟩, fun b hb => I1.fpOk (fpo (H1 := H1) b hb) (I1.hok.fresh (fpo (H1 := H1) b hb)), q⟩
theorem itOk_enumT {K : PySem.W.Frag} {q : Dq} {H : Hp} {a : Addr} {vs : List V} {xs : List D} (ha : SqT K H a vs) (va : DtAll K q H vs xs) : ItOk K q (IteT K a vs.length) (enumD xs) H where
  go := fun i H1 f hi => by
    have hi' : i < xs.length := by simpa [enumD] using hi
    exact ⟨vs, vs[i]'(by rw [va.length]; exact hi'), sqT_up f ha, rfl, by simp⟩
  yld := fun i H1 x H2 f hi ⟨T, u, e1, e2, e3, e4⟩ => by
    subst e1
    refine ⟨by rw [e3]; exact same_upd e2, ?_⟩
    obtain ⟨d1, g1, h1⟩ := va.getV (e4 vs (sqT_up f ha))
    refine ⟨.tup [.int (i : Nat), d1], ?_, fun Hm fm k => new_tup e2 e3 k (.cons (.int _) (.cons (h1.up fm) .nil))⟩
    unfold enumD
    rw [List.getElem?_map, List.getElem?_zipIdx, g1]
    simp
  stop := fun H1 f => ⟨by rw [va.length]; simp [enumD], vs, sqT_up f ha, rfl⟩
def fEnumA (a : FE) : FA := fun ρ s => (a ρ s).bind fun x s => match x with
  | .lst xs => .ok (enumD xs) s
  | .tup xs => .ok (enumD xs) s
  | _ => .bad
theorem fi_enumA {X : Cx} {q : Dq} {H0 : Hp} {E : XK} {e : Expr} {fa : FE} {p pos tpos : Pos} {elts : List Expr} {kk : Nat} (hg : Gl X "enumerate") (hm : X.mg "enumerate" = none) (ha : FEx X q H0 E e fa) (hs : starEach [e] X.env = [(false, eval e X.env)] := by rfl) :
    FIt X q H0 E (.Tuple elts kk tpos) (.Call (.Name "enumerate" p) [e] [] pos) (fEnumA fa) := by
  refine ⟨(pi_enumA hg hm (pa_cons ha.pe pa_nil (by rw [hs]; rfl)) hs).imp fun σ H RR ⟨ρ, n, Q0, F, Rl, h, c, o⟩ => ?_⟩
  refine dTE_mk Rl (R.bind_wp h) (fun x H1 dx n1 hx f1 R1 h1 => ?_) o
  cases hx with
  | lst ha va => exact ⟨_, _, rfl, .inl ⟨SqL.of ha, c _ H1 _ n1 (itOk_enum ha va) f1 R1 h1⟩⟩
  | tup ha va => exact ⟨_, _, rfl, .inr ⟨ha, c _ H1 _ n1 (itOk_enumT ha va) f1 R1 h1⟩⟩
  | _ => exact h1.elim
end DL
/-! G1: reckoning with what a text computes: rules for simp, without functions in the terms (frames). -/
namespace DL
open PySem PySem.Spec L2
/-- a slot is read, stored -/
def getS : SEnv → Nat → Slot
  | [], _ => .no
  | x :: _, 0 => x
  | _ :: xs, n + 1 => getS xs n
def setS : SEnv → Nat → Slot → Option SEnv
  | [], _, _ => none
  | _ :: xs, 0, d => some (d :: xs)
  | x :: xs, n + 1, d => (setS xs n d).map (x :: ·)
def slotD (x : Slot) (s : Sd) : R D := match x with
  | .d d => .ok d s
  | _ => .bad
theorem setS_eq (d : Slot) : ∀ (ρ : SEnv) (i : Nat), setS ρ i d = if i < ρ.length then some (ρ.set i d) else none
  | [], i => by rw [if_neg (by simp)]; rfl
  | x :: xs, 0 => by rw [if_pos (by simp)]; rfl
  | x :: xs, n + 1 => by
    rw [setS, setS_eq d xs n]
    by_cases h : n < xs.length
    · rw [if_pos h, if_pos (by simpa using h)]; rfl
    · rw [if_neg h, if_neg (by simpa using h)]; rfl
theorem getS_eq : ∀ (ρ : SEnv) (i : Nat), getS ρ i = (ρ[i]?).getD .no
  | [], i => by simp [getS]
  | x :: xs, 0 => by simp [getS]
  | x :: xs, n + 1 => by simp [getS, getS_eq xs n]
/-! frames -/
def consO (x : Slot) (o : Option SEnv) : Option SEnv := o.map (x :: ·)
def binB (x : D) (r : R D) (o : D → D → Option D) : R D := r.bind fun y s => .opt (o x y) s
def binA (r : R D) (b : FE) (ρ : SEnv) (o : D → D → Option D) : R D := r.bind fun x s => binB x (b ρ s) o
def unA (r : R D) (o : D → Option D) : R D := r.bind fun x s => .opt (o x) s
def andA (r : R D) (b : FE) (ρ : SEnv) : R D := r.bind fun x s => (R.opt (toBl x) s).bind fun c s => if c = true then b ρ s else .ok (.bl false) s
def orA (r : R D) (b : FE) (ρ : SEnv) : R D := r.bind fun x s => (R.opt (toBl x) s).bind fun c s => if c = true then .ok (.bl true) s else b ρ s
def notA (r : R D) : R D := r.bind fun x s => (R.opt (toBl x) s).bind fun c s => .ok (.bl (!c)) s
def ifA (r : R Bool) (a b : FE) (ρ : SEnv) : R D := r.bind fun t s => if t = true then a ρ s else b ρ s
def valA (r : R D) : R Bool := r.bind fun x s => .opt (toBl x) s
def andTA (r : R Bool) (b : FB) (ρ : SEnv) : R Bool := r.bind fun c s => if c = true then b ρ s else .ok false s
def orTA (r : R Bool) (b : FB) (ρ : SEnv) : R Bool := r.bind fun c s => if c = true then .ok true s else b ρ s
def notTA (r : R Bool) : R Bool := r.bind fun c s => .ok (!c) s
def consR {α : Type} (x : α) (r : R (List α)) : R (List α) := r.bind fun xs s => .ok (x :: xs) s
def consA (r : R D) (f : FA) (ρ : SEnv) : R (List D) := r.bind fun x s => consR x (f ρ s)
def tupA (r : R (List D)) : R D := r.bind fun xs s => .ok (.tup xs) s
def lstA (r : R (List D)) : R D := r.bind fun xs s => .ok (.lst xs) s
def isiA (r : R D) (Ts : List String) : R D := r.bind fun x s => if x.isData = true then .ok (.bl (x.isa Ts)) s else .bad
def callA (r : R (List D)) (m : SpF) : R D := r.bind fun ds s => m ds s
def callKB (ds : List D) (r : R (List D)) (m : SpF) (g : List D → List D → List D) : R D := r.bind fun es s => m (g ds es) s
def callKA (r : R (List D)) (m : SpF) (g : List D → List D → List D) (k : FA) (ρ : SEnv) : R D := r.bind fun ds s => callKB ds (k ρ s) m g
def cbA (r : R (List D)) (c : List D → Option D) : R D := r.bind fun ds s => .opt (c ds) s
def partA (r : R D) : R (Option Int) := r.bind fun x s => (R.opt (toI x) s).bind fun i s => .ok (some i) s
def slC (x : D) (l : Option Int) (r : R (Option Int)) : R D := r.bind fun u s => .opt (slF x l u) s
def slB (x : D) (r : R (Option Int)) (hi : FT (Option Int)) (ρ : SEnv) : R D := r.bind fun l s => slC x l (hi ρ s)
def slA (r : R D) (lo hi : FT (Option Int)) (ρ : SEnv) : R D := r.bind fun x s => slB x (lo ρ s) hi ρ
def itemsR (x : D) (s : Sd) : R (List D) := match x with
  | .lst ds => .ok ds s
  | .tup ds => .ok ds s
  | _ => .bad
def itA (r : R D) : R (List D) := r.bind fun x s => itemsR x s
def rngA (r : R D) : R (List D) := r.bind fun x s => .opt (DL.rng1 x) s
def rngC (x : D) (r : R D) : R (List D) := r.bind fun y s => .opt (DL.rng2 x y) s
def rngB (r : R D) (b : FE) (ρ : SEnv) : R (List D) := r.bind fun x s => rngC x (b ρ s)
def zipR (x y : D) (s : Sd) : R (List D) := match x, y with
  | .lst xs, .lst ys => .ok (zipD xs ys) s
  | .tup xs, .tup ys => .ok (zipD xs ys) s
  | _, _ => .bad
def zipB (x : D) (r : R D) : R (List D) := r.bind fun y s => zipR x y s
def zipA (r : R D) (b : FE) (ρ : SEnv) : R (List D) := r.bind fun x s => zipB x (b ρ s)
def enumR (x : D) (s : Sd) : R (List D) := match x with
  | .lst xs => .ok (enumD xs) s
  | .tup xs => .ok (enumD xs) s
  | _ => .bad
def enumA (r : R D) : R (List D) := r.bind fun x s => enumR x s
def revR (x : D) (s : Sd) : R (List D) := match x with
  | .lst xs => .ok xs.reverse s
  | .tup xs => .ok xs.reverse s
  | _ => .bad
def revA (r : R D) : R (List D) := r.bind fun x s => revR x s
def lstR (n : Nat) (r : R (List D)) : R D := (if n ≤ sizeLine then r.bind fun ys s => .ok (.lst ys) s else .bad).calm
def lcA (r : R (List D)) (g : FG) (tt : FB) (te : FE) (ρ : SEnv) : R D := r.bind fun ds s => lstR ds.length (lcF g tt te ρ ds s)
def lcE (r : R D) (g : FG) (tt : FB) (te : FE) (ρ : SEnv) (ds : List D) : R (List D) := r.bind fun y s => consR y (lcF g tt te ρ ds s)
def lcT (r : R Bool) (ρ1 : SEnv) (g : FG) (tt : FB) (te : FE) (ρ : SEnv) (ds : List D) : R (List D) := r.bind fun b s => if b = true then lcE ((te ρ1 s).calm) g tt te ρ ds else lcF g tt te ρ ds s
def lcG (o : Option SEnv) (g : FG) (tt : FB) (te : FE) (ρ : SEnv) (ds : List D) (s : Sd) : R (List D) := match o with
  | some ρ1 => lcT ((tt ρ1 s).calm) ρ1 g tt te ρ ds
  | none => .bad
def gNx (o : Option SEnv) (s : Sd) : RS := match o with
  | some ρ => .nx ρ s
  | none => .bad
def gPar (o : Option SEnv) (j : Nat) (y : D) (s : Sd) : RS := match o with
  | some ρ => gNx (setS ρ j (.d y)) s
  | none => .bad
def gPar3 (o : Option SEnv) (j l : Nat) (y z : D) (s : Sd) : RS := match o with
  | some ρ => gPar (setS ρ j (.d y)) l z s
  | none => .bad
def gbs (o : Option SEnv) (gs : FGs) (ds : List D) : Option SEnv := o.bind fun ρ => gs ds ρ
def retA (r : R D) : RS := r.to fun x s => .rt x s
def dropA (r : R D) (ρ : SEnv) : RS := r.to fun _ s => .nx ρ s
def setA (r : R D) (i : Nat) (ρ : SEnv) : RS := r.to fun x s => gNx (setS ρ i (.d x)) s
def asgA (r : R D) (g : FG) (ρ : SEnv) : RS := r.to fun x s => gNx (g x ρ) s
def parB (x : D) (r : R D) (i j : Nat) (ρ : SEnv) : RS := r.to fun y s => gPar (setS ρ i (.d x)) j y s
def parA (r : R D) (b : FE) (i j : Nat) (ρ : SEnv) : RS := r.to fun x s => parB x (b ρ s) i j ρ
def par3C (x y : D) (r : R D) (i j l : Nat) (ρ : SEnv) : RS := r.to fun z s => gPar3 (setS ρ i (.d x)) j l y z s
def par3B (x : D) (r : R D) (c : FE) (i j l : Nat) (ρ : SEnv) : RS := r.to fun y s => par3C x y (c ρ s) i j l ρ
def par3A (r : R D) (b c : FE) (i j l : Nat) (ρ : SEnv) : RS := r.to fun x s => par3B x (b ρ s) c i j l ρ
def ifS (r : R Bool) (u v : FS) (ρ : SEnv) : RS := r.to fun t s => if t = true then u ρ s else v ρ s
def drumS (x : Slot) (j : Nat) (s : Sd) : R D := match x, j with
  | .d (.drum ns), 0 => .ok (.lst (ns.map D.int)) s
  | .d (.drum ns), 1 => .ok (.int s.1) s
  | .d (.drum ns), 2 => .ok (.int s.2) s
  | _, _ => .bad
def drumW (x : Slot) (j : Nat) (ρ : SEnv) (y : D) (s : Sd) : RS := match x, j, y with
  | .d (.drum _), 1, .int z => .nx ρ (z, s.2)
  | .d (.drum _), 2, .int z => .nx ρ (s.1, z)
  | _, _, _ => .bad
def drumA (r : R D) (x : Slot) (j : Nat) (ρ : SEnv) : RS := r.to fun y s => drumW x j ρ y s
/-- what a loop does with its body's end -/
def RS.loop (r : RS) (k : FS) : RS := match r with
  | .nx ρ s => k ρ s
  | .ct ρ s => k ρ s
  | .bk ρ s => .nx ρ s
  | .rt d s => .rt d s
  | .er e s => .er e s
  | .bad => .bad
def forA (r : R (List D)) (g : FG) (u : FS) (ρ : SEnv) : RS := r.to fun ds s => forF g u ds ρ s
def forG (o : Option SEnv) (g : FG) (u : FS) (ds : List D) (s : Sd) : RS := match o with
  | some ρ => (u ρ s).loop (forF g u ds)
  | none => .bad
noncomputable def whA (r : R Bool) (tt : FB) (u : FS) (ρ : SEnv) : RS := r.to fun t s => if t = true then (u ρ s).loop (fWhile tt u) else .nx ρ s
def ownA (r : R (List D)) (i : Nat) (ρ : SEnv) : RS := r.to fun xs s => if xs.length ≤ sizeLine then gNx (setS ρ i (.own xs)) s else .bad
def ownI (ds : List D) (x z : D) (i : Nat) (ρ : SEnv) (s : Sd) : RS := match z with
  | .int w => (match ixN ds.length w with
    | some j => gNx (setS ρ i (.own (ds.set j x))) s
    | none => .bad)
  | _ => .bad
def ownB (ds : List D) (x : D) (r : R D) (i : Nat) (ρ : SEnv) : RS := r.to fun z s => ownI ds x z i ρ s
def ownV (ds : List D) (r : R D) (k : FE) (i : Nat) (ρ : SEnv) : RS := r.to fun x s => ownB ds x (k ρ s) i ρ
def ownS (sl : Slot) (k v : FE) (i : Nat) (ρ : SEnv) (s : Sd) : RS := match sl with
  | .own ds => ownV ds (v ρ s) k i ρ
  | _ => .bad
def freeS (sl : Slot) (u : FS) (i : Nat) (ρ : SEnv) (s : Sd) : RS := match sl with
  | .own ds => (gNx (setS ρ i (.d (.lst ds))) s).then u
  | _ => .bad
section
variable {ρ ρ1 : SEnv} {s s1 : Sd} {a b c : FE} {ta tb : FB} {r k : FA} {i j l : Nat} {x y z : D} {sl : Slot} {t : Bool} {ds es : List D} {o : D → D → Option D} {u v : FS} {g : FG} {gs : FGs} {tt : FB} {te : FE}
--EV
theorem ev_g0 : getS (sl :: ρ) 0 = sl := rfl
theorem ev_gs : getS (sl :: ρ) (i + 1) = getS ρ i := rfl
theorem ev_s0 {d : Slot} : setS (sl :: ρ) 0 d = some (d :: ρ) := rfl
theorem ev_ss {d : Slot} : setS (sl :: ρ) (i + 1) d = consO sl (setS ρ i d) := rfl
theorem ev_co : consO sl (some ρ) = some (sl :: ρ) := rfl
theorem ev_slot : slotD (.d x) s = .ok x s := rfl
theorem ev_optS {α : Type} {w : α} : R.opt (some w) s = .ok w s := rfl
theorem ev_optN {α : Type} : (R.opt none s : R α) = .bad := rfl
theorem ev_calm {α : Type} {w : α} : (R.ok w s).calm = .ok w s := rfl
theorem ev_tnx : (RS.nx ρ s).then u = u ρ s := rfl
theorem ev_trt : (RS.rt x s).then u = .rt x s := rfl
theorem ev_tbk : (RS.bk ρ s).then u = .bk ρ s := rfl
theorem ev_tct : (RS.ct ρ s).then u = .ct ρ s := rfl
theorem ev_lnx : (RS.nx ρ s).loop u = u ρ s := rfl
theorem ev_lct : (RS.ct ρ s).loop u = u ρ s := rfl
theorem ev_lbk : (RS.bk ρ s).loop u = .nx ρ s := rfl
theorem ev_lrt : (RS.rt x s).loop u = .rt x s := rfl
theorem ev_fnx : (RS.nx ρ s).fin = .ok .non s := rfl
theorem ev_frt : (RS.rt x s).fin = .ok x s := rfl
theorem ev_var : fVar i ρ s = slotD (getS ρ i) s := by
  rw [getS_eq]
  unfold fVar slotD
  cases z : ρ[i]? with
  | none => rfl
  | some u => cases u <;> rfl
theorem ev_c : fC x ρ s = .ok x s := rfl
theorem ev_bin : fBin o a b ρ s = binA (a ρ s) b ρ o := rfl
theorem ev_binA : binA (.ok x s) b ρ o = binB x (b ρ s) o := rfl
theorem ev_binB : binB x (.ok y s) o = .opt (o x y) s := rfl
theorem ev_un {o : D → Option D} : fUn o a ρ s = unA (a ρ s) o := rfl
theorem ev_unA {o : D → Option D} : unA (.ok x s) o = .opt (o x) s := rfl
theorem ev_andV : fAndV a b ρ s = andA (a ρ s) b ρ := rfl
theorem ev_andA : andA (.ok (.bl t) s) b ρ = if t = true then b ρ s else .ok (.bl false) s := rfl
theorem ev_orV : fOrV a b ρ s = orA (a ρ s) b ρ := rfl
theorem ev_orA : orA (.ok (.bl t) s) b ρ = if t = true then .ok (.bl true) s else b ρ s := rfl
theorem ev_notV : fNotV a ρ s = notA (a ρ s) := rfl
theorem ev_notA : notA (.ok (.bl t) s) = .ok (.bl (!t)) s := rfl
theorem ev_ifE : fIfE ta a b ρ s = ifA (ta ρ s) a b ρ := rfl
theorem ev_ifA : ifA (.ok t s) a b ρ = if t = true then a ρ s else b ρ s := rfl
theorem ev_val : fVal a ρ s = valA (a ρ s) := rfl
theorem ev_valA : valA (.ok (.bl t) s) = .ok t s := rfl
theorem ev_andT : fAndT ta tb ρ s = andTA (ta ρ s) tb ρ := rfl
theorem ev_andTA : andTA (.ok t s) tb ρ = if t = true then tb ρ s else .ok false s := rfl
theorem ev_orT : fOrT ta tb ρ s = orTA (ta ρ s) tb ρ := rfl
theorem ev_orTA : orTA (.ok t s) tb ρ = if t = true then .ok true s else tb ρ s := rfl
theorem ev_notT : fNotT ta ρ s = notTA (ta ρ s) := rfl
theorem ev_notTA : notTA (.ok t s) = .ok (!t) s := rfl
theorem ev_nil : fNil ρ s = .ok [] s := rfl
theorem ev_cons : fCons a r ρ s = consA (a ρ s) r ρ := rfl
theorem ev_consA : consA (.ok x s) r ρ = consR x (r ρ s) := rfl
theorem ev_consR {α : Type} {w : α} {ws : List α} : consR w (.ok ws s) = .ok (w :: ws) s := rfl
theorem ev_tup : fTup r ρ s = tupA (r ρ s) := rfl
theorem ev_tupA : tupA (.ok ds s) = .ok (.tup ds) s := rfl
theorem ev_lst : fLst r ρ s = lstA (r ρ s) := rfl
theorem ev_lstA : lstA (.ok ds s) = .ok (.lst ds) s := rfl
theorem ev_isi {Ts : List String} : fIsi Ts a ρ s = isiA (a ρ s) Ts := rfl
theorem ev_isiA {Ts : List String} : isiA (.ok x s) Ts = if x.isData = true then .ok (.bl (x.isa Ts)) s else .bad := rfl
theorem ev_call {m : SpF} : fCall m r ρ s = callA (r ρ s) m := rfl
theorem ev_callA {m : SpF} : callA (.ok ds s) m = m ds s := rfl
theorem ev_callK {m : SpF} {p : List D → List D → List D} : fCallK m p r k ρ s = callKA (r ρ s) m p k ρ := rfl
theorem ev_callKA {m : SpF} {p : List D → List D → List D} : callKA (.ok ds s) m p k ρ = callKB ds (k ρ s) m p := rfl
theorem ev_callKB {m : SpF} {p : List D → List D → List D} : callKB ds (.ok es s) m p = m (p ds es) s := rfl
theorem ev_cb {f : List D → Option D} : fCB f r ρ s = cbA (r ρ s) f := rfl
theorem ev_cbA {f : List D → Option D} : cbA (.ok ds s) f = .opt (f ds) s := rfl
theorem ev_noPart : fNoPart ρ s = .ok none s := rfl
theorem ev_part : fPart a ρ s = partA (a ρ s) := rfl
theorem ev_partA {w : Int} : partA (.ok (.int w) s) = .ok (some w) s := rfl
theorem ev_slice {lo hi : FT (Option Int)} : fSlice a lo hi ρ s = slA (a ρ s) lo hi ρ := rfl
theorem ev_slA {lo hi : FT (Option Int)} : slA (.ok x s) lo hi ρ = slB x (lo ρ s) hi ρ := rfl
theorem ev_slB {hi : FT (Option Int)} {w : Option Int} : slB x (.ok w s) hi ρ = slC x w (hi ρ s) := rfl
theorem ev_slC {w w2 : Option Int} : slC x w (.ok w2 s) = .opt (slF x w w2) s := rfl
theorem drum_eq {n : Int} {m : Nat} (h : n = m) : fDrum i n ρ s = drumS (getS ρ i) m s := by
  subst h
  rw [getS_eq]
  unfold fDrum drumS
  cases z : ρ[i]? with
  | none => rfl
  | some u =>
    cases u with
    | d y =>
      cases y <;> try rfl
      match m with
      | 0 => rfl
      | 1 => rfl
      | 2 => rfl
      | m + 3 =>
        simp only
        rw [if_neg (by omega), if_neg (by omega), if_neg (by omega)]
        rfl
    | own _ => rfl
    | no => rfl
theorem ev_drum0 : fDrum i 0 ρ s = drumS (getS ρ i) 0 s := drum_eq rfl
theorem ev_drum1 : fDrum i 1 ρ s = drumS (getS ρ i) 1 s := drum_eq rfl
theorem ev_drum2 : fDrum i 2 ρ s = drumS (getS ρ i) 2 s := drum_eq rfl
theorem ev_dr0 {ns : List Int} : drumS (.d (.drum ns)) 0 s = .ok (.lst (ns.map D.int)) s := rfl
theorem ev_dr1 {ns : List Int} : drumS (.d (.drum ns)) 1 s = .ok (.int s.1) s := rfl
theorem ev_dr2 {ns : List Int} : drumS (.d (.drum ns)) 2 s = .ok (.int s.2) s := rfl
theorem ev_gName : gName i x ρ = setS ρ i (.d x) := by rw [setS_eq]; rfl
theorem ev_gNil : gNil [] ρ = some ρ := rfl
theorem ev_gCons : gCons g gs (x :: ds) ρ = gbs (g x ρ) gs ds := rfl
theorem ev_gbs : gbs (some ρ) gs ds = gs ds ρ := rfl
theorem ev_gTupT {n : Nat} : gTup n gs (.tup ds) ρ = if ds.length = n then gs ds ρ else none := rfl
theorem ev_gTupL {n : Nat} : gTup n gs (.lst ds) ρ = if ds.length = n then gs ds ρ else none := rfl
theorem ev_itL : itemsR (.lst ds) s = .ok ds s := rfl
theorem ev_itT : itemsR (.tup ds) s = .ok ds s := rfl
theorem ev_seqI : fSeqI a ρ s = itA (a ρ s) := rfl
theorem ev_itA : itA (.ok x s) = itemsR x s := rfl
theorem ev_rng1 : fRng1 a ρ s = rngA (a ρ s) := rfl
theorem ev_rngA : rngA (.ok x s) = .opt (DL.rng1 x) s := rfl
theorem ev_rng2 : fRng2 a b ρ s = rngB (a ρ s) b ρ := rfl
theorem ev_rngB : rngB (.ok x s) b ρ = rngC x (b ρ s) := rfl
theorem ev_rngC : rngC x (.ok y s) = .opt (DL.rng2 x y) s := rfl
theorem ev_zip : fZip a b ρ s = zipA (a ρ s) b ρ := rfl
theorem ev_zipA : zipA (.ok x s) b ρ = zipB x (b ρ s) := rfl
theorem ev_zipB : zipB x (.ok y s) = zipR x y s := rfl
theorem ev_zL : zipR (.lst ds) (.lst es) s = .ok (zipD ds es) s := rfl
theorem ev_zT : zipR (.tup ds) (.tup es) s = .ok (zipD ds es) s := rfl
theorem ev_zc : zipD (x :: ds) (y :: es) = .tup [x, y] :: zipD ds es := rfl
theorem ev_zn : zipD [] ds = [] := rfl
theorem ev_enum : fEnumA a ρ s = enumA (a ρ s) := rfl
theorem ev_enumA : enumA (.ok x s) = enumR x s := rfl
theorem ev_eL : enumR (.lst ds) s = .ok (enumD ds) s := rfl
theorem ev_eT : enumR (.tup ds) s = .ok (enumD ds) s := rfl
theorem ev_rev : fRev a ρ s = revA (a ρ s) := rfl
theorem ev_revA : revA (.ok x s) = revR x s := rfl
theorem ev_rL : revR (.lst ds) s = .ok ds.reverse s := rfl
theorem ev_rT : revR (.tup ds) s = .ok ds.reverse s := rfl
theorem ev_gNx : gNx (some ρ) s = .nx ρ s := rfl
theorem ev_gPar : gPar (some ρ) j y s = gNx (setS ρ j (.d y)) s := rfl
theorem ev_gPar3 : gPar3 (some ρ) j l y z s = gPar (setS ρ j (.d y)) l z s := rfl
theorem ev_ret : fRet a ρ s = retA (a ρ s) := rfl
theorem ev_retA : retA (.ok x s) = .rt x s := rfl
theorem ev_retN : fRetN ρ s = .rt .non s := rfl
theorem ev_drop : fDrop a ρ s = dropA (a ρ s) ρ := rfl
theorem ev_dropA : dropA (.ok x s) ρ = .nx ρ s := rfl
theorem ev_set : fSet i a ρ s = setA (a ρ s) i ρ := by
  unfold fSet setA
  congr 1
  funext x s
  rw [setS_eq]
  split <;> rfl
theorem ev_setA : setA (.ok x s) i ρ = gNx (setS ρ i (.d x)) s := rfl
theorem ev_asg : fAsg a g ρ s = asgA (a ρ s) g ρ := rfl
theorem ev_asgA : asgA (.ok x s) g ρ = gNx (g x ρ) s := rfl
theorem ev_par : fPar i j a b ρ s = parA (a ρ s) b i j ρ := by
  unfold fPar parA parB
  congr 1
  funext x s
  congr 1
  funext y s
  rw [setS_eq]
  by_cases h1 : i < ρ.length
  · rw [if_pos h1]
    show _ = gNx (setS _ j _) s
    rw [setS_eq, List.length_set]
    by_cases h2 : j < ρ.length
    · rw [if_pos h2, if_pos ⟨h1, h2⟩]; rfl
    · rw [if_neg h2, if_neg fun z => h2 z.2]; rfl
  · rw [if_neg h1, if_neg fun z => h1 z.1]; rfl
theorem ev_parA : parA (.ok x s) b i j ρ = parB x (b ρ s) i j ρ := rfl
theorem ev_parB : parB x (.ok y s) i j ρ = gPar (setS ρ i (.d x)) j y s := rfl
theorem ev_par3 : fPar3 i j l a b c ρ s = par3A (a ρ s) b c i j l ρ := by
  unfold fPar3 par3A par3B par3C
  congr 1
  funext x s
  congr 1
  funext y s
  congr 1
  funext z s
  rw [setS_eq]
  by_cases h1 : i < ρ.length
  · rw [if_pos h1]
    show _ = gPar (setS _ j _) l z s
    rw [setS_eq, List.length_set]
    by_cases h2 : j < ρ.length
    · rw [if_pos h2]
      show _ = gNx (setS _ l _) s
      rw [setS_eq, List.length_set, List.length_set]
      by_cases h3 : l < ρ.length
      · rw [if_pos h3, if_pos ⟨h1, h2, h3⟩]; rfl
      · rw [if_neg h3, if_neg fun z => h3 z.2.2]; rfl
    · rw [if_neg h2, if_neg fun z => h2 z.2.1]; rfl
  · rw [if_neg h1, if_neg fun z => h1 z.1]; rfl
theorem ev_par3A : par3A (.ok x s) b c i j l ρ = par3B x (b ρ s) c i j l ρ := rfl
theorem ev_par3B : par3B x (.ok y s) c i j l ρ = par3C x y (c ρ s) i j l ρ := rfl
theorem ev_par3C : par3C x y (.ok z s) i j l ρ = gPar3 (setS ρ i (.d x)) j l y z s := rfl
theorem ev_if : fIf ta u v ρ s = ifS (ta ρ s) u v ρ := rfl
theorem ev_ifS : ifS (.ok t s) u v ρ = if t = true then u ρ s else v ρ s := rfl
theorem ev_next : fNext ρ s = .nx ρ s := rfl
theorem ev_seq : fSeq u v ρ s = (u ρ s).then v := rfl
theorem ev_brk : fBrk ρ s = .bk ρ s := rfl
theorem ev_cont : fCont ρ s = .ct ρ s := rfl
theorem ev_no : fNo ρ s = .bad := rfl
theorem ev_drumSet1 : fDrumSet i 1 a ρ s = drumA (a ρ s) (getS ρ i) 1 ρ := by
  unfold fDrumSet drumA
  congr 1
  funext x s
  rw [getS_eq]
  cases z : ρ[i]? with
  | none => rfl
  | some u =>
    cases u with
    | d y => cases y <;> try rfl
             cases x <;> rfl
    | own _ => rfl
    | no => rfl
theorem ev_drumSet2 : fDrumSet i 2 a ρ s = drumA (a ρ s) (getS ρ i) 2 ρ := by
  unfold fDrumSet drumA
  congr 1
  funext x s
  rw [getS_eq]
  cases z : ρ[i]? with
  | none => rfl
  | some u =>
    cases u with
    | d y => cases y <;> try rfl
             cases x <;> rfl
    | own _ => rfl
    | no => rfl
theorem ev_drumA : drumA (.ok x s) sl j ρ = drumW sl j ρ x s := rfl
theorem ev_dw1 {ns : List Int} {w : Int} : drumW (.d (.drum ns)) 1 ρ (.int w) s = .nx ρ (w, s.2) := rfl
theorem ev_dw2 {ns : List Int} {w : Int} : drumW (.d (.drum ns)) 2 ρ (.int w) s = .nx ρ (s.1, w) := rfl
theorem ev_for {it : FA} : fFor it g u ρ s = forA (it ρ s) g u ρ := rfl
theorem ev_forA : forA (.ok ds s) g u ρ = forF g u ds ρ s := rfl
theorem ev_forG : forG (some ρ) g u ds s = (u ρ s).loop (forF g u ds) := rfl
theorem ev_whA : whA (.ok t s) tt u ρ = if t = true then (u ρ s).loop (fWhile tt u) else .nx ρ s := rfl
theorem ev_lc {it : FA} {vs : List Nat} : fLcC it g tt te vs ρ s = (lcA (it ρ s) g tt te (wipeD ρ vs)).calm := by
  unfold fLcC fLc
  cases it ρ s with
  | ok ds s =>
    simp only [R.bind_ok, lcA, lstR]
    by_cases h : ds.length ≤ sizeLine
    · simp only [if_pos h]
      cases lcF g tt te (wipeD ρ vs) ds s <;> rfl
    · simp only [if_neg h]; rfl
  | er _ _ => rfl
  | bad => rfl
theorem ev_lcA : lcA (.ok ds s) g tt te ρ = lstR ds.length (lcF g tt te ρ ds s) := rfl
theorem ev_lcE : lcE (.ok y s) g tt te ρ ds = consR y (lcF g tt te ρ ds s) := rfl
theorem ev_lcT : lcT (.ok t s) ρ1 g tt te ρ ds = if t = true then lcE ((te ρ1 s).calm) g tt te ρ ds else lcF g tt te ρ ds s := rfl
theorem ev_lcG : lcG (some ρ1) g tt te ρ ds s = lcT ((tt ρ1 s).calm) ρ1 g tt te ρ ds := rfl
theorem ev_yes : fYes ρ s = .ok true s := rfl
theorem ev_w0 : wipeD ρ [] = ρ := rfl
def wipe1 : SEnv → Nat → SEnv
  | [], _ => []
  | _ :: xs, 0 => .no :: xs
  | x :: xs, n + 1 => x :: wipe1 xs n
theorem wipe1_eq : ∀ (ρ : SEnv) (i : Nat), wipe1 ρ i = ρ.set i .no
  | [], _ => rfl
  | _ :: _, 0 => rfl
  | x :: xs, n + 1 => by simp [wipe1, wipe1_eq xs n]
theorem ev_w1 {w : Nat} {vs : List Nat} : wipeD ρ (w :: vs) = wipe1 (wipeD ρ vs) w := (wipe1_eq _ _).symm
theorem ev_w10 : wipe1 (sl :: ρ) 0 = .no :: ρ := rfl
theorem ev_w1s : wipe1 (sl :: ρ) (i + 1) = sl :: wipe1 ρ i := rfl
theorem ev_setOwn : fSetOwn i r ρ s = ownA (r ρ s) i ρ := by
  unfold fSetOwn ownA
  congr 1
  funext xs s
  rw [setS_eq]
  by_cases h1 : i < ρ.length
  · by_cases h2 : xs.length ≤ sizeLine
    · rw [if_pos ⟨h1, h2⟩, if_pos h2, if_pos h1]; rfl
    · rw [if_neg fun z => h2 z.2, if_neg h2]
  · rw [if_neg fun z => h1 z.1, if_neg h1]
    split <;> rfl
theorem own_in {ρ : SEnv} {i : Nat} {ds : List D} (h : ρ[i]? = some (.own ds)) (d : Slot) : setS ρ i d = some (ρ.set i d) := by
  rw [setS_eq, if_pos (List.getElem?_eq_some_iff.mp h).1]
theorem ev_ownSet {kk : FE} : fOwnSet i kk a ρ s = ownS (getS ρ i) kk a i ρ s := by
  rw [getS_eq]
  unfold fOwnSet
  cases z : ρ[i]? with
  | none => rfl
  | some u =>
    cases u with
    | d _ => rfl
    | no => rfl
    | own ds =>
      show _ = ownV ds (a ρ s) kk i ρ
      unfold ownV ownB
      simp only
      congr 1
      funext x s
      congr 1
      funext y s
      unfold ownI
      cases y <;> try rfl
      rename_i w
      simp only
      cases ixN ds.length w with
      | none => rfl
      | some j => simp only [own_in z]; rfl
theorem ev_ownS {kk : FE} : ownS (.own ds) kk a i ρ s = ownV ds (a ρ s) kk i ρ := rfl
theorem ev_ownV {kk : FE} : ownV ds (.ok x s) kk i ρ = ownB ds x (kk ρ s) i ρ := rfl
theorem ev_ownB : ownB ds x (.ok z s) i ρ = ownI ds x z i ρ s := rfl
theorem ev_free : fFree i u ρ s = freeS (getS ρ i) u i ρ s := by
  rw [getS_eq]
  unfold fFree
  cases z : ρ[i]? with
  | none => rfl
  | some w =>
    cases w with
    | d _ => rfl
    | no => rfl
    | own ds =>
      show _ = (gNx (setS ρ i (.d (.lst ds))) s).then u
      rw [own_in z]
      rfl
theorem ev_freeS : freeS (.own ds) u i ρ s = (gNx (setS ρ i (.d (.lst ds))) s).then u := rfl
--END
theorem ev_forN : forF g u [] ρ s = .nx ρ s := rfl
theorem ev_forC : forF g u (x :: ds) ρ s = forG (g x ρ) g u ds s := by
  unfold forF
  cases g x ρ with
  | none => rfl
  | some ρ1 => simp only [forG]; cases u ρ1 s <;> rfl
theorem ev_while : fWhile ta u ρ s = whA (ta ρ s) ta u ρ := by
  rw [fWhile_eq]
  unfold whStep whA
  congr 1
  funext t s
  cases t with
  | false => rfl
  | true => simp only [if_true]; cases u ρ s <;> rfl
theorem ev_lcN : lcF g tt te ρ [] s = .ok [] s := rfl
theorem ev_lcC : lcF g tt te ρ (x :: ds) s = lcG (g x ρ) g tt te ρ ds s := by
  cases h : g x ρ <;> simp only [lcF, h, lcG, lcT, lcE, consR]
theorem ev_lstR {n : Nat} {ys : List D} (h : n ≤ 20000) : lstR n (.ok ys s) = .ok (.lst ys) s := by
  unfold lstR
  rw [if_pos (by rw [sizeLine_eq]; omega)]
  rfl
end
end DL
/-! HD: what the defs known compute. -/
namespace H
open PySem PySem.Spec L2 DL
noncomputable def b_pick (r : SpF) : FS := (fRet (fBin ixF (fVar 1) (fCall r (fCons (fVar 0) (fCons (fCB lenF (fCons (fVar 1) fNil)) fNil)))))
noncomputable def m_pick (r : SpF) : SpF := fnM 2 2 (b_pick r)
noncomputable def b_sack (n : Int) : FS := (fRet (fLst (fCons (fLcC (fSeqI (fSlice (fVar 0) fNoPart (fPart (fC (.int n))))) (gName 1) fYes (fCB intF (fCons (fVar 1) fNil)) [1]) (fCons (fC (.int 0)) (fCons (fC (.int 0)) fNil)))))
noncomputable def m_sack (n : Int) : SpF := fnM 1 2 (b_sack n)
noncomputable def b_is_integer : FS := (fRet (fAndV (fIsi ["int"] (fVar 0)) (fNotV (fIsi ["bool"] (fVar 0)))))
noncomputable def m_is_integer : SpF := fnM 1 1 b_is_integer
noncomputable def b_is_within : FS := (fSeq (fIf (fNotT (fVal (fCall H.m_is_integer (fCons (fVar 0) fNil)))) (fRet (fC (.bl false))) fNext) (fRet (fAndV (fOrV (fBin isF (fVar 1) (fC .non)) (fBin leF (fVar 1) (fVar 0))) (fOrV (fBin isF (fVar 2) (fC .non)) (fBin leF (fVar 0) (fVar 2))))))
noncomputable def m_is_within : SpF := fnM 3 3 b_is_within
noncomputable def b_is_list : FS := (fRet (fIsi ["list", "tuple"] (fVar 0)))
noncomputable def m_is_list : SpF := fnM 1 1 b_is_list
noncomputable def b_common : FS := (fSeq (fPar 0 1 (fCB absF (fCons (fVar 0) fNil)) (fCB absF (fCons (fVar 1) fNil))) (fSeq (fWhile (fVal (fBin gtF (fVar 1) (fC (.int 0)))) (fPar 0 1 (fVar 1) (fBin modF (fVar 0) (fVar 1)))) (fRet (fVar 0))))
noncomputable def m_common : SpF := fnM 2 2 b_common
noncomputable def b_is_number : FS := (fSeq (fIf (fVal (fCall H.m_is_integer (fCons (fVar 0) fNil))) (fRet (fC (.bl true))) fNext) (fSeq (fIf (fOrT (fNotT (fVal (fCall H.m_is_list (fCons (fVar 0) fNil)))) (fOrT (fVal (fBin neF (fCB lenF (fCons (fVar 0) fNil)) (fC (.int 2)))) (fNotT (fVal (fCall H.m_is_integer (fCons (fBin ixF (fVar 0) (fC (.int 0))) fNil)))))) (fRet (fC (.bl false))) fNext) (fRet (fAndV (fCall H.m_is_within (fCons (fBin ixF (fVar 0) (fC (.int 1))) (fCons (fC (.int 2)) (fCons (fC .non) fNil)))) (fBin eqF (fCall H.m_common (fCons (fBin ixF (fVar 0) (fC (.int 0))) (fCons (fBin ixF (fVar 0) (fC (.int 1))) fNil))) (fC (.int 1)))))))
noncomputable def m_is_number : SpF := fnM 1 1 b_is_number
noncomputable def b_is_point : FS := (fRet (fAndV (fCall H.m_is_list (fCons (fVar 0) fNil)) (fAndV (fBin eqF (fCB lenF (fCons (fVar 0) fNil)) (fC (.int 2))) (fCB allF (fCons (fLcC (fSeqI (fVar 0)) (gName 1) fYes (fCall H.m_is_number (fCons (fVar 1) fNil)) [1]) fNil)))))
noncomputable def m_is_point : SpF := fnM 1 2 b_is_point
noncomputable def b_kept : FS := (fRet (fIfE (fVal (fIsi ["list", "tuple"] (fVar 0))) (fCB tupleF (fCons (fVar 0) fNil)) (fVar 0)))
noncomputable def m_kept : SpF := fnM 1 1 b_kept
noncomputable def b_kept_row : FS := (fRet (fCB tupleF (fCons (fLcC (fSeqI (fVar 0)) (gName 1) fYes (fCall H.m_kept (fCons (fVar 1) fNil)) [1]) fNil)))
noncomputable def m_kept_row : SpF := fnM 1 2 b_kept_row
noncomputable def b_halves : FS := (fRet (fIfE (fVal (fIsi ["int"] (fVar 0))) (fTup (fCons (fVar 0) (fCons (fC (.int 1)) fNil))) (fTup (fCons (fBin ixF (fVar 0) (fC (.int 0))) (fCons (fBin ixF (fVar 0) (fC (.int 1))) fNil)))))
noncomputable def m_halves : SpF := fnM 1 1 b_halves
noncomputable def b_lowest : FS := (fSeq (fSet 2 (fCall H.m_common (fCons (fVar 0) (fCons (fVar 1) fNil)))) (fSeq (fSet 2 (fIfE (fVal (fBin ltF (fVar 1) (fC (.int 0)))) (fUn negF (fVar 2)) (fVar 2))) (fSeq (fPar 0 1 (fBin divF (fVar 0) (fVar 2)) (fBin divF (fVar 1) (fVar 2))) (fRet (fIfE (fVal (fBin eqF (fVar 1) (fC (.int 1)))) (fVar 0) (fTup (fCons (fVar 0) (fCons (fVar 1) fNil))))))))
noncomputable def m_lowest : SpF := fnM 2 3 b_lowest
noncomputable def b_added : FS := (fSeq (fAsg (fTup (fCons (fCall H.m_halves (fCons (fVar 0) fNil)) (fCons (fCall H.m_halves (fCons (fVar 1) fNil)) fNil))) (gTup 2 (gCons (gTup 2 (gCons (gName 2) (gCons (gName 3) gNil))) (gCons (gTup 2 (gCons (gName 4) (gCons (gName 5) gNil))) gNil)))) (fRet (fCall H.m_lowest (fCons (fBin addF (fBin mulF (fVar 2) (fVar 5)) (fBin mulF (fVar 4) (fVar 3))) (fCons (fBin mulF (fVar 3) (fVar 5)) fNil)))))
noncomputable def m_added : SpF := fnM 2 6 b_added
noncomputable def b_turned : FS := (fSeq (fAsg (fCall H.m_halves (fCons (fVar 0) fNil)) (gTup 2 (gCons (gName 1) (gCons (gName 2) gNil)))) (fRet (fIfE (fVal (fBin eqF (fVar 2) (fC (.int 1)))) (fUn negF (fVar 1)) (fTup (fCons (fUn negF (fVar 1)) (fCons (fVar 2) fNil))))))
noncomputable def m_turned : SpF := fnM 1 3 b_turned
noncomputable def b_less_by : FS := (fRet (fCall H.m_added (fCons (fVar 0) (fCons (fCall H.m_turned (fCons (fVar 1) fNil)) fNil))))
noncomputable def m_less_by : SpF := fnM 2 2 b_less_by
noncomputable def b_product : FS := (fSeq (fAsg (fTup (fCons (fCall H.m_halves (fCons (fVar 0) fNil)) (fCons (fCall H.m_halves (fCons (fVar 1) fNil)) fNil))) (gTup 2 (gCons (gTup 2 (gCons (gName 2) (gCons (gName 3) gNil))) (gCons (gTup 2 (gCons (gName 4) (gCons (gName 5) gNil))) gNil)))) (fRet (fCall H.m_lowest (fCons (fBin mulF (fVar 2) (fVar 4)) (fCons (fBin mulF (fVar 3) (fVar 5)) fNil)))))
noncomputable def m_product : SpF := fnM 2 6 b_product
noncomputable def b_part_by : FS := (fSeq (fAsg (fTup (fCons (fCall H.m_halves (fCons (fVar 0) fNil)) (fCons (fCall H.m_halves (fCons (fVar 1) fNil)) fNil))) (gTup 2 (gCons (gTup 2 (gCons (gName 2) (gCons (gName 3) gNil))) (gCons (gTup 2 (gCons (gName 4) (gCons (gName 5) gNil))) gNil)))) (fRet (fCall H.m_lowest (fCons (fBin mulF (fVar 2) (fVar 5)) (fCons (fBin mulF (fVar 3) (fVar 4)) fNil)))))
noncomputable def m_part_by : SpF := fnM 2 6 b_part_by
noncomputable def b_below : FS := (fSeq (fAsg (fTup (fCons (fCall H.m_halves (fCons (fVar 0) fNil)) (fCons (fCall H.m_halves (fCons (fVar 1) fNil)) fNil))) (gTup 2 (gCons (gTup 2 (gCons (gName 2) (gCons (gName 3) gNil))) (gCons (gTup 2 (gCons (gName 4) (gCons (gName 5) gNil))) gNil)))) (fRet (fBin ltF (fBin mulF (fVar 2) (fVar 5)) (fBin mulF (fVar 4) (fVar 3)))))
noncomputable def m_below : SpF := fnM 2 6 b_below
noncomputable def b_total : FS := (fSeq (fSet 1 (fC (.int 0))) (fSeq (fFor (fSeqI (fVar 0)) (gName 2) (fSet 1 (fCall H.m_added (fCons (fVar 1) (fCons (fVar 2) fNil))))) (fRet (fVar 1))))
noncomputable def m_total : SpF := fnM 1 3 b_total
noncomputable def b_summed : FS := (fRet (fCall H.m_total (fCons (fLcC (fZip (fVar 0) (fVar 1)) (gTup 2 (gCons (gName 2) (gCons (gName 3) gNil))) fYes (fCall H.m_product (fCons (fVar 2) (fCons (fVar 3) fNil))) [2, 3]) fNil)))
noncomputable def m_summed : SpF := fnM 2 4 b_summed
noncomputable def b_square : FS := (fRet (fCall H.m_product (fCons (fVar 0) (fCons (fVar 0) fNil))))
noncomputable def m_square : SpF := fnM 1 1 b_square
noncomputable def b_form1 : FS := (fSeq (fPar 2 3 (fCB absF (fCons (fVar 0) fNil)) (fCB absF (fCons (fVar 1) fNil))) (fSeq (fWhile (fVal (fBin gtF (fVar 3) (fC (.int 0)))) (fPar 2 3 (fVar 3) (fBin modF (fCB intF (fCons (fVar 2) fNil)) (fVar 3)))) (fSeq (fPar 0 1 (fBin divF (fVar 0) (fVar 2)) (fBin divF (fVar 1) (fVar 2))) (fSeq (fIf (fVal (fBin eqF (fCB absF (fCons (fVar 1) fNil)) (fC (.int 1)))) (fRet (fIfE (fVal (fBin gtF (fVar 1) (fC (.int 0)))) (fVar 0) (fUn negF (fVar 0)))) fNext) (fRet (fIfE (fVal (fBin gtF (fVar 1) (fC (.int 0)))) (fTup (fCons (fVar 0) (fCons (fVar 1) fNil))) (fTup (fCons (fUn negF (fVar 0)) (fCons (fUn negF (fVar 1)) fNil)))))))))
noncomputable def m_form1 : SpF := fnM 2 4 b_form1
noncomputable def b_reach4 (c1 c2 c3 c4 c5 c6 c7 c8 c9 c10 : Int) : FS := (fSeq (fIf (fVal (fBin gtF (fDrum 0 2) (fC (.int 0)))) (fSeq (fSet 2 (fDrum 0 2)) (fSeq (fDrumSet 0 2 (fBin divF (fCB intF (fCons (fVar 2) fNil)) (fVar 1))) (fRet (fBin modF (fCB intF (fCons (fVar 2) fNil)) (fVar 1))))) fNext) (fSeq (fSet 3 (fDrum 0 1)) (fSeq (fDrumSet 0 1 (fBin addF (fVar 3) (fC (.int 1)))) (fSeq (fSet 4 (fBin addF (fBin mulF (fC (.int c1)) (fVar 3)) (fC (.int c2)))) (fSeq (fIf (fVal (fBin neF (fDrum 0 0) (fLst fNil))) (fSet 4 (fBin ixF (fDrum 0 0) (fBin modF (fCB intF (fCons (fVar 3) fNil)) (fCB lenF (fCons (fDrum 0 0) fNil))))) fNext) (fSeq (fIf (fAndT (fVal (fBin ltF (fVar 3) (fCB lenF (fCons (fDrum 0 0) fNil)))) (fVal (fBin geF (fCB absF (fCons (fVar 4) fNil)) (fBin powF (fC (.int 10)) (fC (.int 18)))))) (fSeq (fSet 2 (fBin addF (fBin mulF (fC (.int 2)) (fBin subF (fCB absF (fCons (fVar 4) fNil)) (fBin powF (fC (.int 10)) (fC (.int 18))))) (fCB intF (fCons (fBin ltF (fVar 4) (fC (.int 0))) fNil)))) (fSeq (fDrumSet 0 2 (fBin divF (fCB intF (fCons (fVar 2) fNil)) (fVar 1))) (fRet (fBin modF (fCB intF (fCons (fVar 2) fNil)) (fVar 1))))) fNext) (fSeq (fSet 5 (fBin modF (fCB intF (fCons (fBin powF (fBin addF (fBin addF (fBin modF (fCB intF (fCons (fVar 4) fNil)) (fC (.int c3))) (fBin mulF (fC (.int c4)) (fVar 3))) (fC (.int c5))) (fC (.int 5))) fNil)) (fC (.int c6)))) (fSeq (fSet 5 (fBin modF (fCB intF (fCons (fBin powF (fBin addF (fBin addF (fBin mulF (fVar 5) (fBin addF (fBin mulF (fC (.int 2)) (fVar 3)) (fC (.int c7)))) (fBin mulF (fBin mulF (fC (.int c8)) (fVar 3)) (fVar 3))) (fC (.int c9))) (fC (.int 3))) fNil)) (fC (.int c10)))) (fRet (fBin modF (fCB intF (fCons (fBin divF (fVar 5) (fC (.int 64))) fNil)) (fVar 1)))))))))))
noncomputable def m_reach4 (c1 c2 c3 c4 c5 c6 c7 c8 c9 c10 : Int) : SpF := fnM 2 6 (b_reach4 c1 c2 c3 c4 c5 c6 c7 c8 c9 c10)
noncomputable def b_row_to : FS := (fRet (fCB tupleF (fCons (fLcC (fZip (fVar 0) (fVar 1)) (gTup 2 (gCons (gName 2) (gCons (gName 3) gNil))) fYes (fCall H.m_less_by (fCons (fVar 3) (fCons (fVar 2) fNil))) [2, 3]) fNil)))
noncomputable def m_row_to : SpF := fnM 2 4 b_row_to
noncomputable def b_gone : FS := (fRet (fCB tupleF (fCons (fLcC (fZip (fVar 0) (fVar 1)) (gTup 2 (gCons (gName 3) (gCons (gName 4) gNil))) fYes (fCall H.m_total (fCons (fLst (fCons (fVar 3) (fCons (fCall H.m_product (fCons (fVar 2) (fCons (fVar 4) fNil))) fNil))) fNil)) [3, 4]) fNil)))
noncomputable def m_gone : SpF := fnM 3 5 b_gone
noncomputable def b_length_square : FS := (fRet (fCall H.m_summed (fCons (fVar 0) (fCons (fVar 0) fNil))))
noncomputable def m_length_square : SpF := fnM 1 1 b_length_square
noncomputable def b_far_square : FS := (fRet (fCall H.m_length_square (fCons (fCall H.m_row_to (fCons (fVar 0) (fCons (fVar 1) fNil))) fNil)))
noncomputable def m_far_square : SpF := fnM 2 2 b_far_square
noncomputable def b_across : FS := (fRet (fCall H.m_less_by (fCons (fCall H.m_product (fCons (fBin ixF (fVar 0) (fC (.int 0))) (fCons (fBin ixF (fVar 1) (fC (.int 1))) fNil))) (fCons (fCall H.m_product (fCons (fBin ixF (fVar 0) (fC (.int 1))) (fCons (fBin ixF (fVar 1) (fC (.int 0))) fNil))) fNil))))
noncomputable def m_across : SpF := fnM 2 2 b_across
noncomputable def b_mirrored_in : FS := (fSeq (fSet 3 (fCall H.m_row_to (fCons (fVar 1) (fCons (fVar 2) fNil)))) (fSeq (fSet 4 (fCall H.m_part_by (fCons (fCall H.m_summed (fCons (fCall H.m_row_to (fCons (fVar 1) (fCons (fVar 0) fNil))) (fCons (fVar 3) fNil))) (fCons (fCall H.m_length_square (fCons (fVar 3) fNil)) fNil)))) (fSeq (fSet 5 (fCall H.m_gone (fCons (fVar 1) (fCons (fVar 3) (fCons (fVar 4) fNil))))) (fRet (fCall H.m_gone (fCons (fVar 0) (fCons (fCall H.m_row_to (fCons (fVar 0) (fCons (fVar 5) fNil))) (fCons (fC (.int 2)) fNil))))))))
noncomputable def m_mirrored_in : SpF := fnM 3 6 b_mirrored_in
noncomputable def b_parallel_corner : FS := (fRet (fCall H.m_gone (fCons (fVar 1) (fCons (fCall H.m_row_to (fCons (fVar 0) (fCons (fVar 2) fNil))) (fCons (fC (.int 1)) fNil)))))
noncomputable def m_parallel_corner : SpF := fnM 3 3 b_parallel_corner
noncomputable def b_is_flat_in : FS := (fRet (fBin eqF (fCall H.m_across (fCons (fCall H.m_row_to (fCons (fVar 0) (fCons (fVar 1) fNil))) (fCons (fCall H.m_row_to (fCons (fVar 0) (fCons (fVar 2) fNil))) fNil))) (fC (.int 0))))
noncomputable def m_is_flat_in : SpF := fnM 3 3 b_is_flat_in
noncomputable def b_corners_in : FS := (fSeq (fSet 3 (fCall H.m_parallel_corner (fCons (fVar 0) (fCons (fVar 1) (fCons (fVar 2) fNil))))) (fRet (fIfE (fVal (fCall H.m_is_flat_in (fCons (fVar 0) (fCons (fVar 1) (fCons (fVar 2) fNil))))) (fTup (fCons (fVar 3) fNil)) (fTup (fCons (fVar 3) (fCons (fCall H.m_mirrored_in (fCons (fVar 3) (fCons (fVar 1) (fCons (fVar 2) fNil)))) fNil))))))
noncomputable def m_corners_in : SpF := fnM 3 4 b_corners_in
noncomputable def b_add1 : FS := (fSeq (fAsg (fTup (fCons (fCall H.m_halves (fCons (fVar 0) fNil)) (fCons (fCall H.m_halves (fCons (fVar 1) fNil)) fNil))) (gTup 2 (gCons (gTup 2 (gCons (gName 2) (gCons (gName 3) gNil))) (gCons (gTup 2 (gCons (gName 4) (gCons (gName 5) gNil))) gNil)))) (fRet (fCall H.m_form1 (fCons (fBin addF (fBin mulF (fVar 2) (fVar 5)) (fBin mulF (fVar 4) (fVar 3))) (fCons (fBin mulF (fVar 3) (fVar 5)) fNil)))))
noncomputable def m_add1 : SpF := fnM 2 6 b_add1
noncomputable def b_less1 : FS := (fSeq (fAsg (fTup (fCons (fCall H.m_halves (fCons (fVar 0) fNil)) (fCons (fCall H.m_halves (fCons (fVar 1) fNil)) fNil))) (gTup 2 (gCons (gTup 2 (gCons (gName 2) (gCons (gName 3) gNil))) (gCons (gTup 2 (gCons (gName 4) (gCons (gName 5) gNil))) gNil)))) (fRet (fCall H.m_form1 (fCons (fBin subF (fBin mulF (fVar 2) (fVar 5)) (fBin mulF (fVar 4) (fVar 3))) (fCons (fBin mulF (fVar 3) (fVar 5)) fNil)))))
noncomputable def m_less1 : SpF := fnM 2 6 b_less1
noncomputable def b_mul1 : FS := (fSeq (fAsg (fTup (fCons (fCall H.m_halves (fCons (fVar 0) fNil)) (fCons (fCall H.m_halves (fCons (fVar 1) fNil)) fNil))) (gTup 2 (gCons (gTup 2 (gCons (gName 2) (gCons (gName 3) gNil))) (gCons (gTup 2 (gCons (gName 4) (gCons (gName 5) gNil))) gNil)))) (fRet (fCall H.m_form1 (fCons (fBin mulF (fVar 2) (fVar 4)) (fCons (fBin mulF (fVar 3) (fVar 5)) fNil)))))
noncomputable def m_mul1 : SpF := fnM 2 6 b_mul1
noncomputable def b_part1 : FS := (fSeq (fAsg (fTup (fCons (fCall H.m_halves (fCons (fVar 0) fNil)) (fCons (fCall H.m_halves (fCons (fVar 1) fNil)) fNil))) (gTup 2 (gCons (gTup 2 (gCons (gName 2) (gCons (gName 3) gNil))) (gCons (gTup 2 (gCons (gName 4) (gCons (gName 5) gNil))) gNil)))) (fRet (fCall H.m_form1 (fCons (fBin mulF (fVar 2) (fVar 5)) (fCons (fBin mulF (fVar 3) (fVar 4)) fNil)))))
noncomputable def m_part1 : SpF := fnM 2 6 b_part1
noncomputable def b_row1 : FS := (fRet (fTup (fCons (fCall H.m_less1 (fCons (fBin ixF (fVar 1) (fC (.int 0))) (fCons (fBin ixF (fVar 0) (fC (.int 0))) fNil))) (fCons (fCall H.m_less1 (fCons (fBin ixF (fVar 1) (fC (.int 1))) (fCons (fBin ixF (fVar 0) (fC (.int 1))) fNil))) fNil))))
noncomputable def m_row1 : SpF := fnM 2 2 b_row1
noncomputable def b_gone1 : FS := (fRet (fTup (fCons (fCall H.m_add1 (fCons (fBin ixF (fVar 0) (fC (.int 0))) (fCons (fCall H.m_mul1 (fCons (fVar 2) (fCons (fBin ixF (fVar 1) (fC (.int 0))) fNil))) fNil))) (fCons (fCall H.m_add1 (fCons (fBin ixF (fVar 0) (fC (.int 1))) (fCons (fCall H.m_mul1 (fCons (fVar 2) (fCons (fBin ixF (fVar 1) (fC (.int 1))) fNil))) fNil))) fNil))))
noncomputable def m_gone1 : SpF := fnM 3 3 b_gone1
noncomputable def b_dot1 : FS := (fRet (fCall H.m_add1 (fCons (fCall H.m_mul1 (fCons (fBin ixF (fVar 0) (fC (.int 0))) (fCons (fBin ixF (fVar 1) (fC (.int 0))) fNil))) (fCons (fCall H.m_mul1 (fCons (fBin ixF (fVar 0) (fC (.int 1))) (fCons (fBin ixF (fVar 1) (fC (.int 1))) fNil))) fNil))))
noncomputable def m_dot1 : SpF := fnM 2 2 b_dot1
noncomputable def b_cross1 : FS := (fRet (fCall H.m_less1 (fCons (fCall H.m_mul1 (fCons (fBin ixF (fVar 0) (fC (.int 0))) (fCons (fBin ixF (fVar 1) (fC (.int 1))) fNil))) (fCons (fCall H.m_mul1 (fCons (fBin ixF (fVar 0) (fC (.int 1))) (fCons (fBin ixF (fVar 1) (fC (.int 0))) fNil))) fNil))))
noncomputable def m_cross1 : SpF := fnM 2 2 b_cross1
noncomputable def b_far1 : FS := (fSeq (fSet 2 (fCall H.m_row1 (fCons (fVar 0) (fCons (fVar 1) fNil)))) (fRet (fCall H.m_dot1 (fCons (fVar 2) (fCons (fVar 2) fNil)))))
noncomputable def m_far1 : SpF := fnM 2 3 b_far1
noncomputable def b_parallel1 : FS := (fRet (fCall H.m_gone1 (fCons (fVar 1) (fCons (fCall H.m_row1 (fCons (fVar 0) (fCons (fVar 2) fNil))) (fCons (fC (.int 1)) fNil)))))
noncomputable def m_parallel1 : SpF := fnM 3 3 b_parallel1
noncomputable def b_is_mirrored1 : FS := (fSeq (fPar 4 5 (fCall H.m_row1 (fCons (fVar 2) (fCons (fVar 3) fNil))) (fCall H.m_gone1 (fCons (fVar 0) (fCons (fCall H.m_row1 (fCons (fVar 0) (fCons (fVar 1) fNil))) (fCons (fTup (fCons (fC (.int 1)) (fCons (fC (.int 2)) fNil))) fNil))))) (fRet (fAndV (fBin eqF (fCall H.m_dot1 (fCons (fVar 4) (fCons (fCall H.m_row1 (fCons (fVar 0) (fCons (fVar 1) fNil))) fNil))) (fC (.int 0))) (fBin eqF (fCall H.m_cross1 (fCons (fVar 4) (fCons (fCall H.m_row1 (fCons (fVar 2) (fCons (fVar 5) fNil))) fNil))) (fC (.int 0))))))
noncomputable def m_is_mirrored1 : SpF := fnM 4 6 b_is_mirrored1
noncomputable def b_need_above : FS := (fSeq (fIf (fOrT (fNotT (fVal (fCall H.m_is_number (fCons (fVar 0) fNil)))) (fVal (fBin leF (fIfE (fVal (fCall H.m_is_list (fCons (fVar 0) fNil))) (fBin ixF (fVar 0) (fC (.int 0))) (fVar 0)) (fC (.int 0))))) fNo fNext) (fRet (fCall H.m_kept (fCons (fVar 0) fNil))))
noncomputable def m_need_above : SpF := fnM 2 2 b_need_above
noncomputable def b_need_point : FS := (fSeq (fIf (fNotT (fVal (fCall H.m_is_point (fCons (fVar 0) fNil)))) fNo fNext) (fRet (fCall H.m_kept_row (fCons (fVar 0) fNil))))
noncomputable def m_need_point : SpF := fnM 2 2 b_need_point
noncomputable def b_need_points : FS := (fRet (fLcC (fZip (fVar 0) (fVar 1)) (gTup 2 (gCons (gName 2) (gCons (gName 3) gNil))) fYes (fCall H.m_need_point (fCons (fVar 2) (fCons (fVar 3) fNil))) [2, 3]))
noncomputable def m_need_points : SpF := fnM 2 4 b_need_points
noncomputable def b_need_lengths : FS := (fIf (fNotT (fVal (fCall H.m_below (fCons (fVar 0) (fCons (fVar 1) fNil))))) fNo fNext)
noncomputable def m_need_lengths : SpF := fnM 2 2 b_need_lengths
noncomputable def b_need_frame : FS := (fSeq (fSet 5 (fCall H.m_need_points (fCons (fLst (fCons (fVar 2) (fCons (fVar 3) (fCons (fVar 4) fNil)))) (fCons (fLst (fCons (fC (.str "o")) (fCons (fC (.str "a")) (fCons (fC (.str "b")) fNil)))) fNil)))) (fSeq (fDrop (fCall H.m_need_lengths (fCons (fVar 0) (fCons (fVar 1) fNil)))) (fSeq (fIf (fOrT (fVal (fBin neF (fCall H.m_far_square (fCons (fBin ixF (fVar 5) (fC (.int 0))) (fCons (fBin ixF (fVar 5) (fC (.int 1))) fNil))) (fCall H.m_square (fCons (fVar 0) fNil)))) (fVal (fBin neF (fCall H.m_far_square (fCons (fBin ixF (fVar 5) (fC (.int 0))) (fCons (fBin ixF (fVar 5) (fC (.int 2))) fNil))) (fCall H.m_square (fCons (fVar 1) fNil))))) fNo fNext) (fRet (fVar 5)))))
noncomputable def m_need_frame : SpF := fnM 5 6 b_need_frame
noncomputable def b_mirrored : FS := (fSeq (fAsg (fCall H.m_need_points (fCons (fLst (fCons (fVar 0) (fCons (fVar 1) (fCons (fVar 2) fNil)))) (fCons (fLst (fCons (fC (.str "point")) (fCons (fC (.str "one")) (fCons (fC (.str "other")) fNil)))) fNil))) (gTup 3 (gCons (gName 3) (gCons (gName 4) (gCons (gName 5) gNil))))) (fSeq (fIf (fVal (fBin eqF (fVar 4) (fVar 5))) fNo fNext) (fRet (fCall H.m_mirrored_in (fCons (fVar 3) (fCons (fVar 4) (fCons (fVar 5) fNil)))))))
noncomputable def m_mirrored : SpF := fnM 3 6 b_mirrored
noncomputable def b_corners : FS := (fSeq (fSet 5 (fCall H.m_need_above (fCons (fVar 0) (fCons (fC (.str "s")) fNil)))) (fSeq (fAsg (fCall H.m_need_frame (fCons (fVar 5) (fCons (fCall H.m_need_above (fCons (fVar 1) (fCons (fC (.str "t")) fNil))) (fCons (fVar 2) (fCons (fVar 3) (fCons (fVar 4) fNil)))))) (gTup 3 (gCons (gName 6) (gCons (gName 7) (gCons (gName 8) gNil))))) (fRet (fCall H.m_corners_in (fCons (fVar 6) (fCons (fVar 7) (fCons (fVar 8) fNil)))))))
noncomputable def m_corners : SpF := fnM 5 9 b_corners
noncomputable def b_is_flat : FS := (fSeq (fSet 3 (fCall H.m_need_points (fCons (fLst (fCons (fVar 0) (fCons (fVar 1) (fCons (fVar 2) fNil)))) (fCons (fLst (fCons (fC (.str "o")) (fCons (fC (.str "a")) (fCons (fC (.str "b")) fNil)))) fNil)))) (fSeq (fIf (fVal (fBin eqF (fBin ixF (fVar 3) (fC (.int 0))) (fBin ixF (fVar 3) (fC (.int 2))))) fNo fNext) (fRet (fCall H.m_is_flat_in (fCons (fBin ixF (fVar 3) (fC (.int 0))) (fCons (fBin ixF (fVar 3) (fC (.int 1))) (fCons (fBin ixF (fVar 3) (fC (.int 2))) fNil)))))))
noncomputable def m_is_flat : SpF := fnM 3 4 b_is_flat
noncomputable def b_number33 (r : SpF) : FS := (fRet (fCall H.m_form1 (fCons (fBin subF (fCall r (fCons (fVar 0) (fCons (fC (.int 13)) fNil))) (fC (.int 6))) (fCons (fCall (H.m_pick r) (fCons (fVar 0) (fCons (fLst (fCons (fC (.int 1)) (fCons (fC (.int 1)) (fCons (fC (.int 2)) (fCons (fC (.int 3)) (fCons (fC (.int 5)) fNil)))))) fNil))) fNil))))
noncomputable def m_number33 (r : SpF) : SpF := fnM 1 1 (b_number33 r)
noncomputable def b_point33 (r : SpF) : FS := (fRet (fTup (fCons (fCall (H.m_number33 r) (fCons (fVar 0) fNil)) (fCons (fCall (H.m_number33 r) (fCons (fVar 0) fNil)) fNil))))
noncomputable def m_point33 (r : SpF) : SpF := fnM 1 1 (b_point33 r)
noncomputable def b_turn33 (r : SpF) : FS := (fSeq (fIf (fVal (fBin eqF (fCall r (fCons (fVar 0) (fCons (fC (.int 6)) fNil))) (fC (.int 0)))) (fRet (fCall (H.m_pick r) (fCons (fVar 0) (fCons (fLst (fCons (fTup (fCons (fC (.int 1)) (fCons (fC (.int 0)) fNil))) (fCons (fTup (fCons (fUn negF (fC (.int 1))) (fCons (fC (.int 0)) fNil))) (fCons (fTup (fCons (fC (.int 0)) (fCons (fC (.int 1)) fNil))) (fCons (fTup (fCons (fC (.int 0)) (fCons (fUn negF (fC (.int 1))) fNil))) fNil))))) fNil)))) fNext) (fSeq (fSet 1 (fCall (H.m_number33 r) (fCons (fVar 0) fNil))) (fSeq (fSet 2 (fCall H.m_add1 (fCons (fC (.int 1)) (fCons (fCall H.m_mul1 (fCons (fVar 1) (fCons (fVar 1) fNil))) fNil)))) (fRet (fTup (fCons (fCall H.m_part1 (fCons (fCall H.m_less1 (fCons (fC (.int 1)) (fCons (fCall H.m_mul1 (fCons (fVar 1) (fCons (fVar 1) fNil))) fNil))) (fCons (fVar 2) fNil))) (fCons (fCall H.m_part1 (fCons (fCall H.m_mul1 (fCons (fC (.int 2)) (fCons (fVar 1) fNil))) (fCons (fVar 2) fNil))) fNil)))))))
noncomputable def m_turn33 (r : SpF) : SpF := fnM 1 3 (b_turn33 r)
noncomputable def b_opening33 (r : SpF) : FS := (fSeq (fSet 1 (fCall H.m_form1 (fCons (fBin addF (fC (.int 1)) (fCall r (fCons (fVar 0) (fCons (fC (.int 6)) fNil)))) (fCons (fCall (H.m_pick r) (fCons (fVar 0) (fCons (fLst (fCons (fC (.int 1)) (fCons (fC (.int 1)) (fCons (fC (.int 2)) (fCons (fC (.int 3)) fNil))))) fNil))) fNil)))) (fSeq (fSet 2 (fCall H.m_add1 (fCons (fVar 1) (fCons (fCall H.m_form1 (fCons (fBin addF (fC (.int 1)) (fCall r (fCons (fVar 0) (fCons (fC (.int 6)) fNil)))) (fCons (fCall (H.m_pick r) (fCons (fVar 0) (fCons (fLst (fCons (fC (.int 1)) (fCons (fC (.int 2)) (fCons (fC (.int 4)) (fCons (fC (.int 3)) fNil))))) fNil))) fNil))) fNil)))) (fSeq (fPar3 3 4 5 (fCall (H.m_pick r) (fCons (fVar 0) (fCons (fLst (fCons (fTup (fCons (fC (.int 0)) (fCons (fC (.int 0)) fNil))) (fCons (fCall (H.m_point33 r) (fCons (fVar 0) fNil)) fNil))) fNil))) (fCall (H.m_turn33 r) (fCons (fVar 0) fNil)) (fCall (H.m_turn33 r) (fCons (fVar 0) fNil))) (fSeq (fIf (fVal (fBin eqF (fCall r (fCons (fVar 0) (fCons (fC (.int 5)) fNil))) (fC (.int 0)))) (fSet 5 (fCall (H.m_pick r) (fCons (fVar 0) (fCons (fLst (fCons (fVar 4) (fCons (fTup (fCons (fCall H.m_mul1 (fCons (fUn negF (fC (.int 1))) (fCons (fBin ixF (fVar 4) (fC (.int 0))) fNil))) (fCons (fCall H.m_mul1 (fCons (fUn negF (fC (.int 1))) (fCons (fBin ixF (fVar 4) (fC (.int 1))) fNil))) fNil))) fNil))) fNil)))) fNext) (fRet (fTup (fCons (fVar 1) (fCons (fVar 2) (fCons (fVar 3) (fCons (fCall H.m_gone1 (fCons (fVar 3) (fCons (fVar 4) (fCons (fVar 1) fNil)))) (fCons (fCall H.m_gone1 (fCons (fVar 3) (fCons (fVar 5) (fCons (fVar 2) fNil)))) fNil)))))))))))
noncomputable def m_opening33 (r : SpF) : SpF := fnM 1 6 (b_opening33 r)
noncomputable def b_listed33 (r : SpF) : FS := (fRet (fIfE (fVal (fBin eqF (fCall r (fCons (fVar 0) (fCons (fC (.int 2)) fNil))) (fC (.int 0)))) (fVar 1) (fLcC (fSeqI (fVar 1)) (gName 2) fYes (fIfE (fVal (fIsi ["tuple"] (fVar 2))) (fCB listF (fCons (fVar 2) fNil)) (fVar 2)) [2])))
noncomputable def m_listed33 (r : SpF) : SpF := fnM 2 3 (b_listed33 r)
noncomputable def b_halfway : FS := (fRet (fCall H.m_gone (fCons (fVar 0) (fCons (fCall H.m_row_to (fCons (fVar 0) (fCons (fVar 1) fNil))) (fCons (fC (.tup [(.int 1), (.int 2)])) fNil)))))
noncomputable def m_halfway : SpF := fnM 2 2 b_halfway
noncomputable def b_midpoints_in : FS := (fRet (fTup (fCons (fCall H.m_halfway (fCons (fVar 0) (fCons (fVar 1) fNil))) (fCons (fCall H.m_halfway (fCons (fVar 1) (fCons (fVar 2) fNil))) (fCons (fCall H.m_halfway (fCons (fVar 2) (fCons (fVar 3) fNil))) (fCons (fCall H.m_halfway (fCons (fVar 3) (fCons (fVar 0) fNil))) fNil))))))
noncomputable def m_midpoints_in : SpF := fnM 4 4 b_midpoints_in
noncomputable def b_midpoints : FS := (fSeq (fSet 4 (fCall H.m_need_points (fCons (fLst (fCons (fVar 0) (fCons (fVar 1) (fCons (fVar 2) (fCons (fVar 3) fNil))))) (fCons (fLst (fCons (fC (.str "o")) (fCons (fC (.str "a")) (fCons (fC (.str "c")) (fCons (fC (.str "b")) fNil))))) fNil)))) (fRet (fCall H.m_midpoints_in (fCons (fBin ixF (fVar 4) (fC (.int 0))) (fCons (fBin ixF (fVar 4) (fC (.int 1))) (fCons (fBin ixF (fVar 4) (fC (.int 2))) (fCons (fBin ixF (fVar 4) (fC (.int 3))) fNil)))))))
noncomputable def m_midpoints : SpF := fnM 4 5 b_midpoints
noncomputable def b_spread_in : FS := (fSeq (fAsg (fVar 0) (gTup 4 (gCons (gName 1) (gCons (gName 2) (gCons (gName 3) (gCons (gName 4) gNil)))))) (fRet (fTup (fCons (fCall H.m_part_by (fCons (fCall H.m_far_square (fCons (fVar 1) (fCons (fVar 3) fNil))) (fCons (fC (.int 4)) fNil))) (fCons (fCall H.m_part_by (fCons (fCall H.m_far_square (fCons (fVar 2) (fCons (fVar 4) fNil))) (fCons (fC (.int 4)) fNil))) fNil)))))
noncomputable def m_spread_in : SpF := fnM 1 5 b_spread_in
noncomputable def b_spread : FS := (fRet (fCall H.m_spread_in (fCons (fCall H.m_midpoints (fCons (fVar 0) (fCons (fVar 1) (fCons (fVar 2) (fCons (fVar 3) fNil))))) fNil)))
noncomputable def m_spread : SpF := fnM 4 4 b_spread
noncomputable def b_half34 : FS := (fRet (fTup (fCons (fCall H.m_part1 (fCons (fCall H.m_add1 (fCons (fBin ixF (fVar 0) (fC (.int 0))) (fCons (fBin ixF (fVar 1) (fC (.int 0))) fNil))) (fCons (fC (.int 2)) fNil))) (fCons (fCall H.m_part1 (fCons (fCall H.m_add1 (fCons (fBin ixF (fVar 0) (fC (.int 1))) (fCons (fBin ixF (fVar 1) (fC (.int 1))) fNil))) (fCons (fC (.int 2)) fNil))) fNil))))
noncomputable def m_half34 : SpF := fnM 2 2 b_half34
noncomputable def b_points_right34 : FS := (fSeq (fSet 4 (fTup (fCons (fCall H.m_half34 (fCons (fVar 0) (fCons (fVar 1) fNil))) (fCons (fCall H.m_half34 (fCons (fVar 1) (fCons (fVar 2) fNil))) (fCons (fCall H.m_half34 (fCons (fVar 2) (fCons (fVar 3) fNil))) (fCons (fCall H.m_half34 (fCons (fVar 3) (fCons (fVar 0) fNil))) fNil)))))) (fSeq (fPar 5 6 (fCall H.m_part1 (fCons (fCall H.m_far1 (fCons (fBin ixF (fVar 4) (fC (.int 0))) (fCons (fBin ixF (fVar 4) (fC (.int 2))) fNil))) (fCons (fC (.int 4)) fNil))) (fCall H.m_part1 (fCons (fCall H.m_far1 (fCons (fBin ixF (fVar 4) (fC (.int 1))) (fCons (fBin ixF (fVar 4) (fC (.int 3))) fNil))) (fCons (fC (.int 4)) fNil)))) (fSeq (fSet 7 (fLst (fCons (fCall H.m_midpoints (fCons (fVar 0) (fCons (fVar 1) (fCons (fVar 2) (fCons (fVar 3) fNil))))) (fCons (fCallK H.m_midpoints (pickK 0 4 [3, 2, 1, 0]) fNil (fCons (fCB listF (fCons (fVar 3) fNil)) (fCons (fVar 2) (fCons (fCB listF (fCons (fVar 1) fNil)) (fCons (fVar 0) fNil))))) (fCons (fCall H.m_spread (fCons (fVar 0) (fCons (fVar 1) (fCons (fVar 2) (fCons (fVar 3) fNil))))) (fCons (fCallK H.m_spread (pickK 0 4 [3, 2, 1, 0]) fNil (fCons (fVar 3) (fCons (fCB listF (fCons (fVar 2) fNil)) (fCons (fVar 1) (fCons (fCB listF (fCons (fVar 0) fNil)) fNil))))) fNil)))))) (fRet (fIfE (fVal (fBin eqF (fCB reprF (fCons (fVar 7) fNil)) (fCB reprF (fCons (fLst (fCons (fVar 4) (fCons (fVar 4) (fCons (fTup (fCons (fVar 5) (fCons (fVar 6) fNil))) (fCons (fTup (fCons (fVar 5) (fCons (fVar 6) fNil))) fNil))))) fNil)))) (fTup (fCons (fVar 4) (fCons (fVar 5) (fCons (fVar 6) fNil)))) (fC .non))))))
noncomputable def m_points_right34 : SpF := fnM 4 8 b_points_right34
noncomputable def b_reach5 (c1 c2 c3 c4 c5 c6 c7 c8 c9 c10 : Int) : FS := (fSeq (fIf (fVal (fBin gtF (fDrum 0 2) (fC (.int 0)))) (fSeq (fSet 2 (fCB intF (fCons (fDrum 0 2) fNil))) (fSeq (fDrumSet 0 2 (fBin divF (fVar 2) (fVar 1))) (fRet (fBin modF (fCB intF (fCons (fVar 2) fNil)) (fVar 1))))) fNext) (fSeq (fSet 3 (fDrum 0 1)) (fSeq (fDrumSet 0 1 (fBin addF (fVar 3) (fC (.int 1)))) (fSeq (fSet 4 (fBin addF (fBin mulF (fC (.int c1)) (fVar 3)) (fC (.int c2)))) (fSeq (fIf (fVal (fBin neF (fDrum 0 0) (fLst fNil))) (fSet 4 (fBin ixF (fDrum 0 0) (fBin modF (fCB intF (fCons (fVar 3) fNil)) (fCB lenF (fCons (fDrum 0 0) fNil))))) fNext) (fSeq (fIf (fAndT (fVal (fBin ltF (fVar 3) (fCB lenF (fCons (fDrum 0 0) fNil)))) (fVal (fBin geF (fCB absF (fCons (fVar 4) fNil)) (fBin powF (fC (.int 10)) (fC (.int 18)))))) (fSeq (fSet 2 (fBin addF (fBin mulF (fC (.int 2)) (fBin subF (fCB absF (fCons (fVar 4) fNil)) (fBin powF (fC (.int 10)) (fC (.int 18))))) (fCB intF (fCons (fBin ltF (fVar 4) (fC (.int 0))) fNil)))) (fSeq (fDrumSet 0 2 (fBin divF (fVar 2) (fVar 1))) (fRet (fBin modF (fCB intF (fCons (fVar 2) fNil)) (fVar 1))))) fNext) (fSeq (fSet 5 (fBin modF (fCB intF (fCons (fBin powF (fBin addF (fBin addF (fBin modF (fCB intF (fCons (fVar 4) fNil)) (fC (.int c3))) (fBin mulF (fC (.int c4)) (fVar 3))) (fC (.int c5))) (fC (.int 5))) fNil)) (fC (.int c6)))) (fSeq (fSet 5 (fBin modF (fCB intF (fCons (fBin powF (fBin addF (fBin addF (fBin mulF (fVar 5) (fBin addF (fBin mulF (fC (.int 2)) (fVar 3)) (fC (.int c7)))) (fBin mulF (fBin mulF (fC (.int c8)) (fVar 3)) (fVar 3))) (fC (.int c9))) (fC (.int 3))) fNil)) (fC (.int c10)))) (fRet (fBin modF (fCB intF (fCons (fBin divF (fVar 5) (fC (.int 64))) fNil)) (fVar 1)))))))))))
noncomputable def m_reach5 (c1 c2 c3 c4 c5 c6 c7 c8 c9 c10 : Int) : SpF := fnM 2 6 (b_reach5 c1 c2 c3 c4 c5 c6 c7 c8 c9 c10)
noncomputable def b_reach26 (c1 c2 c3 c4 c5 c6 c7 c8 c9 c10 : Int) : FS := (fSeq (fIf (fVal (fBin gtF (fDrum 0 2) (fC (.int 0)))) (fSeq (fSet 2 (fCB intF (fCons (fDrum 0 2) fNil))) (fSeq (fDrumSet 0 2 (fBin divF (fVar 2) (fVar 1))) (fRet (fBin modF (fCB intF (fCons (fVar 2) fNil)) (fVar 1))))) fNext) (fSeq (fSet 3 (fDrum 0 1)) (fSeq (fDrumSet 0 1 (fBin addF (fVar 3) (fC (.int 1)))) (fSeq (fSet 4 (fBin addF (fBin mulF (fC (.int c1)) (fVar 3)) (fC (.int c2)))) (fSeq (fIf (fVal (fBin neF (fDrum 0 0) (fLst fNil))) (fSet 4 (fBin ixF (fDrum 0 0) (fBin modF (fCB intF (fCons (fVar 3) fNil)) (fCB lenF (fCons (fDrum 0 0) fNil))))) fNext) (fSeq (fIf (fAndT (fVal (fBin ltF (fVar 3) (fCB lenF (fCons (fDrum 0 0) fNil)))) (fVal (fBin geF (fCB absF (fCons (fVar 4) fNil)) (fBin powF (fC (.int 10)) (fC (.int 18)))))) (fSeq (fSet 2 (fBin addF (fBin mulF (fC (.int 2)) (fBin subF (fCB absF (fCons (fCB intF (fCons (fVar 4) fNil)) fNil)) (fBin powF (fC (.int 10)) (fC (.int 18))))) (fCB intF (fCons (fBin ltF (fVar 4) (fC (.int 0))) fNil)))) (fSeq (fDrumSet 0 2 (fBin divF (fVar 2) (fVar 1))) (fRet (fBin modF (fCB intF (fCons (fVar 2) fNil)) (fVar 1))))) fNext) (fSeq (fSet 5 (fBin modF (fCB intF (fCons (fBin powF (fBin addF (fBin addF (fBin modF (fCB intF (fCons (fVar 4) fNil)) (fC (.int c3))) (fBin mulF (fC (.int c4)) (fVar 3))) (fC (.int c5))) (fC (.int 5))) fNil)) (fC (.int c6)))) (fSeq (fSet 5 (fBin modF (fCB intF (fCons (fBin powF (fBin addF (fBin addF (fBin mulF (fVar 5) (fBin addF (fBin mulF (fC (.int 2)) (fVar 3)) (fC (.int c7)))) (fBin mulF (fBin mulF (fC (.int c8)) (fVar 3)) (fVar 3))) (fC (.int c9))) (fC (.int 3))) fNil)) (fC (.int c10)))) (fRet (fBin modF (fCB intF (fCons (fBin divF (fVar 5) (fC (.int 64))) fNil)) (fVar 1)))))))))))
noncomputable def m_reach26 (c1 c2 c3 c4 c5 c6 c7 c8 c9 c10 : Int) : SpF := fnM 2 6 (b_reach26 c1 c2 c3 c4 c5 c6 c7 c8 c9 c10)
noncomputable def b_reach10 (c1 c2 c3 c4 c5 c6 c7 c8 c9 c10 : Int) : FS := (fSeq (fIf (fVal (fBin gtF (fDrum 0 2) (fC (.int 0)))) (fSeq (fSet 2 (fCB intF (fCons (fDrum 0 2) fNil))) (fSeq (fDrumSet 0 2 (fBin divF (fVar 2) (fVar 1))) (fRet (fBin modF (fCB intF (fCons (fVar 2) fNil)) (fVar 1))))) fNext) (fSeq (fSet 3 (fDrum 0 1)) (fSeq (fDrumSet 0 1 (fBin addF (fVar 3) (fC (.int 1)))) (fSeq (fSet 4 (fBin addF (fBin mulF (fC (.int c1)) (fVar 3)) (fC (.int c2)))) (fSeq (fIf (fVal (fBin neF (fDrum 0 0) (fLst fNil))) (fSet 4 (fBin ixF (fDrum 0 0) (fBin modF (fCB intF (fCons (fVar 3) fNil)) (fCB lenF (fCons (fDrum 0 0) fNil))))) fNext) (fSeq (fIf (fAndT (fVal (fBin ltF (fVar 3) (fCB lenF (fCons (fDrum 0 0) fNil)))) (fVal (fBin geF (fCB absF (fCons (fVar 4) fNil)) (fBin powF (fC (.int 10)) (fC (.int 18)))))) (fSeq (fSet 2 (fBin addF (fBin mulF (fC (.int 2)) (fBin subF (fCB absF (fCons (fVar 4) fNil)) (fBin powF (fC (.int 10)) (fC (.int 18))))) (fCB intF (fCons (fBin ltF (fVar 4) (fC (.int 0))) fNil)))) (fSeq (fDrumSet 0 2 (fBin divF (fCB intF (fCons (fVar 2) fNil)) (fVar 1))) (fRet (fBin modF (fCB intF (fCons (fVar 2) fNil)) (fVar 1))))) fNext) (fSeq (fSet 5 (fBin modF (fCB intF (fCons (fBin powF (fBin addF (fBin addF (fBin modF (fCB intF (fCons (fVar 4) fNil)) (fC (.int c3))) (fBin mulF (fC (.int c4)) (fVar 3))) (fC (.int c5))) (fC (.int 5))) fNil)) (fC (.int c6)))) (fSeq (fSet 5 (fBin modF (fCB intF (fCons (fBin powF (fBin addF (fBin addF (fBin mulF (fVar 5) (fBin addF (fBin mulF (fC (.int 2)) (fVar 3)) (fC (.int c7)))) (fBin mulF (fBin mulF (fC (.int c8)) (fVar 3)) (fVar 3))) (fC (.int c9))) (fC (.int 3))) fNil)) (fC (.int c10)))) (fRet (fBin modF (fCB intF (fCons (fBin divF (fVar 5) (fC (.int 64))) fNil)) (fVar 1)))))))))))
noncomputable def m_reach10 (c1 c2 c3 c4 c5 c6 c7 c8 c9 c10 : Int) : SpF := fnM 2 6 (b_reach10 c1 c2 c3 c4 c5 c6 c7 c8 c9 c10)
end H
/-! G2: numbers in their one form are rationals. -/
namespace DL
open PySem PySem.Spec L2 H
/-! more rules for simp -/
section
variable {x y z u v w : D} {ds es : List D} {i j : Int} {s : Sd}
theorem ev_addI : addF (.int i) (.int j) = some (.int (i + j)) := rfl
theorem ev_subI : subF (.int i) (.int j) = some (.int (i - j)) := rfl
theorem ev_mulI : mulF (.int i) (.int j) = if MulOk i j then some (.int (i * j)) else none := rfl
theorem ev_divI : divF (.int i) (.int j) = if DivOk j then some (.int (i.fdiv j)) else none := rfl
theorem ev_negI : negF (.int i) = some (.int (-i)) := rfl
theorem ev_ltI : ltF (.int i) (.int j) = some (.bl (decide (i < j))) := rfl
theorem ev_leI : leF (.int i) (.int j) = some (.bl (decide (i ≤ j))) := rfl
theorem ev_gtI : gtF (.int i) (.int j) = some (.bl (decide (j < i))) := rfl
theorem ev_geI : geF (.int i) (.int j) = some (.bl (decide (j ≤ i))) := rfl
theorem eqI (i j : Int) : D.eq (.int i) (.int j) = decide (i = j) := by
  show (i == j) = _
  exact Bool.beq_eq_decide_eq ..
theorem ev_eqI : eqF (.int i) (.int j) = some (.bl (decide (i = j))) := by
  unfold eqF; rw [if_pos ⟨rfl, rfl⟩, eqI]
theorem ev_neI : neF (.int i) (.int j) = some (.bl (!decide (i = j))) := by
  unfold neF; rw [if_pos ⟨rfl, rfl⟩, eqI]
theorem ev_len0L : lenF [.lst []] = some (.int 0) := rfl
theorem ev_len1L : lenF [.lst [x]] = some (.int 1) := rfl
theorem ev_len2L : lenF [.lst [x, y]] = some (.int 2) := rfl
theorem ev_len3L : lenF [.lst [x, y, z]] = some (.int 3) := rfl
theorem ev_len4L : lenF [.lst [x, y, z, u]] = some (.int 4) := rfl
theorem ev_len5L : lenF [.lst [x, y, z, u, v]] = some (.int 5) := rfl
theorem ev_len0T : lenF [.tup []] = some (.int 0) := rfl
theorem ev_len1T : lenF [.tup [x]] = some (.int 1) := rfl
theorem ev_len2T : lenF [.tup [x, y]] = some (.int 2) := rfl
theorem ev_len3T : lenF [.tup [x, y, z]] = some (.int 3) := rfl
theorem ev_len4T : lenF [.tup [x, y, z, u]] = some (.int 4) := rfl
theorem ev_absI : absF [.int i] = some (.int (if i < 0 then -i else i)) := rfl
theorem ev_intI : intF [.int i] = some (.int i) := rfl
theorem ev_intT : intF [.bl true] = some (.int 1) := rfl
theorem ev_intF : intF [.bl false] = some (.int 0) := rfl
theorem ev_tupL : tupleF [.lst ds] = some (.tup ds) := rfl
theorem ev_tupT : tupleF [.tup ds] = some (.tup ds) := rfl
theorem ev_lstL : listF [.lst ds] = some (.lst ds) := rfl
theorem ev_lstT : listF [.tup ds] = some (.lst ds) := rfl
theorem ev_ix0T : ixF (.tup (x :: ds)) (.int 0) = some x := by
  show atI (x :: ds) ((0 : Nat) : Int) = _
  exact atI_nat rfl
theorem ev_ix1T : ixF (.tup (x :: y :: ds)) (.int 1) = some y := by
  show atI (x :: y :: ds) ((1 : Nat) : Int) = _
  exact atI_nat rfl
theorem ev_ix2T : ixF (.tup (x :: y :: z :: ds)) (.int 2) = some z := by
  show atI (x :: y :: z :: ds) ((2 : Nat) : Int) = _
  exact atI_nat rfl
theorem ev_ix3T : ixF (.tup (x :: y :: z :: u :: ds)) (.int 3) = some u := by
  show atI (x :: y :: z :: u :: ds) ((3 : Nat) : Int) = _
  exact atI_nat rfl
theorem ev_ix0L : ixF (.lst (x :: ds)) (.int 0) = some x := by
  show atI (x :: ds) ((0 : Nat) : Int) = _
  exact atI_nat rfl
theorem ev_ix1L : ixF (.lst (x :: y :: ds)) (.int 1) = some y := by
  show atI (x :: y :: ds) ((1 : Nat) : Int) = _
  exact atI_nat rfl
theorem ev_ix2L : ixF (.lst (x :: y :: z :: ds)) (.int 2) = some z := by
  show atI (x :: y :: z :: ds) ((2 : Nat) : Int) = _
  exact atI_nat rfl
theorem ev_ix3L : ixF (.lst (x :: y :: z :: u :: ds)) (.int 3) = some u := by
  show atI (x :: y :: z :: u :: ds) ((3 : Nat) : Int) = _
  exact atI_nat rfl
theorem ev_dI : (D.int i).isData = true := rfl
theorem ev_dT : (D.tup ds).isData = true := rfl
theorem ev_dL : (D.lst ds).isData = true := rfl
theorem ev_dB {b : Bool} : (D.bl b).isData = true := rfl
theorem ev_dN : (D.non).isData = true := rfl
theorem ev_dS {t : Str} : (D.str t).isData = true := rfl
theorem isa_I : (D.int i).isa ["int"] = true ∧ (D.int i).isa ["bool"] = false ∧ (D.int i).isa ["list", "tuple"] = false ∧ (D.int i).isa ["tuple"] = false ∧ (D.int i).isa ["list"] = false ∧ (D.int i).isa ["str"] = false := ⟨rfl, rfl, rfl, rfl, rfl, rfl⟩
theorem ev_iII : (D.int i).isa ["int"] = true := rfl
theorem ev_iIB : (D.int i).isa ["bool"] = false := rfl
theorem ev_iIL : (D.int i).isa ["list", "tuple"] = false := rfl
theorem ev_iIT : (D.int i).isa ["tuple"] = false := rfl
theorem ev_iTI : (D.tup ds).isa ["int"] = false := rfl
theorem ev_iTB : (D.tup ds).isa ["bool"] = false := rfl
theorem ev_iTL : (D.tup ds).isa ["list", "tuple"] = true := rfl
theorem ev_iTT : (D.tup ds).isa ["tuple"] = true := rfl
theorem ev_iLI : (D.lst ds).isa ["int"] = false := rfl
theorem ev_iLB : (D.lst ds).isa ["bool"] = false := rfl
theorem ev_iLL : (D.lst ds).isa ["list", "tuple"] = true := rfl
theorem ev_iLT : (D.lst ds).isa ["tuple"] = false := rfl
theorem ev_isN : isF x .non = some (.bl x.isN) := by cases x <;> rfl
theorem ev_isntN : isntF x .non = some (.bl (!x.isN)) := by cases x <;> rfl
theorem ev_isB {b c : Bool} : isF (.bl b) (.bl c) = some (.bl (decide (b = c))) := rfl
theorem ev_isntB {b c : Bool} : isntF (.bl b) (.bl c) = some (.bl (!decide (b = c))) := rfl
theorem ev_nN : D.isN .non = true := rfl
theorem ev_nI : D.isN (.int i) = false := rfl
theorem ev_nT : D.isN (.tup ds) = false := rfl
theorem ev_nL : D.isN (.lst ds) = false := rfl
theorem ev_all : allF [.lst ds] = (D.bools ds).map fun bs => .bl (bs.all fun b => b) := rfl
theorem ev_any : anyF [.lst ds] = (D.bools ds).map fun bs => .bl (bs.any fun b => b) := rfl
theorem ev_bools0 : D.bools [] = some [] := rfl
theorem ev_bools1 {b : Bool} : D.bools (.bl b :: ds) = (D.bools ds).map (b :: ·) := rfl
end
def EV := And.intro @ev_g0 (And.intro @ev_gs (And.intro @ev_s0 (And.intro @ev_ss (And.intro @ev_co (And.intro @ev_slot (And.intro @ev_optS (And.intro @ev_optN (And.intro @ev_calm (And.intro @ev_tnx (And.intro @ev_trt (And.intro @ev_tbk (And.intro @ev_tct (And.intro @ev_lnx (And.intro @ev_lct (And.intro @ev_lbk (And.intro @ev_lrt (And.intro @ev_fnx (And.intro @ev_frt (And.intro @ev_var (And.intro @ev_c (And.intro @ev_bin (And.intro @ev_binA (And.intro @ev_binB (And.intro @ev_un (And.intro @ev_unA (And.intro @ev_andV (And.intro @ev_andA (And.intro @ev_orV (And.intro @ev_orA (And.intro @ev_notV (And.intro @ev_notA (And.intro @ev_ifE (And.intro @ev_ifA (And.intro @ev_val (And.intro @ev_valA (And.intro @ev_andT (And.intro @ev_andTA (And.intro @ev_orT (And.intro @ev_orTA (And.intro @ev_notT (And.intro @ev_notTA (And.intro @ev_nil (And.intro @ev_cons (And.intro @ev_consA (And.intro @ev_consR (And.intro @ev_tup (And.intro @ev_tupA (And.intro @ev_lst (And.intro @ev_lstA (And.intro @ev_isi (And.intro @ev_isiA (And.intro @ev_call (And.intro @ev_callA (And.intro @ev_callK (And.intro @ev_callKA (And.intro @ev_callKB (And.intro @ev_cb (And.intro @ev_cbA (And.intro @ev_noPart (And.intro @ev_part (And.intro @ev_partA (And.intro @ev_slice (And.intro @ev_slA (And.intro @ev_slB (And.intro @ev_slC (And.intro @ev_drum0 (And.intro @ev_drum1 (And.intro @ev_drum2 (And.intro @ev_dr0 (And.intro @ev_dr1 (And.intro @ev_dr2 (And.intro @ev_gName (And.intro @ev_gNil (And.intro @ev_gCons (And.intro @ev_gbs (And.intro @ev_gTupT (And.intro @ev_gTupL (And.intro @ev_itL (And.intro @ev_itT (And.intro @ev_seqI (And.intro @ev_itA (And.intro @ev_rng1 (And.intro @ev_rngA (And.intro @ev_rng2 (And.intro @ev_rngB (And.intro @ev_rngC (And.intro @ev_zip (And.intro @ev_zipA (And.intro @ev_zipB (And.intro @ev_zL (And.intro @ev_zT (And.intro @ev_zc (And.intro @ev_zn (And.intro @ev_enum (And.intro @ev_enumA (And.intro @ev_eL (And.intro @ev_eT (And.intro @ev_rev (And.intro @ev_revA (And.intro @ev_rL (And.intro @ev_rT (And.intro @ev_gNx (And.intro @ev_gPar (And.intro @ev_gPar3 (And.intro @ev_ret (And.intro @ev_retA (And.intro @ev_retN (And.intro @ev_drop (And.intro @ev_dropA (And.intro @ev_set (And.intro @ev_setA (And.intro @ev_asg (And.intro @ev_asgA (And.intro @ev_par (And.intro @ev_parA (And.intro @ev_parB (And.intro @ev_par3 (And.intro @ev_par3A (And.intro @ev_par3B (And.intro @ev_par3C (And.intro @ev_if (And.intro @ev_ifS (And.intro @ev_next (And.intro @ev_seq (And.intro @ev_brk (And.intro @ev_cont (And.intro @ev_no (And.intro @ev_drumSet1 (And.intro @ev_drumSet2 (And.intro @ev_drumA (And.intro @ev_dw1 (And.intro @ev_dw2 (And.intro @ev_for (And.intro @ev_forA (And.intro @ev_forG (And.intro @ev_whA (And.intro @ev_lc (And.intro @ev_lcA (And.intro @ev_lcE (And.intro @ev_lcT (And.intro @ev_lcG (And.intro @ev_yes (And.intro @ev_w0 (And.intro @ev_w1 (And.intro @ev_w10 (And.intro @ev_w1s (And.intro @ev_setOwn (And.intro @ev_ownSet (And.intro @ev_ownS (And.intro @ev_ownV (And.intro @ev_ownB (And.intro @ev_free (And.intro @ev_freeS (And.intro @ev_addI (And.intro @ev_subI (And.intro @ev_mulI (And.intro @ev_divI (And.intro @ev_negI (And.intro @ev_ltI (And.intro @ev_leI (And.intro @ev_gtI (And.intro @ev_geI (And.intro @ev_eqI (And.intro @ev_neI (And.intro @ev_len0L (And.intro @ev_len1L (And.intro @ev_len2L (And.intro @ev_len3L (And.intro @ev_len4L (And.intro @ev_len5L (And.intro @ev_len0T (And.intro @ev_len1T (And.intro @ev_len2T (And.intro @ev_len3T (And.intro @ev_len4T (And.intro @ev_absI (And.intro @ev_intI (And.intro @ev_intT (And.intro @ev_intF (And.intro @ev_tupL (And.intro @ev_tupT (And.intro @ev_lstL (And.intro @ev_lstT (And.intro @ev_ix0T (And.intro @ev_ix1T (And.intro @ev_ix2T (And.intro @ev_ix3T (And.intro @ev_ix0L (And.intro @ev_ix1L (And.intro @ev_ix2L (And.intro @ev_ix3L (And.intro @ev_dI (And.intro @ev_dT (And.intro @ev_dL (And.intro @ev_dB (And.intro @ev_dN (And.intro @ev_dS (And.intro @ev_iII (And.intro @ev_iIB (And.intro @ev_iIL (And.intro @ev_iIT (And.intro @ev_iTI (And.intro @ev_iTB (And.intro @ev_iTL (And.intro @ev_iTT (And.intro @ev_iLI (And.intro @ev_iLB (And.intro @ev_iLL (And.intro @ev_iLT (And.intro @ev_isN (And.intro @ev_isntN (And.intro @ev_isB (And.intro @ev_isntB (And.intro @ev_nN (And.intro @ev_nI (And.intro @ev_nT (And.intro @ev_nL (And.intro @ev_all (And.intro @ev_any (And.intro @ev_bools0 (@ev_bools1)))))))))))))))))))))))))))))))))))))))))))))))))))))))))))))))))))))))))))))))))))))))))))))))))))))))))))))))))))))))))))))))))))))))))))))))))))))))))))))))))))))))))))))))))))))))))))))))))))))))))))))))))))))))))))))
theorem fn_ev {k n : Nat} {b : FS} {ds : List D} {s : Sd} (h : ds.length = k) : fnM k n b ds s = (b (ds.map Slot.d ++ List.replicate (n - k) Slot.no) s).fin := fnM_eq h
local macro_rules | `(tactic| walk_at "ev") => `(tactic| simp (decide := true) only [EV, fnM, List.length_cons, List.length_nil, Nat.reduceAdd, Nat.reduceSub, if_true, if_false, ↓reduceIte, List.map_cons, List.map_nil, List.replicate, List.cons_append, List.nil_append, Bool.false_eq_true, Bool.not_true, Bool.not_false, Bool.and_true, Bool.true_and, Bool.and_self, List.all_cons, List.all_nil, List.any_cons, List.any_nil, List.reverse_cons, List.reverse_nil])

/-! ### rationals -/
/-- the number's one form -/
def numD (r : Rat) : D := if r.den = 1 then .int r.num else .tup [.int r.num, .int (r.den : Nat)]
theorem numD_int (i : Int) : numD (i : Rat) = .int i := by
  unfold numD
  rw [if_pos (Rat.den_intCast i), Rat.num_intCast]
theorem numD_cases (x : Rat) : (x.den = 1 ∧ numD x = .int x.num) ∨ (1 < x.den ∧ numD x = .tup [.int x.num, .int (x.den : Nat)]) := by
  unfold numD
  by_cases h : x.den = 1
  · exact .inl ⟨h, if_pos h⟩
  · have := x.den_pos
    exact .inr ⟨by omega, if_neg h⟩
class SzI (i : Int) (b : outParam Nat) : Prop where
  h : i.natAbs < 2 ^ b
class Sz (r : Rat) (b : outParam Nat) : Prop where
  n : r.num.natAbs < 2 ^ b
  d : r.den < 2 ^ b
theorem div_num_le (a b : Int) : ((a : Rat) / b).num.natAbs ≤ a.natAbs := by
  rw [← Rat.divInt_eq_div, Rat.num_divInt]
  by_cases hb : b = 0
  · subst hb; simp
  · have h1 : (b.sign * a).natAbs = a.natAbs := by
      rw [Int.natAbs_mul, Int.natAbs_sign_of_ne_zero hb, Nat.one_mul]
    have h2 : (b.sign * a / (b.gcd a : Int)).natAbs ≤ (b.sign * a).natAbs := by
      exact Int.natAbs_ediv_le_natAbs _ _
    omega
theorem div_den_le (a b : Int) (h : b ≠ 0) : ((a : Rat) / b).den ≤ b.natAbs := by
  rw [← Rat.divInt_eq_div, Rat.den_divInt, if_neg h]
  exact Nat.div_le_self _ _
theorem sz_div {a b : Int} {k : Nat} (h : b ≠ 0) (ha : a.natAbs < 2 ^ k) (hb : b.natAbs < 2 ^ k) : Sz ((a : Rat) / b) k :=
  ⟨Nat.lt_of_le_of_lt (div_num_le a b) ha, Nat.lt_of_le_of_lt (div_den_le a b h) hb⟩
theorem sz_num (x : Rat) : (x : Rat) = (x.num : Rat) / ((x.den : Int) : Rat) := by
  rw [← Rat.divInt_eq_div, Rat.num_divInt_den]
theorem add_eq (x y : Rat) : x + y = ((x.num * y.den + y.num * x.den : Int) : Rat) / ((x.den * y.den : Int) : Rat) := by
  rw [Rat.add_def', ← Rat.divInt_ofNat, Rat.divInt_eq_div]
  congr 1
theorem sub_eq (x y : Rat) : x - y = ((x.num * y.den - y.num * x.den : Int) : Rat) / ((x.den * y.den : Int) : Rat) := by
  rw [Rat.sub_def', ← Rat.divInt_ofNat, Rat.divInt_eq_div]
  congr 1
theorem mul_eq (x y : Rat) : x * y = ((x.num * y.num : Int) : Rat) / ((x.den * y.den : Int) : Rat) := by
  rw [Rat.mul_def', ← Rat.divInt_ofNat, Rat.divInt_eq_div]
  congr 1
theorem div_eq (x y : Rat) : x / y = ((x.num * y.den : Int) : Rat) / ((x.den * y.num : Int) : Rat) := by
  by_cases h : y.num = 0
  · have hy : y = 0 := Rat.num_eq_zero.mp h
    subst hy
    simp [Rat.div_def]
  · have e1 := sz_num x
    have e2 := sz_num y
    have h1 : (y.num : Rat) ≠ 0 := by exact_mod_cast h
    have h2 : ((x.den : Int) : Rat) ≠ 0 := by exact_mod_cast x.den_nz
    have h3 : ((y.den : Int) : Rat) ≠ 0 := by exact_mod_cast y.den_nz
    rw [Rat.intCast_mul, Rat.intCast_mul]
    generalize (y.num : Rat) = a at *
    generalize ((x.den : Int) : Rat) = b at *
    generalize ((y.den : Int) : Rat) = c at *
    generalize (x.num : Rat) = d at *
    subst e1 e2
    grind
theorem den_ne (x : Rat) : (x.den : Int) ≠ 0 := by exact_mod_cast x.den_nz
theorem natAbs_den (x : Rat) : (x.den : Int).natAbs = x.den := rfl
theorem natAbs_add_lt {a b : Int} {k : Nat} (ha : a.natAbs < 2 ^ k) (hb : b.natAbs < 2 ^ k) : (a + b).natAbs < 2 ^ (k + 1) := by
  have := Int.natAbs_add_le a b
  rw [Nat.pow_succ]; omega
theorem nmul {i j : Int} {a b : Nat} (hi : i.natAbs < 2 ^ a) (hj : j.natAbs < 2 ^ b) : (i * j).natAbs < 2 ^ (a + b) := by
  rw [Int.natAbs_mul, Nat.pow_add]
  exact Nat.mul_lt_mul'' hi hj
theorem lt_up {n k j : Nat} (h : n < 2 ^ k) (hk : k ≤ j) : n < 2 ^ j := Nat.lt_of_lt_of_le h (Nat.pow_le_pow_right (by decide) hk)
section
variable {x y : Rat} {a b : Nat} {i j : Int}
theorem Sz.d' (h : Sz x a) : (x.den : Int).natAbs < 2 ^ a := h.d
theorem Sz.pos (h : Sz x a) : 0 < a := by
  have h1 := h.d
  have h2 := x.den_pos
  cases a with
  | zero => simp at h1; omega
  | succ a => omega
instance [hx : Sz x a] [hy : Sz y b] : Sz (x + y) (a + b + 1) := by
  rw [add_eq]
  refine sz_div (Int.mul_ne_zero (den_ne x) (den_ne y)) (natAbs_add_lt (nmul hx.n hy.d') ?_) (lt_up (nmul hx.d' hy.d') (by omega))
  rw [Nat.add_comm a b]
  exact nmul hy.n hx.d'
instance [hx : Sz x a] [hy : Sz y b] : Sz (x - y) (a + b + 1) := by
  rw [sub_eq, Int.sub_eq_add_neg]
  refine sz_div (Int.mul_ne_zero (den_ne x) (den_ne y)) (natAbs_add_lt (nmul hx.n hy.d') ?_) (lt_up (nmul hx.d' hy.d') (by omega))
  rw [Nat.add_comm a b, Int.natAbs_neg]
  exact nmul hy.n hx.d'
instance [hx : Sz x a] [hy : Sz y b] : Sz (x * y) (a + b) := by
  rw [mul_eq]
  exact sz_div (Int.mul_ne_zero (den_ne x) (den_ne y)) (nmul hx.n hy.n) (nmul hx.d' hy.d')
instance [hx : Sz x a] [hy : Sz y b] : Sz (x / y) (a + b) := by
  rw [div_eq]
  by_cases h : y.num = 0
  · rw [h]
    have p := hx.pos
    have e : ((x.num * y.den : Int) : Rat) / ((x.den * (0 : Int) : Int) : Rat) = 0 := by rw [Int.mul_zero]; simp [Rat.div_def]
    rw [e]
    refine ⟨?_, ?_⟩
    · show 0 < 2 ^ (a + b); exact Nat.two_pow_pos _
    · show 1 < 2 ^ (a + b)
      exact Nat.one_lt_two_pow (by omega)
  · exact sz_div (Int.mul_ne_zero (den_ne x) h) (nmul hx.n hy.d') (nmul hx.d' hy.n)
instance [hx : Sz x a] : Sz (-x) a := ⟨by rw [Rat.neg_num, Int.natAbs_neg]; exact hx.n, hx.d⟩
instance sz_ofI [hi : SzI i a] : Sz (i : Rat) (a + 1) := ⟨by rw [Rat.num_intCast]; exact lt_up hi.h (by omega), by rw [Rat.den_intCast]; exact Nat.one_lt_two_pow (by omega)⟩
instance sz_lit (n : Nat) : Sz (no_index (OfNat.ofNat n : Rat)) (n.log2 + 1) := ⟨by
  rw [show (OfNat.ofNat n : Rat).num = (n : Int) from rfl]
  rw [Int.natAbs_natCast]
  by_cases h : n = 0
  · subst h; exact Nat.pow_pos (by decide)
  · exact (Nat.log2_lt h).mp (Nat.lt_succ_self _), by
  rw [show (OfNat.ofNat n : Rat).den = 1 from rfl]
  exact Nat.one_lt_two_pow (by omega)⟩
instance szi_add [h1 : SzI i a] [h2 : SzI j b] : SzI (i + j) (a + b + 1) := ⟨natAbs_add_lt (lt_up h1.h (by omega)) (lt_up h2.h (by omega))⟩
instance szi_mul [h1 : SzI i a] [h2 : SzI j b] : SzI (i * j) (a + b) := ⟨nmul h1.h h2.h⟩
theorem Sz.up {k : Nat} (h : Sz x a) (hk : a ≤ k) : Sz x k := ⟨lt_up h.n hk, lt_up h.d hk⟩
end
/-- products that fit -/
theorem mulOk_sz {i j : Int} {a b : Nat} (hi : i.natAbs < 2 ^ a) (hj : j.natAbs < 2 ^ b) (h : a + b ≤ 100000) : MulOk i j :=
  mulOk_w (a + 1) (b + 1) (lt_up hi (by omega)) (lt_up hj (by omega)) (by omega) (by omega) (by omega)
theorem divOk_of {j : Int} (h : j ≠ 0) (h2 : j.natAbs < 2 ^ 9000) : DivOk j := ⟨h, (Nat.log2_lt (by omega)).mpr h2⟩

/-! ### the program's functions of numbers -/
theorem gcd_step (a b : Int) (h : 0 < b) : Int.gcd b (a.fmod b) = Int.gcd a b := by
  rw [Int.fmod_eq_emod_of_nonneg a (by omega), Int.gcd_comm b]
  have e := Int.gcd_add_mul_left_left b (a % b) (a / b)
  rw [Int.emod_add_mul_ediv] at e
  exact e.symm
section
variable {s : Sd}
theorem gcd_loop {tt : FB} {te : FS} (h1 : ∀ a b : Int, ∀ s, tt [.d (.int a), .d (.int b)] s = .ok (decide (0 < b)) s) (h2 : ∀ a b : Int, ∀ s, 0 < b → te [.d (.int a), .d (.int b)] s = .nx [.d (.int b), .d (.int (a.fmod b))] s) :
    ∀ (n : Nat) (a b : Int), 0 ≤ a → 0 ≤ b → b.toNat ≤ n → fWhile tt te [.d (.int a), .d (.int b)] s = .nx [.d (.int (Int.gcd a b)), .d (.int 0)] s := by
  intro n
  induction n with
  | zero =>
    intro a b ha hb hn
    have e : b = 0 := by omega
    subst e
    rw [ev_while, h1, ev_whA]
    simp only [Int.lt_irrefl, decide_false, Bool.false_eq_true, if_false, Int.gcd_zero]
    rw [show ((a.natAbs : Nat) : Int) = a by omega]
  | succ n ih =>
    intro a b ha hb hn
    by_cases hp : 0 < b
    · have p1 := Int.fmod_nonneg_of_pos a hp
      have p2 := Int.fmod_lt_of_pos a hp
      rw [ev_while, h1, ev_whA]
      simp only [decide_eq_true hp, if_true]
      rw [h2 a b s hp, ev_lnx, ih b _ hb p1 (by omega), gcd_step a b hp]
    · have e : b = 0 := by omega
      subst e
      rw [ev_while, h1, ev_whA]
      simp only [Int.lt_irrefl, decide_false, Bool.false_eq_true, if_false, Int.gcd_zero]
      rw [show ((a.natAbs : Nat) : Int) = a by omega]
theorem halves_num (x : Rat) : m_halves [numD x] s = .ok (.tup [.int x.num, .int (x.den : Nat)]) s := by
  unfold m_halves b_halves
  rcases numD_cases x with ⟨h, e⟩ | ⟨h, e⟩
  · rw [e, h]
    walk_at "ev"
    rfl
  · rw [e]
    walk_at "ev"
theorem abs_eq (i : Int) : (if i < 0 then -i else i) = (i.natAbs : Int) := by omega
theorem common_ok (a b : Int) : m_common [.int a, .int b] s = .ok (.int (Int.gcd a b)) s := by
  unfold m_common b_common
  walk_at "ev"
  rw [abs_eq, abs_eq, gcd_loop (fun a b s => by walk_at "ev") (fun a b s h => by
    walk_at "ev"
    unfold modF
    simp only
    rw [if_pos (show b ≠ 0 by omega)]
    walk_at "ev") b.natAbs a.natAbs b.natAbs (by omega) (by omega) (by omega)]
  walk_at "ev"
  simp [Int.gcd]
theorem fdiv_exact {a g : Int} (h : g ∣ a) : a.fdiv g = a / g := Int.fdiv_eq_ediv_of_dvd h
/-- what stands above and below the line -/
theorem num_of {a b : Int} (h : b ≠ 0) : ((a : Rat) / b).num = a.fdiv (if b < 0 then -(Int.gcd a b : Int) else (Int.gcd a b : Int)) := by
  rw [← Rat.divInt_eq_div, Rat.num_divInt, Int.gcd_comm b a]
  have hd : (Int.gcd a b : Int) ∣ a := Int.gcd_dvd_left ..
  split
  · rename_i hb
    rw [fdiv_exact (Int.neg_dvd.mpr hd), Int.sign_eq_neg_one_of_neg hb, Int.ediv_neg, Int.neg_one_mul, Int.neg_ediv_of_dvd hd]
  · rw [fdiv_exact hd, Int.sign_eq_one_of_pos (by omega), Int.one_mul]
theorem den_of {a b : Int} (h : b ≠ 0) : ((((a : Rat) / b).den : Nat) : Int) = b.fdiv (if b < 0 then -(Int.gcd a b : Int) else (Int.gcd a b : Int)) := by
  rw [← Rat.divInt_eq_div, Rat.den_divInt, if_neg h, Int.gcd_comm b a]
  have hd : (Int.gcd a b : Int) ∣ b := Int.gcd_dvd_right ..
  rw [Int.natCast_ediv]
  split
  · rename_i hb
    rw [fdiv_exact (Int.neg_dvd.mpr hd), Int.ediv_neg, ← Int.neg_ediv_of_dvd hd]
    congr 1
    omega
  · rw [fdiv_exact hd]
    congr 1
    omega
theorem gcd_bd {a b : Int} (h : b ≠ 0) : (Int.gcd a b : Int) ≠ 0 ∧ (Int.gcd a b) ≤ b.natAbs := by
  refine ⟨fun z => ?_, ?_⟩
  · have : Int.gcd a b = 0 := by exact_mod_cast z
    rw [Int.gcd_eq_zero_iff] at this
    exact h this.2
  · exact Nat.le_of_dvd (by omega) (Int.gcd_dvd_natAbs_right a b)
theorem numD_div {a b : Int} (h : b ≠ 0) : (if decide (b.fdiv (if b < 0 then -(Int.gcd a b : Int) else (Int.gcd a b : Int)) = 1) = true then D.int (a.fdiv (if b < 0 then -(Int.gcd a b : Int) else (Int.gcd a b : Int))) else .tup [.int (a.fdiv (if b < 0 then -(Int.gcd a b : Int) else (Int.gcd a b : Int))), .int (b.fdiv (if b < 0 then -(Int.gcd a b : Int) else (Int.gcd a b : Int)))]) = numD ((a : Rat) / b) := by
  rw [← num_of h, ← den_of h]
  unfold numD
  by_cases z : ((a : Rat) / b).den = 1
  · rw [if_pos z, if_pos (by rw [z]; rfl)]
  · rw [if_neg z, if_neg (by rw [decide_eq_true_eq]; exact_mod_cast z)]
theorem lowest_ok {a b : Int} (h : b ≠ 0) (h2 : b.natAbs < 2 ^ 9000) : m_lowest [.int a, .int b] s = .ok (numD ((a : Rat) / b)) s := by
  unfold m_lowest b_lowest
  obtain ⟨g0, g1⟩ := gcd_bd (a := a) h
  have d1 : DivOk (if b < 0 then -(Int.gcd a b : Int) else (Int.gcd a b : Int)) := by
    split
    · exact divOk_of (by omega) (Nat.lt_of_le_of_lt (by omega) h2)
    · exact divOk_of (by omega) (Nat.lt_of_le_of_lt (by omega) h2)
  rw [← numD_div h]
  by_cases hb : b < 0
  · rw [if_pos hb] at d1 ⊢
    simp (decide := true) only [EV, fnM, List.length_cons, List.length_nil, Nat.reduceAdd, Nat.reduceSub, if_true, if_false, List.map_cons, List.map_nil, List.replicate, List.cons_append, List.nil_append, common_ok, hb, decide_true, d1]
    split <;> rfl
  · rw [if_neg hb] at d1 ⊢
    simp (decide := true) only [EV, fnM, List.length_cons, List.length_nil, Nat.reduceAdd, Nat.reduceSub, if_true, if_false, List.map_cons, List.map_nil, List.replicate, List.cons_append, List.nil_append, common_ok, hb, decide_false, d1, Bool.false_eq_true]
    split <;> rfl
end
end DL
/-! G3: the program's functions of numbers and of rows of numbers, on rationals. -/
namespace DL
open PySem PySem.Spec L2 H
section
variable {s : Sd} {x y : Rat} {a b : Nat}
theorem added_ok [hx : Sz x a] [hy : Sz y b] (h : a + b ≤ 8000) : m_added [numD x, numD y] s = .ok (numD (x + y)) s := by
  unfold m_added b_added
  have m1 : MulOk x.num (y.den : Nat) := mulOk_sz hx.n hy.d' (by omega)
  have m2 : MulOk y.num (x.den : Nat) := mulOk_sz hy.n hx.d' (by omega)
  have m3 : MulOk (x.den : Nat) (y.den : Nat) := mulOk_sz hx.d' hy.d' (by omega)
  have l := lowest_ok (a := x.num * y.den + y.num * x.den) (s := s) (Int.mul_ne_zero (den_ne x) (den_ne y)) (lt_up (nmul hx.d' hy.d') (by omega))
  rw [← add_eq] at l
  simp (decide := true) only [halves_num, EV, fnM, List.length_cons, List.length_nil, Nat.reduceAdd, Nat.reduceSub, if_true, if_false, ↓reduceIte, List.map_cons, List.map_nil, List.replicate, List.cons_append, List.nil_append, Bool.false_eq_true, Bool.not_true, Bool.not_false, Bool.and_true, Bool.true_and, Bool.and_self, List.all_cons, List.all_nil, List.any_cons, List.any_nil, List.reverse_cons, List.reverse_nil, decide_true, decide_false, Int.reduceAdd, Int.reduceSub, Int.reduceMul, Int.reduceNeg, Option.map_some, l, m1, m2, m3]
theorem product_ok [hx : Sz x a] [hy : Sz y b] (h : a + b ≤ 8000) : m_product [numD x, numD y] s = .ok (numD (x * y)) s := by
  unfold m_product b_product
  have m1 : MulOk x.num y.num := mulOk_sz hx.n hy.n (by omega)
  have m3 : MulOk (x.den : Nat) (y.den : Nat) := mulOk_sz hx.d' hy.d' (by omega)
  have l := lowest_ok (a := x.num * y.num) (s := s) (Int.mul_ne_zero (den_ne x) (den_ne y)) (lt_up (nmul hx.d' hy.d') (by omega))
  rw [← mul_eq] at l
  simp (decide := true) only [halves_num, EV, fnM, List.length_cons, List.length_nil, Nat.reduceAdd, Nat.reduceSub, if_true, if_false, ↓reduceIte, List.map_cons, List.map_nil, List.replicate, List.cons_append, List.nil_append, Bool.false_eq_true, Bool.not_true, Bool.not_false, Bool.and_true, Bool.true_and, Bool.and_self, List.all_cons, List.all_nil, List.any_cons, List.any_nil, List.reverse_cons, List.reverse_nil, decide_true, decide_false, Int.reduceAdd, Int.reduceSub, Int.reduceMul, Int.reduceNeg, Option.map_some, l, m1, m3]
theorem num_ne {y : Rat} (h : y ≠ 0) : y.num ≠ 0 := fun z => h (Rat.num_eq_zero.mp z)
theorem part_by_ok [hx : Sz x a] [hy : Sz y b] (h0 : y ≠ 0) (h : a + b ≤ 8000) : m_part_by [numD x, numD y] s = .ok (numD (x / y)) s := by
  unfold m_part_by b_part_by
  have m1 : MulOk x.num (y.den : Nat) := mulOk_sz hx.n hy.d' (by omega)
  have m3 : MulOk (x.den : Nat) y.num := mulOk_sz hx.d' hy.n (by omega)
  have l := lowest_ok (a := x.num * y.den) (s := s) (Int.mul_ne_zero (den_ne x) (num_ne h0)) (lt_up (nmul hx.d' hy.n) (by omega))
  rw [← div_eq] at l
  simp (decide := true) only [halves_num, EV, fnM, List.length_cons, List.length_nil, Nat.reduceAdd, Nat.reduceSub, if_true, if_false, ↓reduceIte, List.map_cons, List.map_nil, List.replicate, List.cons_append, List.nil_append, Bool.false_eq_true, Bool.not_true, Bool.not_false, Bool.and_true, Bool.true_and, Bool.and_self, List.all_cons, List.all_nil, List.any_cons, List.any_nil, List.reverse_cons, List.reverse_nil, decide_true, decide_false, Int.reduceAdd, Int.reduceSub, Int.reduceMul, Int.reduceNeg, Option.map_some, l, m1, m3]
theorem turned_ok (x : Rat) : m_turned [numD x] s = .ok (numD (-x)) s := by
  unfold m_turned b_turned
  simp (decide := true) only [halves_num, EV, fnM, List.length_cons, List.length_nil, Nat.reduceAdd, Nat.reduceSub, if_true, if_false, ↓reduceIte, List.map_cons, List.map_nil, List.replicate, List.cons_append, List.nil_append, Bool.false_eq_true, Bool.not_true, Bool.not_false, Bool.and_true, Bool.true_and, Bool.and_self, List.all_cons, List.all_nil, List.any_cons, List.any_nil, List.reverse_cons, List.reverse_nil, decide_true, decide_false, Int.reduceAdd, Int.reduceSub, Int.reduceMul, Int.reduceNeg, Option.map_some]
  unfold numD
  rw [Rat.neg_den, Rat.neg_num]
  by_cases h : x.den = 1
  · simp (decide := true) only [h, EV, fnM, List.length_cons, List.length_nil, Nat.reduceAdd, Nat.reduceSub, if_true, if_false, ↓reduceIte, List.map_cons, List.map_nil, List.replicate, List.cons_append, List.nil_append, Bool.false_eq_true, Bool.not_true, Bool.not_false, Bool.and_true, Bool.true_and, Bool.and_self, List.all_cons, List.all_nil, List.any_cons, List.any_nil, List.reverse_cons, List.reverse_nil, decide_true, decide_false, Int.reduceAdd, Int.reduceSub, Int.reduceMul, Int.reduceNeg, Option.map_some]
  · have h' : ¬ ((x.den : Int) = 1) := by exact_mod_cast h
    simp (decide := true) only [h, h', EV, fnM, List.length_cons, List.length_nil, Nat.reduceAdd, Nat.reduceSub, if_true, if_false, ↓reduceIte, List.map_cons, List.map_nil, List.replicate, List.cons_append, List.nil_append, Bool.false_eq_true, Bool.not_true, Bool.not_false, Bool.and_true, Bool.true_and, Bool.and_self, List.all_cons, List.all_nil, List.any_cons, List.any_nil, List.reverse_cons, List.reverse_nil, decide_true, decide_false, Int.reduceAdd, Int.reduceSub, Int.reduceMul, Int.reduceNeg, Option.map_some]
theorem less_by_ok [hx : Sz x a] [hy : Sz y b] (h : a + b ≤ 8000) : m_less_by [numD x, numD y] s = .ok (numD (x - y)) s := by
  unfold m_less_by b_less_by
  simp (decide := true) only [turned_ok, EV, fnM, List.length_cons, List.length_nil, Nat.reduceAdd, Nat.reduceSub, if_true, if_false, ↓reduceIte, List.map_cons, List.map_nil, List.replicate, List.cons_append, List.nil_append, Bool.false_eq_true, Bool.not_true, Bool.not_false, Bool.and_true, Bool.true_and, Bool.and_self, List.all_cons, List.all_nil, List.any_cons, List.any_nil, List.reverse_cons, List.reverse_nil, decide_true, decide_false, Int.reduceAdd, Int.reduceSub, Int.reduceMul, Int.reduceNeg, Option.map_some]
  rw [added_ok h, Rat.sub_eq_add_neg]
  rfl
theorem below_ok [hx : Sz x a] [hy : Sz y b] (h : a + b ≤ 8000) : m_below [numD x, numD y] s = .ok (.bl (decide (x < y))) s := by
  unfold m_below b_below
  have m1 : MulOk x.num (y.den : Nat) := mulOk_sz hx.n hy.d' (by omega)
  have m2 : MulOk y.num (x.den : Nat) := mulOk_sz hy.n hx.d' (by omega)
  simp (decide := true) only [halves_num, EV, fnM, List.length_cons, List.length_nil, Nat.reduceAdd, Nat.reduceSub, if_true, if_false, ↓reduceIte, List.map_cons, List.map_nil, List.replicate, List.cons_append, List.nil_append, Bool.false_eq_true, Bool.not_true, Bool.not_false, Bool.and_true, Bool.true_and, Bool.and_self, List.all_cons, List.all_nil, List.any_cons, List.any_nil, List.reverse_cons, List.reverse_nil, decide_true, decide_false, Int.reduceAdd, Int.reduceSub, Int.reduceMul, Int.reduceNeg, Option.map_some, m1, m2]
  simp (decide := true) only [Rat.lt_iff]
theorem square_ok [hx : Sz x a] (h : a + a ≤ 8000) : m_square [numD x] s = .ok (numD (x * x)) s := by
  unfold m_square b_square
  simp (decide := true) only [EV, fnM, List.length_cons, List.length_nil, Nat.reduceAdd, Nat.reduceSub, if_true, if_false, ↓reduceIte, List.map_cons, List.map_nil, List.replicate, List.cons_append, List.nil_append, Bool.false_eq_true, Bool.not_true, Bool.not_false, Bool.and_true, Bool.true_and, Bool.and_self, List.all_cons, List.all_nil, List.any_cons, List.any_nil, List.reverse_cons, List.reverse_nil, decide_true, decide_false, Int.reduceAdd, Int.reduceSub, Int.reduceMul, Int.reduceNeg, Option.map_some, product_ok h]
end
/-! ### rows of numbers -/
theorem numD_0 : D.int 0 = numD 0 := rfl
theorem numD_1 : D.int 1 = numD 1 := rfl
theorem numD_2 : D.int 2 = numD 2 := rfl
theorem numD_lit (n : Nat) : D.int (OfNat.ofNat n) = numD (OfNat.ofNat n : Rat) := rfl
section
variable {s : Sd} {x y z w : Rat} {a b c d : Nat}
theorem total1_ok [hx : Sz x a] (h : a ≤ 7900) : m_total [.lst [numD x]] s = .ok (numD x) s := by
  unfold m_total b_total
  have l := added_ok (x := 0) (y := x) (s := s) (show _ ≤ 8000 by show Nat.log2 0 + 1 + a ≤ 8000; rw [show Nat.log2 0 = 0 by decide]; omega)
  rw [← numD_0, Rat.zero_add] at l
  simp (decide := true) only [EV, fnM, List.length_cons, List.length_nil, Nat.reduceAdd, Nat.reduceSub, if_true, if_false, ↓reduceIte, List.map_cons, List.map_nil, List.replicate, List.cons_append, List.nil_append, Bool.false_eq_true, Bool.not_true, Bool.not_false, Bool.and_true, Bool.true_and, Bool.and_self, List.all_cons, List.all_nil, List.any_cons, List.any_nil, List.reverse_cons, List.reverse_nil, decide_true, decide_false, Int.reduceAdd, Int.reduceSub, Int.reduceMul, Int.reduceNeg, Option.map_some, ev_forC, ev_forN, l]
theorem total2_ok [hx : Sz x a] [hy : Sz y b] (h : a + b ≤ 7900) : m_total [.lst [numD x, numD y]] s = .ok (numD (x + y)) s := by
  unfold m_total b_total
  have l := added_ok (x := 0) (y := x) (s := s) (show _ ≤ 8000 by show Nat.log2 0 + 1 + a ≤ 8000; rw [show Nat.log2 0 = 0 by decide]; omega)
  rw [← numD_0, Rat.zero_add] at l
  have l2 := added_ok (x := x) (y := y) (s := s) (show a + b ≤ 8000 by omega)
  simp (decide := true) only [EV, fnM, List.length_cons, List.length_nil, Nat.reduceAdd, Nat.reduceSub, if_true, if_false, ↓reduceIte, List.map_cons, List.map_nil, List.replicate, List.cons_append, List.nil_append, Bool.false_eq_true, Bool.not_true, Bool.not_false, Bool.and_true, Bool.true_and, Bool.and_self, List.all_cons, List.all_nil, List.any_cons, List.any_nil, List.reverse_cons, List.reverse_nil, decide_true, decide_false, Int.reduceAdd, Int.reduceSub, Int.reduceMul, Int.reduceNeg, Option.map_some, ev_forC, ev_forN, l, l2]
/-- a point -/
def ptD (x y : Rat) : D := .tup [numD x, numD y]
theorem summed_ok [hx : Sz x a] [hy : Sz y b] [hz : Sz z c] [hw : Sz w d] (h : a + b + c + d ≤ 7900) : m_summed [ptD x y, ptD z w] s = .ok (numD (x * z + y * w)) s := by
  unfold m_summed b_summed ptD
  have l1 := product_ok (x := x) (y := z) (s := s) (show a + c ≤ 8000 by omega)
  have l2 := product_ok (x := y) (y := w) (s := s) (show b + d ≤ 8000 by omega)
  have l3 := total2_ok (x := x * z) (y := y * w) (s := s) (show (a + c) + (b + d) ≤ 7900 by omega)
  simp (decide := true) only [EV, fnM, List.length_cons, List.length_nil, Nat.reduceAdd, Nat.reduceSub, if_true, if_false, ↓reduceIte, List.map_cons, List.map_nil, List.replicate, List.cons_append, List.nil_append, Bool.false_eq_true, Bool.not_true, Bool.not_false, Bool.and_true, Bool.true_and, Bool.and_self, List.all_cons, List.all_nil, List.any_cons, List.any_nil, List.reverse_cons, List.reverse_nil, decide_true, decide_false, Int.reduceAdd, Int.reduceSub, Int.reduceMul, Int.reduceNeg, Option.map_some, ev_lcC, ev_lcN, ev_lstR (show 2 ≤ 20000 by decide), l1, l2, l3]
theorem row_to_ok [hx : Sz x a] [hy : Sz y b] [hz : Sz z c] [hw : Sz w d] (h : a + b + c + d ≤ 7900) : m_row_to [ptD x y, ptD z w] s = .ok (ptD (z - x) (w - y)) s := by
  unfold m_row_to b_row_to ptD
  have l1 := less_by_ok (x := z) (y := x) (s := s) (show c + a ≤ 8000 by omega)
  have l2 := less_by_ok (x := w) (y := y) (s := s) (show d + b ≤ 8000 by omega)
  simp (decide := true) only [EV, fnM, List.length_cons, List.length_nil, Nat.reduceAdd, Nat.reduceSub, if_true, if_false, ↓reduceIte, List.map_cons, List.map_nil, List.replicate, List.cons_append, List.nil_append, Bool.false_eq_true, Bool.not_true, Bool.not_false, Bool.and_true, Bool.true_and, Bool.and_self, List.all_cons, List.all_nil, List.any_cons, List.any_nil, List.reverse_cons, List.reverse_nil, decide_true, decide_false, Int.reduceAdd, Int.reduceSub, Int.reduceMul, Int.reduceNeg, Option.map_some, ev_lcC, ev_lcN, ev_lstR (show 2 ≤ 20000 by decide), l1, l2]
theorem gone_ok {q : Rat} {e : Nat} [hx : Sz x a] [hy : Sz y b] [hz : Sz z c] [hw : Sz w d] [hq : Sz q e] (h : a + b + c + d + e ≤ 7000) : m_gone [ptD x y, ptD z w, numD q] s = .ok (ptD (x + q * z) (y + q * w)) s := by
  unfold m_gone b_gone ptD
  have l1 := product_ok (x := q) (y := z) (s := s) (show e + c ≤ 8000 by omega)
  have l2 := product_ok (x := q) (y := w) (s := s) (show e + d ≤ 8000 by omega)
  have l3 := total2_ok (x := x) (y := q * z) (s := s) (show a + (e + c) ≤ 7900 by omega)
  have l4 := total2_ok (x := y) (y := q * w) (s := s) (show b + (e + d) ≤ 7900 by omega)
  simp (decide := true) only [EV, fnM, List.length_cons, List.length_nil, Nat.reduceAdd, Nat.reduceSub, if_true, if_false, ↓reduceIte, List.map_cons, List.map_nil, List.replicate, List.cons_append, List.nil_append, Bool.false_eq_true, Bool.not_true, Bool.not_false, Bool.and_true, Bool.true_and, Bool.and_self, List.all_cons, List.all_nil, List.any_cons, List.any_nil, List.reverse_cons, List.reverse_nil, decide_true, decide_false, Int.reduceAdd, Int.reduceSub, Int.reduceMul, Int.reduceNeg, Option.map_some, ev_lcC, ev_lcN, ev_lstR (show 2 ≤ 20000 by decide), l1, l2, l3, l4]
theorem length_square_ok [hx : Sz x a] [hy : Sz y b] (h : a + b ≤ 3900) : m_length_square [ptD x y] s = .ok (numD (x * x + y * y)) s := by
  unfold m_length_square b_length_square
  simp (decide := true) only [EV, fnM, List.length_cons, List.length_nil, Nat.reduceAdd, Nat.reduceSub, if_true, if_false, ↓reduceIte, List.map_cons, List.map_nil, List.replicate, List.cons_append, List.nil_append, Bool.false_eq_true, Bool.not_true, Bool.not_false, Bool.and_true, Bool.true_and, Bool.and_self, List.all_cons, List.all_nil, List.any_cons, List.any_nil, List.reverse_cons, List.reverse_nil, decide_true, decide_false, Int.reduceAdd, Int.reduceSub, Int.reduceMul, Int.reduceNeg, Option.map_some, summed_ok (x := x) (y := y) (z := x) (w := y) (s := s) (show a + b + a + b ≤ 7900 by omega)]
theorem far_square_ok [hx : Sz x a] [hy : Sz y b] [hz : Sz z c] [hw : Sz w d] (h : a + b + c + d ≤ 3000) : m_far_square [ptD x y, ptD z w] s = .ok (numD ((z - x) * (z - x) + (w - y) * (w - y))) s := by
  unfold m_far_square b_far_square
  simp (decide := true) only [EV, fnM, List.length_cons, List.length_nil, Nat.reduceAdd, Nat.reduceSub, if_true, if_false, ↓reduceIte, List.map_cons, List.map_nil, List.replicate, List.cons_append, List.nil_append, Bool.false_eq_true, Bool.not_true, Bool.not_false, Bool.and_true, Bool.true_and, Bool.and_self, List.all_cons, List.all_nil, List.any_cons, List.any_nil, List.reverse_cons, List.reverse_nil, decide_true, decide_false, Int.reduceAdd, Int.reduceSub, Int.reduceMul, Int.reduceNeg, Option.map_some, row_to_ok (x := x) (y := y) (z := z) (w := w) (s := s) (show a + b + c + d ≤ 7900 by omega), length_square_ok (x := z - x) (y := w - y) (s := s) (show (c + a + 1) + (d + b + 1) ≤ 3900 by omega)]
theorem across_ok [hx : Sz x a] [hy : Sz y b] [hz : Sz z c] [hw : Sz w d] (h : a + b + c + d ≤ 7000) : m_across [ptD x y, ptD z w] s = .ok (numD (x * w - y * z)) s := by
  unfold m_across b_across ptD
  have l1 := product_ok (x := x) (y := w) (s := s) (show a + d ≤ 8000 by omega)
  have l2 := product_ok (x := y) (y := z) (s := s) (show b + c ≤ 8000 by omega)
  have l3 := less_by_ok (x := x * w) (y := y * z) (s := s) (show (a + d) + (b + c) ≤ 8000 by omega)
  simp (decide := true) only [EV, fnM, List.length_cons, List.length_nil, Nat.reduceAdd, Nat.reduceSub, if_true, if_false, ↓reduceIte, List.map_cons, List.map_nil, List.replicate, List.cons_append, List.nil_append, Bool.false_eq_true, Bool.not_true, Bool.not_false, Bool.and_true, Bool.true_and, Bool.and_self, List.all_cons, List.all_nil, List.any_cons, List.any_nil, List.reverse_cons, List.reverse_nil, decide_true, decide_false, Int.reduceAdd, Int.reduceSub, Int.reduceMul, Int.reduceNeg, Option.map_some, l1, l2, l3]
end
end DL
/-! G4: equality, repr. -/
namespace DL
open PySem PySem.Spec L2 H
/-- data that == can compare, at most k deep -/
class Oe (d : D) (k : outParam Nat) : Prop where
  p : d.plain = true
  l : PyData.canLay0 d.py = true
  t : d.py.depth ≤ k
class OeL (ds : List D) (k : outParam Nat) : Prop where
  p : D.plains ds = true
  l : PyData.canLayAll0 (D.pys ds) = true
  t : PyData.depthAll (D.pys ds) ≤ k
instance oe_int (i : Int) : Oe (.int i) 0 := ⟨rfl, rfl, Nat.le_refl _⟩
instance oe_bl (b : Bool) : Oe (.bl b) 0 := ⟨rfl, rfl, Nat.le_refl _⟩
instance oe_non : Oe .non 0 := ⟨rfl, rfl, Nat.le_refl _⟩
instance oeL_nil : OeL [] 0 := ⟨rfl, rfl, Nat.le_refl _⟩
instance oeL_cons {d : D} {ds : List D} {a b : Nat} [h : Oe d a] [g : OeL ds b] : OeL (d :: ds) (a + b) := ⟨by simp only [D.plains, h.p, g.p, Bool.and_self], by simp only [D.pys, PyData.canLayAll0, h.l, g.l, Bool.and_self], by
  have := h.t
  have := g.t
  simp only [D.pys, PyData.depthAll]
  omega⟩
instance oe_tup {ds : List D} {a : Nat} [g : OeL ds a] : Oe (.tup ds) (a + 1) := ⟨by simpa only [D.plain] using g.p, by simpa only [D.py, PyData.canLay0] using g.l, by
  have := g.t
  simp only [D.py, PyData.depth]
  omega⟩
instance oe_lst {ds : List D} {a : Nat} [g : OeL ds a] : Oe (.lst ds) (a + 1) := ⟨by simpa only [D.plain] using g.p, by simpa only [D.py, PyData.canLay0] using g.l, by
  have := g.t
  simp only [D.py, PyData.depth]
  omega⟩
instance oe_num (x : Rat) : Oe (numD x) 1 := by
  unfold numD
  split
  · exact ⟨rfl, rfl, Nat.zero_le _⟩
  · exact ⟨rfl, rfl, Nat.le_refl _⟩
theorem Oe.ok {d : D} {k : Nat} (h : Oe d k) (hk : k ≤ 64) : d.okEq = true := by
  unfold D.okEq SeqAt.shaped
  have t := h.t
  rw [h.p, h.l, decide_eq_true (show d.py.depth ≤ 64 by omega)]
  rfl
theorem ev_eq {x y : D} {a b : Nat} [h : Oe x a] [g : Oe y b] (h1 : a ≤ 64) (h2 : b ≤ 64) : eqF x y = some (.bl (D.eq x y)) := by
  unfold eqF; rw [if_pos ⟨h.ok h1, g.ok h2⟩]
theorem ev_ne {x y : D} {a b : Nat} [h : Oe x a] [g : Oe y b] (h1 : a ≤ 64) (h2 : b ≤ 64) : neF x y = some (.bl (!D.eq x y)) := by
  unfold neF; rw [if_pos ⟨h.ok h1, g.ok h2⟩]
mutual
theorem eqv_refl : ∀ d : D, d.plain = true → PyData.eqv d.py d.py = true
  | .non, _ => rfl
  | .bl b, _ => by simp [D.py, PyData.eqv]
  | .int i, _ => by simp [D.py, PyData.eqv]
  | .str t, _ => by simp [D.py, PyData.eqv]
  | .lst xs, h => by simp only [D.py, PyData.eqv]; exact eqvs_refl xs (by simpa only [D.plain] using h)
  | .tup xs, h => by simp only [D.py, PyData.eqv]; exact eqvs_refl xs (by simpa only [D.plain] using h)
  | .dct _, h => by simp only [D.plain] at h; cases h
  | .drum _, h => by simp only [D.plain] at h; cases h
  | .scr _, h => by simp only [D.plain] at h; cases h
  | .ob _ _, h => by simp only [D.plain] at h; cases h
theorem eqvs_refl : ∀ ds : List D, D.plains ds = true → PyData.eqvAll (D.pys ds) (D.pys ds) = true
  | [], _ => rfl
  | x :: xs, h => by
    simp only [D.plains, Bool.and_eq_true] at h
    simp only [D.pys, PyData.eqvAll, eqv_refl x h.1, eqvs_refl xs h.2, Bool.and_self]
end
theorem D.eq_refl {d : D} (h : d.plain = true) : D.eq d d = true := eqv_refl d h
def eqL : List D → List D → Bool
  | [], [] => true
  | x :: xs, y :: ys => D.eq x y && eqL xs ys
  | _, _ => false
theorem eqL_all : ∀ xs ys : List D, PyData.eqvAll (D.pys xs) (D.pys ys) = eqL xs ys
  | [], [] => rfl
  | x :: xs, y :: ys => by simp only [D.pys, PyData.eqvAll, eqL, eqL_all xs ys]; rfl
  | [], _ :: _ => rfl
  | _ :: _, [] => rfl
theorem eq_tt (xs ys : List D) : D.eq (.tup xs) (.tup ys) = eqL xs ys := eqL_all xs ys
theorem eq_ll (xs ys : List D) : D.eq (.lst xs) (.lst ys) = eqL xs ys := eqL_all xs ys
theorem eqL_nn : eqL [] [] = true := rfl
theorem eqL_cc (x y : D) (xs ys : List D) : eqL (x :: xs) (y :: ys) = (D.eq x y && eqL xs ys) := rfl
theorem eq_lt (xs ys : List D) : D.eq (.lst xs) (.tup ys) = false := rfl
theorem eq_tl (xs ys : List D) : D.eq (.tup xs) (.lst ys) = false := rfl
theorem eq_tN (xs : List D) : D.eq (.tup xs) .non = false := rfl
theorem eq_Nt (xs : List D) : D.eq .non (.tup xs) = false := rfl
theorem eq_it (i : Int) (xs : List D) : D.eq (.int i) (.tup xs) = false := rfl
theorem eq_ti (i : Int) (xs : List D) : D.eq (.tup xs) (.int i) = false := rfl
theorem eq_bb (a b : Bool) : D.eq (.bl a) (.bl b) = decide (a = b) := by
  show (a == b) = _
  exact Bool.beq_eq_decide_eq ..
theorem eq_num (x y : Rat) : D.eq (numD x) (numD y) = decide (x = y) := by
  rcases numD_cases x with ⟨h, e⟩ | ⟨h, e⟩ <;> rcases numD_cases y with ⟨g, f⟩ | ⟨g, f⟩
  · rw [e, f, eqI]
    apply decide_eq_decide.mpr
    exact ⟨fun z => Rat.ext z (h.trans g.symm), fun z => by rw [z]⟩
  · rw [e, f, eq_it]
    exact (decide_eq_false fun z => by subst z; omega).symm
  · rw [e, f, eq_ti]
    exact (decide_eq_false fun z => by subst z; omega).symm
  · rw [e, f, eq_tt, eqL_cc, eqL_cc, eqL_nn, eqI, eqI, Bool.and_true, ← Bool.decide_and]
    apply decide_eq_decide.mpr
    exact ⟨fun z => Rat.ext z.1 (by exact_mod_cast z.2), fun z => by rw [z]; exact ⟨rfl, rfl⟩⟩
theorem eq_numI (x : Rat) (i : Int) : D.eq (numD x) (.int i) = decide (x = (i : Rat)) := by rw [← numD_int, eq_num]
theorem eq_Inum (x : Rat) (i : Int) : D.eq (.int i) (numD x) = decide ((i : Rat) = x) := by rw [← numD_int, eq_num]
theorem ev_eqS {s t : Str} : eqF (.str s) (.str t) = some (.bl (decide (s = t))) := by
  unfold eqF
  split
  · have : D.eq (.str s) (.str t) = decide (s = t) := by
      show (s == t) = _
      exact Bool.eq_iff_iff.mpr (by rw [beq_iff_eq, decide_eq_true_eq])
    rw [this]
  · rfl
theorem ev_neS {s t : Str} : neF (.str s) (.str t) = some (.bl (!decide (s = t))) := by
  unfold neF
  split
  · have : D.eq (.str s) (.str t) = decide (s = t) := by
      show (s == t) = _
      exact Bool.eq_iff_iff.mpr (by rw [beq_iff_eq, decide_eq_true_eq])
    rw [this]
  · rfl
theorem ev_eqLN {ds : List D} : eqF (.lst ds) (.lst []) = some (.bl ds.isEmpty) := by
  unfold eqF
  split
  · have : D.eq (.lst ds) (.lst []) = ds.isEmpty := by rw [eq_ll]; cases ds <;> rfl
    rw [this]
  · rfl
theorem ev_neLN {ds : List D} : neF (.lst ds) (.lst []) = some (.bl (!ds.isEmpty)) := by
  unfold neF
  split
  · have : D.eq (.lst ds) (.lst []) = ds.isEmpty := by rw [eq_ll]; cases ds <;> rfl
    rw [this]
  · rfl
/-! repr -/
class Rk (d : D) (n k : outParam Nat) : Prop where
  r : d.rpB = true
  n : d.nodes ≤ n
  t : d.py.depth ≤ k
class RkL (ds : List D) (n k : outParam Nat) : Prop where
  r : D.rpsB ds = true
  n : D.nodesAll ds ≤ n
  t : PyData.depthAll (D.pys ds) ≤ k
theorem lt_570 {n b : Nat} (h : n < 2 ^ b) (hb : b ≤ 1893) : n < 10 ^ 570 := Nat.lt_of_lt_of_le (lt_up h hb) (by decide +kernel)
theorem rk_int {i : Int} (h : i.natAbs < 2 ^ 1893) : Rk (.int i) 1 0 := ⟨by simp only [D.rpB, decide_eq_true_eq]; exact lt_570 h (Nat.le_refl _), Nat.le_refl _, Nat.le_refl _⟩
instance rk_bl (b : Bool) : Rk (.bl b) 1 0 := ⟨rfl, Nat.le_refl _, Nat.le_refl _⟩
instance rk_non : Rk .non 1 0 := ⟨rfl, Nat.le_refl _, Nat.le_refl _⟩
instance rkL_nil : RkL [] 0 0 := ⟨rfl, Nat.le_refl _, Nat.le_refl _⟩
instance rkL_cons {d : D} {ds : List D} {n m a b : Nat} [h : Rk d n a] [g : RkL ds m b] : RkL (d :: ds) (n + m) (a + b) := ⟨by simp only [D.rpsB, h.r, g.r, Bool.and_self], by
  have := h.n
  have := g.n
  simp only [D.nodesAll]; omega, by
  have := h.t
  have := g.t
  simp only [D.pys, PyData.depthAll]
  omega⟩
instance rk_tup {ds : List D} {n a : Nat} [g : RkL ds n a] : Rk (.tup ds) (n + 1) (a + 1) := ⟨by simpa only [D.rpB] using g.r, by
  have := g.n
  simp only [D.nodes]; omega, by
  have := g.t
  simp only [D.py, PyData.depth]
  omega⟩
instance rk_lst {ds : List D} {n a : Nat} [g : RkL ds n a] : Rk (.lst ds) (n + 1) (a + 1) := ⟨by simpa only [D.rpB] using g.r, by
  have := g.n
  simp only [D.nodes]; omega, by
  have := g.t
  simp only [D.py, PyData.depth]
  omega⟩
theorem rk_num {x : Rat} {b : Nat} [h : Sz x b] (hb : b ≤ 1893) : Rk (numD x) 3 1 := by
  have h1 := lt_up h.n hb
  have h2 := lt_up h.d' hb
  unfold numD
  split
  · exact ⟨(rk_int h1).r, by show 1 ≤ 3; omega, by show 0 ≤ 1; omega⟩
  · have a := rk_int h1
    have b := rk_int h2
    exact ⟨(rk_tup (ds := [.int x.num, .int (x.den : Nat)])).r, by show 1 + (1 + (1 + 0)) ≤ 3; omega, Nat.le_refl _⟩
theorem ev_repr {d : D} {n k : Nat} [h : Rk d n k] (h1 : n ≤ 20000) (h2 : k ≤ 60) : reprF [d] = some (.str d.txt) := by
  show (if d.rokB then some (D.str d.txt) else none) = _
  rw [if_pos ⟨h.r, Nat.le_trans h.n h1, Nat.le_trans h.t h2⟩]
end DL
/-! G5: draws. -/
namespace DL
open PySem PySem.Spec L2 H
/-- what draws has been asked at most n times -/
def StOk (n : Nat) (s : Sd) : Prop := 0 ≤ s.1 ∧ s.1 ≤ n
theorem StOk.up {n m : Nat} {s : Sd} (h : StOk n s) (l : n ≤ m) : StOk m s := ⟨h.1, by have := h.2; omega⟩
/-- an answer, the state behind it -/
def Dr1 (r : R D) (n : Nat) (P : D → Prop) : Prop := ∃ d s, r = .ok d s ∧ StOk n s ∧ P d
theorem modF_ok {i j : Int} (h : 0 < j) : modF (.int i) (.int j) = some (.int (i % j)) := by
  unfold modF
  simp only
  rw [if_pos (show j ≠ 0 by omega), Int.fmod_eq_emod_of_nonneg i (by omega)]
theorem divF_ok {i j : Int} (h : 0 < j) (h2 : j < 2 ^ 256) : divF (.int i) (.int j) = some (.int (i / j)) := by
  unfold divF
  simp only
  rw [if_pos (divOk_of (by omega) (Nat.lt_of_lt_of_le (show j.natAbs < 2 ^ 256 by omega) (Nat.pow_le_pow_right (by decide) (by decide)))), Int.fdiv_eq_ediv_of_nonneg i (by omega)]
theorem powF_ok {i j : Int} (h1 : 0 ≤ j) (h2 : j ≤ 16) (h3 : i.natAbs < 2 ^ 4096) : powF (.int i) (.int j) = some (.int (i ^ j.toNat)) := by
  unfold powF
  simp only
  rw [if_pos (show CPowA i j from ⟨h1, .inr ⟨h2, h3⟩⟩)]
theorem powF_small {i j : Int} (h1 : 0 ≤ j) (h2 : j ≤ 1000000) (h3 : i.natAbs < 2 ^ 64) : powF (.int i) (.int j) = some (.int (i ^ j.toNat)) := by
  unfold powF
  simp only
  rw [if_pos (show CPowA i j from ⟨h1, .inl ⟨h2, h3⟩⟩)]
theorem lt_4096 {i : Int} (h : i.natAbs < 2 ^ 128) : i.natAbs < 2 ^ 4096 := lt_up h (by decide)
theorem atI_ints {ns : List Int} {i : Int} (h0 : 0 ≤ i) (h1 : i < (ns.map D.int).length) : ∃ c : Int, atI (ns.map D.int) i = some (D.int c) := by
  obtain ⟨k, rfl⟩ : ∃ k : Nat, i = (k : Int) := ⟨i.toNat, by omega⟩
  have hk : k < (ns.map D.int).length := by omega
  have hk' : k < ns.length := by simpa using hk
  exact ⟨ns[k], atI_nat (by rw [List.getElem?_map, List.getElem?_eq_getElem hk']; rfl)⟩
theorem ix_int {ms : List Int} {i : Int} (h0 : 0 ≤ i) (h1 : i < (ms.length : Nat)) : ∃ c : Int, ixF (.lst (ms.map D.int)) (.int i) = some (.int c) := by
  obtain ⟨c, e⟩ := atI_ints (ns := ms) h0 (by simpa using h1)
  exact ⟨c, e⟩
theorem draw_fin {t r : Int} {n : Nat} {x k : Int} (hk : 0 < k) (h0 : 0 ≤ t) (h1 : t ≤ n) : Dr1 (.ok (.int (x % k)) (t, r)) n (fun d => ∃ v : Int, d = .int v ∧ 0 ≤ v ∧ v < k) :=
  ⟨_, _, rfl, ⟨h0, h1⟩, _, rfl, Int.emod_nonneg _ (by omega), Int.emod_lt_of_pos _ hk⟩
theorem dr1_ite {c : Prop} [Decidable c] {a b : RS} {n : Nat} {P : D → Prop} (h1 : c → Dr1 a.fin n P) (h2 : ¬ c → Dr1 b.fin n P) : Dr1 (if c then a else b).fin n P := by
  split
  · exact h1 (by assumption)
  · exact h2 (by assumption)
theorem map_empty (ms : List Int) : (ms.map D.int).isEmpty = ms.isEmpty := by cases ms <;> rfl
theorem lenF_map (ms : List Int) : lenF [.lst (ms.map D.int)] = some (.int (ms.length : Nat)) := by simp [lenF]
theorem setI_ite {c : Prop} [Decidable c] {ρ1 ρ2 : SEnv} {s : Sd} {k : FS} {n : Nat} {P : D → Prop} (h1 : c → Dr1 (k ρ1 s).fin n P) (h2 : ¬ c → Dr1 (k ρ2 s).fin n P) : Dr1 ((if c then RS.nx ρ1 s else RS.nx ρ2 s).then k).fin n P := by
  split
  · exact h1 (by assumption)
  · exact h2 (by assumption)
theorem ev_intBl {b : Bool} : intF [.bl b] = some (.int (if b = true then 1 else 0)) := rfl
theorem mul_bd {a b A B : Int} (h1 : 0 ≤ a) (h2 : a ≤ A) (h3 : 0 ≤ b) (h4 : b ≤ B) : 0 ≤ a * b ∧ a * b ≤ A * B := ⟨Int.mul_nonneg h1 h3, Int.mul_le_mul h2 h4 h3 (by omega)⟩
section
variable {c1 c2 c3 c4 c5 c6 c7 c8 c9 c10 : Int}

def tail_reach4 (c3 c4 c5 c6 c7 c8 c9 c10 : Int) : FS := (fSeq (fIf (fAndT (fVal (fBin ltF (fVar 3) (fCB lenF (fCons (fDrum 0 0) fNil)))) (fVal (fBin geF (fCB absF (fCons (fVar 4) fNil)) (fBin powF (fC (.int 10)) (fC (.int 18)))))) (fSeq (fSet 2 (fBin addF (fBin mulF (fC (.int 2)) (fBin subF (fCB absF (fCons (fVar 4) fNil)) (fBin powF (fC (.int 10)) (fC (.int 18))))) (fCB intF (fCons (fBin ltF (fVar 4) (fC (.int 0))) fNil)))) (fSeq (fDrumSet 0 2 (fBin divF (fCB intF (fCons (fVar 2) fNil)) (fVar 1))) (fRet (fBin modF (fCB intF (fCons (fVar 2) fNil)) (fVar 1))))) fNext) (fSeq (fSet 5 (fBin modF (fCB intF (fCons (fBin powF (fBin addF (fBin addF (fBin modF (fCB intF (fCons (fVar 4) fNil)) (fC (.int c3))) (fBin mulF (fC (.int c4)) (fVar 3))) (fC (.int c5))) (fC (.int 5))) fNil)) (fC (.int c6)))) (fSeq (fSet 5 (fBin modF (fCB intF (fCons (fBin powF (fBin addF (fBin addF (fBin mulF (fVar 5) (fBin addF (fBin mulF (fC (.int 2)) (fVar 3)) (fC (.int c7)))) (fBin mulF (fBin mulF (fC (.int c8)) (fVar 3)) (fVar 3))) (fC (.int c9))) (fC (.int 3))) fNil)) (fC (.int c10)))) (fRet (fBin modF (fCB intF (fCons (fBin divF (fVar 5) (fC (.int 64))) fNil)) (fVar 1))))))
theorem head_reach4 (c1 c2 c3 c4 c5 c6 c7 c8 c9 c10 : Int) : b_reach4 c1 c2 c3 c4 c5 c6 c7 c8 c9 c10 = (fSeq (fIf (fVal (fBin gtF (fDrum 0 2) (fC (.int 0)))) (fSeq (fSet 2 (fDrum 0 2)) (fSeq (fDrumSet 0 2 (fBin divF (fCB intF (fCons (fVar 2) fNil)) (fVar 1))) (fRet (fBin modF (fCB intF (fCons (fVar 2) fNil)) (fVar 1))))) fNext) (fSeq (fSet 3 (fDrum 0 1)) (fSeq (fDrumSet 0 1 (fBin addF (fVar 3) (fC (.int 1)))) (fSeq (fSet 4 (fBin addF (fBin mulF (fC (.int c1)) (fVar 3)) (fC (.int c2)))) (fSeq (fIf (fVal (fBin neF (fDrum 0 0) (fLst fNil))) (fSet 4 (fBin ixF (fDrum 0 0) (fBin modF (fCB intF (fCons (fVar 3) fNil)) (fCB lenF (fCons (fDrum 0 0) fNil))))) fNext) (tail_reach4 c3 c4 c5 c6 c7 c8 c9 c10)))))) := rfl
theorem tail_reach4_ok (b1 : 0 ≤ c1 ∧ c1 < 2 ^ 32) (b2 : 0 ≤ c2 ∧ c2 < 2 ^ 32) (b3 : 0 < c3 ∧ c3 < 2 ^ 32) (b4 : 0 ≤ c4 ∧ c4 < 2 ^ 32) (b5 : 0 ≤ c5 ∧ c5 < 2 ^ 32) (b6 : 0 < c6 ∧ c6 < 2 ^ 32) (b7 : 0 ≤ c7 ∧ c7 < 2 ^ 32) (b8 : 0 ≤ c8 ∧ c8 < 2 ^ 32) (b9 : 0 ≤ c9 ∧ c9 < 2 ^ 32) (b10 : 0 < c10 ∧ c10 < 2 ^ 32)
    {ms : List Int} {k t r cell : Int} {n : Nat} (h0 : 0 ≤ t) (h1 : t < 2 ^ 31) (h2 : t + 1 ≤ n) (hk : 0 < k) (hk2 : k < 2 ^ 256) :
    Dr1 (tail_reach4 c3 c4 c5 c6 c7 c8 c9 c10 [.d (.drum ms), .d (.int k), .no, .d (.int t), .d (.int cell), .no] (t + 1, r)).fin n (fun d => ∃ v : Int, d = .int v ∧ 0 ≤ v ∧ v < k) := by
  unfold tail_reach4
  have p18 : powF (.int 10) (.int 18) = some (.int 1000000000000000000) := by rw [powF_small (by decide) (by decide) (by decide)]; rfl
  by_cases z : t < (ms.length : Nat) ∧ (1000000000000000000 : Int) ≤ (if cell < 0 then -cell else cell)
  · have m1 : MulOk 2 ((if cell < 0 then -cell else cell) - 1000000000000000000) := mulOk_l (by decide) (by decide)
    simp (decide := true) only [EV, fnM, List.length_cons, List.length_nil, Nat.reduceAdd, Nat.reduceSub, if_true, if_false, ↓reduceIte, List.map_cons, List.map_nil, List.replicate, List.cons_append, List.nil_append, Bool.false_eq_true, Bool.not_true, Bool.not_false, Bool.and_true, Bool.true_and, Bool.and_self, List.all_cons, List.all_nil, List.any_cons, List.any_nil, List.reverse_cons, List.reverse_nil, decide_true, decide_false, Int.reduceAdd, Int.reduceSub, Int.reduceMul, Int.reduceNeg, Option.map_some, modF_ok hk, divF_ok hk hk2, p18, lenF_map, z.1, z.2, decide_true, m1, ev_intBl]
    exact draw_fin hk (by omega) (by omega)
  · have z' : (if decide (t < (ms.length : Nat)) = true then (R.ok (decide ((1000000000000000000 : Int) ≤ (if cell < 0 then -cell else cell))) (t + 1, r) : R Bool) else .ok false (t + 1, r)) = .ok false (t + 1, r) := by
      by_cases z1 : t < (ms.length : Nat)
      · rw [decide_eq_true z1, if_pos rfl, decide_eq_false fun z2 => z ⟨z1, z2⟩]
      · rw [decide_eq_false z1, if_neg Bool.false_ne_true]
    have e1 := mul_bd b4.1 (show c4 ≤ 2 ^ 32 by omega) h0 (show t ≤ 2 ^ 32 by omega)
    have q1 := Int.emod_nonneg cell (show c3 ≠ 0 by omega)
    have q2 := Int.emod_lt_of_pos cell b3.1
    have P1 : powF (.int (cell % c3 + c4 * t + c5)) (.int 5) = some (.int ((cell % c3 + c4 * t + c5) ^ (5 : Int).toNat)) := powF_ok (by decide) (by decide) (lt_4096 (by omega))
    have M1 : MulOk c4 t := mulOk_l (by omega) (by omega)
    obtain ⟨mx, hx⟩ : ∃ mx, (cell % c3 + c4 * t + c5) ^ (5 : Int).toNat % c6 = mx := ⟨_, rfl⟩
    have q3 := Int.emod_nonneg ((cell % c3 + c4 * t + c5) ^ (5 : Int).toNat) (show c6 ≠ 0 by omega)
    have q4 := Int.emod_lt_of_pos ((cell % c3 + c4 * t + c5) ^ (5 : Int).toNat) b6.1
    rw [hx] at q3 q4
    have e2 := mul_bd q3 (show mx ≤ 2 ^ 32 by omega) (show 0 ≤ 2 * t + c7 by omega) (show 2 * t + c7 ≤ 2 ^ 34 by omega)
    have e3 := mul_bd b8.1 (show c8 ≤ 2 ^ 32 by omega) h0 (show t ≤ 2 ^ 32 by omega)
    have e4 := mul_bd e3.1 e3.2 h0 (show t ≤ 2 ^ 32 by omega)
    have P2 : powF (.int (mx * (2 * t + c7) + c8 * t * t + c9)) (.int 3) = some (.int ((mx * (2 * t + c7) + c8 * t * t + c9) ^ (3 : Int).toNat)) := powF_ok (by decide) (by decide) (lt_4096 (by omega))
    have M2 : MulOk mx (2 * t + c7) := mulOk_l (by omega) (by omega)
    have M3 : MulOk 2 t := mulOk_l (by omega) (by omega)
    have M4 : MulOk c8 t := mulOk_l (by omega) (by omega)
    have M5 : MulOk (c8 * t) t := mulOk_r (by omega) (by omega)
    simp (decide := true) only [EV, fnM, List.length_cons, List.length_nil, Nat.reduceAdd, Nat.reduceSub, if_true, if_false, ↓reduceIte, List.map_cons, List.map_nil, List.replicate, List.cons_append, List.nil_append, Bool.false_eq_true, Bool.not_true, Bool.not_false, Bool.and_true, Bool.true_and, Bool.and_self, List.all_cons, List.all_nil, List.any_cons, List.any_nil, List.reverse_cons, List.reverse_nil, decide_true, decide_false, Int.reduceAdd, Int.reduceSub, Int.reduceMul, Int.reduceNeg, Option.map_some, p18, lenF_map, z', M1, M2, M3, M4, M5, modF_ok hk, modF_ok b3.1, modF_ok b6.1, modF_ok b10.1, P1, hx, P2, divF_ok (show (0 : Int) < 64 by decide) (by decide)]
    exact draw_fin hk (by omega) (by omega)
theorem reach4_ok (b1 : 0 ≤ c1 ∧ c1 < 2 ^ 32) (b2 : 0 ≤ c2 ∧ c2 < 2 ^ 32) (b3 : 0 < c3 ∧ c3 < 2 ^ 32) (b4 : 0 ≤ c4 ∧ c4 < 2 ^ 32) (b5 : 0 ≤ c5 ∧ c5 < 2 ^ 32) (b6 : 0 < c6 ∧ c6 < 2 ^ 32) (b7 : 0 ≤ c7 ∧ c7 < 2 ^ 32) (b8 : 0 ≤ c8 ∧ c8 < 2 ^ 32) (b9 : 0 ≤ c9 ∧ c9 < 2 ^ 32) (b10 : 0 < c10 ∧ c10 < 2 ^ 32)
    {ms : List Int} {k : Int} {n : Nat} {s : Sd} (hs : StOk n s) (hn : n < 2 ^ 31) (hk : 0 < k) (hk2 : k < 2 ^ 256) :
    Dr1 (m_reach4 c1 c2 c3 c4 c5 c6 c7 c8 c9 c10 [.drum ms, .int k] s) (n + 1) (fun d => ∃ v : Int, d = .int v ∧ 0 ≤ v ∧ v < k) := by
  obtain ⟨t, r⟩ := s
  obtain ⟨h0, h1⟩ := hs
  simp only at h0 h1
  unfold m_reach4
  rw [head_reach4]
  by_cases hr : 0 < r
  · simp (decide := true) only [EV, fnM, List.length_cons, List.length_nil, Nat.reduceAdd, Nat.reduceSub, if_true, if_false, ↓reduceIte, List.map_cons, List.map_nil, List.replicate, List.cons_append, List.nil_append, Bool.false_eq_true, Bool.not_true, Bool.not_false, Bool.and_true, Bool.true_and, Bool.and_self, List.all_cons, List.all_nil, List.any_cons, List.any_nil, List.reverse_cons, List.reverse_nil, decide_true, decide_false, Int.reduceAdd, Int.reduceSub, Int.reduceMul, Int.reduceNeg, Option.map_some, modF_ok hk, divF_ok hk hk2, hr, decide_true]
    exact draw_fin hk h0 (by omega)
  · have M1 : MulOk c1 t := mulOk_l (by omega) (by omega)
    cases ms with
    | nil =>
      simp (decide := true) only [EV, fnM, List.length_cons, List.length_nil, Nat.reduceAdd, Nat.reduceSub, if_true, if_false, ↓reduceIte, List.map_cons, List.map_nil, List.replicate, List.cons_append, List.nil_append, Bool.false_eq_true, Bool.not_true, Bool.not_false, Bool.and_true, Bool.true_and, Bool.and_self, List.all_cons, List.all_nil, List.any_cons, List.any_nil, List.reverse_cons, List.reverse_nil, decide_true, decide_false, Int.reduceAdd, Int.reduceSub, Int.reduceMul, Int.reduceNeg, Option.map_some, modF_ok hk, divF_ok hk hk2, hr, decide_false, M1, ev_neLN, List.isEmpty_nil]
      exact tail_reach4_ok b1 b2 b3 b4 b5 b6 b7 b8 b9 b10 h0 (by omega) (by omega) hk hk2
    | cons m ms =>
      have hl : (0 : Int) < ((m :: ms).length : Nat) := by simp only [List.length_cons]; omega
      obtain ⟨c, e⟩ := ix_int (ms := m :: ms) (Int.emod_nonneg t (by omega)) (Int.emod_lt_of_pos t hl)
      have l1 := lenF_map (m :: ms)
      have n1 : neF (.lst ((m :: ms).map D.int)) (.lst []) = some (.bl true) := ev_neLN
      generalize m :: ms = mm at *
      simp (decide := true) only [EV, fnM, List.length_cons, List.length_nil, Nat.reduceAdd, Nat.reduceSub, if_true, if_false, ↓reduceIte, List.map_cons, List.map_nil, List.replicate, List.cons_append, List.nil_append, Bool.false_eq_true, Bool.not_true, Bool.not_false, Bool.and_true, Bool.true_and, Bool.and_self, List.all_cons, List.all_nil, List.any_cons, List.any_nil, List.reverse_cons, List.reverse_nil, decide_true, decide_false, Int.reduceAdd, Int.reduceSub, Int.reduceMul, Int.reduceNeg, Option.map_some, modF_ok hk, divF_ok hk hk2, hr, decide_false, M1, n1, l1, modF_ok hl, e]
      exact tail_reach4_ok b1 b2 b3 b4 b5 b6 b7 b8 b9 b10 h0 (by omega) (by omega) hk hk2

def tail_reach5 (c3 c4 c5 c6 c7 c8 c9 c10 : Int) : FS := (fSeq (fIf (fAndT (fVal (fBin ltF (fVar 3) (fCB lenF (fCons (fDrum 0 0) fNil)))) (fVal (fBin geF (fCB absF (fCons (fVar 4) fNil)) (fBin powF (fC (.int 10)) (fC (.int 18)))))) (fSeq (fSet 2 (fBin addF (fBin mulF (fC (.int 2)) (fBin subF (fCB absF (fCons (fVar 4) fNil)) (fBin powF (fC (.int 10)) (fC (.int 18))))) (fCB intF (fCons (fBin ltF (fVar 4) (fC (.int 0))) fNil)))) (fSeq (fDrumSet 0 2 (fBin divF (fVar 2) (fVar 1))) (fRet (fBin modF (fCB intF (fCons (fVar 2) fNil)) (fVar 1))))) fNext) (fSeq (fSet 5 (fBin modF (fCB intF (fCons (fBin powF (fBin addF (fBin addF (fBin modF (fCB intF (fCons (fVar 4) fNil)) (fC (.int c3))) (fBin mulF (fC (.int c4)) (fVar 3))) (fC (.int c5))) (fC (.int 5))) fNil)) (fC (.int c6)))) (fSeq (fSet 5 (fBin modF (fCB intF (fCons (fBin powF (fBin addF (fBin addF (fBin mulF (fVar 5) (fBin addF (fBin mulF (fC (.int 2)) (fVar 3)) (fC (.int c7)))) (fBin mulF (fBin mulF (fC (.int c8)) (fVar 3)) (fVar 3))) (fC (.int c9))) (fC (.int 3))) fNil)) (fC (.int c10)))) (fRet (fBin modF (fCB intF (fCons (fBin divF (fVar 5) (fC (.int 64))) fNil)) (fVar 1))))))
theorem head_reach5 (c1 c2 c3 c4 c5 c6 c7 c8 c9 c10 : Int) : b_reach5 c1 c2 c3 c4 c5 c6 c7 c8 c9 c10 = (fSeq (fIf (fVal (fBin gtF (fDrum 0 2) (fC (.int 0)))) (fSeq (fSet 2 (fCB intF (fCons (fDrum 0 2) fNil))) (fSeq (fDrumSet 0 2 (fBin divF (fVar 2) (fVar 1))) (fRet (fBin modF (fCB intF (fCons (fVar 2) fNil)) (fVar 1))))) fNext) (fSeq (fSet 3 (fDrum 0 1)) (fSeq (fDrumSet 0 1 (fBin addF (fVar 3) (fC (.int 1)))) (fSeq (fSet 4 (fBin addF (fBin mulF (fC (.int c1)) (fVar 3)) (fC (.int c2)))) (fSeq (fIf (fVal (fBin neF (fDrum 0 0) (fLst fNil))) (fSet 4 (fBin ixF (fDrum 0 0) (fBin modF (fCB intF (fCons (fVar 3) fNil)) (fCB lenF (fCons (fDrum 0 0) fNil))))) fNext) (tail_reach5 c3 c4 c5 c6 c7 c8 c9 c10)))))) := rfl
theorem tail_reach5_ok (b1 : 0 ≤ c1 ∧ c1 < 2 ^ 32) (b2 : 0 ≤ c2 ∧ c2 < 2 ^ 32) (b3 : 0 < c3 ∧ c3 < 2 ^ 32) (b4 : 0 ≤ c4 ∧ c4 < 2 ^ 32) (b5 : 0 ≤ c5 ∧ c5 < 2 ^ 32) (b6 : 0 < c6 ∧ c6 < 2 ^ 32) (b7 : 0 ≤ c7 ∧ c7 < 2 ^ 32) (b8 : 0 ≤ c8 ∧ c8 < 2 ^ 32) (b9 : 0 ≤ c9 ∧ c9 < 2 ^ 32) (b10 : 0 < c10 ∧ c10 < 2 ^ 32)
    {ms : List Int} {k t r cell : Int} {n : Nat} (h0 : 0 ≤ t) (h1 : t < 2 ^ 31) (h2 : t + 1 ≤ n) (hk : 0 < k) (hk2 : k < 2 ^ 256) :
    Dr1 (tail_reach5 c3 c4 c5 c6 c7 c8 c9 c10 [.d (.drum ms), .d (.int k), .no, .d (.int t), .d (.int cell), .no] (t + 1, r)).fin n (fun d => ∃ v : Int, d = .int v ∧ 0 ≤ v ∧ v < k) := by
  unfold tail_reach5
  have p18 : powF (.int 10) (.int 18) = some (.int 1000000000000000000) := by rw [powF_small (by decide) (by decide) (by decide)]; rfl
  by_cases z : t < (ms.length : Nat) ∧ (1000000000000000000 : Int) ≤ (if cell < 0 then -cell else cell)
  · have m1 : MulOk 2 ((if cell < 0 then -cell else cell) - 1000000000000000000) := mulOk_l (by decide) (by decide)
    simp (decide := true) only [EV, fnM, List.length_cons, List.length_nil, Nat.reduceAdd, Nat.reduceSub, if_true, if_false, ↓reduceIte, List.map_cons, List.map_nil, List.replicate, List.cons_append, List.nil_append, Bool.false_eq_true, Bool.not_true, Bool.not_false, Bool.and_true, Bool.true_and, Bool.and_self, List.all_cons, List.all_nil, List.any_cons, List.any_nil, List.reverse_cons, List.reverse_nil, decide_true, decide_false, Int.reduceAdd, Int.reduceSub, Int.reduceMul, Int.reduceNeg, Option.map_some, modF_ok hk, divF_ok hk hk2, p18, lenF_map, z.1, z.2, decide_true, m1, ev_intBl]
    exact draw_fin hk (by omega) (by omega)
  · have z' : (if decide (t < (ms.length : Nat)) = true then (R.ok (decide ((1000000000000000000 : Int) ≤ (if cell < 0 then -cell else cell))) (t + 1, r) : R Bool) else .ok false (t + 1, r)) = .ok false (t + 1, r) := by
      by_cases z1 : t < (ms.length : Nat)
      · rw [decide_eq_true z1, if_pos rfl, decide_eq_false fun z2 => z ⟨z1, z2⟩]
      · rw [decide_eq_false z1, if_neg Bool.false_ne_true]
    have e1 := mul_bd b4.1 (show c4 ≤ 2 ^ 32 by omega) h0 (show t ≤ 2 ^ 32 by omega)
    have q1 := Int.emod_nonneg cell (show c3 ≠ 0 by omega)
    have q2 := Int.emod_lt_of_pos cell b3.1
    have P1 : powF (.int (cell % c3 + c4 * t + c5)) (.int 5) = some (.int ((cell % c3 + c4 * t + c5) ^ (5 : Int).toNat)) := powF_ok (by decide) (by decide) (lt_4096 (by omega))
    have M1 : MulOk c4 t := mulOk_l (by omega) (by omega)
    obtain ⟨mx, hx⟩ : ∃ mx, (cell % c3 + c4 * t + c5) ^ (5 : Int).toNat % c6 = mx := ⟨_, rfl⟩
    have q3 := Int.emod_nonneg ((cell % c3 + c4 * t + c5) ^ (5 : Int).toNat) (show c6 ≠ 0 by omega)
    have q4 := Int.emod_lt_of_pos ((cell % c3 + c4 * t + c5) ^ (5 : Int).toNat) b6.1
    rw [hx] at q3 q4
    have e2 := mul_bd q3 (show mx ≤ 2 ^ 32 by omega) (show 0 ≤ 2 * t + c7 by omega) (show 2 * t + c7 ≤ 2 ^ 34 by omega)
    have e3 := mul_bd b8.1 (show c8 ≤ 2 ^ 32 by omega) h0 (show t ≤ 2 ^ 32 by omega)
    have e4 := mul_bd e3.1 e3.2 h0 (show t ≤ 2 ^ 32 by omega)
    have P2 : powF (.int (mx * (2 * t + c7) + c8 * t * t + c9)) (.int 3) = some (.int ((mx * (2 * t + c7) + c8 * t * t + c9) ^ (3 : Int).toNat)) := powF_ok (by decide) (by decide) (lt_4096 (by omega))
    have M2 : MulOk mx (2 * t + c7) := mulOk_l (by omega) (by omega)
    have M3 : MulOk 2 t := mulOk_l (by omega) (by omega)
    have M4 : MulOk c8 t := mulOk_l (by omega) (by omega)
    have M5 : MulOk (c8 * t) t := mulOk_r (by omega) (by omega)
    simp (decide := true) only [EV, fnM, List.length_cons, List.length_nil, Nat.reduceAdd, Nat.reduceSub, if_true, if_false, ↓reduceIte, List.map_cons, List.map_nil, List.replicate, List.cons_append, List.nil_append, Bool.false_eq_true, Bool.not_true, Bool.not_false, Bool.and_true, Bool.true_and, Bool.and_self, List.all_cons, List.all_nil, List.any_cons, List.any_nil, List.reverse_cons, List.reverse_nil, decide_true, decide_false, Int.reduceAdd, Int.reduceSub, Int.reduceMul, Int.reduceNeg, Option.map_some, p18, lenF_map, z', M1, M2, M3, M4, M5, modF_ok hk, modF_ok b3.1, modF_ok b6.1, modF_ok b10.1, P1, hx, P2, divF_ok (show (0 : Int) < 64 by decide) (by decide)]
    exact draw_fin hk (by omega) (by omega)
theorem reach5_ok (b1 : 0 ≤ c1 ∧ c1 < 2 ^ 32) (b2 : 0 ≤ c2 ∧ c2 < 2 ^ 32) (b3 : 0 < c3 ∧ c3 < 2 ^ 32) (b4 : 0 ≤ c4 ∧ c4 < 2 ^ 32) (b5 : 0 ≤ c5 ∧ c5 < 2 ^ 32) (b6 : 0 < c6 ∧ c6 < 2 ^ 32) (b7 : 0 ≤ c7 ∧ c7 < 2 ^ 32) (b8 : 0 ≤ c8 ∧ c8 < 2 ^ 32) (b9 : 0 ≤ c9 ∧ c9 < 2 ^ 32) (b10 : 0 < c10 ∧ c10 < 2 ^ 32)
    {ms : List Int} {k : Int} {n : Nat} {s : Sd} (hs : StOk n s) (hn : n < 2 ^ 31) (hk : 0 < k) (hk2 : k < 2 ^ 256) :
    Dr1 (m_reach5 c1 c2 c3 c4 c5 c6 c7 c8 c9 c10 [.drum ms, .int k] s) (n + 1) (fun d => ∃ v : Int, d = .int v ∧ 0 ≤ v ∧ v < k) := by
  obtain ⟨t, r⟩ := s
  obtain ⟨h0, h1⟩ := hs
  simp only at h0 h1
  unfold m_reach5
  rw [head_reach5]
  by_cases hr : 0 < r
  · simp (decide := true) only [EV, fnM, List.length_cons, List.length_nil, Nat.reduceAdd, Nat.reduceSub, if_true, if_false, ↓reduceIte, List.map_cons, List.map_nil, List.replicate, List.cons_append, List.nil_append, Bool.false_eq_true, Bool.not_true, Bool.not_false, Bool.and_true, Bool.true_and, Bool.and_self, List.all_cons, List.all_nil, List.any_cons, List.any_nil, List.reverse_cons, List.reverse_nil, decide_true, decide_false, Int.reduceAdd, Int.reduceSub, Int.reduceMul, Int.reduceNeg, Option.map_some, modF_ok hk, divF_ok hk hk2, hr, decide_true]
    exact draw_fin hk h0 (by omega)
  · have M1 : MulOk c1 t := mulOk_l (by omega) (by omega)
    cases ms with
    | nil =>
      simp (decide := true) only [EV, fnM, List.length_cons, List.length_nil, Nat.reduceAdd, Nat.reduceSub, if_true, if_false, ↓reduceIte, List.map_cons, List.map_nil, List.replicate, List.cons_append, List.nil_append, Bool.false_eq_true, Bool.not_true, Bool.not_false, Bool.and_true, Bool.true_and, Bool.and_self, List.all_cons, List.all_nil, List.any_cons, List.any_nil, List.reverse_cons, List.reverse_nil, decide_true, decide_false, Int.reduceAdd, Int.reduceSub, Int.reduceMul, Int.reduceNeg, Option.map_some, modF_ok hk, divF_ok hk hk2, hr, decide_false, M1, ev_neLN, List.isEmpty_nil]
      exact tail_reach5_ok b1 b2 b3 b4 b5 b6 b7 b8 b9 b10 h0 (by omega) (by omega) hk hk2
    | cons m ms =>
      have hl : (0 : Int) < ((m :: ms).length : Nat) := by simp only [List.length_cons]; omega
      obtain ⟨c, e⟩ := ix_int (ms := m :: ms) (Int.emod_nonneg t (by omega)) (Int.emod_lt_of_pos t hl)
      have l1 := lenF_map (m :: ms)
      have n1 : neF (.lst ((m :: ms).map D.int)) (.lst []) = some (.bl true) := ev_neLN
      generalize m :: ms = mm at *
      simp (decide := true) only [EV, fnM, List.length_cons, List.length_nil, Nat.reduceAdd, Nat.reduceSub, if_true, if_false, ↓reduceIte, List.map_cons, List.map_nil, List.replicate, List.cons_append, List.nil_append, Bool.false_eq_true, Bool.not_true, Bool.not_false, Bool.and_true, Bool.true_and, Bool.and_self, List.all_cons, List.all_nil, List.any_cons, List.any_nil, List.reverse_cons, List.reverse_nil, decide_true, decide_false, Int.reduceAdd, Int.reduceSub, Int.reduceMul, Int.reduceNeg, Option.map_some, modF_ok hk, divF_ok hk hk2, hr, decide_false, M1, n1, l1, modF_ok hl, e]
      exact tail_reach5_ok b1 b2 b3 b4 b5 b6 b7 b8 b9 b10 h0 (by omega) (by omega) hk hk2

def tail_reach26 (c3 c4 c5 c6 c7 c8 c9 c10 : Int) : FS := (fSeq (fIf (fAndT (fVal (fBin ltF (fVar 3) (fCB lenF (fCons (fDrum 0 0) fNil)))) (fVal (fBin geF (fCB absF (fCons (fVar 4) fNil)) (fBin powF (fC (.int 10)) (fC (.int 18)))))) (fSeq (fSet 2 (fBin addF (fBin mulF (fC (.int 2)) (fBin subF (fCB absF (fCons (fCB intF (fCons (fVar 4) fNil)) fNil)) (fBin powF (fC (.int 10)) (fC (.int 18))))) (fCB intF (fCons (fBin ltF (fVar 4) (fC (.int 0))) fNil)))) (fSeq (fDrumSet 0 2 (fBin divF (fVar 2) (fVar 1))) (fRet (fBin modF (fCB intF (fCons (fVar 2) fNil)) (fVar 1))))) fNext) (fSeq (fSet 5 (fBin modF (fCB intF (fCons (fBin powF (fBin addF (fBin addF (fBin modF (fCB intF (fCons (fVar 4) fNil)) (fC (.int c3))) (fBin mulF (fC (.int c4)) (fVar 3))) (fC (.int c5))) (fC (.int 5))) fNil)) (fC (.int c6)))) (fSeq (fSet 5 (fBin modF (fCB intF (fCons (fBin powF (fBin addF (fBin addF (fBin mulF (fVar 5) (fBin addF (fBin mulF (fC (.int 2)) (fVar 3)) (fC (.int c7)))) (fBin mulF (fBin mulF (fC (.int c8)) (fVar 3)) (fVar 3))) (fC (.int c9))) (fC (.int 3))) fNil)) (fC (.int c10)))) (fRet (fBin modF (fCB intF (fCons (fBin divF (fVar 5) (fC (.int 64))) fNil)) (fVar 1))))))
theorem head_reach26 (c1 c2 c3 c4 c5 c6 c7 c8 c9 c10 : Int) : b_reach26 c1 c2 c3 c4 c5 c6 c7 c8 c9 c10 = (fSeq (fIf (fVal (fBin gtF (fDrum 0 2) (fC (.int 0)))) (fSeq (fSet 2 (fCB intF (fCons (fDrum 0 2) fNil))) (fSeq (fDrumSet 0 2 (fBin divF (fVar 2) (fVar 1))) (fRet (fBin modF (fCB intF (fCons (fVar 2) fNil)) (fVar 1))))) fNext) (fSeq (fSet 3 (fDrum 0 1)) (fSeq (fDrumSet 0 1 (fBin addF (fVar 3) (fC (.int 1)))) (fSeq (fSet 4 (fBin addF (fBin mulF (fC (.int c1)) (fVar 3)) (fC (.int c2)))) (fSeq (fIf (fVal (fBin neF (fDrum 0 0) (fLst fNil))) (fSet 4 (fBin ixF (fDrum 0 0) (fBin modF (fCB intF (fCons (fVar 3) fNil)) (fCB lenF (fCons (fDrum 0 0) fNil))))) fNext) (tail_reach26 c3 c4 c5 c6 c7 c8 c9 c10)))))) := rfl
theorem tail_reach26_ok (b1 : 0 ≤ c1 ∧ c1 < 2 ^ 32) (b2 : 0 ≤ c2 ∧ c2 < 2 ^ 32) (b3 : 0 < c3 ∧ c3 < 2 ^ 32) (b4 : 0 ≤ c4 ∧ c4 < 2 ^ 32) (b5 : 0 ≤ c5 ∧ c5 < 2 ^ 32) (b6 : 0 < c6 ∧ c6 < 2 ^ 32) (b7 : 0 ≤ c7 ∧ c7 < 2 ^ 32) (b8 : 0 ≤ c8 ∧ c8 < 2 ^ 32) (b9 : 0 ≤ c9 ∧ c9 < 2 ^ 32) (b10 : 0 < c10 ∧ c10 < 2 ^ 32)
    {ms : List Int} {k t r cell : Int} {n : Nat} (h0 : 0 ≤ t) (h1 : t < 2 ^ 31) (h2 : t + 1 ≤ n) (hk : 0 < k) (hk2 : k < 2 ^ 256) :
    Dr1 (tail_reach26 c3 c4 c5 c6 c7 c8 c9 c10 [.d (.drum ms), .d (.int k), .no, .d (.int t), .d (.int cell), .no] (t + 1, r)).fin n (fun d => ∃ v : Int, d = .int v ∧ 0 ≤ v ∧ v < k) := by
  unfold tail_reach26
  have p18 : powF (.int 10) (.int 18) = some (.int 1000000000000000000) := by rw [powF_small (by decide) (by decide) (by decide)]; rfl
  by_cases z : t < (ms.length : Nat) ∧ (1000000000000000000 : Int) ≤ (if cell < 0 then -cell else cell)
  · have m1 : MulOk 2 ((if cell < 0 then -cell else cell) - 1000000000000000000) := mulOk_l (by decide) (by decide)
    simp (decide := true) only [EV, fnM, List.length_cons, List.length_nil, Nat.reduceAdd, Nat.reduceSub, if_true, if_false, ↓reduceIte, List.map_cons, List.map_nil, List.replicate, List.cons_append, List.nil_append, Bool.false_eq_true, Bool.not_true, Bool.not_false, Bool.and_true, Bool.true_and, Bool.and_self, List.all_cons, List.all_nil, List.any_cons, List.any_nil, List.reverse_cons, List.reverse_nil, decide_true, decide_false, Int.reduceAdd, Int.reduceSub, Int.reduceMul, Int.reduceNeg, Option.map_some, modF_ok hk, divF_ok hk hk2, p18, lenF_map, z.1, z.2, decide_true, m1, ev_intBl]
    exact draw_fin hk (by omega) (by omega)
  · have z' : (if decide (t < (ms.length : Nat)) = true then (R.ok (decide ((1000000000000000000 : Int) ≤ (if cell < 0 then -cell else cell))) (t + 1, r) : R Bool) else .ok false (t + 1, r)) = .ok false (t + 1, r) := by
      by_cases z1 : t < (ms.length : Nat)
      · rw [decide_eq_true z1, if_pos rfl, decide_eq_false fun z2 => z ⟨z1, z2⟩]
      · rw [decide_eq_false z1, if_neg Bool.false_ne_true]
    have e1 := mul_bd b4.1 (show c4 ≤ 2 ^ 32 by omega) h0 (show t ≤ 2 ^ 32 by omega)
    have q1 := Int.emod_nonneg cell (show c3 ≠ 0 by omega)
    have q2 := Int.emod_lt_of_pos cell b3.1
    have P1 : powF (.int (cell % c3 + c4 * t + c5)) (.int 5) = some (.int ((cell % c3 + c4 * t + c5) ^ (5 : Int).toNat)) := powF_ok (by decide) (by decide) (lt_4096 (by omega))
    have M1 : MulOk c4 t := mulOk_l (by omega) (by omega)
    obtain ⟨mx, hx⟩ : ∃ mx, (cell % c3 + c4 * t + c5) ^ (5 : Int).toNat % c6 = mx := ⟨_, rfl⟩
    have q3 := Int.emod_nonneg ((cell % c3 + c4 * t + c5) ^ (5 : Int).toNat) (show c6 ≠ 0 by omega)
    have q4 := Int.emod_lt_of_pos ((cell % c3 + c4 * t + c5) ^ (5 : Int).toNat) b6.1
    rw [hx] at q3 q4
    have e2 := mul_bd q3 (show mx ≤ 2 ^ 32 by omega) (show 0 ≤ 2 * t + c7 by omega) (show 2 * t + c7 ≤ 2 ^ 34 by omega)
    have e3 := mul_bd b8.1 (show c8 ≤ 2 ^ 32 by omega) h0 (show t ≤ 2 ^ 32 by omega)
    have e4 := mul_bd e3.1 e3.2 h0 (show t ≤ 2 ^ 32 by omega)
    have P2 : powF (.int (mx * (2 * t + c7) + c8 * t * t + c9)) (.int 3) = some (.int ((mx * (2 * t + c7) + c8 * t * t + c9) ^ (3 : Int).toNat)) := powF_ok (by decide) (by decide) (lt_4096 (by omega))
    have M2 : MulOk mx (2 * t + c7) := mulOk_l (by omega) (by omega)
    have M3 : MulOk 2 t := mulOk_l (by omega) (by omega)
    have M4 : MulOk c8 t := mulOk_l (by omega) (by omega)
    have M5 : MulOk (c8 * t) t := mulOk_r (by omega) (by omega)
    simp (decide := true) only [EV, fnM, List.length_cons, List.length_nil, Nat.reduceAdd, Nat.reduceSub, if_true, if_false, ↓reduceIte, List.map_cons, List.map_nil, List.replicate, List.cons_append, List.nil_append, Bool.false_eq_true, Bool.not_true, Bool.not_false, Bool.and_true, Bool.true_and, Bool.and_self, List.all_cons, List.all_nil, List.any_cons, List.any_nil, List.reverse_cons, List.reverse_nil, decide_true, decide_false, Int.reduceAdd, Int.reduceSub, Int.reduceMul, Int.reduceNeg, Option.map_some, p18, lenF_map, z', M1, M2, M3, M4, M5, modF_ok hk, modF_ok b3.1, modF_ok b6.1, modF_ok b10.1, P1, hx, P2, divF_ok (show (0 : Int) < 64 by decide) (by decide)]
    exact draw_fin hk (by omega) (by omega)
theorem reach26_ok (b1 : 0 ≤ c1 ∧ c1 < 2 ^ 32) (b2 : 0 ≤ c2 ∧ c2 < 2 ^ 32) (b3 : 0 < c3 ∧ c3 < 2 ^ 32) (b4 : 0 ≤ c4 ∧ c4 < 2 ^ 32) (b5 : 0 ≤ c5 ∧ c5 < 2 ^ 32) (b6 : 0 < c6 ∧ c6 < 2 ^ 32) (b7 : 0 ≤ c7 ∧ c7 < 2 ^ 32) (b8 : 0 ≤ c8 ∧ c8 < 2 ^ 32) (b9 : 0 ≤ c9 ∧ c9 < 2 ^ 32) (b10 : 0 < c10 ∧ c10 < 2 ^ 32)
    {ms : List Int} {k : Int} {n : Nat} {s : Sd} (hs : StOk n s) (hn : n < 2 ^ 31) (hk : 0 < k) (hk2 : k < 2 ^ 256) :
    Dr1 (m_reach26 c1 c2 c3 c4 c5 c6 c7 c8 c9 c10 [.drum ms, .int k] s) (n + 1) (fun d => ∃ v : Int, d = .int v ∧ 0 ≤ v ∧ v < k) := by
  obtain ⟨t, r⟩ := s
  obtain ⟨h0, h1⟩ := hs
  simp only at h0 h1
  unfold m_reach26
  rw [head_reach26]
  by_cases hr : 0 < r
  · simp (decide := true) only [EV, fnM, List.length_cons, List.length_nil, Nat.reduceAdd, Nat.reduceSub, if_true, if_false, ↓reduceIte, List.map_cons, List.map_nil, List.replicate, List.cons_append, List.nil_append, Bool.false_eq_true, Bool.not_true, Bool.not_false, Bool.and_true, Bool.true_and, Bool.and_self, List.all_cons, List.all_nil, List.any_cons, List.any_nil, List.reverse_cons, List.reverse_nil, decide_true, decide_false, Int.reduceAdd, Int.reduceSub, Int.reduceMul, Int.reduceNeg, Option.map_some, modF_ok hk, divF_ok hk hk2, hr, decide_true]
    exact draw_fin hk h0 (by omega)
  · have M1 : MulOk c1 t := mulOk_l (by omega) (by omega)
    cases ms with
    | nil =>
      simp (decide := true) only [EV, fnM, List.length_cons, List.length_nil, Nat.reduceAdd, Nat.reduceSub, if_true, if_false, ↓reduceIte, List.map_cons, List.map_nil, List.replicate, List.cons_append, List.nil_append, Bool.false_eq_true, Bool.not_true, Bool.not_false, Bool.and_true, Bool.true_and, Bool.and_self, List.all_cons, List.all_nil, List.any_cons, List.any_nil, List.reverse_cons, List.reverse_nil, decide_true, decide_false, Int.reduceAdd, Int.reduceSub, Int.reduceMul, Int.reduceNeg, Option.map_some, modF_ok hk, divF_ok hk hk2, hr, decide_false, M1, ev_neLN, List.isEmpty_nil]
      exact tail_reach26_ok b1 b2 b3 b4 b5 b6 b7 b8 b9 b10 h0 (by omega) (by omega) hk hk2
    | cons m ms =>
      have hl : (0 : Int) < ((m :: ms).length : Nat) := by simp only [List.length_cons]; omega
      obtain ⟨c, e⟩ := ix_int (ms := m :: ms) (Int.emod_nonneg t (by omega)) (Int.emod_lt_of_pos t hl)
      have l1 := lenF_map (m :: ms)
      have n1 : neF (.lst ((m :: ms).map D.int)) (.lst []) = some (.bl true) := ev_neLN
      generalize m :: ms = mm at *
      simp (decide := true) only [EV, fnM, List.length_cons, List.length_nil, Nat.reduceAdd, Nat.reduceSub, if_true, if_false, ↓reduceIte, List.map_cons, List.map_nil, List.replicate, List.cons_append, List.nil_append, Bool.false_eq_true, Bool.not_true, Bool.not_false, Bool.and_true, Bool.true_and, Bool.and_self, List.all_cons, List.all_nil, List.any_cons, List.any_nil, List.reverse_cons, List.reverse_nil, decide_true, decide_false, Int.reduceAdd, Int.reduceSub, Int.reduceMul, Int.reduceNeg, Option.map_some, modF_ok hk, divF_ok hk hk2, hr, decide_false, M1, n1, l1, modF_ok hl, e]
      exact tail_reach26_ok b1 b2 b3 b4 b5 b6 b7 b8 b9 b10 h0 (by omega) (by omega) hk hk2

def tail_reach10 (c3 c4 c5 c6 c7 c8 c9 c10 : Int) : FS := (fSeq (fIf (fAndT (fVal (fBin ltF (fVar 3) (fCB lenF (fCons (fDrum 0 0) fNil)))) (fVal (fBin geF (fCB absF (fCons (fVar 4) fNil)) (fBin powF (fC (.int 10)) (fC (.int 18)))))) (fSeq (fSet 2 (fBin addF (fBin mulF (fC (.int 2)) (fBin subF (fCB absF (fCons (fVar 4) fNil)) (fBin powF (fC (.int 10)) (fC (.int 18))))) (fCB intF (fCons (fBin ltF (fVar 4) (fC (.int 0))) fNil)))) (fSeq (fDrumSet 0 2 (fBin divF (fCB intF (fCons (fVar 2) fNil)) (fVar 1))) (fRet (fBin modF (fCB intF (fCons (fVar 2) fNil)) (fVar 1))))) fNext) (fSeq (fSet 5 (fBin modF (fCB intF (fCons (fBin powF (fBin addF (fBin addF (fBin modF (fCB intF (fCons (fVar 4) fNil)) (fC (.int c3))) (fBin mulF (fC (.int c4)) (fVar 3))) (fC (.int c5))) (fC (.int 5))) fNil)) (fC (.int c6)))) (fSeq (fSet 5 (fBin modF (fCB intF (fCons (fBin powF (fBin addF (fBin addF (fBin mulF (fVar 5) (fBin addF (fBin mulF (fC (.int 2)) (fVar 3)) (fC (.int c7)))) (fBin mulF (fBin mulF (fC (.int c8)) (fVar 3)) (fVar 3))) (fC (.int c9))) (fC (.int 3))) fNil)) (fC (.int c10)))) (fRet (fBin modF (fCB intF (fCons (fBin divF (fVar 5) (fC (.int 64))) fNil)) (fVar 1))))))
theorem head_reach10 (c1 c2 c3 c4 c5 c6 c7 c8 c9 c10 : Int) : b_reach10 c1 c2 c3 c4 c5 c6 c7 c8 c9 c10 = (fSeq (fIf (fVal (fBin gtF (fDrum 0 2) (fC (.int 0)))) (fSeq (fSet 2 (fCB intF (fCons (fDrum 0 2) fNil))) (fSeq (fDrumSet 0 2 (fBin divF (fVar 2) (fVar 1))) (fRet (fBin modF (fCB intF (fCons (fVar 2) fNil)) (fVar 1))))) fNext) (fSeq (fSet 3 (fDrum 0 1)) (fSeq (fDrumSet 0 1 (fBin addF (fVar 3) (fC (.int 1)))) (fSeq (fSet 4 (fBin addF (fBin mulF (fC (.int c1)) (fVar 3)) (fC (.int c2)))) (fSeq (fIf (fVal (fBin neF (fDrum 0 0) (fLst fNil))) (fSet 4 (fBin ixF (fDrum 0 0) (fBin modF (fCB intF (fCons (fVar 3) fNil)) (fCB lenF (fCons (fDrum 0 0) fNil))))) fNext) (tail_reach10 c3 c4 c5 c6 c7 c8 c9 c10)))))) := rfl
theorem tail_reach10_ok (b1 : 0 ≤ c1 ∧ c1 < 2 ^ 32) (b2 : 0 ≤ c2 ∧ c2 < 2 ^ 32) (b3 : 0 < c3 ∧ c3 < 2 ^ 32) (b4 : 0 ≤ c4 ∧ c4 < 2 ^ 32) (b5 : 0 ≤ c5 ∧ c5 < 2 ^ 32) (b6 : 0 < c6 ∧ c6 < 2 ^ 32) (b7 : 0 ≤ c7 ∧ c7 < 2 ^ 32) (b8 : 0 ≤ c8 ∧ c8 < 2 ^ 32) (b9 : 0 ≤ c9 ∧ c9 < 2 ^ 32) (b10 : 0 < c10 ∧ c10 < 2 ^ 32)
    {ms : List Int} {k t r cell : Int} {n : Nat} (h0 : 0 ≤ t) (h1 : t < 2 ^ 31) (h2 : t + 1 ≤ n) (hk : 0 < k) (hk2 : k < 2 ^ 256) :
    Dr1 (tail_reach10 c3 c4 c5 c6 c7 c8 c9 c10 [.d (.drum ms), .d (.int k), .no, .d (.int t), .d (.int cell), .no] (t + 1, r)).fin n (fun d => ∃ v : Int, d = .int v ∧ 0 ≤ v ∧ v < k) := by
  unfold tail_reach10
  have p18 : powF (.int 10) (.int 18) = some (.int 1000000000000000000) := by rw [powF_small (by decide) (by decide) (by decide)]; rfl
  by_cases z : t < (ms.length : Nat) ∧ (1000000000000000000 : Int) ≤ (if cell < 0 then -cell else cell)
  · have m1 : MulOk 2 ((if cell < 0 then -cell else cell) - 1000000000000000000) := mulOk_l (by decide) (by decide)
    simp (decide := true) only [EV, fnM, List.length_cons, List.length_nil, Nat.reduceAdd, Nat.reduceSub, if_true, if_false, ↓reduceIte, List.map_cons, List.map_nil, List.replicate, List.cons_append, List.nil_append, Bool.false_eq_true, Bool.not_true, Bool.not_false, Bool.and_true, Bool.true_and, Bool.and_self, List.all_cons, List.all_nil, List.any_cons, List.any_nil, List.reverse_cons, List.reverse_nil, decide_true, decide_false, Int.reduceAdd, Int.reduceSub, Int.reduceMul, Int.reduceNeg, Option.map_some, modF_ok hk, divF_ok hk hk2, p18, lenF_map, z.1, z.2, decide_true, m1, ev_intBl]
    exact draw_fin hk (by omega) (by omega)
  · have z' : (if decide (t < (ms.length : Nat)) = true then (R.ok (decide ((1000000000000000000 : Int) ≤ (if cell < 0 then -cell else cell))) (t + 1, r) : R Bool) else .ok false (t + 1, r)) = .ok false (t + 1, r) := by
      by_cases z1 : t < (ms.length : Nat)
      · rw [decide_eq_true z1, if_pos rfl, decide_eq_false fun z2 => z ⟨z1, z2⟩]
      · rw [decide_eq_false z1, if_neg Bool.false_ne_true]
    have e1 := mul_bd b4.1 (show c4 ≤ 2 ^ 32 by omega) h0 (show t ≤ 2 ^ 32 by omega)
    have q1 := Int.emod_nonneg cell (show c3 ≠ 0 by omega)
    have q2 := Int.emod_lt_of_pos cell b3.1
    have P1 : powF (.int (cell % c3 + c4 * t + c5)) (.int 5) = some (.int ((cell % c3 + c4 * t + c5) ^ (5 : Int).toNat)) := powF_ok (by decide) (by decide) (lt_4096 (by omega))
    have M1 : MulOk c4 t := mulOk_l (by omega) (by omega)
    obtain ⟨mx, hx⟩ : ∃ mx, (cell % c3 + c4 * t + c5) ^ (5 : Int).toNat % c6 = mx := ⟨_, rfl⟩
    have q3 := Int.emod_nonneg ((cell % c3 + c4 * t + c5) ^ (5 : Int).toNat) (show c6 ≠ 0 by omega)
    have q4 := Int.emod_lt_of_pos ((cell % c3 + c4 * t + c5) ^ (5 : Int).toNat) b6.1
    rw [hx] at q3 q4
    have e2 := mul_bd q3 (show mx ≤ 2 ^ 32 by omega) (show 0 ≤ 2 * t + c7 by omega) (show 2 * t + c7 ≤ 2 ^ 34 by omega)
    have e3 := mul_bd b8.1 (show c8 ≤ 2 ^ 32 by omega) h0 (show t ≤ 2 ^ 32 by omega)
    have e4 := mul_bd e3.1 e3.2 h0 (show t ≤ 2 ^ 32 by omega)
    have P2 : powF (.int (mx * (2 * t + c7) + c8 * t * t + c9)) (.int 3) = some (.int ((mx * (2 * t + c7) + c8 * t * t + c9) ^ (3 : Int).toNat)) := powF_ok (by decide) (by decide) (lt_4096 (by omega))
    have M2 : MulOk mx (2 * t + c7) := mulOk_l (by omega) (by omega)
    have M3 : MulOk 2 t := mulOk_l (by omega) (by omega)
    have M4 : MulOk c8 t := mulOk_l (by omega) (by omega)
    have M5 : MulOk (c8 * t) t := mulOk_r (by omega) (by omega)
    simp (decide := true) only [EV, fnM, List.length_cons, List.length_nil, Nat.reduceAdd, Nat.reduceSub, if_true, if_false, ↓reduceIte, List.map_cons, List.map_nil, List.replicate, List.cons_append, List.nil_append, Bool.false_eq_true, Bool.not_true, Bool.not_false, Bool.and_true, Bool.true_and, Bool.and_self, List.all_cons, List.all_nil, List.any_cons, List.any_nil, List.reverse_cons, List.reverse_nil, decide_true, decide_false, Int.reduceAdd, Int.reduceSub, Int.reduceMul, Int.reduceNeg, Option.map_some, p18, lenF_map, z', M1, M2, M3, M4, M5, modF_ok hk, modF_ok b3.1, modF_ok b6.1, modF_ok b10.1, P1, hx, P2, divF_ok (show (0 : Int) < 64 by decide) (by decide)]
    exact draw_fin hk (by omega) (by omega)
theorem reach10_ok (b1 : 0 ≤ c1 ∧ c1 < 2 ^ 32) (b2 : 0 ≤ c2 ∧ c2 < 2 ^ 32) (b3 : 0 < c3 ∧ c3 < 2 ^ 32) (b4 : 0 ≤ c4 ∧ c4 < 2 ^ 32) (b5 : 0 ≤ c5 ∧ c5 < 2 ^ 32) (b6 : 0 < c6 ∧ c6 < 2 ^ 32) (b7 : 0 ≤ c7 ∧ c7 < 2 ^ 32) (b8 : 0 ≤ c8 ∧ c8 < 2 ^ 32) (b9 : 0 ≤ c9 ∧ c9 < 2 ^ 32) (b10 : 0 < c10 ∧ c10 < 2 ^ 32)
    {ms : List Int} {k : Int} {n : Nat} {s : Sd} (hs : StOk n s) (hn : n < 2 ^ 31) (hk : 0 < k) (hk2 : k < 2 ^ 256) :
    Dr1 (m_reach10 c1 c2 c3 c4 c5 c6 c7 c8 c9 c10 [.drum ms, .int k] s) (n + 1) (fun d => ∃ v : Int, d = .int v ∧ 0 ≤ v ∧ v < k) := by
  obtain ⟨t, r⟩ := s
  obtain ⟨h0, h1⟩ := hs
  simp only at h0 h1
  unfold m_reach10
  rw [head_reach10]
  by_cases hr : 0 < r
  · simp (decide := true) only [EV, fnM, List.length_cons, List.length_nil, Nat.reduceAdd, Nat.reduceSub, if_true, if_false, ↓reduceIte, List.map_cons, List.map_nil, List.replicate, List.cons_append, List.nil_append, Bool.false_eq_true, Bool.not_true, Bool.not_false, Bool.and_true, Bool.true_and, Bool.and_self, List.all_cons, List.all_nil, List.any_cons, List.any_nil, List.reverse_cons, List.reverse_nil, decide_true, decide_false, Int.reduceAdd, Int.reduceSub, Int.reduceMul, Int.reduceNeg, Option.map_some, modF_ok hk, divF_ok hk hk2, hr, decide_true]
    exact draw_fin hk h0 (by omega)
  · have M1 : MulOk c1 t := mulOk_l (by omega) (by omega)
    cases ms with
    | nil =>
      simp (decide := true) only [EV, fnM, List.length_cons, List.length_nil, Nat.reduceAdd, Nat.reduceSub, if_true, if_false, ↓reduceIte, List.map_cons, List.map_nil, List.replicate, List.cons_append, List.nil_append, Bool.false_eq_true, Bool.not_true, Bool.not_false, Bool.and_true, Bool.true_and, Bool.and_self, List.all_cons, List.all_nil, List.any_cons, List.any_nil, List.reverse_cons, List.reverse_nil, decide_true, decide_false, Int.reduceAdd, Int.reduceSub, Int.reduceMul, Int.reduceNeg, Option.map_some, modF_ok hk, divF_ok hk hk2, hr, decide_false, M1, ev_neLN, List.isEmpty_nil]
      exact tail_reach10_ok b1 b2 b3 b4 b5 b6 b7 b8 b9 b10 h0 (by omega) (by omega) hk hk2
    | cons m ms =>
      have hl : (0 : Int) < ((m :: ms).length : Nat) := by simp only [List.length_cons]; omega
      obtain ⟨c, e⟩ := ix_int (ms := m :: ms) (Int.emod_nonneg t (by omega)) (Int.emod_lt_of_pos t hl)
      have l1 := lenF_map (m :: ms)
      have n1 : neF (.lst ((m :: ms).map D.int)) (.lst []) = some (.bl true) := ev_neLN
      generalize m :: ms = mm at *
      simp (decide := true) only [EV, fnM, List.length_cons, List.length_nil, Nat.reduceAdd, Nat.reduceSub, if_true, if_false, ↓reduceIte, List.map_cons, List.map_nil, List.replicate, List.cons_append, List.nil_append, Bool.false_eq_true, Bool.not_true, Bool.not_false, Bool.and_true, Bool.true_and, Bool.and_self, List.all_cons, List.all_nil, List.any_cons, List.any_nil, List.reverse_cons, List.reverse_nil, decide_true, decide_false, Int.reduceAdd, Int.reduceSub, Int.reduceMul, Int.reduceNeg, Option.map_some, modF_ok hk, divF_ok hk hk2, hr, decide_false, M1, n1, l1, modF_ok hl, e]
      exact tail_reach10_ok b1 b2 b3 b4 b5 b6 b7 b8 b9 b10 h0 (by omega) (by omega) hk hk2
end
end DL
/-! G6: a law's own functions of numbers (form1: the divisor by a loop of its own). -/
namespace DL
open PySem PySem.Spec L2 H
theorem gcd_loopC {tt : FB} {te : FS} {s : Sd} (C : Int → Int → SEnv) (h1 : ∀ a b : Int, tt (C a b) s = .ok (decide (0 < b)) s) (h2 : ∀ a b : Int, 0 < b → te (C a b) s = .nx (C b (a.fmod b)) s) :
    ∀ (n : Nat) (a b : Int), 0 ≤ a → 0 ≤ b → b.toNat ≤ n → fWhile tt te (C a b) s = .nx (C (Int.gcd a b) 0) s := by
  intro n
  induction n with
  | zero =>
    intro a b ha hb hn
    have e : b = 0 := by omega
    subst e
    rw [ev_while, h1, ev_whA]
    simp only [Int.lt_irrefl, decide_false, Bool.false_eq_true, if_false, Int.gcd_zero]
    rw [show ((a.natAbs : Nat) : Int) = a by omega]
  | succ n ih =>
    intro a b ha hb hn
    by_cases hp : 0 < b
    · have p1 := Int.fmod_nonneg_of_pos a hp
      have p2 := Int.fmod_lt_of_pos a hp
      rw [ev_while, h1, ev_whA]
      simp only [decide_eq_true hp, if_true]
      rw [h2 a b hp, ev_lnx, ih b _ hb p1 (by omega), gcd_step a b hp]
    · have e : b = 0 := by omega
      subst e
      rw [ev_while, h1, ev_whA]
      simp only [Int.lt_irrefl, decide_false, Bool.false_eq_true, if_false, Int.gcd_zero]
      rw [show ((a.natAbs : Nat) : Int) = a by omega]
theorem modF_nz {i j : Int} (h : 0 < j) : modF (.int i) (.int j) = some (.int (i.fmod j)) := by
  unfold modF
  simp only
  rw [if_pos (show j ≠ 0 by omega)]
theorem gcd_nn (a b : Int) : Int.gcd (a.natAbs : Int) (b.natAbs : Int) = Int.gcd a b := by simp [Int.gcd]
section
variable {s : Sd} {x y z w : Rat} {a b c d : Nat}
theorem form1_ok {i j : Int} (h : j ≠ 0) (h2 : j.natAbs < 2 ^ 9000) : m_form1 [.int i, .int j] s = .ok (numD ((i : Rat) / j)) s := by
  obtain ⟨g0, g1⟩ := gcd_bd (a := i) h
  have d1 : DivOk (Int.gcd i j : Int) := divOk_of (by omega) (Nat.lt_of_le_of_lt (by omega) h2)
  unfold m_form1 b_form1
  simp (decide := true) only [EV, fnM, List.length_cons, List.length_nil, Nat.reduceAdd, Nat.reduceSub, if_true, if_false, ↓reduceIte, List.map_cons, List.map_nil, List.replicate, List.cons_append, List.nil_append, Bool.false_eq_true, Bool.not_true, Bool.not_false, Bool.and_true, Bool.true_and, Bool.and_self, List.all_cons, List.all_nil, List.any_cons, List.any_nil, List.reverse_cons, List.reverse_nil, decide_true, decide_false, Int.reduceAdd, Int.reduceSub, Int.reduceMul, Int.reduceNeg, Option.map_some, abs_eq]
  rw [gcd_loopC (fun u v => [.d (.int i), .d (.int j), .d (.int u), .d (.int v)]) (fun u v => by simp (decide := true) only [EV, fnM, List.length_cons, List.length_nil, Nat.reduceAdd, Nat.reduceSub, if_true, if_false, ↓reduceIte, List.map_cons, List.map_nil, List.replicate, List.cons_append, List.nil_append, Bool.false_eq_true, Bool.not_true, Bool.not_false, Bool.and_true, Bool.true_and, Bool.and_self, List.all_cons, List.all_nil, List.any_cons, List.any_nil, List.reverse_cons, List.reverse_nil, decide_true, decide_false, Int.reduceAdd, Int.reduceSub, Int.reduceMul, Int.reduceNeg, Option.map_some]) (fun u v h => by simp (decide := true) only [EV, fnM, List.length_cons, List.length_nil, Nat.reduceAdd, Nat.reduceSub, if_true, if_false, ↓reduceIte, List.map_cons, List.map_nil, List.replicate, List.cons_append, List.nil_append, Bool.false_eq_true, Bool.not_true, Bool.not_false, Bool.and_true, Bool.true_and, Bool.and_self, List.all_cons, List.all_nil, List.any_cons, List.any_nil, List.reverse_cons, List.reverse_nil, decide_true, decide_false, Int.reduceAdd, Int.reduceSub, Int.reduceMul, Int.reduceNeg, Option.map_some, modF_nz h]) j.natAbs i.natAbs j.natAbs (by omega) (by omega) (by omega), gcd_nn]
  simp (decide := true) only [EV, fnM, List.length_cons, List.length_nil, Nat.reduceAdd, Nat.reduceSub, if_true, if_false, ↓reduceIte, List.map_cons, List.map_nil, List.replicate, List.cons_append, List.nil_append, Bool.false_eq_true, Bool.not_true, Bool.not_false, Bool.and_true, Bool.true_and, Bool.and_self, List.all_cons, List.all_nil, List.any_cons, List.any_nil, List.reverse_cons, List.reverse_nil, decide_true, decide_false, Int.reduceAdd, Int.reduceSub, Int.reduceMul, Int.reduceNeg, Option.map_some, d1, abs_eq]
  rw [← numD_div h]
  have hd1 : (Int.gcd i j : Int) ∣ i := Int.gcd_dvd_left ..
  have hd2 : (Int.gcd i j : Int) ∣ j := Int.gcd_dvd_right ..
  have n1 : i.fdiv (-(Int.gcd i j : Int)) = -(i.fdiv (Int.gcd i j : Int)) := by rw [fdiv_exact (Int.neg_dvd.mpr hd1), fdiv_exact hd1, Int.ediv_neg]
  have n2 : j.fdiv (-(Int.gcd i j : Int)) = -(j.fdiv (Int.gcd i j : Int)) := by rw [fdiv_exact (Int.neg_dvd.mpr hd2), fdiv_exact hd2, Int.ediv_neg]
  have pos : 0 < j.fdiv (Int.gcd i j : Int) ↔ 0 < j := by
    rw [fdiv_exact hd2]
    obtain ⟨m, hm⟩ := hd2
    have gp : (0 : Int) < (Int.gcd i j : Int) := by omega
    generalize hg : (Int.gcd i j : Int) = g at *
    rw [hm, Int.mul_ediv_cancel_left m (by omega)]
    constructor
    · intro hp; exact Int.mul_pos gp hp
    · intro hp
      by_cases hm0 : 0 < m
      · exact hm0
      · have h3 := Int.mul_nonneg (Int.le_of_lt gp) (show 0 ≤ -m by omega)
        rw [Int.mul_neg] at h3
        omega
  by_cases hj : j < 0
  · rw [if_pos hj, n1, n2]
    have np : ¬ 0 < j.fdiv (Int.gcd i j : Int) := fun z => by have := pos.mp z; omega
    generalize j.fdiv (Int.gcd i j : Int) = u at *
    generalize i.fdiv (Int.gcd i j : Int) = v at *
    by_cases hu : (u.natAbs : Int) = 1
    · have e : -u = 1 := by omega
      simp (decide := true) only [EV, fnM, List.length_cons, List.length_nil, Nat.reduceAdd, Nat.reduceSub, if_true, if_false, ↓reduceIte, List.map_cons, List.map_nil, List.replicate, List.cons_append, List.nil_append, Bool.false_eq_true, Bool.not_true, Bool.not_false, Bool.and_true, Bool.true_and, Bool.and_self, List.all_cons, List.all_nil, List.any_cons, List.any_nil, List.reverse_cons, List.reverse_nil, decide_true, decide_false, Int.reduceAdd, Int.reduceSub, Int.reduceMul, Int.reduceNeg, Option.map_some, hu, e, np, decide_false]
    · have e : ¬ -u = 1 := by omega
      simp (decide := true) only [EV, fnM, List.length_cons, List.length_nil, Nat.reduceAdd, Nat.reduceSub, if_true, if_false, ↓reduceIte, List.map_cons, List.map_nil, List.replicate, List.cons_append, List.nil_append, Bool.false_eq_true, Bool.not_true, Bool.not_false, Bool.and_true, Bool.true_and, Bool.and_self, List.all_cons, List.all_nil, List.any_cons, List.any_nil, List.reverse_cons, List.reverse_nil, decide_true, decide_false, Int.reduceAdd, Int.reduceSub, Int.reduceMul, Int.reduceNeg, Option.map_some, hu, e, np, decide_false]
  · rw [if_neg hj]
    have np : 0 < j.fdiv (Int.gcd i j : Int) := pos.mpr (by omega)
    generalize j.fdiv (Int.gcd i j : Int) = u at *
    generalize i.fdiv (Int.gcd i j : Int) = v at *
    by_cases hu : (u.natAbs : Int) = 1
    · have e : u = 1 := by omega
      simp (decide := true) only [EV, fnM, List.length_cons, List.length_nil, Nat.reduceAdd, Nat.reduceSub, if_true, if_false, ↓reduceIte, List.map_cons, List.map_nil, List.replicate, List.cons_append, List.nil_append, Bool.false_eq_true, Bool.not_true, Bool.not_false, Bool.and_true, Bool.true_and, Bool.and_self, List.all_cons, List.all_nil, List.any_cons, List.any_nil, List.reverse_cons, List.reverse_nil, decide_true, decide_false, Int.reduceAdd, Int.reduceSub, Int.reduceMul, Int.reduceNeg, Option.map_some, hu, e, np, decide_true]
    · have e : ¬ u = 1 := by omega
      simp (decide := true) only [EV, fnM, List.length_cons, List.length_nil, Nat.reduceAdd, Nat.reduceSub, if_true, if_false, ↓reduceIte, List.map_cons, List.map_nil, List.replicate, List.cons_append, List.nil_append, Bool.false_eq_true, Bool.not_true, Bool.not_false, Bool.and_true, Bool.true_and, Bool.and_self, List.all_cons, List.all_nil, List.any_cons, List.any_nil, List.reverse_cons, List.reverse_nil, decide_true, decide_false, Int.reduceAdd, Int.reduceSub, Int.reduceMul, Int.reduceNeg, Option.map_some, hu, e, np, decide_false, decide_true]
theorem add1_ok [hx : Sz x a] [hy : Sz y b] (h : a + b ≤ 8000) : m_add1 [numD x, numD y] s = .ok (numD (x + y)) s := by
  unfold m_add1 b_add1
  have m1 : MulOk x.num (y.den : Nat) := mulOk_sz hx.n hy.d' (by omega)
  have m2 : MulOk y.num (x.den : Nat) := mulOk_sz hy.n hx.d' (by omega)
  have m3 : MulOk (x.den : Nat) (y.den : Nat) := mulOk_sz hx.d' hy.d' (by omega)
  have l := form1_ok (i := x.num * y.den + y.num * x.den) (s := s) (Int.mul_ne_zero (den_ne x) (den_ne y)) (lt_up (nmul hx.d' hy.d') (by omega))
  rw [← add_eq] at l
  simp (decide := true) only [halves_num, EV, fnM, List.length_cons, List.length_nil, Nat.reduceAdd, Nat.reduceSub, if_true, if_false, ↓reduceIte, List.map_cons, List.map_nil, List.replicate, List.cons_append, List.nil_append, Bool.false_eq_true, Bool.not_true, Bool.not_false, Bool.and_true, Bool.true_and, Bool.and_self, List.all_cons, List.all_nil, List.any_cons, List.any_nil, List.reverse_cons, List.reverse_nil, decide_true, decide_false, Int.reduceAdd, Int.reduceSub, Int.reduceMul, Int.reduceNeg, Option.map_some, l, m1, m2, m3]
theorem less1_ok [hx : Sz x a] [hy : Sz y b] (h : a + b ≤ 8000) : m_less1 [numD x, numD y] s = .ok (numD (x - y)) s := by
  unfold m_less1 b_less1
  have m1 : MulOk x.num (y.den : Nat) := mulOk_sz hx.n hy.d' (by omega)
  have m2 : MulOk y.num (x.den : Nat) := mulOk_sz hy.n hx.d' (by omega)
  have m3 : MulOk (x.den : Nat) (y.den : Nat) := mulOk_sz hx.d' hy.d' (by omega)
  have l := form1_ok (i := x.num * y.den - y.num * x.den) (s := s) (Int.mul_ne_zero (den_ne x) (den_ne y)) (lt_up (nmul hx.d' hy.d') (by omega))
  rw [← sub_eq] at l
  simp (decide := true) only [halves_num, EV, fnM, List.length_cons, List.length_nil, Nat.reduceAdd, Nat.reduceSub, if_true, if_false, ↓reduceIte, List.map_cons, List.map_nil, List.replicate, List.cons_append, List.nil_append, Bool.false_eq_true, Bool.not_true, Bool.not_false, Bool.and_true, Bool.true_and, Bool.and_self, List.all_cons, List.all_nil, List.any_cons, List.any_nil, List.reverse_cons, List.reverse_nil, decide_true, decide_false, Int.reduceAdd, Int.reduceSub, Int.reduceMul, Int.reduceNeg, Option.map_some, l, m1, m2, m3]
theorem mul1_ok [hx : Sz x a] [hy : Sz y b] (h : a + b ≤ 8000) : m_mul1 [numD x, numD y] s = .ok (numD (x * y)) s := by
  unfold m_mul1 b_mul1
  have m1 : MulOk x.num y.num := mulOk_sz hx.n hy.n (by omega)
  have m3 : MulOk (x.den : Nat) (y.den : Nat) := mulOk_sz hx.d' hy.d' (by omega)
  have l := form1_ok (i := x.num * y.num) (s := s) (Int.mul_ne_zero (den_ne x) (den_ne y)) (lt_up (nmul hx.d' hy.d') (by omega))
  rw [← mul_eq] at l
  simp (decide := true) only [halves_num, EV, fnM, List.length_cons, List.length_nil, Nat.reduceAdd, Nat.reduceSub, if_true, if_false, ↓reduceIte, List.map_cons, List.map_nil, List.replicate, List.cons_append, List.nil_append, Bool.false_eq_true, Bool.not_true, Bool.not_false, Bool.and_true, Bool.true_and, Bool.and_self, List.all_cons, List.all_nil, List.any_cons, List.any_nil, List.reverse_cons, List.reverse_nil, decide_true, decide_false, Int.reduceAdd, Int.reduceSub, Int.reduceMul, Int.reduceNeg, Option.map_some, l, m1, m3]
theorem part1_ok [hx : Sz x a] [hy : Sz y b] (h0 : y ≠ 0) (h : a + b ≤ 8000) : m_part1 [numD x, numD y] s = .ok (numD (x / y)) s := by
  unfold m_part1 b_part1
  have m1 : MulOk x.num (y.den : Nat) := mulOk_sz hx.n hy.d' (by omega)
  have m3 : MulOk (x.den : Nat) y.num := mulOk_sz hx.d' hy.n (by omega)
  have l := form1_ok (i := x.num * y.den) (s := s) (Int.mul_ne_zero (den_ne x) (num_ne h0)) (lt_up (nmul hx.d' hy.n) (by omega))
  rw [← div_eq] at l
  simp (decide := true) only [halves_num, EV, fnM, List.length_cons, List.length_nil, Nat.reduceAdd, Nat.reduceSub, if_true, if_false, ↓reduceIte, List.map_cons, List.map_nil, List.replicate, List.cons_append, List.nil_append, Bool.false_eq_true, Bool.not_true, Bool.not_false, Bool.and_true, Bool.true_and, Bool.and_self, List.all_cons, List.all_nil, List.any_cons, List.any_nil, List.reverse_cons, List.reverse_nil, decide_true, decide_false, Int.reduceAdd, Int.reduceSub, Int.reduceMul, Int.reduceNeg, Option.map_some, l, m1, m3]
theorem row1_ok [hx : Sz x a] [hy : Sz y b] [hz : Sz z c] [hw : Sz w d] (h : a + b + c + d ≤ 7900) : m_row1 [ptD x y, ptD z w] s = .ok (ptD (z - x) (w - y)) s := by
  unfold m_row1 b_row1 ptD
  have l1 := less1_ok (x := z) (y := x) (s := s) (by omega)
  have l2 := less1_ok (x := w) (y := y) (s := s) (by omega)
  simp (decide := true) only [EV, fnM, List.length_cons, List.length_nil, Nat.reduceAdd, Nat.reduceSub, if_true, if_false, ↓reduceIte, List.map_cons, List.map_nil, List.replicate, List.cons_append, List.nil_append, Bool.false_eq_true, Bool.not_true, Bool.not_false, Bool.and_true, Bool.true_and, Bool.and_self, List.all_cons, List.all_nil, List.any_cons, List.any_nil, List.reverse_cons, List.reverse_nil, decide_true, decide_false, Int.reduceAdd, Int.reduceSub, Int.reduceMul, Int.reduceNeg, Option.map_some, l1, l2]
theorem gone1_ok {q : Rat} {e : Nat} [hx : Sz x a] [hy : Sz y b] [hz : Sz z c] [hw : Sz w d] [hq : Sz q e] (h : a + b + c + d + e ≤ 7000) : m_gone1 [ptD x y, ptD z w, numD q] s = .ok (ptD (x + q * z) (y + q * w)) s := by
  unfold m_gone1 b_gone1 ptD
  have l1 := mul1_ok (x := q) (y := z) (s := s) (by omega)
  have l2 := mul1_ok (x := q) (y := w) (s := s) (by omega)
  have l3 := add1_ok (x := x) (y := q * z) (s := s) (by omega)
  have l4 := add1_ok (x := y) (y := q * w) (s := s) (by omega)
  simp (decide := true) only [EV, fnM, List.length_cons, List.length_nil, Nat.reduceAdd, Nat.reduceSub, if_true, if_false, ↓reduceIte, List.map_cons, List.map_nil, List.replicate, List.cons_append, List.nil_append, Bool.false_eq_true, Bool.not_true, Bool.not_false, Bool.and_true, Bool.true_and, Bool.and_self, List.all_cons, List.all_nil, List.any_cons, List.any_nil, List.reverse_cons, List.reverse_nil, decide_true, decide_false, Int.reduceAdd, Int.reduceSub, Int.reduceMul, Int.reduceNeg, Option.map_some, l1, l2, l3, l4]
theorem dot1_ok [hx : Sz x a] [hy : Sz y b] [hz : Sz z c] [hw : Sz w d] (h : a + b + c + d ≤ 7900) : m_dot1 [ptD x y, ptD z w] s = .ok (numD (x * z + y * w)) s := by
  unfold m_dot1 b_dot1 ptD
  have l1 := mul1_ok (x := x) (y := z) (s := s) (by omega)
  have l2 := mul1_ok (x := y) (y := w) (s := s) (by omega)
  have l3 := add1_ok (x := x * z) (y := y * w) (s := s) (by omega)
  simp (decide := true) only [EV, fnM, List.length_cons, List.length_nil, Nat.reduceAdd, Nat.reduceSub, if_true, if_false, ↓reduceIte, List.map_cons, List.map_nil, List.replicate, List.cons_append, List.nil_append, Bool.false_eq_true, Bool.not_true, Bool.not_false, Bool.and_true, Bool.true_and, Bool.and_self, List.all_cons, List.all_nil, List.any_cons, List.any_nil, List.reverse_cons, List.reverse_nil, decide_true, decide_false, Int.reduceAdd, Int.reduceSub, Int.reduceMul, Int.reduceNeg, Option.map_some, l1, l2, l3]
theorem cross1_ok [hx : Sz x a] [hy : Sz y b] [hz : Sz z c] [hw : Sz w d] (h : a + b + c + d ≤ 7900) : m_cross1 [ptD x y, ptD z w] s = .ok (numD (x * w - y * z)) s := by
  unfold m_cross1 b_cross1 ptD
  have l1 := mul1_ok (x := x) (y := w) (s := s) (by omega)
  have l2 := mul1_ok (x := y) (y := z) (s := s) (by omega)
  have l3 := less1_ok (x := x * w) (y := y * z) (s := s) (by omega)
  simp (decide := true) only [EV, fnM, List.length_cons, List.length_nil, Nat.reduceAdd, Nat.reduceSub, if_true, if_false, ↓reduceIte, List.map_cons, List.map_nil, List.replicate, List.cons_append, List.nil_append, Bool.false_eq_true, Bool.not_true, Bool.not_false, Bool.and_true, Bool.true_and, Bool.and_self, List.all_cons, List.all_nil, List.any_cons, List.any_nil, List.reverse_cons, List.reverse_nil, decide_true, decide_false, Int.reduceAdd, Int.reduceSub, Int.reduceMul, Int.reduceNeg, Option.map_some, l1, l2, l3]
theorem far1_ok [hx : Sz x a] [hy : Sz y b] [hz : Sz z c] [hw : Sz w d] (h : a + b + c + d ≤ 3000) : m_far1 [ptD x y, ptD z w] s = .ok (numD ((z - x) * (z - x) + (w - y) * (w - y))) s := by
  unfold m_far1 b_far1
  simp (decide := true) only [EV, fnM, List.length_cons, List.length_nil, Nat.reduceAdd, Nat.reduceSub, if_true, if_false, ↓reduceIte, List.map_cons, List.map_nil, List.replicate, List.cons_append, List.nil_append, Bool.false_eq_true, Bool.not_true, Bool.not_false, Bool.and_true, Bool.true_and, Bool.and_self, List.all_cons, List.all_nil, List.any_cons, List.any_nil, List.reverse_cons, List.reverse_nil, decide_true, decide_false, Int.reduceAdd, Int.reduceSub, Int.reduceMul, Int.reduceNeg, Option.map_some, row1_ok (x := x) (y := y) (z := z) (w := w) (s := s) (by omega), dot1_ok (x := z - x) (y := w - y) (z := z - x) (w := w - y) (s := s) (by omega)]
end
end DL
/-! G7: checks of numbers and points. -/
namespace DL
open PySem PySem.Spec L2 H
/-- a number in its one form, the pair as a list -/
def numL (r : Rat) : D := if r.den = 1 then .int r.num else .lst [.int r.num, .int (r.den : Nat)]
theorem numL_cases (x : Rat) : (x.den = 1 ∧ numL x = .int x.num ∧ numD x = .int x.num) ∨ (1 < x.den ∧ numL x = .lst [.int x.num, .int (x.den : Nat)] ∧ numD x = .tup [.int x.num, .int (x.den : Nat)]) := by
  unfold numL numD
  by_cases h : x.den = 1
  · exact .inl ⟨h, if_pos h, if_pos h⟩
  · have := x.den_pos
    exact .inr ⟨by omega, if_neg h, if_neg h⟩
section
variable {s : Sd} {x y z w : Rat} {i j : Int}
theorem is_integer_int : m_is_integer [.int i] s = .ok (.bl true) s := by
  unfold m_is_integer b_is_integer
  simp (decide := true) only [EV, fnM, List.length_cons, List.length_nil, Nat.reduceAdd, Nat.reduceSub, if_true, if_false, ↓reduceIte, List.map_cons, List.map_nil, List.replicate, List.cons_append, List.nil_append, Bool.false_eq_true, Bool.not_true, Bool.not_false, Bool.and_true, Bool.true_and, Bool.and_self, List.all_cons, List.all_nil, List.any_cons, List.any_nil, List.reverse_cons, List.reverse_nil, decide_true, decide_false, Int.reduceAdd, Int.reduceSub, Int.reduceMul, Int.reduceNeg, Option.map_some]
theorem is_integer_tup {ds : List D} : m_is_integer [.tup ds] s = .ok (.bl false) s := by
  unfold m_is_integer b_is_integer
  simp (decide := true) only [EV, fnM, List.length_cons, List.length_nil, Nat.reduceAdd, Nat.reduceSub, if_true, if_false, ↓reduceIte, List.map_cons, List.map_nil, List.replicate, List.cons_append, List.nil_append, Bool.false_eq_true, Bool.not_true, Bool.not_false, Bool.and_true, Bool.true_and, Bool.and_self, List.all_cons, List.all_nil, List.any_cons, List.any_nil, List.reverse_cons, List.reverse_nil, decide_true, decide_false, Int.reduceAdd, Int.reduceSub, Int.reduceMul, Int.reduceNeg, Option.map_some]
theorem is_integer_lst {ds : List D} : m_is_integer [.lst ds] s = .ok (.bl false) s := by
  unfold m_is_integer b_is_integer
  simp (decide := true) only [EV, fnM, List.length_cons, List.length_nil, Nat.reduceAdd, Nat.reduceSub, if_true, if_false, ↓reduceIte, List.map_cons, List.map_nil, List.replicate, List.cons_append, List.nil_append, Bool.false_eq_true, Bool.not_true, Bool.not_false, Bool.and_true, Bool.true_and, Bool.and_self, List.all_cons, List.all_nil, List.any_cons, List.any_nil, List.reverse_cons, List.reverse_nil, decide_true, decide_false, Int.reduceAdd, Int.reduceSub, Int.reduceMul, Int.reduceNeg, Option.map_some]
theorem is_list_int : m_is_list [.int i] s = .ok (.bl false) s := by
  unfold m_is_list b_is_list
  simp (decide := true) only [EV, fnM, List.length_cons, List.length_nil, Nat.reduceAdd, Nat.reduceSub, if_true, if_false, ↓reduceIte, List.map_cons, List.map_nil, List.replicate, List.cons_append, List.nil_append, Bool.false_eq_true, Bool.not_true, Bool.not_false, Bool.and_true, Bool.true_and, Bool.and_self, List.all_cons, List.all_nil, List.any_cons, List.any_nil, List.reverse_cons, List.reverse_nil, decide_true, decide_false, Int.reduceAdd, Int.reduceSub, Int.reduceMul, Int.reduceNeg, Option.map_some]
theorem is_list_tup {ds : List D} : m_is_list [.tup ds] s = .ok (.bl true) s := by
  unfold m_is_list b_is_list
  simp (decide := true) only [EV, fnM, List.length_cons, List.length_nil, Nat.reduceAdd, Nat.reduceSub, if_true, if_false, ↓reduceIte, List.map_cons, List.map_nil, List.replicate, List.cons_append, List.nil_append, Bool.false_eq_true, Bool.not_true, Bool.not_false, Bool.and_true, Bool.true_and, Bool.and_self, List.all_cons, List.all_nil, List.any_cons, List.any_nil, List.reverse_cons, List.reverse_nil, decide_true, decide_false, Int.reduceAdd, Int.reduceSub, Int.reduceMul, Int.reduceNeg, Option.map_some]
theorem is_list_lst {ds : List D} : m_is_list [.lst ds] s = .ok (.bl true) s := by
  unfold m_is_list b_is_list
  simp (decide := true) only [EV, fnM, List.length_cons, List.length_nil, Nat.reduceAdd, Nat.reduceSub, if_true, if_false, ↓reduceIte, List.map_cons, List.map_nil, List.replicate, List.cons_append, List.nil_append, Bool.false_eq_true, Bool.not_true, Bool.not_false, Bool.and_true, Bool.true_and, Bool.and_self, List.all_cons, List.all_nil, List.any_cons, List.any_nil, List.reverse_cons, List.reverse_nil, decide_true, decide_false, Int.reduceAdd, Int.reduceSub, Int.reduceMul, Int.reduceNeg, Option.map_some]
theorem is_within2 (h : 2 ≤ i) : m_is_within [.int i, .int 2, .non] s = .ok (.bl true) s := by
  unfold m_is_within b_is_within
  simp (decide := true) only [EV, fnM, List.length_cons, List.length_nil, Nat.reduceAdd, Nat.reduceSub, if_true, if_false, ↓reduceIte, List.map_cons, List.map_nil, List.replicate, List.cons_append, List.nil_append, Bool.false_eq_true, Bool.not_true, Bool.not_false, Bool.and_true, Bool.true_and, Bool.and_self, List.all_cons, List.all_nil, List.any_cons, List.any_nil, List.reverse_cons, List.reverse_nil, decide_true, decide_false, Int.reduceAdd, Int.reduceSub, Int.reduceMul, Int.reduceNeg, Option.map_some, is_integer_int, h, decide_true]
theorem gcd_one (x : Rat) : Int.gcd x.num (x.den : Nat) = 1 := x.reduced
theorem is_number_num (x : Rat) : m_is_number [numD x] s = .ok (.bl true) s := by
  unfold m_is_number b_is_number
  rcases numD_cases x with ⟨h, e⟩ | ⟨h, e⟩
  · rw [e]
    simp (decide := true) only [EV, fnM, List.length_cons, List.length_nil, Nat.reduceAdd, Nat.reduceSub, if_true, if_false, ↓reduceIte, List.map_cons, List.map_nil, List.replicate, List.cons_append, List.nil_append, Bool.false_eq_true, Bool.not_true, Bool.not_false, Bool.and_true, Bool.true_and, Bool.and_self, List.all_cons, List.all_nil, List.any_cons, List.any_nil, List.reverse_cons, List.reverse_nil, decide_true, decide_false, Int.reduceAdd, Int.reduceSub, Int.reduceMul, Int.reduceNeg, Option.map_some, is_integer_int]
  · rw [e]
    simp (decide := true) only [EV, fnM, List.length_cons, List.length_nil, Nat.reduceAdd, Nat.reduceSub, if_true, if_false, ↓reduceIte, List.map_cons, List.map_nil, List.replicate, List.cons_append, List.nil_append, Bool.false_eq_true, Bool.not_true, Bool.not_false, Bool.and_true, Bool.true_and, Bool.and_self, List.all_cons, List.all_nil, List.any_cons, List.any_nil, List.reverse_cons, List.reverse_nil, decide_true, decide_false, Int.reduceAdd, Int.reduceSub, Int.reduceMul, Int.reduceNeg, Option.map_some, is_integer_int, is_integer_tup, is_list_tup, is_within2 (show (2 : Int) ≤ (x.den : Nat) by omega), common_ok, gcd_one]
theorem is_number_numL (x : Rat) : m_is_number [numL x] s = .ok (.bl true) s := by
  unfold m_is_number b_is_number
  rcases numL_cases x with ⟨h, e, _⟩ | ⟨h, e, _⟩
  · rw [e]
    simp (decide := true) only [EV, fnM, List.length_cons, List.length_nil, Nat.reduceAdd, Nat.reduceSub, if_true, if_false, ↓reduceIte, List.map_cons, List.map_nil, List.replicate, List.cons_append, List.nil_append, Bool.false_eq_true, Bool.not_true, Bool.not_false, Bool.and_true, Bool.true_and, Bool.and_self, List.all_cons, List.all_nil, List.any_cons, List.any_nil, List.reverse_cons, List.reverse_nil, decide_true, decide_false, Int.reduceAdd, Int.reduceSub, Int.reduceMul, Int.reduceNeg, Option.map_some, is_integer_int]
  · rw [e]
    simp (decide := true) only [EV, fnM, List.length_cons, List.length_nil, Nat.reduceAdd, Nat.reduceSub, if_true, if_false, ↓reduceIte, List.map_cons, List.map_nil, List.replicate, List.cons_append, List.nil_append, Bool.false_eq_true, Bool.not_true, Bool.not_false, Bool.and_true, Bool.true_and, Bool.and_self, List.all_cons, List.all_nil, List.any_cons, List.any_nil, List.reverse_cons, List.reverse_nil, decide_true, decide_false, Int.reduceAdd, Int.reduceSub, Int.reduceMul, Int.reduceNeg, Option.map_some, is_integer_int, is_integer_lst, is_list_lst, is_within2 (show (2 : Int) ≤ (x.den : Nat) by omega), common_ok, gcd_one]
theorem kept_num (x : Rat) : m_kept [numD x] s = .ok (numD x) s := by
  unfold m_kept b_kept
  rcases numD_cases x with ⟨h, e⟩ | ⟨h, e⟩ <;> (rw [e]; simp (decide := true) only [EV, fnM, List.length_cons, List.length_nil, Nat.reduceAdd, Nat.reduceSub, if_true, if_false, ↓reduceIte, List.map_cons, List.map_nil, List.replicate, List.cons_append, List.nil_append, Bool.false_eq_true, Bool.not_true, Bool.not_false, Bool.and_true, Bool.true_and, Bool.and_self, List.all_cons, List.all_nil, List.any_cons, List.any_nil, List.reverse_cons, List.reverse_nil, decide_true, decide_false, Int.reduceAdd, Int.reduceSub, Int.reduceMul, Int.reduceNeg, Option.map_some])
theorem kept_numL (x : Rat) : m_kept [numL x] s = .ok (numD x) s := by
  unfold m_kept b_kept
  rcases numL_cases x with ⟨h, e, f⟩ | ⟨h, e, f⟩ <;> (rw [e, f]; simp (decide := true) only [EV, fnM, List.length_cons, List.length_nil, Nat.reduceAdd, Nat.reduceSub, if_true, if_false, ↓reduceIte, List.map_cons, List.map_nil, List.replicate, List.cons_append, List.nil_append, Bool.false_eq_true, Bool.not_true, Bool.not_false, Bool.and_true, Bool.true_and, Bool.and_self, List.all_cons, List.all_nil, List.any_cons, List.any_nil, List.reverse_cons, List.reverse_nil, decide_true, decide_false, Int.reduceAdd, Int.reduceSub, Int.reduceMul, Int.reduceNeg, Option.map_some])
/-- a point as lists -/
def ptL (x y : Rat) : D := .lst [numL x, numL y]
theorem is_point_pt (x y : Rat) : m_is_point [ptD x y] s = .ok (.bl true) s := by
  unfold m_is_point b_is_point ptD
  simp (decide := true) only [EV, fnM, List.length_cons, List.length_nil, Nat.reduceAdd, Nat.reduceSub, if_true, if_false, ↓reduceIte, List.map_cons, List.map_nil, List.replicate, List.cons_append, List.nil_append, Bool.false_eq_true, Bool.not_true, Bool.not_false, Bool.and_true, Bool.true_and, Bool.and_self, List.all_cons, List.all_nil, List.any_cons, List.any_nil, List.reverse_cons, List.reverse_nil, decide_true, decide_false, Int.reduceAdd, Int.reduceSub, Int.reduceMul, Int.reduceNeg, Option.map_some, is_list_tup, ev_lcC, ev_lcN, ev_lstR (show 2 ≤ 20000 by decide), is_number_num]
theorem is_point_ptL (x y : Rat) : m_is_point [ptL x y] s = .ok (.bl true) s := by
  unfold m_is_point b_is_point ptL
  simp (decide := true) only [EV, fnM, List.length_cons, List.length_nil, Nat.reduceAdd, Nat.reduceSub, if_true, if_false, ↓reduceIte, List.map_cons, List.map_nil, List.replicate, List.cons_append, List.nil_append, Bool.false_eq_true, Bool.not_true, Bool.not_false, Bool.and_true, Bool.true_and, Bool.and_self, List.all_cons, List.all_nil, List.any_cons, List.any_nil, List.reverse_cons, List.reverse_nil, decide_true, decide_false, Int.reduceAdd, Int.reduceSub, Int.reduceMul, Int.reduceNeg, Option.map_some, is_list_lst, ev_lcC, ev_lcN, ev_lstR (show 2 ≤ 20000 by decide), is_number_numL]
theorem kept_row_pt (x y : Rat) : m_kept_row [ptD x y] s = .ok (ptD x y) s := by
  unfold m_kept_row b_kept_row ptD
  simp (decide := true) only [EV, fnM, List.length_cons, List.length_nil, Nat.reduceAdd, Nat.reduceSub, if_true, if_false, ↓reduceIte, List.map_cons, List.map_nil, List.replicate, List.cons_append, List.nil_append, Bool.false_eq_true, Bool.not_true, Bool.not_false, Bool.and_true, Bool.true_and, Bool.and_self, List.all_cons, List.all_nil, List.any_cons, List.any_nil, List.reverse_cons, List.reverse_nil, decide_true, decide_false, Int.reduceAdd, Int.reduceSub, Int.reduceMul, Int.reduceNeg, Option.map_some, ev_lcC, ev_lcN, ev_lstR (show 2 ≤ 20000 by decide), kept_num]
theorem kept_row_ptL (x y : Rat) : m_kept_row [ptL x y] s = .ok (ptD x y) s := by
  unfold m_kept_row b_kept_row ptD ptL
  simp (decide := true) only [EV, fnM, List.length_cons, List.length_nil, Nat.reduceAdd, Nat.reduceSub, if_true, if_false, ↓reduceIte, List.map_cons, List.map_nil, List.replicate, List.cons_append, List.nil_append, Bool.false_eq_true, Bool.not_true, Bool.not_false, Bool.and_true, Bool.true_and, Bool.and_self, List.all_cons, List.all_nil, List.any_cons, List.any_nil, List.reverse_cons, List.reverse_nil, decide_true, decide_false, Int.reduceAdd, Int.reduceSub, Int.reduceMul, Int.reduceNeg, Option.map_some, ev_lcC, ev_lcN, ev_lstR (show 2 ≤ 20000 by decide), kept_numL]
/-- a number as told -/
def NumIn (n : D) (x : Rat) : Prop := n = numD x ∨ n = numL x
theorem is_number_in {n : D} (h : NumIn n x) : m_is_number [n] s = .ok (.bl true) s := by
  rcases h with rfl | rfl
  · exact is_number_num x
  · exact is_number_numL x
theorem kept_in {n : D} (h : NumIn n x) : m_kept [n] s = .ok (numD x) s := by
  rcases h with rfl | rfl
  · exact kept_num x
  · exact kept_numL x
/-- a point as told: as tuples, as lists -/
def PtIn (d : D) (x y : Rat) : Prop := ∃ n1 n2, NumIn n1 x ∧ NumIn n2 y ∧ (d = .tup [n1, n2] ∨ d = .lst [n1, n2])
theorem PtIn.pt {x y : Rat} : PtIn (ptD x y) x y := ⟨_, _, .inl rfl, .inl rfl, .inl rfl⟩
theorem PtIn.l {x y : Rat} : PtIn (ptL x y) x y := ⟨_, _, .inr rfl, .inr rfl, .inr rfl⟩
theorem PtIn.lt {x y : Rat} : PtIn (.lst [numD x, numD y]) x y := ⟨_, _, .inl rfl, .inl rfl, .inr rfl⟩
theorem is_point_in {d : D} (h : PtIn d x y) : m_is_point [d] s = .ok (.bl true) s := by
  obtain ⟨n1, n2, h1, h2, rfl | rfl⟩ := h
  · unfold m_is_point b_is_point
    simp (decide := true) only [EV, fnM, List.length_cons, List.length_nil, Nat.reduceAdd, Nat.reduceSub, if_true, if_false, ↓reduceIte, List.map_cons, List.map_nil, List.replicate, List.cons_append, List.nil_append, Bool.false_eq_true, Bool.not_true, Bool.not_false, Bool.and_true, Bool.true_and, Bool.and_self, List.all_cons, List.all_nil, List.any_cons, List.any_nil, List.reverse_cons, List.reverse_nil, decide_true, decide_false, Int.reduceAdd, Int.reduceSub, Int.reduceMul, Int.reduceNeg, Option.map_some, is_list_tup, ev_lcC, ev_lcN, ev_lstR (show 2 ≤ 20000 by decide), is_number_in h1, is_number_in h2]
  · unfold m_is_point b_is_point
    simp (decide := true) only [EV, fnM, List.length_cons, List.length_nil, Nat.reduceAdd, Nat.reduceSub, if_true, if_false, ↓reduceIte, List.map_cons, List.map_nil, List.replicate, List.cons_append, List.nil_append, Bool.false_eq_true, Bool.not_true, Bool.not_false, Bool.and_true, Bool.true_and, Bool.and_self, List.all_cons, List.all_nil, List.any_cons, List.any_nil, List.reverse_cons, List.reverse_nil, decide_true, decide_false, Int.reduceAdd, Int.reduceSub, Int.reduceMul, Int.reduceNeg, Option.map_some, is_list_lst, ev_lcC, ev_lcN, ev_lstR (show 2 ≤ 20000 by decide), is_number_in h1, is_number_in h2]
theorem kept_row_in {d : D} (h : PtIn d x y) : m_kept_row [d] s = .ok (ptD x y) s := by
  obtain ⟨n1, n2, h1, h2, rfl | rfl⟩ := h
  · unfold m_kept_row b_kept_row ptD
    simp (decide := true) only [EV, fnM, List.length_cons, List.length_nil, Nat.reduceAdd, Nat.reduceSub, if_true, if_false, ↓reduceIte, List.map_cons, List.map_nil, List.replicate, List.cons_append, List.nil_append, Bool.false_eq_true, Bool.not_true, Bool.not_false, Bool.and_true, Bool.true_and, Bool.and_self, List.all_cons, List.all_nil, List.any_cons, List.any_nil, List.reverse_cons, List.reverse_nil, decide_true, decide_false, Int.reduceAdd, Int.reduceSub, Int.reduceMul, Int.reduceNeg, Option.map_some, ev_lcC, ev_lcN, ev_lstR (show 2 ≤ 20000 by decide), kept_in h1, kept_in h2]
  · unfold m_kept_row b_kept_row ptD
    simp (decide := true) only [EV, fnM, List.length_cons, List.length_nil, Nat.reduceAdd, Nat.reduceSub, if_true, if_false, ↓reduceIte, List.map_cons, List.map_nil, List.replicate, List.cons_append, List.nil_append, Bool.false_eq_true, Bool.not_true, Bool.not_false, Bool.and_true, Bool.true_and, Bool.and_self, List.all_cons, List.all_nil, List.any_cons, List.any_nil, List.reverse_cons, List.reverse_nil, decide_true, decide_false, Int.reduceAdd, Int.reduceSub, Int.reduceMul, Int.reduceNeg, Option.map_some, ev_lcC, ev_lcN, ev_lstR (show 2 ≤ 20000 by decide), kept_in h1, kept_in h2]
theorem need_point_ok {d p : D} (h : PtIn d x y) : m_need_point [d, p] s = .ok (ptD x y) s := by
  unfold m_need_point b_need_point
  simp (decide := true) only [EV, fnM, List.length_cons, List.length_nil, Nat.reduceAdd, Nat.reduceSub, if_true, if_false, ↓reduceIte, List.map_cons, List.map_nil, List.replicate, List.cons_append, List.nil_append, Bool.false_eq_true, Bool.not_true, Bool.not_false, Bool.and_true, Bool.true_and, Bool.and_self, List.all_cons, List.all_nil, List.any_cons, List.any_nil, List.reverse_cons, List.reverse_nil, decide_true, decide_false, Int.reduceAdd, Int.reduceSub, Int.reduceMul, Int.reduceNeg, Option.map_some, is_point_in h, kept_row_in h]
theorem need_points3 {d1 d2 d3 p1 p2 p3 : D} {x1 y1 x2 y2 x3 y3 : Rat} (h1 : PtIn d1 x1 y1) (h2 : PtIn d2 x2 y2) (h3 : PtIn d3 x3 y3) :
    m_need_points [.lst [d1, d2, d3], .lst [p1, p2, p3]] s = .ok (.lst [ptD x1 y1, ptD x2 y2, ptD x3 y3]) s := by
  unfold m_need_points b_need_points
  simp (decide := true) only [EV, fnM, List.length_cons, List.length_nil, Nat.reduceAdd, Nat.reduceSub, if_true, if_false, ↓reduceIte, List.map_cons, List.map_nil, List.replicate, List.cons_append, List.nil_append, Bool.false_eq_true, Bool.not_true, Bool.not_false, Bool.and_true, Bool.true_and, Bool.and_self, List.all_cons, List.all_nil, List.any_cons, List.any_nil, List.reverse_cons, List.reverse_nil, decide_true, decide_false, Int.reduceAdd, Int.reduceSub, Int.reduceMul, Int.reduceNeg, Option.map_some, ev_lcC, ev_lcN, ev_lstR (show 3 ≤ 20000 by decide), need_point_ok h1, need_point_ok h2, need_point_ok h3]
theorem num_pos {x : Rat} : 0 < x.num ↔ 0 < x := by
  constructor
  · intro h
    have h1 : 0 ≤ x := Rat.num_nonneg.mp (by omega)
    rcases Rat.le_iff_lt_or_eq.mp h1 with h2 | h2
    · exact h2
    · rw [← h2] at h; exact absurd h (by decide)
  · intro h
    have h1 : 0 ≤ x.num := Rat.num_nonneg.mpr (Rat.le_of_lt h)
    have h2 : x.num ≠ 0 := fun z => by rw [Rat.num_eq_zero.mp z] at h; exact absurd h (by decide)
    omega
theorem need_above_ok {p : D} (h : 0 < x) : m_need_above [numD x, p] s = .ok (numD x) s := by
  have hp := num_pos.mpr h
  have hp' : ¬ x.num ≤ 0 := by omega
  have k := kept_num x (s := s)
  have i := is_number_num x (s := s)
  unfold m_need_above b_need_above
  rcases numD_cases x with ⟨g, e⟩ | ⟨g, e⟩
  · rw [e] at k i ⊢
    simp (decide := true) only [EV, fnM, List.length_cons, List.length_nil, Nat.reduceAdd, Nat.reduceSub, if_true, if_false, ↓reduceIte, List.map_cons, List.map_nil, List.replicate, List.cons_append, List.nil_append, Bool.false_eq_true, Bool.not_true, Bool.not_false, Bool.and_true, Bool.true_and, Bool.and_self, List.all_cons, List.all_nil, List.any_cons, List.any_nil, List.reverse_cons, List.reverse_nil, decide_true, decide_false, Int.reduceAdd, Int.reduceSub, Int.reduceMul, Int.reduceNeg, Option.map_some, is_list_int, i, k, hp', decide_false]
  · rw [e] at k i ⊢
    simp (decide := true) only [EV, fnM, List.length_cons, List.length_nil, Nat.reduceAdd, Nat.reduceSub, if_true, if_false, ↓reduceIte, List.map_cons, List.map_nil, List.replicate, List.cons_append, List.nil_append, Bool.false_eq_true, Bool.not_true, Bool.not_false, Bool.and_true, Bool.true_and, Bool.and_self, List.all_cons, List.all_nil, List.any_cons, List.any_nil, List.reverse_cons, List.reverse_nil, decide_true, decide_false, Int.reduceAdd, Int.reduceSub, Int.reduceMul, Int.reduceNeg, Option.map_some, is_list_tup, i, k, hp', decide_false]
end
end DL
/-! G8: frames. -/
namespace DL
open PySem PySem.Spec L2 H
section
variable {s : Sd} {ox oy ax ay bx b_y cx cy u v S T : Rat} {a b c d e f k l : Nat}
theorem numD2 : D.int 2 = numD 2 := rfl
theorem numD1 : D.int 1 = numD 1 := rfl
theorem ev_eqN0 (x : Rat) : eqF (numD x) (.int 0) = some (.bl (decide (x = 0))) := by
  rw [ev_eq (by omega) (by omega), eq_numI]
  rfl
theorem ev_eqNN (x y : Rat) : eqF (numD x) (numD y) = some (.bl (decide (x = y))) := by
  rw [ev_eq (by omega) (by omega), eq_num]
theorem ev_neNN (x y : Rat) : neF (numD x) (numD y) = some (.bl (!decide (x = y))) := by
  rw [ev_ne (by omega) (by omega), eq_num]
instance oe_pt (x y : Rat) : Oe (ptD x y) 3 := oe_tup
theorem eq_pt (x y z w : Rat) : D.eq (ptD x y) (ptD z w) = decide (x = z ∧ y = w) := by
  unfold ptD
  rw [eq_tt, eqL_cc, eqL_cc, eqL_nn, eq_num, eq_num, Bool.and_true, Bool.decide_and]
theorem ev_eqPP (x y z w : Rat) : eqF (ptD x y) (ptD z w) = some (.bl (decide (x = z ∧ y = w))) := by
  rw [ev_eq (by omega) (by omega), eq_pt]
theorem ev_nePP (x y z w : Rat) : neF (ptD x y) (ptD z w) = some (.bl (!decide (x = z ∧ y = w))) := by
  rw [ev_ne (by omega) (by omega), eq_pt]
theorem parallel_ok [Sz ox a] [Sz oy b] [Sz ax c] [Sz ay d] [Sz bx e] [Sz b_y f] (h : a + b + c + d + e + f ≤ 1500) :
    m_parallel_corner [ptD ox oy, ptD ax ay, ptD bx b_y] s = .ok (ptD (ax + (bx - ox)) (ay + (b_y - oy))) s := by
  unfold m_parallel_corner b_parallel_corner
  have l1 := row_to_ok (x := ox) (y := oy) (z := bx) (w := b_y) (s := s) (by omega)
  have l2 := gone_ok (x := ax) (y := ay) (z := bx - ox) (w := b_y - oy) (q := 1) (s := s) (by simp only [show Nat.log2 1 = 0 by decide]; omega)
  rw [Rat.one_mul, Rat.one_mul, ← numD1] at l2
  simp (decide := true) only [EV, fnM, List.length_cons, List.length_nil, Nat.reduceAdd, Nat.reduceSub, if_true, if_false, ↓reduceIte, List.map_cons, List.map_nil, List.replicate, List.cons_append, List.nil_append, Bool.false_eq_true, Bool.not_true, Bool.not_false, Bool.and_true, Bool.true_and, Bool.and_self, List.all_cons, List.all_nil, List.any_cons, List.any_nil, List.reverse_cons, List.reverse_nil, decide_true, decide_false, Int.reduceAdd, Int.reduceSub, Int.reduceMul, Int.reduceNeg, Option.map_some, l1, l2]
theorem is_flat_in_ok [Sz ox a] [Sz oy b] [Sz ax c] [Sz ay d] [Sz bx e] [Sz b_y f] (h : a + b + c + d + e + f ≤ 1500) :
    m_is_flat_in [ptD ox oy, ptD ax ay, ptD bx b_y] s = .ok (.bl (decide ((ax - ox) * (b_y - oy) - (ay - oy) * (bx - ox) = 0))) s := by
  unfold m_is_flat_in b_is_flat_in
  have l1 := row_to_ok (x := ox) (y := oy) (z := ax) (w := ay) (s := s) (by omega)
  have l2 := row_to_ok (x := ox) (y := oy) (z := bx) (w := b_y) (s := s) (by omega)
  have l3 := across_ok (x := ax - ox) (y := ay - oy) (z := bx - ox) (w := b_y - oy) (s := s) (by omega)
  simp (decide := true) only [EV, fnM, List.length_cons, List.length_nil, Nat.reduceAdd, Nat.reduceSub, if_true, if_false, ↓reduceIte, List.map_cons, List.map_nil, List.replicate, List.cons_append, List.nil_append, Bool.false_eq_true, Bool.not_true, Bool.not_false, Bool.and_true, Bool.true_and, Bool.and_self, List.all_cons, List.all_nil, List.any_cons, List.any_nil, List.reverse_cons, List.reverse_nil, decide_true, decide_false, Int.reduceAdd, Int.reduceSub, Int.reduceMul, Int.reduceNeg, Option.map_some, l1, l2, l3, ev_eqN0]
/-- the share of the foot on the line from (ax, ay) to (bx, b_y) -/
def shareR (px py ax ay bx b_y : Rat) : Rat := ((px - ax) * (bx - ax) + (py - ay) * (b_y - ay)) / ((bx - ax) * (bx - ax) + (b_y - ay) * (b_y - ay))
def mirX (px py ax ay bx b_y : Rat) : Rat := px + 2 * (ax + shareR px py ax ay bx b_y * (bx - ax) - px)
def mirY (px py ax ay bx b_y : Rat) : Rat := py + 2 * (ay + shareR px py ax ay bx b_y * (b_y - ay) - py)
instance sz_share [Sz ox a] [Sz oy b] [Sz ax c] [Sz ay d] [Sz bx e] [Sz b_y f] : Sz (shareR ox oy ax ay bx b_y) (a + c + 1 + (e + c + 1) + (b + d + 1 + (f + d + 1)) + 1 + (e + c + 1 + (e + c + 1) + (f + d + 1 + (f + d + 1)) + 1)) := by
  unfold shareR; infer_instance
theorem mirrored_in_ok [Sz ox a] [Sz oy b] [Sz ax c] [Sz ay d] [Sz bx e] [Sz b_y f] (h : a + b + c + d + e + f ≤ 690) (h0 : (bx - ax) * (bx - ax) + (b_y - ay) * (b_y - ay) ≠ 0) :
    m_mirrored_in [ptD ox oy, ptD ax ay, ptD bx b_y] s = .ok (ptD (mirX ox oy ax ay bx b_y) (mirY ox oy ax ay bx b_y)) s := by
  unfold m_mirrored_in b_mirrored_in
  have l1 := row_to_ok (x := ax) (y := ay) (z := bx) (w := b_y) (s := s) (by omega)
  have l2 := row_to_ok (x := ax) (y := ay) (z := ox) (w := oy) (s := s) (by omega)
  have l3 := summed_ok (x := ox - ax) (y := oy - ay) (z := bx - ax) (w := b_y - ay) (s := s) (by omega)
  have l4 := length_square_ok (x := bx - ax) (y := b_y - ay) (s := s) (by omega)
  have l5 := part_by_ok (x := (ox - ax) * (bx - ax) + (oy - ay) * (b_y - ay)) (y := (bx - ax) * (bx - ax) + (b_y - ay) * (b_y - ay)) (s := s) h0 (by omega)
  rw [show ((ox - ax) * (bx - ax) + (oy - ay) * (b_y - ay)) / ((bx - ax) * (bx - ax) + (b_y - ay) * (b_y - ay)) = shareR ox oy ax ay bx b_y from rfl] at l5
  have l6 := gone_ok (x := ax) (y := ay) (z := bx - ax) (w := b_y - ay) (q := shareR ox oy ax ay bx b_y) (s := s) (by omega)
  have l7 := row_to_ok (x := ox) (y := oy) (z := ax + shareR ox oy ax ay bx b_y * (bx - ax)) (w := ay + shareR ox oy ax ay bx b_y * (b_y - ay)) (s := s) (by omega)
  have l8 := gone_ok (x := ox) (y := oy) (z := ax + shareR ox oy ax ay bx b_y * (bx - ax) - ox) (w := ay + shareR ox oy ax ay bx b_y * (b_y - ay) - oy) (q := 2) (s := s) (by simp only [show Nat.log2 2 = 1 by decide]; omega)
  rw [← numD2] at l8
  simp (decide := true) only [EV, fnM, List.length_cons, List.length_nil, Nat.reduceAdd, Nat.reduceSub, if_true, if_false, ↓reduceIte, List.map_cons, List.map_nil, List.replicate, List.cons_append, List.nil_append, Bool.false_eq_true, Bool.not_true, Bool.not_false, Bool.and_true, Bool.true_and, Bool.and_self, List.all_cons, List.all_nil, List.any_cons, List.any_nil, List.reverse_cons, List.reverse_nil, decide_true, decide_false, Int.reduceAdd, Int.reduceSub, Int.reduceMul, Int.reduceNeg, Option.map_some, l1, l2, l3, l4, l5, l6, l7, l8]
  rfl
end
end DL
/-! G9: frames as they are asked; what a law draws. -/
namespace DL
open PySem PySem.Spec L2 H
theorem sq_nn (x : Rat) : 0 ≤ x * x := by
  rcases (Rat.le_total : 0 ≤ x ∨ x ≤ 0) with h | h
  · exact Rat.mul_nonneg h h
  · have := Rat.mul_nonneg (show 0 ≤ -x by grind) (show 0 ≤ -x by grind)
    grind
theorem sq_pos {x : Rat} (h : x ≠ 0) : 0 < x * x := by
  have := sq_nn x
  rcases Rat.le_iff_lt_or_eq.mp this with h1 | h1
  · exact h1
  · have : x * x = 0 := h1.symm
    rcases Rat.mul_eq_zero.mp this with h2 | h2 <;> exact absurd h2 h
theorem sumsq_zero {x y : Rat} (h : x * x + y * y = 0) : x = 0 ∧ y = 0 := by
  have a := sq_nn x
  have b := sq_nn y
  have h1 : x * x = 0 := by grind
  have h2 : y * y = 0 := by grind
  exact ⟨by rcases Rat.mul_eq_zero.mp h1 with h | h <;> exact h, by rcases Rat.mul_eq_zero.mp h2 with h | h <;> exact h⟩
section
variable {s : Sd} {ox oy ax ay bx b_y cx cy u v S T : Rat} {a b c d e f k l : Nat} {dO dA dB : D}
theorem lens_ne (hS : 0 < S) (hT : S < T) (h1 : (ax - ox) * (ax - ox) + (ay - oy) * (ay - oy) = S * S) (h2 : (bx - ox) * (bx - ox) + (b_y - oy) * (b_y - oy) = T * T) : (bx - ax) * (bx - ax) + (b_y - ay) * (b_y - ay) ≠ 0 := fun z => by
  obtain ⟨z1, z2⟩ := sumsq_zero z
  have e1 : bx = ax := by grind
  have e2 : b_y = ay := by grind
  subst e1 e2
  have : (T - S) * (T + S) = 0 := by grind
  rcases Rat.mul_eq_zero.mp this with h | h <;> grind
theorem need_lengths_ok [Sz S a] [Sz T b] (hT : S < T) (h : a + b ≤ 8000) : m_need_lengths [numD S, numD T] s = .ok .non s := by
  unfold m_need_lengths b_need_lengths
  simp (decide := true) only [EV, fnM, List.length_cons, List.length_nil, Nat.reduceAdd, Nat.reduceSub, if_true, if_false, ↓reduceIte, List.map_cons, List.map_nil, List.replicate, List.cons_append, List.nil_append, Bool.false_eq_true, Bool.not_true, Bool.not_false, Bool.and_true, Bool.true_and, Bool.and_self, List.all_cons, List.all_nil, List.any_cons, List.any_nil, List.reverse_cons, List.reverse_nil, decide_true, decide_false, Int.reduceAdd, Int.reduceSub, Int.reduceMul, Int.reduceNeg, Option.map_some, below_ok h, hT]
theorem need_frame_ok [Sz S k] [Sz T l] [Sz ox a] [Sz oy b] [Sz ax c] [Sz ay d] [Sz bx e] [Sz b_y f] (h : k + l + a + b + c + d + e + f ≤ 1500) (hT : S < T)
    (h1 : (ax - ox) * (ax - ox) + (ay - oy) * (ay - oy) = S * S) (h2 : (bx - ox) * (bx - ox) + (b_y - oy) * (b_y - oy) = T * T) (p1 : PtIn dO ox oy) (p2 : PtIn dA ax ay) (p3 : PtIn dB bx b_y) :
    m_need_frame [numD S, numD T, dO, dA, dB] s = .ok (.lst [ptD ox oy, ptD ax ay, ptD bx b_y]) s := by
  unfold m_need_frame b_need_frame
  have l1 := far_square_ok (x := ox) (y := oy) (z := ax) (w := ay) (s := s) (by omega)
  have l2 := far_square_ok (x := ox) (y := oy) (z := bx) (w := b_y) (s := s) (by omega)
  rw [h1] at l1
  rw [h2] at l2
  have l3 := square_ok (x := S) (s := s) (by omega)
  have l4 := square_ok (x := T) (s := s) (by omega)
  simp (decide := true) only [EV, fnM, List.length_cons, List.length_nil, Nat.reduceAdd, Nat.reduceSub, if_true, if_false, ↓reduceIte, List.map_cons, List.map_nil, List.replicate, List.cons_append, List.nil_append, Bool.false_eq_true, Bool.not_true, Bool.not_false, Bool.and_true, Bool.true_and, Bool.and_self, List.all_cons, List.all_nil, List.any_cons, List.any_nil, List.reverse_cons, List.reverse_nil, decide_true, decide_false, Int.reduceAdd, Int.reduceSub, Int.reduceMul, Int.reduceNeg, Option.map_some, need_points3 p1 p2 p3, need_lengths_ok hT (show k + l ≤ 8000 by omega), l1, l2, l3, l4, ev_neNN]
theorem is_flat_ok [Sz ox a] [Sz oy b] [Sz ax c] [Sz ay d] [Sz bx e] [Sz b_y f] (h : a + b + c + d + e + f ≤ 1500) (h0 : ¬ (ox = bx ∧ oy = b_y)) (p1 : PtIn dO ox oy) (p2 : PtIn dA ax ay) (p3 : PtIn dB bx b_y) :
    m_is_flat [dO, dA, dB] s = .ok (.bl (decide ((ax - ox) * (b_y - oy) - (ay - oy) * (bx - ox) = 0))) s := by
  unfold m_is_flat b_is_flat
  simp (decide := true) only [EV, fnM, List.length_cons, List.length_nil, Nat.reduceAdd, Nat.reduceSub, if_true, if_false, ↓reduceIte, List.map_cons, List.map_nil, List.replicate, List.cons_append, List.nil_append, Bool.false_eq_true, Bool.not_true, Bool.not_false, Bool.and_true, Bool.true_and, Bool.and_self, List.all_cons, List.all_nil, List.any_cons, List.any_nil, List.reverse_cons, List.reverse_nil, decide_true, decide_false, Int.reduceAdd, Int.reduceSub, Int.reduceMul, Int.reduceNeg, Option.map_some, need_points3 p1 p2 p3, ev_eqPP, h0, is_flat_in_ok h]
theorem mirrored_ok [Sz ox a] [Sz oy b] [Sz ax c] [Sz ay d] [Sz bx e] [Sz b_y f] (h : a + b + c + d + e + f ≤ 690) (h0 : (bx - ax) * (bx - ax) + (b_y - ay) * (b_y - ay) ≠ 0) (p1 : PtIn dO ox oy) (p2 : PtIn dA ax ay) (p3 : PtIn dB bx b_y) :
    m_mirrored [dO, dA, dB] s = .ok (ptD (mirX ox oy ax ay bx b_y) (mirY ox oy ax ay bx b_y)) s := by
  unfold m_mirrored b_mirrored
  have n : ¬ (ax = bx ∧ ay = b_y) := fun z => h0 (by rw [z.1, z.2]; grind)
  simp (decide := true) only [EV, fnM, List.length_cons, List.length_nil, Nat.reduceAdd, Nat.reduceSub, if_true, if_false, ↓reduceIte, List.map_cons, List.map_nil, List.replicate, List.cons_append, List.nil_append, Bool.false_eq_true, Bool.not_true, Bool.not_false, Bool.and_true, Bool.true_and, Bool.and_self, List.all_cons, List.all_nil, List.any_cons, List.any_nil, List.reverse_cons, List.reverse_nil, decide_true, decide_false, Int.reduceAdd, Int.reduceSub, Int.reduceMul, Int.reduceNeg, Option.map_some, need_points3 p1 p2 p3, ev_eqPP, n, mirrored_in_ok h h0]
theorem corners_ok [Sz S k] [Sz T l] [Sz ox a] [Sz oy b] [Sz ax c] [Sz ay d] [Sz bx e] [Sz b_y f] (h : k + l + a + b + 2 * c + 2 * d + 2 * e + 2 * f ≤ 290) (hS : 0 < S) (hT : S < T)
    (h1 : (ax - ox) * (ax - ox) + (ay - oy) * (ay - oy) = S * S) (h2 : (bx - ox) * (bx - ox) + (b_y - oy) * (b_y - oy) = T * T) (p1 : PtIn dO ox oy) (p2 : PtIn dA ax ay) (p3 : PtIn dB bx b_y) :
    m_corners [numD S, numD T, dO, dA, dB] s = .ok (if (ax - ox) * (b_y - oy) - (ay - oy) * (bx - ox) = 0 then .tup [ptD (ax + (bx - ox)) (ay + (b_y - oy))]
      else .tup [ptD (ax + (bx - ox)) (ay + (b_y - oy)), ptD (mirX (ax + (bx - ox)) (ay + (b_y - oy)) ax ay bx b_y) (mirY (ax + (bx - ox)) (ay + (b_y - oy)) ax ay bx b_y)]) s := by
  unfold m_corners b_corners m_corners_in b_corners_in
  have T0 : 0 < T := by grind
  have l1 := mirrored_in_ok (ox := ax + (bx - ox)) (oy := ay + (b_y - oy)) (ax := ax) (ay := ay) (bx := bx) (b_y := b_y) (s := s) (by omega) (lens_ne hS hT h1 h2)
  have l2 := is_flat_in_ok (ox := ox) (oy := oy) (ax := ax) (ay := ay) (bx := bx) (b_y := b_y) (s := s) (by omega)
  have l3 := parallel_ok (ox := ox) (oy := oy) (ax := ax) (ay := ay) (bx := bx) (b_y := b_y) (s := s) (by omega)
  have l4 := need_frame_ok (s := s) (by omega) hT h1 h2 p1 p2 p3
  by_cases z : (ax - ox) * (b_y - oy) - (ay - oy) * (bx - ox) = 0
  · simp (decide := true) only [EV, fnM, List.length_cons, List.length_nil, Nat.reduceAdd, Nat.reduceSub, if_true, if_false, ↓reduceIte, List.map_cons, List.map_nil, List.replicate, List.cons_append, List.nil_append, Bool.false_eq_true, Bool.not_true, Bool.not_false, Bool.and_true, Bool.true_and, Bool.and_self, List.all_cons, List.all_nil, List.any_cons, List.any_nil, List.reverse_cons, List.reverse_nil, decide_true, decide_false, Int.reduceAdd, Int.reduceSub, Int.reduceMul, Int.reduceNeg, Option.map_some, need_above_ok hS, need_above_ok T0, l2, l3, l4, z]
  · simp (decide := true) only [EV, fnM, List.length_cons, List.length_nil, Nat.reduceAdd, Nat.reduceSub, if_true, if_false, ↓reduceIte, List.map_cons, List.map_nil, List.replicate, List.cons_append, List.nil_append, Bool.false_eq_true, Bool.not_true, Bool.not_false, Bool.and_true, Bool.true_and, Bool.and_self, List.all_cons, List.all_nil, List.any_cons, List.any_nil, List.reverse_cons, List.reverse_nil, decide_true, decide_false, Int.reduceAdd, Int.reduceSub, Int.reduceMul, Int.reduceNeg, Option.map_some, need_above_ok hS, need_above_ok T0, l1, l2, l3, l4, z]
end
/-! draws -/
/-- what draws a number below k -/
def Rch (r : SpF) : Prop := ∀ {ms : List Int} {k : Int} {n : Nat} {s : Sd}, StOk n s → n < 2 ^ 31 → 0 < k → k < 2 ^ 256 → Dr1 (r [.drum ms, .int k] s) (n + 1) (fun d => ∃ v : Int, d = .int v ∧ 0 ≤ v ∧ v < k)
theorem ix_mem {ds : List D} {i : Int} (h0 : 0 ≤ i) (h1 : i < (ds.length : Nat)) : ∃ d ∈ ds, ixF (.lst ds) (.int i) = some d := by
  obtain ⟨k, rfl⟩ : ∃ k : Nat, i = (k : Int) := ⟨i.toNat, by omega⟩
  have hk : k < ds.length := by omega
  exact ⟨ds[k], List.getElem_mem hk, atI_nat (List.getElem?_eq_getElem hk)⟩
theorem pick_ok {r : SpF} (R : Rch r) {ms : List Int} {ds : List D} {n : Nat} {s : Sd} (hs : StOk n s) (hn : n < 2 ^ 31) (h0 : 0 < ds.length) (h1 : ds.length < 2 ^ 31) : Dr1 (m_pick r [.drum ms, .lst ds] s) (n + 1) (fun d => d ∈ ds) := by
  obtain ⟨d, s1, e, hs1, v, rfl, v0, v1⟩ := R (ms := ms) hs hn (k := (ds.length : Nat)) (by omega) (by omega)
  obtain ⟨x, hx, ex⟩ := ix_mem v0 v1
  refine ⟨x, s1, ?_, hs1, hx⟩
  unfold m_pick b_pick
  have l : lenF [.lst ds] = some (.int (ds.length : Nat)) := rfl
  simp (decide := true) only [EV, fnM, List.length_cons, List.length_nil, Nat.reduceAdd, Nat.reduceSub, if_true, if_false, ↓reduceIte, List.map_cons, List.map_nil, List.replicate, List.cons_append, List.nil_append, Bool.false_eq_true, Bool.not_true, Bool.not_false, Bool.and_true, Bool.true_and, Bool.and_self, List.all_cons, List.all_nil, List.any_cons, List.any_nil, List.reverse_cons, List.reverse_nil, decide_true, decide_false, Int.reduceAdd, Int.reduceSub, Int.reduceMul, Int.reduceNeg, Option.map_some, l, e, ex]
theorem lcF_ints (g : FG) (te : FE) (ρ : SEnv) (s : Sd) (h : ∀ i : Int, ∃ ρ1, g (.int i) ρ = some ρ1 ∧ te ρ1 s = .ok (.int i) s) : ∀ ms : List Int, lcF g fYes te ρ (ms.map D.int) s = .ok (ms.map D.int) s
  | [] => rfl
  | m :: ms => by
    obtain ⟨ρ1, e1, e2⟩ := h m
    simp only [EV, List.map_cons, ev_lcC, e1, if_true, e2, lcF_ints g te ρ s h ms]
theorem cut_len {α : Type} (xs : List α) (l u : Option Int) : (cutD xs l u).length ≤ xs.length := by
  unfold cutD
  rw [List.length_take, List.length_drop]
  omega
theorem sack_ok (c : Int) {ns : List Int} (h : ns.length ≤ 63) (s : Sd) : ∃ ms : List Int, m_sack c [.scr ns] s = .ok (.lst [.lst (ms.map D.int), .int 0, .int 0]) s := by
  refine ⟨cutD ns none (some c), ?_⟩
  unfold m_sack b_sack
  have l := lcF_ints (gName 1) (fCB intF (fCons (fVar 1) fNil)) [.d (.scr ns), .no] s (fun i => ⟨[.d (.scr ns), .d (.int i)], by simp (decide := true) only [EV, fnM, List.length_cons, List.length_nil, Nat.reduceAdd, Nat.reduceSub, if_true, if_false, ↓reduceIte, List.map_cons, List.map_nil, List.replicate, List.cons_append, List.nil_append, Bool.false_eq_true, Bool.not_true, Bool.not_false, Bool.and_true, Bool.true_and, Bool.and_self, List.all_cons, List.all_nil, List.any_cons, List.any_nil, List.reverse_cons, List.reverse_nil, decide_true, decide_false, Int.reduceAdd, Int.reduceSub, Int.reduceMul, Int.reduceNeg, Option.map_some], by simp (decide := true) only [EV, fnM, List.length_cons, List.length_nil, Nat.reduceAdd, Nat.reduceSub, if_true, if_false, ↓reduceIte, List.map_cons, List.map_nil, List.replicate, List.cons_append, List.nil_append, Bool.false_eq_true, Bool.not_true, Bool.not_false, Bool.and_true, Bool.true_and, Bool.and_self, List.all_cons, List.all_nil, List.any_cons, List.any_nil, List.reverse_cons, List.reverse_nil, decide_true, decide_false, Int.reduceAdd, Int.reduceSub, Int.reduceMul, Int.reduceNeg, Option.map_some]⟩) (cutD ns none (some c))
  have hl : ((cutD ns none (some c)).map D.int).length ≤ 20000 := by
    have := cut_len ns none (some c)
    rw [List.length_map]; omega
  have sl : slF (.scr ns) none (some c) = some (.lst ((cutD ns none (some c)).map D.int)) := rfl
  simp (decide := true) only [EV, fnM, List.length_cons, List.length_nil, Nat.reduceAdd, Nat.reduceSub, if_true, if_false, ↓reduceIte, List.map_cons, List.map_nil, List.replicate, List.cons_append, List.nil_append, Bool.false_eq_true, Bool.not_true, Bool.not_false, Bool.and_true, Bool.true_and, Bool.and_self, List.all_cons, List.all_nil, List.any_cons, List.any_nil, List.reverse_cons, List.reverse_nil, decide_true, decide_false, Int.reduceAdd, Int.reduceSub, Int.reduceMul, Int.reduceNeg, Option.map_some, sl, l, ev_lstR hl]
/-! repr of numbers and points -/
theorem rk_numL {x : Rat} {b : Nat} [h : Sz x b] (hb : b ≤ 1893) : Rk (numL x) 3 1 := by
  have h1 := lt_up h.n hb
  have h2 := lt_up h.d' hb
  unfold numL
  split
  · exact ⟨(rk_int h1).r, by show 1 ≤ 3; omega, by show 0 ≤ 1; omega⟩
  · have a := rk_int h1
    have b := rk_int h2
    exact ⟨(rk_lst (ds := [.int x.num, .int (x.den : Nat)])).r, by show 1 + (1 + (1 + 0)) ≤ 3; omega, Nat.le_refl _⟩
theorem rk_pt {x y : Rat} {a b : Nat} [Sz x a] [Sz y b] (ha : a ≤ 1893) (hb : b ≤ 1893) : Rk (ptD x y) 7 3 := by
  have h1 := rk_num (x := x) ha
  have h2 := rk_num (x := y) hb
  exact rk_tup
theorem rk_in {d : D} {x y : Rat} {a b : Nat} [Sz x a] [Sz y b] (h : PtIn d x y) (ha : a ≤ 1893) (hb : b ≤ 1893) : Rk d 7 3 := by
  obtain ⟨n1, n2, h1, h2, e⟩ := h
  have r1 : Rk n1 3 1 := by
    rcases h1 with rfl | rfl
    · exact rk_num ha
    · exact rk_numL ha
  have r2 : Rk n2 3 1 := by
    rcases h2 with rfl | rfl
    · exact rk_num hb
    · exact rk_numL hb
  rcases e with rfl | rfl
  · exact rk_tup
  · exact rk_lst
end DL
/-! G10: points mirrored at lines. -/
namespace DL
open PySem PySem.Spec L2 H
section
variable {px py ax ay bx b_y : Rat}
theorem share_eq (h : (bx - ax) * (bx - ax) + (b_y - ay) * (b_y - ay) ≠ 0) : shareR px py ax ay bx b_y * ((bx - ax) * (bx - ax) + (b_y - ay) * (b_y - ay)) = (px - ax) * (bx - ax) + (py - ay) * (b_y - ay) := by
  unfold shareR
  grind
theorem mir_dot (h : (bx - ax) * (bx - ax) + (b_y - ay) * (b_y - ay) ≠ 0) : (bx - ax) * (mirX px py ax ay bx b_y - px) + (b_y - ay) * (mirY px py ax ay bx b_y - py) = 0 := by
  have e := share_eq (px := px) (py := py) h
  unfold mirX mirY
  generalize shareR px py ax ay bx b_y = q at *
  grind
theorem mir_cross : (bx - ax) * (py + 1 / 2 * (mirY px py ax ay bx b_y - py) - ay) - (b_y - ay) * (px + 1 / 2 * (mirX px py ax ay bx b_y - px) - ax) = 0 := by
  unfold mirX mirY
  generalize shareR px py ax ay bx b_y = q at *
  grind
theorem mir_farA (h : (bx - ax) * (bx - ax) + (b_y - ay) * (b_y - ay) ≠ 0) : (ax - mirX px py ax ay bx b_y) * (ax - mirX px py ax ay bx b_y) + (ay - mirY px py ax ay bx b_y) * (ay - mirY px py ax ay bx b_y) = (ax - px) * (ax - px) + (ay - py) * (ay - py) := by
  have e := share_eq (px := px) (py := py) h
  unfold mirX mirY
  generalize shareR px py ax ay bx b_y = q at *
  grind
theorem mir_farB (h : (bx - ax) * (bx - ax) + (b_y - ay) * (b_y - ay) ≠ 0) : (bx - mirX px py ax ay bx b_y) * (bx - mirX px py ax ay bx b_y) + (b_y - mirY px py ax ay bx b_y) * (b_y - mirY px py ax ay bx b_y) = (bx - px) * (bx - px) + (b_y - py) * (b_y - py) := by
  have e := share_eq (px := px) (py := py) h
  unfold mirX mirY
  generalize shareR px py ax ay bx b_y = q at *
  grind
theorem mir_ne (h : (bx - ax) * (py - ay) - (b_y - ay) * (px - ax) ≠ 0) : ¬ (mirX px py ax ay bx b_y = px ∧ mirY px py ax ay bx b_y = py) := fun ⟨e1, e2⟩ => h (by
  unfold mirX at e1
  unfold mirY at e2
  generalize shareR px py ax ay bx b_y = q at *
  have e3 : ax + q * (bx - ax) = px := by grind
  have e4 : ay + q * (b_y - ay) = py := by grind
  rw [← e3, ← e4]
  grind)
theorem share_back (h : (bx - ax) * (bx - ax) + (b_y - ay) * (b_y - ay) ≠ 0) : shareR (mirX px py ax ay bx b_y) (mirY px py ax ay bx b_y) bx b_y ax ay = 1 - shareR px py ax ay bx b_y := by
  have h' : (ax - bx) * (ax - bx) + (ay - b_y) * (ay - b_y) ≠ 0 := by grind
  have e := share_eq (px := px) (py := py) h
  have e2 := share_eq (px := mirX px py ax ay bx b_y) (py := mirY px py ax ay bx b_y) h'
  unfold mirX mirY at e2 ⊢
  generalize shareR px py ax ay bx b_y = q at *
  generalize shareR (px + 2 * (ax + q * (bx - ax) - px)) (py + 2 * (ay + q * (b_y - ay) - py)) bx b_y ax ay = r at *
  have z : (r - (1 - q)) * ((bx - ax) * (bx - ax) + (b_y - ay) * (b_y - ay)) = 0 := by grind
  rcases Rat.mul_eq_zero.mp z with z | z
  · grind
  · exact absurd z h
theorem mir_back (h : (bx - ax) * (bx - ax) + (b_y - ay) * (b_y - ay) ≠ 0) : mirX (mirX px py ax ay bx b_y) (mirY px py ax ay bx b_y) bx b_y ax ay = px ∧ mirY (mirX px py ax ay bx b_y) (mirY px py ax ay bx b_y) bx b_y ax ay = py := by
  have e := share_back (px := px) (py := py) h
  have d1 : mirX (mirX px py ax ay bx b_y) (mirY px py ax ay bx b_y) bx b_y ax ay = mirX px py ax ay bx b_y + 2 * (bx + (1 - shareR px py ax ay bx b_y) * (ax - bx) - mirX px py ax ay bx b_y) := by rw [← e]; rfl
  have d2 : mirY (mirX px py ax ay bx b_y) (mirY px py ax ay bx b_y) bx b_y ax ay = mirY px py ax ay bx b_y + 2 * (b_y + (1 - shareR px py ax ay bx b_y) * (ay - b_y) - mirY px py ax ay bx b_y) := by rw [← e]; rfl
  rw [d1, d2]
  unfold mirX mirY
  generalize shareR px py ax ay bx b_y = q at *
  constructor <;> grind
theorem mir_on {r : Rat} (h : (bx - ax) * (bx - ax) + (b_y - ay) * (b_y - ay) ≠ 0) (e1 : px = ax + r * (bx - ax)) (e2 : py = ay + r * (b_y - ay)) : mirX px py ax ay bx b_y = px ∧ mirY px py ax ay bx b_y = py := by
  have e := share_eq (px := px) (py := py) h
  have z : (shareR px py ax ay bx b_y - r) * ((bx - ax) * (bx - ax) + (b_y - ay) * (b_y - ay)) = 0 := by
    rw [e1, e2] at e ⊢
    grind
  have z2 : shareR px py ax ay bx b_y = r := by
    rcases Rat.mul_eq_zero.mp z with z | z
    · grind
    · exact absurd z h
  unfold mirX mirY
  rw [z2]
  constructor <;> grind
end
end DL
/-! GP: points over one denominator. -/
namespace DL
open PySem PySem.Spec L2 H
/-- both over one number below the line -/
class Pz (x y : Rat) (b : outParam Nat) : Prop where
  e : ∃ X Y d : Int, d ≠ 0 ∧ x = (X : Rat) / d ∧ y = (Y : Rat) / d ∧ X.natAbs < 2 ^ b ∧ Y.natAbs < 2 ^ b ∧ d.natAbs < 2 ^ b
section
variable {x y z w q : Rat} {a b c : Nat}
theorem Pz.sx (h : Pz x y a) : Sz x a := by
  obtain ⟨X, Y, d, h0, rfl, rfl, h1, h2, h3⟩ := h.e
  exact sz_div h0 h1 h3
theorem Pz.sy (h : Pz x y a) : Sz y a := by
  obtain ⟨X, Y, d, h0, rfl, rfl, h1, h2, h3⟩ := h.e
  exact sz_div h0 h2 h3
theorem Pz.up {k : Nat} (h : Pz x y a) (hk : a ≤ k) : Pz x y k := by
  obtain ⟨X, Y, d, h0, e1, e2, h1, h2, h3⟩ := h.e
  exact ⟨X, Y, d, h0, e1, e2, lt_up h1 hk, lt_up h2 hk, lt_up h3 hk⟩
theorem ne_cast {d : Int} (h : d ≠ 0) : (d : Rat) ≠ 0 := by exact_mod_cast h
theorem Pz.of [hx : Sz x a] [hy : Sz y b] : Pz x y (a + b) := by
  have e1 := sz_num x
  have e2 := sz_num y
  have n1 := ne_cast (den_ne x)
  have n2 := ne_cast (den_ne y)
  refine ⟨x.num * y.den, y.num * x.den, x.den * y.den, Int.mul_ne_zero (den_ne x) (den_ne y), ?_, ?_, nmul hx.n hy.d', by rw [Nat.add_comm a b]; exact nmul hy.n hx.d', nmul hx.d' hy.d'⟩
  · rw [Rat.intCast_mul, Rat.intCast_mul]
    generalize ((x.den : Int) : Rat) = p at *
    generalize ((y.den : Int) : Rat) = r at *
    generalize (x.num : Rat) = m at *
    grind
  · rw [Rat.intCast_mul, Rat.intCast_mul]
    generalize ((x.den : Int) : Rat) = p at *
    generalize ((y.den : Int) : Rat) = r at *
    generalize (y.num : Rat) = m at *
    grind
instance pz_add [h : Pz x y a] [g : Pz z w b] : Pz (x + z) (y + w) (a + b + 1) := by
  obtain ⟨X, Y, d, h0, rfl, rfl, h1, h2, h3⟩ := h.e
  obtain ⟨Z, W, f, g0, rfl, rfl, g1, g2, g3⟩ := g.e
  have n1 := ne_cast h0
  have n2 := ne_cast g0
  refine ⟨X * f + Z * d, Y * f + W * d, d * f, Int.mul_ne_zero h0 g0, ?_, ?_, natAbs_add_lt (nmul h1 g3) (by rw [Nat.add_comm a b]; exact nmul g1 h3), natAbs_add_lt (nmul h2 g3) (by rw [Nat.add_comm a b]; exact nmul g2 h3), lt_up (nmul h3 g3) (by omega)⟩
  · rw [Rat.intCast_add, Rat.intCast_mul, Rat.intCast_mul, Rat.intCast_mul]
    grind
  · rw [Rat.intCast_add, Rat.intCast_mul, Rat.intCast_mul, Rat.intCast_mul]
    grind
instance pz_neg [h : Pz x y a] : Pz (-x) (-y) a := by
  obtain ⟨X, Y, d, h0, rfl, rfl, h1, h2, h3⟩ := h.e
  have n1 := ne_cast h0
  refine ⟨-X, -Y, d, h0, ?_, ?_, by rw [Int.natAbs_neg]; exact h1, by rw [Int.natAbs_neg]; exact h2, h3⟩
  · rw [Rat.intCast_neg]; grind
  · rw [Rat.intCast_neg]; grind
instance pz_sub [h : Pz x y a] [g : Pz z w b] : Pz (x - z) (y - w) (a + b + 1) := by
  rw [Rat.sub_eq_add_neg, Rat.sub_eq_add_neg]
  exact pz_add
instance pz_mul [h : Pz x y a] [g : Sz q b] : Pz (q * x) (q * y) (b + a) := by
  obtain ⟨X, Y, d, h0, rfl, rfl, h1, h2, h3⟩ := h.e
  have n1 := ne_cast h0
  have e2 := sz_num q
  have n2 := ne_cast (den_ne q)
  refine ⟨q.num * X, q.num * Y, q.den * d, Int.mul_ne_zero (den_ne q) h0, ?_, ?_, nmul g.n h1, nmul g.n h2, nmul g.d' h3⟩
  · rw [Rat.intCast_mul, Rat.intCast_mul]
    generalize ((q.den : Int) : Rat) = r at *
    generalize (q.num : Rat) = m at *
    grind
  · rw [Rat.intCast_mul, Rat.intCast_mul]
    generalize ((q.den : Int) : Rat) = r at *
    generalize (q.num : Rat) = m at *
    grind
instance pz_div [h : Pz x y a] [g : Sz q b] : Pz (x / q) (y / q) (a + b) := by
  by_cases hq : q = 0
  · subst hq
    have e1 : x / 0 = 0 := by grind
    have e2 : y / 0 = 0 := by grind
    rw [e1, e2]
    have p := g.pos
    have k : (1 : Nat) < 2 ^ (a + b) := Nat.one_lt_two_pow (by omega)
    exact ⟨0, 0, 1, by decide, by decide +kernel, by decide +kernel, by simpa using Nat.lt_trans (by decide) k, by simpa using Nat.lt_trans (by decide) k, k⟩
  · obtain ⟨X, Y, d, h0, rfl, rfl, h1, h2, h3⟩ := h.e
    have n1 := ne_cast h0
    have e2 := sz_num q
    have n2 := ne_cast (den_ne q)
    have n3 := ne_cast (num_ne hq)
    refine ⟨X * q.den, Y * q.den, d * q.num, Int.mul_ne_zero h0 (num_ne hq), ?_, ?_, nmul h1 g.d', nmul h2 g.d', nmul h3 g.n⟩
    · rw [Rat.intCast_mul, Rat.intCast_mul]
      generalize ((q.den : Int) : Rat) = r at *
      generalize (q.num : Rat) = m at *
      grind
    · rw [Rat.intCast_mul, Rat.intCast_mul]
      generalize ((q.den : Int) : Rat) = r at *
      generalize (q.num : Rat) = m at *
      grind
/-- a product of two rows -/
theorem Pz.dot [h : Pz x y a] [g : Pz z w b] : Sz (x * z + y * w) (a + b + 1) := by
  obtain ⟨X, Y, d, h0, rfl, rfl, h1, h2, h3⟩ := h.e
  obtain ⟨Z, W, f, g0, rfl, rfl, g1, g2, g3⟩ := g.e
  have n1 := ne_cast h0
  have n2 := ne_cast g0
  have e : (X : Rat) / d * ((Z : Rat) / f) + (Y : Rat) / d * ((W : Rat) / f) = ((X * Z + Y * W : Int) : Rat) / ((d * f : Int) : Rat) := by
    rw [Rat.intCast_add, Rat.intCast_mul, Rat.intCast_mul, Rat.intCast_mul]
    grind
  rw [e]
  exact sz_div (Int.mul_ne_zero h0 g0) (natAbs_add_lt (nmul h1 g1) (nmul h2 g2)) (lt_up (nmul h3 g3) (by omega))
end
end DL
/-! G11: numbers, points, turns, openings of frames, drawn. -/
namespace DL
open PySem PySem.Spec L2 H
theorem pck {r : SpF} (R : Rch r) {ms : List Int} {ds : List D} {n : Nat} {s : Sd} (hs : StOk n s) (hn : n < 2 ^ 31) (h0 : 0 < ds.length := by simp only [List.length_cons, List.length_nil]; decide) (h1 : ds.length < 2 ^ 31 := by simp only [List.length_cons, List.length_nil]; decide) : Dr1 (m_pick r [.drum ms, .lst ds] s) (n + 1) (fun d => d ∈ ds) := pick_ok R hs hn h0 h1
theorem half_num : D.tup [.int 1, .int 2] = numD (1 / 2) := by
  have e : (1 / 2 : Rat).den = 2 := by decide +kernel
  have e2 : (1 / 2 : Rat).num = 1 := by decide +kernel
  unfold numD
  rw [if_neg (by rw [e]; decide), e, e2]
  rfl
instance sz_half : Sz (1 / 2 : Rat) 2 := ⟨by decide +kernel, by decide +kernel⟩
section
variable {s : Sd} {px py tx ty ax ay bx b_y : Rat} {a b c d e f k l : Nat} {ms : List Int} {n : Nat} {r : SpF}
theorem is_mir [Sz px a] [Sz py b] [Sz tx c] [Sz ty d] [Sz ax e] [Sz ay f] [Sz bx k] [Sz b_y l] (h : a + b + c + d + e + f + k + l ≤ 2500)
    (h1 : (bx - ax) * (tx - px) + (b_y - ay) * (ty - py) = 0) (h2 : (bx - ax) * (py + 1 / 2 * (ty - py) - ay) - (b_y - ay) * (px + 1 / 2 * (tx - px) - ax) = 0) :
    m_is_mirrored1 [ptD px py, ptD tx ty, ptD ax ay, ptD bx b_y] s = .ok (.bl true) s := by
  unfold m_is_mirrored1 b_is_mirrored1
  have l1 := row1_ok (x := ax) (y := ay) (z := bx) (w := b_y) (s := s) (by omega)
  have l2 := row1_ok (x := px) (y := py) (z := tx) (w := ty) (s := s) (by omega)
  have l3 := gone1_ok (x := px) (y := py) (z := tx - px) (w := ty - py) (q := 1 / 2) (s := s) (by omega)
  have l4 := dot1_ok (x := bx - ax) (y := b_y - ay) (z := tx - px) (w := ty - py) (s := s) (by omega)
  have l5 := row1_ok (x := ax) (y := ay) (z := px + 1 / 2 * (tx - px)) (w := py + 1 / 2 * (ty - py)) (s := s) (by omega)
  have l6 := cross1_ok (x := bx - ax) (y := b_y - ay) (z := px + 1 / 2 * (tx - px) - ax) (w := py + 1 / 2 * (ty - py) - ay) (s := s) (by omega)
  rw [h1] at l4
  rw [h2] at l6
  simp (decide := true) only [EV, fnM, List.length_cons, List.length_nil, Nat.reduceAdd, Nat.reduceSub, if_true, if_false, ↓reduceIte, List.map_cons, List.map_nil, List.replicate, List.cons_append, List.nil_append, Bool.false_eq_true, Bool.not_true, Bool.not_false, Bool.and_true, Bool.true_and, Bool.and_self, List.all_cons, List.all_nil, List.any_cons, List.any_nil, List.reverse_cons, List.reverse_nil, decide_true, decide_false, Int.reduceAdd, Int.reduceSub, Int.reduceMul, Int.reduceNeg, Option.map_some, half_num, l1, l2, l3, l4, l5, l6, ev_eqN0]
theorem number_ok (R : Rch r) (hs : StOk n s) (hn : n + 2 < 2 ^ 31) : Dr1 (m_number33 r [.drum ms] s) (n + 2) (fun d => ∃ x, Sz x 3 ∧ d = numD x) := by
  obtain ⟨_, s1, e1, hs1, v, rfl, v0, v1⟩ := R (ms := ms) hs (by omega) (k := 13) (by decide) (by decide)
  obtain ⟨w, s2, e2, hs2, hw⟩ := pck R (ms := ms) (ds := [.int 1, .int 1, .int 2, .int 3, .int 5]) hs1 (by omega)
  obtain ⟨j, rfl, j0, j1⟩ : ∃ j : Int, w = .int j ∧ 1 ≤ j ∧ j ≤ 5 := by
    simp only [List.mem_cons, List.not_mem_nil, or_false] at hw
    rcases hw with h | h | h | h | h <;> subst h <;> exact ⟨_, rfl, by decide, by decide⟩
  have l := form1_ok (i := v - 6) (j := j) (s := s2) (by omega) (lt_up (k := 8) (by omega) (by decide))
  refine ⟨_, s2, ?_, hs2, _, sz_div (k := 3) (a := v - 6) (b := j) (by omega) (by omega) (by omega), rfl⟩
  unfold m_number33 b_number33
  simp (decide := true) only [EV, fnM, List.length_cons, List.length_nil, Nat.reduceAdd, Nat.reduceSub, if_true, if_false, ↓reduceIte, List.map_cons, List.map_nil, List.replicate, List.cons_append, List.nil_append, Bool.false_eq_true, Bool.not_true, Bool.not_false, Bool.and_true, Bool.true_and, Bool.and_self, List.all_cons, List.all_nil, List.any_cons, List.any_nil, List.reverse_cons, List.reverse_nil, decide_true, decide_false, Int.reduceAdd, Int.reduceSub, Int.reduceMul, Int.reduceNeg, Option.map_some, e1, e2, l]
theorem point_ok (R : Rch r) (hs : StOk n s) (hn : n + 4 < 2 ^ 31) : Dr1 (m_point33 r [.drum ms] s) (n + 4) (fun d => ∃ x y, Sz x 3 ∧ Sz y 3 ∧ d = ptD x y) := by
  obtain ⟨_, s1, e1, hs1, x, hx, rfl⟩ := number_ok R (ms := ms) hs (by omega)
  obtain ⟨_, s2, e2, hs2, y, hy, rfl⟩ := number_ok R (ms := ms) hs1 (by omega)
  refine ⟨_, s2, ?_, hs2, x, y, hx, hy, rfl⟩
  unfold m_point33 b_point33 ptD
  simp (decide := true) only [EV, fnM, List.length_cons, List.length_nil, Nat.reduceAdd, Nat.reduceSub, if_true, if_false, ↓reduceIte, List.map_cons, List.map_nil, List.replicate, List.cons_append, List.nil_append, Bool.false_eq_true, Bool.not_true, Bool.not_false, Bool.and_true, Bool.true_and, Bool.and_self, List.all_cons, List.all_nil, List.any_cons, List.any_nil, List.reverse_cons, List.reverse_nil, decide_true, decide_false, Int.reduceAdd, Int.reduceSub, Int.reduceMul, Int.reduceNeg, Option.map_some, e1, e2]
/-- a turn -/
def TurnIn (d : D) : Prop := ∃ u v : Rat, Sz u 17 ∧ Sz v 17 ∧ Pz u v 22 ∧ u * u + v * v = 1 ∧ d = ptD u v
theorem one_sq (x : Rat) : (1 : Rat) + x * x ≠ 0 := by
  have := sq_nn x
  grind
theorem turn_ok (R : Rch r) (hs : StOk n s) (hn : n + 3 < 2 ^ 31) : Dr1 (m_turn33 r [.drum ms] s) (n + 3) TurnIn := by
  obtain ⟨_, s1, e1, hs1, v, rfl, v0, v1⟩ := R (ms := ms) hs (by omega) (k := 6) (by decide) (by decide)
  unfold m_turn33 b_turn33
  by_cases hv : v = 0
  · subst hv
    obtain ⟨w, s2, e2, hs2, hw⟩ := pck R (ms := ms) (ds := [.tup [.int 1, .int 0], .tup [.int (-1), .int 0], .tup [.int 0, .int 1], .tup [.int 0, .int (-1)]]) hs1 (by omega)
    refine ⟨w, s2, by simp (decide := true) only [EV, fnM, List.length_cons, List.length_nil, Nat.reduceAdd, Nat.reduceSub, if_true, if_false, ↓reduceIte, List.map_cons, List.map_nil, List.replicate, List.cons_append, List.nil_append, Bool.false_eq_true, Bool.not_true, Bool.not_false, Bool.and_true, Bool.true_and, Bool.and_self, List.all_cons, List.all_nil, List.any_cons, List.any_nil, List.reverse_cons, List.reverse_nil, decide_true, decide_false, Int.reduceAdd, Int.reduceSub, Int.reduceMul, Int.reduceNeg, Option.map_some, e1, e2], hs2.up (by omega), ?_⟩
    simp only [List.mem_cons, List.not_mem_nil, or_false] at hw
    rcases hw with h | h | h | h <;> subst h
    · exact ⟨1, 0, ⟨by decide, by decide⟩, ⟨by decide, by decide⟩, ⟨⟨1, 0, 1, by decide, by decide +kernel, by decide +kernel, by decide, by decide, by decide⟩⟩, by decide +kernel, rfl⟩
    · exact ⟨-1, 0, ⟨by decide, by decide⟩, ⟨by decide, by decide⟩, ⟨⟨-1, 0, 1, by decide, by decide +kernel, by decide +kernel, by decide, by decide, by decide⟩⟩, by decide +kernel, rfl⟩
    · exact ⟨0, 1, ⟨by decide, by decide⟩, ⟨by decide, by decide⟩, ⟨⟨0, 1, 1, by decide, by decide +kernel, by decide +kernel, by decide, by decide, by decide⟩⟩, by decide +kernel, rfl⟩
    · exact ⟨0, -1, ⟨by decide, by decide⟩, ⟨by decide, by decide⟩, ⟨⟨0, -1, 1, by decide, by decide +kernel, by decide +kernel, by decide, by decide, by decide⟩⟩, by decide +kernel, rfl⟩
  · obtain ⟨_, s2, e2, hs2, x, hx, rfl⟩ := number_ok R (ms := ms) hs1 (by omega)
    have l1 := mul1_ok (x := x) (y := x) (s := s2) (by omega)
    have l2 := add1_ok (x := 1) (y := x * x) (s := s2) (by decide)
    have l3 := less1_ok (x := 1) (y := x * x) (s := s2) (by decide)
    have l4 := mul1_ok (x := 2) (y := x) (s := s2) (by decide)
    rw [← numD1] at l2 l3
    rw [← numD2] at l4
    have l5 := part1_ok (x := 1 - x * x) (y := 1 + x * x) (s := s2) (one_sq x) (by decide)
    have l6 := part1_ok (x := 2 * x) (y := 1 + x * x) (s := s2) (one_sq x) (by decide)
    refine ⟨ptD ((1 - x * x) / (1 + x * x)) (2 * x / (1 + x * x)), s2, by simp (decide := true) only [EV, fnM, List.length_cons, List.length_nil, Nat.reduceAdd, Nat.reduceSub, if_true, if_false, ↓reduceIte, List.map_cons, List.map_nil, List.replicate, List.cons_append, List.nil_append, Bool.false_eq_true, Bool.not_true, Bool.not_false, Bool.and_true, Bool.true_and, Bool.and_self, List.all_cons, List.all_nil, List.any_cons, List.any_nil, List.reverse_cons, List.reverse_nil, decide_true, decide_false, Int.reduceAdd, Int.reduceSub, Int.reduceMul, Int.reduceNeg, Option.map_some, e1, e2, hv, l1, l2, l3, l4, l5, l6]; rfl, hs2, _, _, Sz.up (k := 17) inferInstance (by decide), Sz.up (k := 17) inferInstance (by decide), (haveI := Pz.of (x := 1 - x * x) (y := 2 * x); pz_div).up (by decide), ?_, rfl⟩
    have := one_sq x
    grind
/-- what an opening is -/
structure Opens (S T ox oy u v u' v' : Rat) : Prop where
  zS : Sz S 3
  zT : Sz T 7
  zox : Sz ox 3
  zoy : Sz oy 3
  zu : Sz u 17
  zv : Sz v 17
  zu' : Sz u' 18
  pzo : Pz ox oy 6
  pzu : Pz u v 22
  pzu' : Pz u' v' 23
  zv' : Sz v' 18
  S0 : 0 < S
  ST : S < T
  t1 : u * u + v * v = 1
  t2 : u' * u' + v' * v' = 1
def OpenD (d : D) : Prop := ∃ S T ox oy u v u' v', Opens S T ox oy u v u' v' ∧ d = .tup [numD S, numD T, ptD ox oy, ptD (ox + S * u) (oy + S * v), ptD (ox + T * u') (oy + T * v')]
theorem pos_div {i j : Int} (hi : 0 < i) (hj : 0 < j) : 0 < (i : Rat) / j := by
  have h1 : (0 : Rat) < i := by exact_mod_cast hi
  have h2 : (0 : Rat) < j := by exact_mod_cast hj
  have e : (i : Rat) / j * j = i := by grind
  rcases (Rat.le_total : (i : Rat) / j ≤ 0 ∨ 0 ≤ (i : Rat) / j) with h | h
  · have := Rat.mul_nonneg (show 0 ≤ -((i : Rat) / j) by grind) (Rat.le_of_lt h2)
    grind
  · rcases Rat.le_iff_lt_or_eq.mp h with h3 | h3
    · exact h3
    · rw [← h3] at e; grind
theorem numDm1 : D.int (-1) = numD (-1) := rfl
theorem opening_ok (R : Rch r) (hs : StOk n s) (hn : n + 20 < 2 ^ 31) : Dr1 (m_opening33 r [.drum ms] s) (n + 20) OpenD := by
  obtain ⟨_, s1, e1, hs1, v1, rfl, v10, v11⟩ := R (ms := ms) hs (by omega) (k := 6) (by decide) (by decide)
  obtain ⟨w1, s2, e2, hs2, hw1⟩ := pck R (ms := ms) (ds := [.int 1, .int 1, .int 2, .int 3]) hs1 (by omega)
  obtain ⟨j1, rfl, j10, j11⟩ : ∃ j : Int, w1 = .int j ∧ 1 ≤ j ∧ j ≤ 5 := by
    simp only [List.mem_cons, List.not_mem_nil, or_false] at hw1
    rcases hw1 with h | h | h | h <;> subst h <;> exact ⟨_, rfl, by decide, by decide⟩
  obtain ⟨_, s3, e3, hs3, v2, rfl, v20, v21⟩ := R (ms := ms) hs2 (by omega) (k := 6) (by decide) (by decide)
  obtain ⟨w2, s4, e4, hs4, hw2⟩ := pck R (ms := ms) (ds := [.int 1, .int 2, .int 4, .int 3]) hs3 (by omega)
  obtain ⟨j2, rfl, j20, j21⟩ : ∃ j : Int, w2 = .int j ∧ 1 ≤ j ∧ j ≤ 5 := by
    simp only [List.mem_cons, List.not_mem_nil, or_false] at hw2
    rcases hw2 with h | h | h | h <;> subst h <;> exact ⟨_, rfl, by decide, by decide⟩
  obtain ⟨_, s5, e5, hs5, px, py, hpx, hpy, rfl⟩ := point_ok R (ms := ms) hs4 (by omega)
  obtain ⟨w3, s6, e6, hs6, hw3⟩ := pck R (ms := ms) (ds := [.tup [.int 0, .int 0], ptD px py]) hs5 (by omega)
  obtain ⟨ox, oy, zox, zoy, rfl⟩ : ∃ ox oy, Sz ox 3 ∧ Sz oy 3 ∧ w3 = ptD ox oy := by
    simp only [List.mem_cons, List.not_mem_nil, or_false] at hw3
    rcases hw3 with h | h <;> subst h
    · exact ⟨0, 0, ⟨by decide, by decide⟩, ⟨by decide, by decide⟩, rfl⟩
    · exact ⟨px, py, hpx, hpy, rfl⟩
  obtain ⟨_, s7, e7, hs7, u, v, zu, zv, pzu, t1, rfl⟩ := turn_ok R (ms := ms) hs6 (by omega)
  obtain ⟨_, s8, e8, hs8, u2, v2', zu2, zv2, pzu2, t2, rfl⟩ := turn_ok R (ms := ms) hs7 (by omega)
  obtain ⟨_, s9, e9, hs9, v3, rfl, v30, v31⟩ := R (ms := ms) hs8 (by omega) (k := 5) (by decide) (by decide)
  have zS := sz_div (k := 3) (a := 1 + v1) (b := j1) (by omega) (by omega) (by omega)
  have zW := sz_div (k := 3) (a := 1 + v2) (b := j2) (by omega) (by omega) (by omega)
  have S0 := pos_div (i := 1 + v1) (j := j1) (by omega) (by omega)
  have W0 := pos_div (i := 1 + v2) (j := j2) (by omega) (by omega)
  have l1 := form1_ok (i := 1 + v1) (j := j1) (s := s2) (by omega) (lt_up (k := 8) (by omega) (by decide))
  have l2 := form1_ok (i := 1 + v2) (j := j2) (s := s4) (by omega) (lt_up (k := 8) (by omega) (by decide))
  generalize ((1 + v1 : Int) : Rat) / j1 = S at *
  generalize ((1 + v2 : Int) : Rat) / j2 = W at *
  have l3 := add1_ok (x := S) (y := W) (s := s4) (by decide)
  have fin : ∀ (u' v' : Rat) (sx : Sd), StOk (n + 20) sx → Sz u' 18 → Sz v' 18 → Pz u' v' 23 → u' * u' + v' * v' = 1 →
      Dr1 (((fRet (fTup (fCons (fVar 1) (fCons (fVar 2) (fCons (fVar 3) (fCons (fCall m_gone1 (fCons (fVar 3) (fCons (fVar 4) (fCons (fVar 1) fNil)))) (fCons (fCall m_gone1 (fCons (fVar 3) (fCons (fVar 5) (fCons (fVar 2) fNil)))) fNil))))))) [.d (.drum ms), .d (numD S), .d (numD (S + W)), .d (ptD ox oy), .d (ptD u v), .d (ptD u' v')] sx).fin) (n + 20) OpenD := by
    intro u' v' sx hx z1 z2 z3 t
    have g1 := gone1_ok (x := ox) (y := oy) (z := u) (w := v) (q := S) (s := sx) (by decide)
    have g2 := gone1_ok (x := ox) (y := oy) (z := u') (w := v') (q := S + W) (s := sx) (by decide)
    refine ⟨_, sx, by simp (decide := true) only [EV, fnM, List.length_cons, List.length_nil, Nat.reduceAdd, Nat.reduceSub, if_true, if_false, ↓reduceIte, List.map_cons, List.map_nil, List.replicate, List.cons_append, List.nil_append, Bool.false_eq_true, Bool.not_true, Bool.not_false, Bool.and_true, Bool.true_and, Bool.and_self, List.all_cons, List.all_nil, List.any_cons, List.any_nil, List.reverse_cons, List.reverse_nil, decide_true, decide_false, Int.reduceAdd, Int.reduceSub, Int.reduceMul, Int.reduceNeg, Option.map_some, g1, g2], hx, S, S + W, ox, oy, u, v, u', v', ⟨zS, inferInstance, zox, zoy, zu, zv, z1, (Pz.of (x := ox) (y := oy)).up (by decide), pzu, z3, z2, S0, by grind, t1, t⟩, rfl⟩
  unfold m_opening33 b_opening33
  by_cases hv3 : v3 = 0
  · subst hv3
    have m1 := mul1_ok (x := -1) (y := u) (s := s9) (by decide)
    have m2 := mul1_ok (x := -1) (y := v) (s := s9) (by decide)
    rw [← numDm1] at m1 m2
    obtain ⟨w4, s10, e10, hs10, hw4⟩ := pck R (ms := ms) (ds := [ptD u v, .tup [numD (-1 * u), numD (-1 * v)]]) hs9 (by omega)
    have ix0 : ixF (ptD u v) (.int 0) = some (numD u) := ev_ix0T
    have ix1 : ixF (ptD u v) (.int 1) = some (numD v) := ev_ix1T
    obtain ⟨u', v', z1, z2, z3, t, rfl⟩ : ∃ u' v', Sz u' 18 ∧ Sz v' 18 ∧ Pz u' v' 23 ∧ u' * u' + v' * v' = 1 ∧ w4 = ptD u' v' := by
      simp only [List.mem_cons, List.not_mem_nil, or_false] at hw4
      rcases hw4 with h | h <;> subst h
      · exact ⟨u, v, zu.up (by decide), zv.up (by decide), pzu.up (by decide), t1, rfl⟩
      · exact ⟨-1 * u, -1 * v, inferInstance, inferInstance, (pz_mul (q := -1) (x := u) (y := v)).up (by decide), by grind, rfl⟩
    simp (decide := true) only [EV, fnM, List.length_cons, List.length_nil, Nat.reduceAdd, Nat.reduceSub, if_true, if_false, ↓reduceIte, List.map_cons, List.map_nil, List.replicate, List.cons_append, List.nil_append, Bool.false_eq_true, Bool.not_true, Bool.not_false, Bool.and_true, Bool.true_and, Bool.and_self, List.all_cons, List.all_nil, List.any_cons, List.any_nil, List.reverse_cons, List.reverse_nil, decide_true, decide_false, Int.reduceAdd, Int.reduceSub, Int.reduceMul, Int.reduceNeg, Option.map_some, e1, e2, e3, e4, e5, e6, e7, e8, e9, l1, l2, l3, ix0, ix1, m1, m2, e10]
    exact fin u' v' s10 (hs10.up (by omega)) z1 z2 z3 t
  · simp (decide := true) only [EV, fnM, List.length_cons, List.length_nil, Nat.reduceAdd, Nat.reduceSub, if_true, if_false, ↓reduceIte, List.map_cons, List.map_nil, List.replicate, List.cons_append, List.nil_append, Bool.false_eq_true, Bool.not_true, Bool.not_false, Bool.and_true, Bool.true_and, Bool.and_self, List.all_cons, List.all_nil, List.any_cons, List.any_nil, List.reverse_cons, List.reverse_nil, decide_true, decide_false, Int.reduceAdd, Int.reduceSub, Int.reduceMul, Int.reduceNeg, Option.map_some, e1, e2, e3, e4, e5, e6, e7, e8, e9, l1, l2, l3, hv3]
    exact fin u2 v2' s9 (hs9.up (by omega)) (zu2.up (by decide)) (zv2.up (by decide)) (pzu2.up (by decide)) t2
theorem listed_ok (R : Rch r) {x y : Rat} (hs : StOk n s) (hn : n + 1 < 2 ^ 31) : Dr1 (m_listed33 r [.drum ms, ptD x y] s) (n + 1) (fun d => PtIn d x y) := by
  obtain ⟨_, s1, e1, hs1, v, rfl, v0, v1⟩ := R (ms := ms) hs (by omega) (k := 2) (by decide) (by decide)
  unfold m_listed33 b_listed33
  by_cases hv : v = 0
  · subst hv
    exact ⟨_, s1, by simp (decide := true) only [EV, fnM, List.length_cons, List.length_nil, Nat.reduceAdd, Nat.reduceSub, if_true, if_false, ↓reduceIte, List.map_cons, List.map_nil, List.replicate, List.cons_append, List.nil_append, Bool.false_eq_true, Bool.not_true, Bool.not_false, Bool.and_true, Bool.true_and, Bool.and_self, List.all_cons, List.all_nil, List.any_cons, List.any_nil, List.reverse_cons, List.reverse_nil, decide_true, decide_false, Int.reduceAdd, Int.reduceSub, Int.reduceMul, Int.reduceNeg, Option.map_some, e1], hs1, PtIn.pt⟩
  · refine ⟨ptL x y, s1, ?_, hs1, PtIn.l⟩
    unfold ptL ptD at *
    rcases numL_cases x with ⟨_, f1, g1⟩ | ⟨_, f1, g1⟩ <;> rcases numL_cases y with ⟨_, f2, g2⟩ | ⟨_, f2, g2⟩ <;> rw [f1, f2, g1, g2] at * <;>
      simp (decide := true) only [EV, fnM, List.length_cons, List.length_nil, Nat.reduceAdd, Nat.reduceSub, if_true, if_false, ↓reduceIte, List.map_cons, List.map_nil, List.replicate, List.cons_append, List.nil_append, Bool.false_eq_true, Bool.not_true, Bool.not_false, Bool.and_true, Bool.true_and, Bool.and_self, List.all_cons, List.all_nil, List.any_cons, List.any_nil, List.reverse_cons, List.reverse_nil, decide_true, decide_false, Int.reduceAdd, Int.reduceSub, Int.reduceMul, Int.reduceNeg, Option.map_some, e1, hv, ev_lcC, ev_lcN, ev_lstR (show 2 ≤ 20000 by decide)]
theorem far_in {ox oy S u v : Rat} (t : u * u + v * v = 1) : (ox + S * u - ox) * (ox + S * u - ox) + (oy + S * v - oy) * (oy + S * v - oy) = S * S := by grind
end
end DL
/-! G12: points over one denominator; midpoints. -/
namespace DL
open PySem PySem.Spec L2 H
section
variable {s : Sd} {ox oy ax ay bx b_y cx cy : Rat} {a b c d : Nat} {dO dA dB dC : D}
/-- the point halfway -/
theorem half_eq (x z : Rat) : x + 1 / 2 * (z - x) = (x + z) / 2 := by grind
theorem halfway_ok [Sz ox a] [Sz oy b] [Sz ax c] [Sz ay d] (h : a + b + c + d ≤ 2000) : m_halfway [ptD ox oy, ptD ax ay] s = .ok (ptD ((ox + ax) / 2) ((oy + ay) / 2)) s := by
  unfold m_halfway b_halfway
  have l1 := row_to_ok (x := ox) (y := oy) (z := ax) (w := ay) (s := s) (by omega)
  have l2 := gone_ok (x := ox) (y := oy) (z := ax - ox) (w := ay - oy) (q := 1 / 2) (s := s) (by omega)
  rw [half_eq, half_eq] at l2
  simp (decide := true) only [EV, fnM, List.length_cons, List.length_nil, Nat.reduceAdd, Nat.reduceSub, if_true, if_false, ↓reduceIte, List.map_cons, List.map_nil, List.replicate, List.cons_append, List.nil_append, Bool.false_eq_true, Bool.not_true, Bool.not_false, Bool.and_true, Bool.true_and, Bool.and_self, List.all_cons, List.all_nil, List.any_cons, List.any_nil, List.reverse_cons, List.reverse_nil, decide_true, decide_false, Int.reduceAdd, Int.reduceSub, Int.reduceMul, Int.reduceNeg, Option.map_some, half_num, l1, l2]
theorem half34_ok [Sz ox a] [Sz oy b] [Sz ax c] [Sz ay d] (h : a + b + c + d ≤ 2000) : m_half34 [ptD ox oy, ptD ax ay] s = .ok (ptD ((ox + ax) / 2) ((oy + ay) / 2)) s := by
  unfold m_half34 b_half34 ptD
  have l1 := add1_ok (x := ox) (y := ax) (s := s) (by omega)
  have l2 := add1_ok (x := oy) (y := ay) (s := s) (by omega)
  have l3 := part1_ok (x := ox + ax) (y := 2) (s := s) (by decide) (by simp only [show Nat.log2 2 = 1 by decide]; omega)
  have l4 := part1_ok (x := oy + ay) (y := 2) (s := s) (by decide) (by simp only [show Nat.log2 2 = 1 by decide]; omega)
  rw [← numD2] at l3 l4
  simp (decide := true) only [EV, fnM, List.length_cons, List.length_nil, Nat.reduceAdd, Nat.reduceSub, if_true, if_false, ↓reduceIte, List.map_cons, List.map_nil, List.replicate, List.cons_append, List.nil_append, Bool.false_eq_true, Bool.not_true, Bool.not_false, Bool.and_true, Bool.true_and, Bool.and_self, List.all_cons, List.all_nil, List.any_cons, List.any_nil, List.reverse_cons, List.reverse_nil, decide_true, decide_false, Int.reduceAdd, Int.reduceSub, Int.reduceMul, Int.reduceNeg, Option.map_some, l1, l2, l3, l4]
end
end DL
/-! G13: midpoints and spreads. -/
namespace DL
open PySem PySem.Spec L2 H
section
variable {s : Sd} {x1 y1 x2 y2 x3 y3 x4 y4 : Rat} {a b c d : Nat} {d1 d2 d3 d4 : D}
theorem numD4 : D.int 4 = numD 4 := rfl
theorem need_points4 {p1 p2 p3 p4 : D} (h1 : PtIn d1 x1 y1) (h2 : PtIn d2 x2 y2) (h3 : PtIn d3 x3 y3) (h4 : PtIn d4 x4 y4) :
    m_need_points [.lst [d1, d2, d3, d4], .lst [p1, p2, p3, p4]] s = .ok (.lst [ptD x1 y1, ptD x2 y2, ptD x3 y3, ptD x4 y4]) s := by
  unfold m_need_points b_need_points
  simp (decide := true) only [EV, fnM, List.length_cons, List.length_nil, Nat.reduceAdd, Nat.reduceSub, if_true, if_false, ↓reduceIte, List.map_cons, List.map_nil, List.replicate, List.cons_append, List.nil_append, Bool.false_eq_true, Bool.not_true, Bool.not_false, Bool.and_true, Bool.true_and, Bool.and_self, List.all_cons, List.all_nil, List.any_cons, List.any_nil, List.reverse_cons, List.reverse_nil, decide_true, decide_false, Int.reduceAdd, Int.reduceSub, Int.reduceMul, Int.reduceNeg, Option.map_some, ev_lcC, ev_lcN, ev_lstR (show 4 ≤ 20000 by decide), need_point_ok h1, need_point_ok h2, need_point_ok h3, need_point_ok h4]
/-- the four midpoints -/
def midsD (x1 y1 x2 y2 x3 y3 x4 y4 : Rat) : D := .tup [ptD ((x1 + x2) / 2) ((y1 + y2) / 2), ptD ((x2 + x3) / 2) ((y2 + y3) / 2), ptD ((x3 + x4) / 2) ((y3 + y4) / 2), ptD ((x4 + x1) / 2) ((y4 + y1) / 2)]
def farR (x y z w : Rat) : Rat := (z - x) * (z - x) + (w - y) * (w - y)
def wideR (x1 y1 x2 y2 x3 y3 x4 y4 : Rat) : Rat := farR ((x1 + x2) / 2) ((y1 + y2) / 2) ((x3 + x4) / 2) ((y3 + y4) / 2) / 4
def highR (x1 y1 x2 y2 x3 y3 x4 y4 : Rat) : Rat := farR ((x2 + x3) / 2) ((y2 + y3) / 2) ((x4 + x1) / 2) ((y4 + y1) / 2) / 4
theorem midpoints_ok [z1 : Sz x1 a] [Sz y1 a] [Sz x2 b] [Sz y2 b] [Sz x3 c] [Sz y3 c] [Sz x4 d] [Sz y4 d] (h : a + b + c + d ≤ 900) (h1 : PtIn d1 x1 y1) (h2 : PtIn d2 x2 y2) (h3 : PtIn d3 x3 y3) (h4 : PtIn d4 x4 y4) :
    m_midpoints [d1, d2, d3, d4] s = .ok (midsD x1 y1 x2 y2 x3 y3 x4 y4) s := by
  unfold m_midpoints b_midpoints m_midpoints_in b_midpoints_in midsD
  have l1 := halfway_ok (ox := x1) (oy := y1) (ax := x2) (ay := y2) (s := s) (by omega)
  have l2 := halfway_ok (ox := x2) (oy := y2) (ax := x3) (ay := y3) (s := s) (by omega)
  have l3 := halfway_ok (ox := x3) (oy := y3) (ax := x4) (ay := y4) (s := s) (by omega)
  have l4 := halfway_ok (ox := x4) (oy := y4) (ax := x1) (ay := y1) (s := s) (by omega)
  simp (decide := true) only [EV, fnM, List.length_cons, List.length_nil, Nat.reduceAdd, Nat.reduceSub, if_true, if_false, ↓reduceIte, List.map_cons, List.map_nil, List.replicate, List.cons_append, List.nil_append, Bool.false_eq_true, Bool.not_true, Bool.not_false, Bool.and_true, Bool.true_and, Bool.and_self, List.all_cons, List.all_nil, List.any_cons, List.any_nil, List.reverse_cons, List.reverse_nil, decide_true, decide_false, Int.reduceAdd, Int.reduceSub, Int.reduceMul, Int.reduceNeg, Option.map_some, need_points4 h1 h2 h3 h4, l1, l2, l3, l4]
theorem spread_ok [z1 : Sz x1 a] [Sz y1 a] [Sz x2 b] [Sz y2 b] [Sz x3 c] [Sz y3 c] [Sz x4 d] [Sz y4 d] (h : a + b + c + d ≤ 900) (h1 : PtIn d1 x1 y1) (h2 : PtIn d2 x2 y2) (h3 : PtIn d3 x3 y3) (h4 : PtIn d4 x4 y4) :
    m_spread [d1, d2, d3, d4] s = .ok (.tup [numD (wideR x1 y1 x2 y2 x3 y3 x4 y4), numD (highR x1 y1 x2 y2 x3 y3 x4 y4)]) s := by
  unfold m_spread b_spread m_spread_in b_spread_in
  have m := midpoints_ok (s := s) h h1 h2 h3 h4
  unfold midsD at m
  have e2 : Nat.log2 2 + 1 = 2 := by decide
  have e4 : Nat.log2 4 + 1 = 3 := by decide
  have f1 := far_square_ok (x := (x1 + x2) / 2) (y := (y1 + y2) / 2) (z := (x3 + x4) / 2) (w := (y3 + y4) / 2) (s := s) (by rw [e2]; omega)
  have f2 := far_square_ok (x := (x2 + x3) / 2) (y := (y2 + y3) / 2) (z := (x4 + x1) / 2) (w := (y4 + y1) / 2) (s := s) (by rw [e2]; omega)
  have p1 := part_by_ok (x := farR ((x1 + x2) / 2) ((y1 + y2) / 2) ((x3 + x4) / 2) ((y3 + y4) / 2)) (y := 4) (hx := by unfold farR; infer_instance) (s := s) (by decide) (by rw [e2, e4]; omega)
  have p2 := part_by_ok (x := farR ((x2 + x3) / 2) ((y2 + y3) / 2) ((x4 + x1) / 2) ((y4 + y1) / 2)) (y := 4) (hx := by unfold farR; infer_instance) (s := s) (by decide) (by rw [e2, e4]; omega)
  rw [← numD4] at p1 p2
  unfold farR at p1 p2
  simp (decide := true) only [EV, fnM, List.length_cons, List.length_nil, Nat.reduceAdd, Nat.reduceSub, if_true, if_false, ↓reduceIte, List.map_cons, List.map_nil, List.replicate, List.cons_append, List.nil_append, Bool.false_eq_true, Bool.not_true, Bool.not_false, Bool.and_true, Bool.true_and, Bool.and_self, List.all_cons, List.all_nil, List.any_cons, List.any_nil, List.reverse_cons, List.reverse_nil, decide_true, decide_false, Int.reduceAdd, Int.reduceSub, Int.reduceMul, Int.reduceNeg, Option.map_some, m, f1, f2, p1, p2]
  rfl
theorem rk_mids (q1 : Pz x1 y1 a) (q2 : Pz x2 y2 b) (q3 : Pz x3 y3 c) (q4 : Pz x4 y4 d) (h : a + b + c + d ≤ 700) : Rk (midsD x1 y1 x2 y2 x3 y3 x4 y4) 29 13 := by
  have e2 : Nat.log2 2 + 1 = 2 := by decide
  have m1 : Pz ((x1 + x2) / 2) ((y1 + y2) / 2) _ := inferInstance
  have m2 : Pz ((x2 + x3) / 2) ((y2 + y3) / 2) _ := inferInstance
  have m3 : Pz ((x3 + x4) / 2) ((y3 + y4) / 2) _ := inferInstance
  have m4 : Pz ((x4 + x1) / 2) ((y4 + y1) / 2) _ := inferInstance
  have r1 := @rk_pt _ _ _ _ m1.sx m1.sy (by rw [e2]; omega) (by rw [e2]; omega)
  have r2 := @rk_pt _ _ _ _ m2.sx m2.sy (by rw [e2]; omega) (by rw [e2]; omega)
  have r3 := @rk_pt _ _ _ _ m3.sx m3.sy (by rw [e2]; omega) (by rw [e2]; omega)
  have r4 := @rk_pt _ _ _ _ m4.sx m4.sy (by rw [e2]; omega) (by rw [e2]; omega)
  exact rk_tup
theorem sz_far {x y z w : Rat} (p : Pz x y a) (q : Pz z w b) : Sz (farR x y z w / 4) (2 * (a + b) + 6) := by
  have d1 : Pz (z - x) (w - y) (b + a + 1) := inferInstance
  have d2 := @Pz.dot _ _ _ _ _ _ d1 d1
  have d3 : Sz ((((z - x) * (z - x) + (w - y) * (w - y))) / 4) _ := inferInstance
  exact d3.up (by simp only [show Nat.log2 4 = 2 by decide]; omega)
theorem sz_wide (q1 : Pz x1 y1 a) (q2 : Pz x2 y2 b) (q3 : Pz x3 y3 c) (q4 : Pz x4 y4 d) (h : a + b + c + d ≤ 700) : Sz (wideR x1 y1 x2 y2 x3 y3 x4 y4) 1500 := by
  have m1 : Pz ((x1 + x2) / 2) ((y1 + y2) / 2) _ := inferInstance
  have m3 : Pz ((x3 + x4) / 2) ((y3 + y4) / 2) _ := inferInstance
  exact (sz_far m1 m3).up (by simp only [show Nat.log2 2 = 1 by decide]; omega)
theorem sz_high (q1 : Pz x1 y1 a) (q2 : Pz x2 y2 b) (q3 : Pz x3 y3 c) (q4 : Pz x4 y4 d) (h : a + b + c + d ≤ 700) : Sz (highR x1 y1 x2 y2 x3 y3 x4 y4) 1500 := by
  have m1 : Pz ((x2 + x3) / 2) ((y2 + y3) / 2) _ := inferInstance
  have m3 : Pz ((x4 + x1) / 2) ((y4 + y1) / 2) _ := inferInstance
  exact (sz_far m1 m3).up (by simp only [show Nat.log2 2 = 1 by decide]; omega)
theorem listF_pt {x y : Rat} : listF [ptD x y] = some (.lst [numD x, numD y]) := rfl
theorem points_right34_ok (q1 : Pz x1 y1 a) (q2 : Pz x2 y2 b) (q3 : Pz x3 y3 c) (q4 : Pz x4 y4 d) (h : a + b + c + d ≤ 700) :
    m_points_right34 [ptD x1 y1, ptD x2 y2, ptD x3 y3, ptD x4 y4] s = .ok (.tup [midsD x1 y1 x2 y2 x3 y3 x4 y4, numD (wideR x1 y1 x2 y2 x3 y3 x4 y4), numD (highR x1 y1 x2 y2 x3 y3 x4 y4)]) s := by
  have rk := rk_mids q1 q2 q3 q4 h
  have zw := sz_wide q1 q2 q3 q4 h
  have zh := sz_high q1 q2 q3 q4 h
  have z1 := q1.sx
  have z2 := q1.sy
  have z3 := q2.sx
  have z4 := q2.sy
  have z5 := q3.sx
  have z6 := q3.sy
  have z7 := q4.sx
  have z8 := q4.sy
  have e2 : Nat.log2 2 + 1 = 2 := by decide
  have e4 : Nat.log2 4 + 1 = 3 := by decide
  have l1 := half34_ok (ox := x1) (oy := y1) (ax := x2) (ay := y2) (s := s) (by omega)
  have l2 := half34_ok (ox := x2) (oy := y2) (ax := x3) (ay := y3) (s := s) (by omega)
  have l3 := half34_ok (ox := x3) (oy := y3) (ax := x4) (ay := y4) (s := s) (by omega)
  have l4 := half34_ok (ox := x4) (oy := y4) (ax := x1) (ay := y1) (s := s) (by omega)
  have f1 := far1_ok (x := (x1 + x2) / 2) (y := (y1 + y2) / 2) (z := (x3 + x4) / 2) (w := (y3 + y4) / 2) (s := s) (by rw [e2]; omega)
  have f2 := far1_ok (x := (x2 + x3) / 2) (y := (y2 + y3) / 2) (z := (x4 + x1) / 2) (w := (y4 + y1) / 2) (s := s) (by rw [e2]; omega)
  have p1 := part1_ok (x := farR ((x1 + x2) / 2) ((y1 + y2) / 2) ((x3 + x4) / 2) ((y3 + y4) / 2)) (y := 4) (hx := by unfold farR; infer_instance) (s := s) (by decide) (by rw [e2, e4]; omega)
  have p2 := part1_ok (x := farR ((x2 + x3) / 2) ((y2 + y3) / 2) ((x4 + x1) / 2) ((y4 + y1) / 2)) (y := 4) (hx := by unfold farR; infer_instance) (s := s) (by decide) (by rw [e2, e4]; omega)
  rw [← numD4] at p1 p2
  have M1 := midpoints_ok (s := s) (show a + b + c + d ≤ 900 by omega) (PtIn.pt (x := x1) (y := y1)) (PtIn.pt (x := x2) (y := y2)) (PtIn.pt (x := x3) (y := y3)) (PtIn.pt (x := x4) (y := y4))
  have M2 := midpoints_ok (s := s) (show a + b + c + d ≤ 900 by omega) (PtIn.pt (x := x1) (y := y1)) (PtIn.lt (x := x2) (y := y2)) (PtIn.pt (x := x3) (y := y3)) (PtIn.lt (x := x4) (y := y4))
  have S1 := spread_ok (s := s) (show a + b + c + d ≤ 900 by omega) (PtIn.pt (x := x1) (y := y1)) (PtIn.pt (x := x2) (y := y2)) (PtIn.pt (x := x3) (y := y3)) (PtIn.pt (x := x4) (y := y4))
  have S2 := spread_ok (s := s) (show a + b + c + d ≤ 900 by omega) (PtIn.lt (x := x1) (y := y1)) (PtIn.pt (x := x2) (y := y2)) (PtIn.lt (x := x3) (y := y3)) (PtIn.pt (x := x4) (y := y4))
  have W1 : farR ((x1 + x2) / 2) ((y1 + y2) / 2) ((x3 + x4) / 2) ((y3 + y4) / 2) / 4 = wideR x1 y1 x2 y2 x3 y3 x4 y4 := rfl
  have W2 : farR ((x2 + x3) / 2) ((y2 + y3) / 2) ((x4 + x1) / 2) ((y4 + y1) / 2) / 4 = highR x1 y1 x2 y2 x3 y3 x4 y4 := rfl
  rw [W1] at p1
  rw [W2] at p2
  unfold farR at p1 p2
  have r1 := rk_num (x := wideR x1 y1 x2 y2 x3 y3 x4 y4) (by decide)
  have r2 := rk_num (x := highR x1 y1 x2 y2 x3 y3 x4 y4) (by decide)
  have rp := ev_repr (d := .lst [midsD x1 y1 x2 y2 x3 y3 x4 y4, midsD x1 y1 x2 y2 x3 y3 x4 y4, .tup [numD (wideR x1 y1 x2 y2 x3 y3 x4 y4), numD (highR x1 y1 x2 y2 x3 y3 x4 y4)], .tup [numD (wideR x1 y1 x2 y2 x3 y3 x4 y4), numD (highR x1 y1 x2 y2 x3 y3 x4 y4)]]) (by decide) (by decide)
  have pk : ∀ u v w z : D, pickK 0 4 [3, 2, 1, 0] [] [u, v, w, z] = [z, w, v, u] := fun _ _ _ _ => rfl
  unfold m_points_right34 b_points_right34
  unfold midsD at M1 M2 rp ⊢
  simp (decide := true) only [EV, fnM, List.length_cons, List.length_nil, Nat.reduceAdd, Nat.reduceSub, if_true, if_false, ↓reduceIte, List.map_cons, List.map_nil, List.replicate, List.cons_append, List.nil_append, Bool.false_eq_true, Bool.not_true, Bool.not_false, Bool.and_true, Bool.true_and, Bool.and_self, List.all_cons, List.all_nil, List.any_cons, List.any_nil, List.reverse_cons, List.reverse_nil, decide_true, decide_false, Int.reduceAdd, Int.reduceSub, Int.reduceMul, Int.reduceNeg, Option.map_some, l1, l2, l3, l4, f1, f2, p1, p2, M1, M2, S1, S2, rp, listF_pt, pk, ev_eqS]
end
end DL
/-! G14: what a frame's midpoints keep. -/
namespace DL
open PySem PySem.Spec L2 H
section
variable {s : Sd} {ox oy ax ay bx b_y cx cy S T : Rat} {a b c d : Nat}
theorem wide_high : wideR ox oy ax ay cx cy bx b_y - highR ox oy ax ay cx cy bx b_y = ((cx - ox) * (bx - ax) + (cy - oy) * (b_y - ay)) / 4 := by
  unfold wideR highR farR
  grind
theorem mid_cross : ((cx + bx) / 2 - (ox + ax) / 2) * ((b_y + oy) / 2 - (ay + cy) / 2) - ((cy + b_y) / 2 - (oy + ay) / 2) * ((bx + ox) / 2 - (ax + cx) / 2) = ((cx - ox) * (b_y - ay) - (cy - oy) * (bx - ax)) / 2 := by grind
theorem mid_mid (x y z w : Rat) : ((x + y) / 2 + (z + w) / 2) / 2 = ((y + z) / 2 + (w + x) / 2) / 2 := by grind
/-- the corner opposite in the parallelogram -/
theorem par_dot (h1 : (ax - ox) * (ax - ox) + (ay - oy) * (ay - oy) = S * S) (h2 : (bx - ox) * (bx - ox) + (b_y - oy) * (b_y - oy) = T * T) :
    (ax + (bx - ox) - ox) * (bx - ax) + (ay + (b_y - oy) - oy) * (b_y - ay) = T * T - S * S := by grind
theorem par_cross : (ax + (bx - ox) - ox) * (b_y - ay) - (ay + (b_y - oy) - oy) * (bx - ax) = 2 * ((ax - ox) * (b_y - oy) - (ay - oy) * (bx - ox)) := by grind
theorem par_wide (h2 : (bx - ox) * (bx - ox) + (b_y - oy) * (b_y - oy) = T * T) : wideR ox oy ax ay (ax + (bx - ox)) (ay + (b_y - oy)) bx b_y = T * T / 4 := by
  unfold wideR farR
  grind
theorem par_high (h1 : (ax - ox) * (ax - ox) + (ay - oy) * (ay - oy) = S * S) : highR ox oy ax ay (ax + (bx - ox)) (ay + (b_y - oy)) bx b_y = S * S / 4 := by
  unfold highR farR
  grind
/-- the mirrored one -/
theorem mirc_dot (L : (bx - ax) * (bx - ax) + (b_y - ay) * (b_y - ay) ≠ 0) (h1 : (ax - ox) * (ax - ox) + (ay - oy) * (ay - oy) = S * S) (h2 : (bx - ox) * (bx - ox) + (b_y - oy) * (b_y - oy) = T * T) :
    (mirX (ax + (bx - ox)) (ay + (b_y - oy)) ax ay bx b_y - ox) * (bx - ax) + (mirY (ax + (bx - ox)) (ay + (b_y - oy)) ax ay bx b_y - oy) * (b_y - ay) = T * T - S * S := by
  have md := mir_dot (px := ax + (bx - ox)) (py := ay + (b_y - oy)) L
  have pd := par_dot h1 h2
  generalize mirX (ax + (bx - ox)) (ay + (b_y - oy)) ax ay bx b_y = mx at *
  generalize mirY (ax + (bx - ox)) (ay + (b_y - oy)) ax ay bx b_y = my at *
  grind
theorem mirc_cross (L : (bx - ax) * (bx - ax) + (b_y - ay) * (b_y - ay) ≠ 0) :
    (mirX (ax + (bx - ox)) (ay + (b_y - oy)) ax ay bx b_y - ox) * (b_y - ay) - (mirY (ax + (bx - ox)) (ay + (b_y - oy)) ax ay bx b_y - oy) * (bx - ax) = 0 := by
  have e := share_eq (px := ax + (bx - ox)) (py := ay + (b_y - oy)) L
  unfold mirX mirY
  generalize shareR (ax + (bx - ox)) (ay + (b_y - oy)) ax ay bx b_y = q at *
  grind
/-- a row that is beside another one is a multiple of it -/
theorem row_of {p q u v k : Rat} (L : u * u + v * v ≠ 0) (h1 : p * v - q * u = 0) (h2 : p * u + q * v = k) : p = k / (u * u + v * v) * u ∧ q = k / (u * u + v * v) * v := by
  constructor <;> grind
theorem wide_lt (L : (bx - ax) * (bx - ax) + (b_y - ay) * (b_y - ay) ≠ 0) (D0 : (ax - ox) * (b_y - oy) - (ay - oy) * (bx - ox) ≠ 0)
    (h1 : (ax - ox) * (ax - ox) + (ay - oy) * (ay - oy) = S * S) (h2 : (bx - ox) * (bx - ox) + (b_y - oy) * (b_y - oy) = T * T)
    (c1 : (cx - ox) * (b_y - ay) - (cy - oy) * (bx - ax) = 0) (c2 : (cx - ox) * (bx - ax) + (cy - oy) * (b_y - ay) = T * T - S * S) : wideR ox oy ax ay cx cy bx b_y < T * T / 4 := by
  obtain ⟨e1, e2⟩ := row_of L c1 c2
  have key : (T * T / 4 - wideR ox oy ax ay cx cy bx b_y) * (4 * ((bx - ax) * (bx - ax) + (b_y - ay) * (b_y - ay))) = ((ax - ox) * (b_y - oy) - (ay - oy) * (bx - ox)) * ((ax - ox) * (b_y - oy) - (ay - oy) * (bx - ox)) := by
    have e3 : cx = ox + (T * T - S * S) / ((bx - ax) * (bx - ax) + (b_y - ay) * (b_y - ay)) * (bx - ax) := by grind
    have e4 : cy = oy + (T * T - S * S) / ((bx - ax) * (bx - ax) + (b_y - ay) * (b_y - ay)) * (b_y - ay) := by grind
    have hk : (T * T - S * S) / ((bx - ax) * (bx - ax) + (b_y - ay) * (b_y - ay)) * ((bx - ax) * (bx - ax) + (b_y - ay) * (b_y - ay)) = T * T - S * S := Rat.div_mul_cancel L
    clear c1 c2 e1 e2
    generalize (T * T - S * S) / ((bx - ax) * (bx - ax) + (b_y - ay) * (b_y - ay)) = m at *
    unfold wideR farR
    rw [e3, e4]
    generalize ha : ax - ox = p at *
    generalize hb : ay - oy = q at *
    generalize hc : bx - ox = u at *
    generalize hd : b_y - oy = v at *
    have i1 : ax = ox + p := by grind
    have i2 : ay = oy + q := by grind
    have i3 : bx = ox + u := by grind
    have i4 : b_y = oy + v := by grind
    rw [i1, i2, i3, i4] at *
    grind
  have sp := sq_pos D0
  have Lp : 0 < (bx - ax) * (bx - ax) + (b_y - ay) * (b_y - ay) := by
    have q1 := sq_nn (bx - ax)
    have q2 := sq_nn (b_y - ay)
    grind
  rcases (Rat.le_total : T * T / 4 ≤ wideR ox oy ax ay cx cy bx b_y ∨ wideR ox oy ax ay cx cy bx b_y ≤ T * T / 4) with h | h
  · have := Rat.mul_nonneg (show 0 ≤ wideR ox oy ax ay cx cy bx b_y - T * T / 4 by grind) (show 0 ≤ 4 * ((bx - ax) * (bx - ax) + (b_y - ay) * (b_y - ay)) by grind)
    grind
  · rcases Rat.le_iff_lt_or_eq.mp h with h3 | h3
    · exact h3
    · rw [h3] at key
      grind
theorem high_nn : 0 ≤ highR ox oy ax ay cx cy bx b_y := by
  unfold highR farR
  have q1 := sq_nn ((bx + ox) / 2 - (ax + cx) / 2)
  have q2 := sq_nn ((b_y + oy) / 2 - (ay + cy) / 2)
  grind
theorem lagrange {p q u v k : Rat} (h1 : p * v - q * u = 0) (h2 : p * u + q * v = k) : (u * u + v * v) * (p * p + q * q) = 16 * (k / 4 * (k / 4)) := by
  have : (u * u + v * v) * (p * p + q * q) = (p * u + q * v) * (p * u + q * v) + (p * v - q * u) * (p * v - q * u) := by grind
  rw [this, h1, h2]
  grind
end
end DL
/-! G15: a list a few times. -/
namespace DL
open PySem PySem.Spec L2
/-- a list times an int -/
def repF : D → D → Option D
  | .lst xs, .int k => if 0 ≤ k ∧ k ≤ 64 ∧ xs.length ≤ 64 then some (.lst (List.replicate k.toNat xs).flatten) else none
  | _, _ => none
def oRep : D → D → (D → Prop) → Prop
  | .lst xs, .int k, Q => (0 ≤ k ∧ k ≤ 64 ∧ xs.length ≤ 64) ∧ Q (.lst (List.replicate k.toNat xs).flatten)
  | _, _, _ => False
section
variable {X : Cx} {q : Dq} {k : Nat}
theorem rep_all {K : PySem.W.Frag} {H : Hp} {vs : List V} {ds : List D} (h : DtAll K q H vs ds) : ∀ k : Nat, DtAll K q H (List.replicate k vs).flatten (List.replicate k ds).flatten
  | 0 => .nil
  | k + 1 => by
    rw [List.replicate_succ, List.replicate_succ, List.flatten_cons, List.flatten_cons]
    exact h.append (rep_all h k)
theorem od_rep : OpD X q (binaryOp .Mult) oRep := ⟨_, op_rep, fun H x y dx dy Q0 Q hx hy h c => by
  cases hx with
  | @lst a vs ds ha va =>
    cases hy <;> simp only [oRep] at h
    rename_i i
    obtain ⟨⟨h1, h2, h3⟩, h4⟩ := h
    have e1 : (2 : Int) ^ 63 = 9223372036854775808 := rfl
    have l : vs.length * i.toNat ≤ sizeLine := by
      rw [va.length]
      exact Nat.le_trans (Nat.mul_le_mul h3 (by omega : i.toNat ≤ 64)) (by decide)
    refine ⟨a, i, vs, rfl, rfl, ha, by omega, by omega, l, fun p hp => ?_⟩
    have s := same_upd (o := .lst (List.replicate i.toNat vs).flatten) hp
    exact c _ _ _ (.lst upd_same ((rep_all va i.toNat).up (.of_same s))) s h4
  | int i => simp only [oRep] at h
  | str i => simp only [oRep] at h
  | tup _ _ => simp only [oRep] at h
  | non => simp only [oRep] at h
  | bl b => simp only [oRep] at h
  | dct _ _ => simp only [oRep] at h
  | drum _ => simp only [oRep] at h
  | scr _ => simp only [oRep] at h
  | ob _ _ => simp only [oRep] at h⟩
theorem opf_rep : OpF X q (binaryOp .Mult) repF := ⟨_, od_rep, fun x y z P e h => by
  cases x <;> cases y <;> simp only [repF] at e <;> try (cases e; done)
  split at e
  · cases e; exact ⟨by assumption, h⟩
  · cases e⟩
end
theorem ev_rep2 (x : D) : repF (.lst [x]) (.int 2) = some (.lst [x, x]) := rfl
end DL
/-! E1: defs that let errors out. -/
namespace DL
open PySem PySem.Spec L2
open PyProof.Rows (envOfC)
def RS.finE (r : RS) : R D := match r with
  | .nx _ s => .ok .non s
  | .rt d s => .ok d s
  | .er e s => .er e s
  | _ => .bad
theorem ev_enx {ρ : SEnv} {s : Sd} : (RS.nx ρ s).finE = .ok .non s := rfl
theorem ev_ert {x : D} {s : Sd} : (RS.rt x s).finE = .ok x s := rfl
theorem ev_eer {e : Er} {s : Sd} : (RS.er e s).finE = .er e s := rfl
/-- a def of k parameters, n names in all, that may raise -/
def fnR (k n : Nat) (b : FS) : SpF := fun ds s => if ds.length = k then (b (ds.map Slot.d ++ List.replicate (n - k) Slot.no) s).finE else .bad
section
variable {P : Program} {w : World} {K : PySem.W.Frag} {mg : Str → Option Value} {base : Heap} {k : Nat} {f : Addr} {fd : FuncData} {x qual : Str} {st : Stmt} {N ps : List Str} {b : FS} {kp kn : Nat} {m : SpF}
theorem takesX {scope : Scope} {cdv : Value} {A : Around} {outer : List PySem.Env} {s : Shared} {H : Hp} {E : XK} : Takes (cxOf (CX P w) P w K mg base N qual scope f cdv A outer s H E) (fun cls d _ H' => E cls d H') :=
  takes_of rfl rfl rfl rfl
theorem passX {scope : Scope} {cdv : Value} {A : Around} {outer : List PySem.Env} {s : Shared} {H : Hp} {E : XK} : Passes (CX P w) (cxOf (CX P w) P w K mg base N qual scope f cdv A outer s H E) E :=
  passes_call takesX fun _ _ _ _ h => h
theorem ownX {scope : Scope} {cdv : Value} {A : Around} {outer : List PySem.Env} {s : Shared} {H : Hp} {E : XK} : PassesOwn (model P w) (A.deeper (envOfC qual scope s.heap.objs.size f cdv)) (envOfC qual scope s.heap.objs.size f cdv) (cxOf (CX P w) P w K mg base N qual scope f cdv A outer s H E).xe :=
  PassesOwn.leaving
theorem fnE {T : List (Addr × Str)} (F : Fun K x qual st f fd) (S : FnScope N ps (defScope st)) (hm : m = fnR kp kn b) (hp : ps.length = kp) (hn : N.length = kn)
    (body : ∀ (q : Dq), q.T = T → ∀ (cdv : Value), fd.code = cdv → ∀ (A : Around) (outer : List PySem.Env) (s : Shared) (H : Hp) (E : XK), Room k (A.deeper (envOfC qual (defScope st) s.heap.objs.size f cdv)) → A.guards = some [] →
      FSs (cxOf (CX P w) P w K mg base N qual (defScope st) f cdv A outer s H E) q H E (defBody st) b) : FnG P w K mg base (CX P w) (k + 1) f fd ps (spD K T (spF m)) := by
  subst hm hp hn
  have ln : ∀ ds n Q F, spF (fnR ps.length N.length b) ds n Q F → ds.length = ps.length := fun ds n Q F h => by
    by_cases z : ds.length = ps.length
    · exact z
    · have h' : (fnR ps.length N.length b ds n).wp Q F := h
      unfold fnR at h'
      rw [if_neg z] at h'
      exact h'.elim
  refine fnG_of F S (fun vs H Q E h => ?_) fun cdv hcd A outer s H vs Q E hr hg h => ?_
  · obtain ⟨q, ds, n, Q0, F, _, hds, _, hs, _⟩ := h
    rw [hds.length]
    exact ln ds n Q0 F hs
  · obtain ⟨q, ds, n, Q0, F, hT, hds, dr, hs, c, o⟩ := h
    refine ⟨_, (body q hT cdv hcd A outer s H E hr hg).pss, ?_⟩
    have z := ln ds n Q0 F hs
    have h' : (fnR ps.length N.length b ds n).wp Q0 F := hs
    unfold fnR at h'
    rw [if_pos z] at h'
    refine dTS_mk (G := { nx := fun _ n' => Q0 .non n', rt := Q0, ex := F }) (start_rel hds dr) ?_ (fun σ' H' ρ' n' _ R' h' => c _ H' _ n' .non R'.fr R'.dr h') (fun v H' d n' hd _ fr dr' hq => c v H' d n' hd fr dr' hq) (fun _ _ _ _ _ _ z => z.elim) (fun _ _ _ _ _ _ z => z.elim) o
    show (b (startD N ds) n).wp _
    have e : startD N ds = ds.map Slot.d ++ List.replicate (N.length - ps.length) Slot.no := by unfold startD; rw [z]
    rw [e]
    cases e2 : b (ds.map Slot.d ++ List.replicate (N.length - ps.length) Slot.no) n <;> rw [e2] at h' <;> exact h'
end
end DL
/-! E2: an own error's __init__. -/
namespace DL
open PySem PySem.Spec L2
open PyProof.Rows (envOfC)
/-- an own class whose __init__ is ValueError's -/
structure BaseC (K : PySem.W.Frag) (B : Addr) : Prop where
  sp : PySem.W.specialIn K (.ref B) "__getattribute__" = some (some (.builtin "type.__getattribute__"))
  rd : PySem.W.readsIn K B (.type "type") = true
  at_ : PySem.W.findCls K (.ref B) (.type "type") "__init__" = some (.val (.builtin "ValueError.__init__"))
section
variable {X : Cx} {o e : Expr} {es : List Expr} {to te : TE} {ta : TA} {f x : Str} {B : Addr} {p p' p1 p2 pos : Pos}
theorem pe_cinit {pl : Sem Bool} (hg : Gl X x) (hm : X.mg x = some (.ref B)) (b : BaseC X.K B) (ha : PA X (e :: es) ta)
    (hdb : (x == ("__debug__" : Str)) = false := by decide)
    (hc : eval (.Call (.Attribute (.Name x p1) "__init__" p2) (e :: es) [] pos) X.env = (do
      let ov ← eval (.Name x p1) X.env
      standAt p2.atName
      let (f, first) ← holding [ov] (getMethod ov "__init__" pl)
      callWith pos f first (backTo pos (starEach (e :: es) X.env)) (backToKw pos (keywordEach [] X.env))) := by rfl)
    (he : starEach (e :: es) X.env = (false, eval e X.env) :: starEach es X.env := by rfl) (hpl : (backTo pos (starEach es X.env)).any (·.1) = false := by rfl) :
    PE X (.Call (.Attribute (.Name x p1) "__init__" p2) (e :: es) [] pos) (tVeI X.K ta) := by
  refine ⟨fun pins s σ H Q I h => ?_⟩
  refine PySem.W.methodCall_KW (ld_glob I hg hm ?_ hdb) hc
  refine PySem.W.method_cls I.kIn b.sp (PySem.W.cls_value I.kIn b.rd b.at_ (by decide +kernel) ?_)
  show wpAny _ _ (callWith pos (Value.builtin "ValueError.__init__") [] (backTo pos (starEach (e :: es) X.env)) []) _ _ _
  refine PyProof.Rows.callWith_method1 (thn (ha.run pos pins _ σ H _ (I.tok _) h) fun us s1 ⟨vs, H1, I1, r1, a, C, ws, ev, hl, T, ea, q⟩ => ?_) he hpl
  subst ev
  cases r1 with
  | @cons _ u0 _ ur ra rw' =>
    obtain rfl : u0 = Value.ref a := ra
    have hlen : ur.length ≤ sizeLine := by
      rw [← Paired.length rw', sizeLine_eq]
      omega
    exact oinit_ok T I1 ea hlen fun s' J => ⟨.non, H1, J, rfl, q⟩
end
end DL
/-! E3: raise of an own error. -/
namespace DL
open PySem PySem.Spec L2
open PyProof.Rows (envOfC)
/-- what C.__init__ keeps: its fields fs, the last first -/
def iniSp (K : PySem.W.Frag) (C : Addr) (fs : List Str) : Sp := fun vs H Q E => ∃ a ys, vs = .ref a :: ys ∧ ys.length = fs.length ∧ OexC K C ∧ (∀ f ∈ fs, PySem.W.findIn K (.ref C) f = some none) ∧ H a = some (exo a C none) ∧
  ∀ dx, H dx = none → dx ≠ a → Q .non (upd (upd H dx (exd dx (fs.zip ys).reverse)) a (exo a C (some dx)))
section
variable {P : Program} {w : World} {K : PySem.W.Frag} {mg : Str → Option Value} {base : Heap} {k : Nat} {f C : Addr} {fd : FuncData} {qual xn p1 p2 f1 f2 nm : Str} {st : Stmt}
theorem ini1 (F : Fun K xn qual st f fd) (S : FnScope ["self", p1] ["self", p1] (defScope st))
    (hb : ∀ (cdv : Value) (A : Around) (outer : List PySem.Env) (s : Shared) (H : Hp) (E : XK), Room k (A.deeper (envOfC qual (defScope st) s.heap.objs.size f cdv)) →
      PSs (cxOf CX0 P w K mg base ["self", p1] qual (defScope st) f cdv A outer s H E).nox (defBody st) (tSeq (tDrop (tVeI K (tCons (tVar 0) (tCons (tC (.str nm)) tNil)))) (tOst K f1 (tVar 0) (tVar 1)))) :
    FnOk P w K mg base CX0 (k + 1) f fd ["self", p1] (iniSp K C [f1]) := by
  refine F.ok S (fun vs H Q E ⟨a, ys, e, l, _⟩ => by rw [e]; simp only [List.length_cons, l, List.length_nil]) fun cdv A outer s H vs Q E hr ⟨a, ys, e, l, T, hno, ha, q⟩ => ⟨_, hb cdv A outer s H E hr, ?_⟩
  subst e
  match ys, l with
  | [y], _ =>
    refine ⟨.ref a, rfl, ?_⟩
    refine ⟨a, C, [.str nm], rfl, by simp, T, ha, ?_⟩
    refine ⟨y, rfl, .ref a, rfl, a, C, rfl, T, hno f1 (.head _), .inl ⟨ha, fun dx n ne => q dx n ne⟩⟩
theorem ini2 (F : Fun K xn qual st f fd) (S : FnScope ["self", p1, p2] ["self", p1, p2] (defScope st))
    (hb : ∀ (cdv : Value) (A : Around) (outer : List PySem.Env) (s : Shared) (H : Hp) (E : XK), Room k (A.deeper (envOfC qual (defScope st) s.heap.objs.size f cdv)) →
      PSs (cxOf CX0 P w K mg base ["self", p1, p2] qual (defScope st) f cdv A outer s H E).nox (defBody st) (tSeq (tDrop (tVeI K (tCons (tVar 0) (tCons (tC (.str nm)) tNil)))) (tSeq (tOst K f1 (tVar 0) (tVar 1)) (tOst K f2 (tVar 0) (tVar 2))))) :
    FnOk P w K mg base CX0 (k + 1) f fd ["self", p1, p2] (iniSp K C [f1, f2]) := by
  refine F.ok S (fun vs H Q E ⟨a, ys, e, l, _⟩ => by rw [e]; simp only [List.length_cons, l, List.length_nil]) fun cdv A outer s H vs Q E hr ⟨a, ys, e, l, T, hno, ha, q⟩ => ⟨_, hb cdv A outer s H E hr, ?_⟩
  subst e
  match ys, l with
  | [y, z], _ =>
    refine ⟨.ref a, rfl, ?_⟩
    refine ⟨a, C, [.str nm], rfl, by simp, T, ha, ?_⟩
    refine ⟨y, rfl, .ref a, rfl, a, C, rfl, T, hno f1 (.head _), .inl ⟨ha, fun dx n ne => ?_⟩⟩
    have ed : (upd (upd H dx (exd dx [(f1, y)])) a (exo a C (some dx))) dx = some (exd dx [(f1, y)]) := by rw [upd_ne ne]; exact upd_same
    refine ⟨z, rfl, .ref a, rfl, a, C, rfl, T, hno f2 (.tail _ (.head _)), .inr ⟨dx, _, upd_same, ed, by simp, ?_⟩⟩
    have e : upd (upd (upd H dx (exd dx [(f1, y)])) a (exo a C (some dx))) dx (exd dx ((f2, z) :: [(f1, y)])) = upd (upd H dx (exd dx ([f1, f2].zip [y, z]).reverse)) a (exo a C (some dx)) := by
      funext b
      unfold upd
      by_cases h1 : b = dx
      · subst h1
        rw [if_pos rfl, if_neg ne, if_pos rfl]
        rfl
      · rw [if_neg h1, if_neg h1, if_neg h1]
    rw [e]
    exact q dx n ne
end
theorem dtFs_append {K : PySem.W.Frag} {q : Dq} {H : Hp} : ∀ {vs ws : List (Str × V)} {ds es : List (Str × D)}, DtFs K q H vs ds → DtFs K q H ws es → DtFs K q H (vs ++ ws) (ds ++ es)
  | _, _, _, _, .nil, s => s
  | _, _, _, _, .cons h t, s => .cons h (dtFs_append t s)
theorem dtFs_zip {K : PySem.W.Frag} {q : Dq} {H : Hp} : ∀ (fs : List Str) {vs : List V} {ds : List D}, DtAll K q H vs ds → DtFs K q H (fs.zip vs).reverse (fs.zip ds).reverse
  | [], _, _, _ => .nil
  | f :: fs, _, _, .nil => .nil
  | f :: fs, _, _, .cons h t => by
    rw [List.zip_cons_cons, List.zip_cons_cons, List.reverse_cons, List.reverse_cons]
    exact dtFs_append (dtFs_zip fs t) (.cons h .nil)
theorem dr_same {K : PySem.W.Frag} {q : Dq} {n : Sd} {H H' : Hp} (s : Same H H') (d : Dr K q n H) : Dr K q n H' := d.same s
/-- an own error class, raised -/
structure ErrC (K : PySem.W.Frag) (mg : Str → Option Value) (Cn : Str) (fs : List Str) (C fI : Addr) (fd : FuncData) (ps : List Str) : Prop where
  mg : mg Cn = some (.ref C)
  cl : Cls K Cn C
  T : OexC K C
  x : XfC K C
  i : PySem.W.findIn K (.ref C) "__init__" = some (some (.ref fI))
  t : PySem.W.typeIn K (.ref fI) = some (.type "function")
  b : Binds K fd ps []
  no : ∀ f ∈ fs, PySem.W.findIn K (.ref C) f = some none
def fRaise (C : Str) (fs : List Str) (ra : FA) : FS := fun ρ s => (ra ρ s).to fun ds s' => if ds.length = fs.length ∧ fs.length ≤ 8 then .er ⟨C, (fs.zip ds).reverse⟩ s' else .bad
section
variable {X : Cx} {q : Dq} {H0 : Hp} {E : XK} {e : Expr} {es : List Expr} {fa : FA} {Cn : Str} {C fI : Addr} {k : Nat} {fd : FuncData} {ps fs : List Str} {p p' pos : Pos}
theorem fs_raise (c : ErrC X.K X.mg Cn fs C fI fd ps) (hc : X.calm = true) (tk : Takes X (fun cls d _ H' => E cls d H')) (F1 : FnOk X.prog X.w X.K X.mg X.base CX0 k fI fd ps (iniSp X.K C fs)) (hr : Room (k + 1) X.A) (hg : Gl X Cn)
    (ha : FAs X q H0 E (e :: es) fa) (hdb : (Cn == ("__debug__" : Str)) = false := by decide) (he : starEach (e :: es) X.env = (false, eval e X.env) :: starEach es X.env := by rfl) (hpl : (backTo p' (starEach es X.env)).any (·.1) = false := by rfl) :
    FSt X q H0 E (.Raise (some (.Call (.Name Cn p) (e :: es) [] p')) none pos) (fRaise Cn fs fa) := by
  refine ⟨(ps_raise hc tk (pmk_oex (dvs := []) (ds := []) c.T c.i c.t F1 hr c.b .nil pass0 hg c.mg ha.pa hdb he hpl)).imp fun D σ H ⟨ρ, n, G, R0, h, cn, cr, cb, cc, o⟩ => ?_⟩
  have h' : (fa ρ n).wp (fun ds s' => (if ds.length = fs.length ∧ fs.length ≤ 8 then RS.er ⟨Cn, (fs.zip ds).reverse⟩ s' else .bad).wp G) G.ex := R.to_wp h
  refine dTA_mk R0 h' (fun vs H1 ds n1 hds f1 R1 h1 => ?_) o
  have hl : ds.length = fs.length ∧ fs.length ≤ 8 := by
    by_cases z : ds.length = fs.length ∧ fs.length ≤ 8
    · exact z
    · rw [if_neg z] at h1; exact h1.elim
  rw [if_pos hl] at h1
  have lv : vs.length = fs.length := by rw [hds.length]; exact hl.1
  refine ⟨by rw [lv]; omega, fun a na => ?_⟩
  refine ⟨a, vs ++ [], rfl, by rw [List.append_nil]; exact lv, c.T, c.no, upd_same, fun dx ndx ne => ?_⟩
  rw [List.append_nil]
  have nd : H1 dx = none := by rw [upd_ne ne] at ndx; exact ndx
  refine ⟨rfl, dx, _, upd_same, by rw [upd_ne ne]; exact upd_same, nd, ?_⟩
  have eu : upd (del (upd (upd (upd H1 a (exo a C none)) dx (exd dx (fs.zip vs).reverse)) a (exo a C (some dx))) a) dx (.xd (fs.zip vs).reverse) = upd H1 dx (.xd (fs.zip vs).reverse) := by
    funext b
    unfold upd del
    by_cases b1 : b = dx
    · rw [if_pos b1, if_pos b1]
    · rw [if_neg b1, if_neg b1]
      by_cases b2 : b = a
      · rw [if_pos b2, b2]; exact na.symm
      · rw [if_neg b2]
        show (if b = a then _ else if b = dx then _ else if b = a then _ else H1 b) = H1 b
        rw [if_neg b2, if_neg b1, if_neg b2]
  rw [eu]
  have sm : Same H1 (upd H1 dx (.xd (fs.zip vs).reverse)) := same_upd nd
  exact o ⟨Cn, (fs.zip ds).reverse⟩ n1 (.ref C) (some dx) _ ⟨⟨C, c.cl, rfl⟩, dx, _, rfl, upd_same, dtFs_zip fs (hds.up (.of_same sm))⟩ (R1.fr.trans (.of_same sm)) (dr_same sm R1.dr) h1
end
end DL
/-! E4: try: body, except C as error: caught = error. -/
namespace DL
open PySem PySem.Spec L2
open PyProof.Rows (envOfC)
section
variable {X : Cx} {pins : List (Addr × Obj)} {σ : L2.St} {H : Hp} {s : Shared} {a : Addr} {o : Obj}
/-- a thing in the heap that nobody knew becomes known -/
theorem inv_track (I : Inv X pins σ H s) (e : s.heap.get? a = some o) (na : H a = none) (nL : a ≠ X.env.locals) (nC : ∀ x c, X.env.cells.lookup x = some c → c ≠ a) (n0 : X.s_0.heap.get? a = none) (np : ∀ p ∈ X.pn ++ pins, p.1 ≠ a) :
    Inv X pins σ (upd H a (ho1 o)) s := by
  have same : Same H (upd H a (ho1 o)) := same_upd na
  refine ⟨I.ok, I.os, I.bare, ⟨I.base.keep, I.base.slot, fun b u hb h0 hx => ?_, I.base.there, fun b xs h => same _ _ (I.base.tups b xs h), fun b u v h => same _ _ (I.base.frzs b u v h), fun b ps h => ?_⟩, I.loc, I.cell, ?_, fun x c h => ?_, fun p hp => ?_, fun b u h => ?_, I.len⟩
  · have ne : b ≠ a := fun z => by rw [z, n0] at hb; cases hb
    rw [upd_ne ne]
    exact I.base.free b u hb h0 hx
  · obtain ⟨m, h⟩ := I.base.tbls b ps h
    exact ⟨m, same _ _ h⟩
  · rw [upd_ne (Ne.symm nL)]; exact I.free
  · rw [upd_ne (nC x c h)]; exact I.freeC x c h
  · obtain ⟨h1, h2, h3⟩ := I.pin p hp
    exact ⟨h1, by rw [upd_ne (np p hp)]; exact h2, h3⟩
  · by_cases z : b = a
    · subst z
      rw [upd_same] at h
      cases h
      exact ⟨e, True.intro, ⟨o, e⟩, fun _ _ _ _ => True.intro⟩
    · rw [upd_ne z] at h
      exact (I.hok b u h).stay (fun _ _ _ g => g) (fun c g => same _ _ g) fun c xs g => same _ _ g
end
/-- no list of one's own stands in a slot -/
def noOwn (ρ : SEnv) : Bool := ρ.all fun sl => match sl with
  | .own _ => false
  | _ => true
theorem noOwn_at {ρ : SEnv} (h : noOwn ρ = true) {i : Nat} {ds : List D} : ρ[i]? ≠ some (Slot.own ds) := fun e => by
  have := (List.all_eq_true.mp h) _ (List.mem_of_getElem? e)
  cases this
section
variable {K : PySem.W.Frag} {q : Dq} {H0 H H' : Hp} {ρ ρ' : SEnv} {n n' : Sd} {σ σ' : L2.St}
theorem rel_here (R0 : Rel K q H0 ρ n σ H) (h : noOwn ρ = true) : Rel K q H ρ n σ H :=
  ⟨R0.len, R0.d, fun i ds e => absurd e (noOwn_at h), R0.apart, R0.dr, .refl _, fun a e z => dr_not R0.dr z e.symm⟩
theorem rel_lift (R0 : Rel K q H0 ρ n σ H) (R1 : Rel K q H ρ' n' σ' H') : Rel K q H0 ρ' n' σ' H' := by
  refine ⟨R1.len, R1.d, fun i ds e => ?_, R1.apart, R1.dr, R0.fr.trans R1.fr, R0.q0⟩
  obtain ⟨p, vs, e1, e2, e3, e4⟩ := R1.own i ds e
  refine ⟨p, vs, e1, e2, ?_, e4⟩
  cases z : H0 p with
  | none => rfl
  | some u =>
    have := R0.fr p u z fun w => dr_not R0.dr e3 w
    rw [e3] at this
    exact this.no.elim
end
/-- what a caught error leaves: all slots forgotten but j's -/
def caughtS (ρ : SEnv) (j : Nat) (e : Er) : SEnv := (List.replicate ρ.length Slot.no).set j (.d (.ob e.cls e.fs))
def tryK (j : Nat) (L : List Str) (ρ : SEnv) (r : RS) : RS := match r with
  | .er e s => if e.cls ∈ L then .nx (caughtS ρ j e) s else .bad
  | r => r
def fTry (j : Nat) (L : List Str) (fb : FS) : FS := fun ρ s => if noOwn ρ = true then tryK j L ρ (fb ρ s) else .bad
section
variable {X : Cx} {q : Dq} {H0 : Hp} {E : XK} {body : List Stmt} {fb : FS} {x n y : Str} {cB : Addr} {i j : Nat} {L : List Str} {np ep yp ap pos pos' : Pos}
theorem ps_tryP {Φ : L2.St → Hp → Prop} (hs : X.stack = X.env :: X.outer) (hf : X.env.frame = some X.env.locals) (hex : X.ex = []) (hN : X.N.Nodup) (hi : X.N[i]? = some n) (hln : X.env.kindOf n = some .local) (hj : X.N[j]? = some y) (hlj : Loc X.env.scope y) (hfj : X.fn y = true ∨ X.env.scope.names.lookup y = some .local)
    (hij : i ≠ j) (hc : Names X x (.ref cB)) (hL : ∀ Cn ∈ L, ∀ ca, Cls X.K Cn ca → PySem.W.exmOne X.K (.ref ca) (.ref cB) = some true) (hnd : (n == ("__debug__" : Str)) = false) (hncd : (n == ("__classdict__" : Str)) = false)
    (hsw : swapsWith (.Name n ep) (some (.Name y yp)) ap.line X.env = pure false)
    (hb : ∀ (pn : List (Addr × Obj)) (xe : Value → Shared → Prop) (E' : XK) (H0' : Hp), Takes (X.tr pn xe) (fun cls d _ H' => E' cls d H') → PassesOwn (model X.prog X.w) X.A X.env xe → PSs (X.tr pn xe) body (fun D σ H => Φ σ H ∧ dTS X.K q H0' E' (rdS fb) D σ H)) :
    PS X (.Try body [.ExceptHandler (some (.Name x np)) (some n) [.Assign [.Name y yp] (.Name n ep) ap] pos'] [] [] pos) (fun D σ H => Φ σ H ∧ dTS X.K q H0 E (rdS (fTry j L fb)) D σ H) := by
  refine ⟨fun pins s σ H D I ⟨hΦ, h⟩ => ?_⟩
  obtain ⟨ρ, n0, G, R0, h, cn, cr, cb, cc, o⟩ := h
  have ok := I.ok
  have hfr : X.A.frames = some (X.env :: X.outer) := by rw [ok.frames, hs]
  have hloc : Loc X.env.scope n := .inl hln
  have h : (fTry j L fb ρ n0).wp G := h
  unfold fTry at h
  by_cases zo : noOwn ρ = true
  · rw [if_pos zo] at h
    let G' : EndsD := { nx := G.nx, rt := G.rt, bk := G.bk, ct := G.ct, ex := fun r n' => r.cls ∈ L ∧ G.nx (caughtS ρ j r) n' }
    have hfb : (fb ρ n0).wp G' := by
      cases e : fb ρ n0 with
      | er r s' =>
        rw [e] at h
        by_cases z : r.cls ∈ L
        · have h : (if r.cls ∈ L then RS.nx (caughtS ρ j r) s' else RS.bad).wp G := h
          rw [if_pos z] at h
          exact ⟨z, h⟩
        · have h : (if r.cls ∈ L then RS.nx (caughtS ρ j r) s' else RS.bad).wp G := h
          rw [if_neg z] at h
          exact h.elim
      | nx _ _ => rw [e] at h; exact h
      | rt _ _ => rw [e] at h; exact h
      | bk _ _ => rw [e] at h; exact h
      | ct _ _ => rw [e] at h; exact h
      | bad => rw [e] at h; exact h
    have RH : Rel X.K q H ρ n0 σ H := rel_here R0 zo
    let E' : XK := fun cls d H' => ∃ r n', ErAt X.K q H' cls d r ∧ Fr q H H' ∧ Dr X.K q n' H' ∧ G'.ex r n'
    have oE : ErOk X.K q H G'.ex E' := fun r n' cls od H' a f d g => ⟨r, n', a, f, d, g⟩
    have tS : dTS X.K q H E' (rdS fb) D σ H := ⟨ρ, n0, G', RH, hfb, fun σ' H' ρ' n' f R' g => cn σ' H' ρ' n' f (rel_lift R0 R') g, fun v H' d n' hd f fr dr g => cr v H' d n' hd f (R0.fr.trans fr) dr g,
      fun σ' H' ρ' n' f R' g => cb σ' H' ρ' n' f (rel_lift R0 R') g, fun σ' H' ρ' n' f R' g => cc σ' H' ρ' n' f (rel_lift R0 R') g, oE⟩
    refine wpAny_Try_except ?_
    refine wpAny_mono ((hb (X.pn ++ pins) (fun e s₁ => wpAny (model X.prog X.w) X.A (noteFrame e X.env) (fun _ s₂ => wpAny (model X.prog X.w) X.A (setFlight e none) (fun _ s₃ =>
      wpAny (model X.prog X.w) X.A (handleBy e X.env [.ExceptHandler (some (.Name x np)) (some n) [.Assign [.Name y yp] (.Name n ep) ap] pos']) (SP X pins D) X.xe s₃) X.xe s₂) X.xe s₁) E' H (fun u s' xx => ?_) PassesOwn.looking).run [] s σ H D (I.toTry _) ⟨hΦ, tS⟩) (fun f s1 hsp => ?_) (fun e s1 he => he)
    · obtain ⟨a, B, sI, pins', σ', H', cls, d, rfl, J', nb, up, sky, na, os, ag, r, n', er, frH, drH, hmem, hq⟩ := xx
      have J : Inv X pins σ' H' sI := J'.ofTry ok
      have sky' : Sky B (X.env :: X.outer) a (Zc cls d) X.env.locals s'.heap := by rw [← hs]; exact sky
      obtain ⟨⟨ca, hca, rfl⟩, dd, fvs, rfl, hxd, hfs⟩ := er
      have hb1 := hL _ hmem ca hca
      show wpAny (model X.prog X.w) X.A (noteFrame (.ref a) X.env) _ _ _
      refine Sky.land Zc.steady hfr hf sky' fun h3 fl3 up3 => ?_
      have J3 : Inv X pins σ' H' { s' with heap := h3 } := J.landed nb fl3.1 (up.trans up3) os ag
      obtain ⟨oe3, vs3, he3, hz3, hd3⟩ := fl3.there
      have notFr : ∀ {h : Heap} {o : Obj} {vs : Array Value}, h.FunFrames B (X.env :: X.outer) → h.get? a = some o → o.data = .fields vs → a ∉ frs (X.env :: X.outer) := fun {h o vs} ff e dd hm => by
        obtain ⟨_, o', e', hnf⟩ := ff.mem hm
        rw [e] at e'; cases e'
        exact hnf _ dd
      have nfr := notFr fl3.2.2.1 he3 hd3
      have nL : a ≠ X.env.locals := fun z => nfr (List.mem_filterMap.mpr ⟨X.env, List.mem_cons_self, by rw [hf, z]⟩)
      have nF : a ∉ X.fs := fun hm => by
        obtain ⟨e, he, q⟩ := List.mem_filterMap.mp hm
        exact nfr (List.mem_filterMap.mpr ⟨e, List.mem_cons_of_mem _ he, q⟩)
      have S3 := J3.suite he3 hd3 na nL nF
      refine wpAny_handleBy_cons (codeAny_handlers_test ?_) (by intro q; cases q)
      have LT : PySem.W.Looks (model X.prog X.w) h3 (typeOf (.ref a)) (.ref ca) := fun A Q E s k q => wpAny_typeOf_ref (k _ _ he3) (by rw [hz3.1]; exact q)
      have LM := PySem.W.exm_one (M := model X.prog X.w) (J3.kIn) LT hb1
      have test : ∀ {Q : Value → Shared → Prop} {E : Value → Shared → Prop}, Q (.ref cB) { s' with heap := h3 } → wpAny (model X.prog X.w) (X.A.mark (some (.ref a))) (eval (.Name x np) X.env) Q E { s' with heap := h3 } := fun {Q E} q => by
        obtain ⟨hg, hdbg, hm | ⟨hm, hv, hnn⟩⟩ := hc
        · exact ld_glob (X := X.suite a ((a, oe3) :: (X.pn ++ pins))) S3 hg hm q hdbg
        · exact ld_blt (X := X.suite a ((a, oe3) :: (X.pn ++ pins))) S3 hg hm hv q hnn hdbg
      refine test (LM.here ?_)
      refine codeAny_handlers_suite_as ?_
      refine HandSPX.lands_againZ fl3 fun h4 fl4 up4 => ?_
      have J4 : Inv X pins σ' H' { s' with heap := h4 } := J.landed nb fl4.1 ((up.trans up3).trans up4) os ag
      obtain ⟨oe4, vs4, he4, hz4, hd4⟩ := fl4.there
      have S4 := J4.suite he4 hd4 na nL nF
      have hil : i < σ'.length := by rw [J.len]; exact (List.getElem?_eq_some_iff.mp hi).1
      have hjl : j < σ'.length := by rw [J.len]; exact (List.getElem?_eq_some_iff.mp hj).1
      refine store_ok (X := X.suite a ((a, oe4) :: (X.pn ++ pins))) (v := .ref a) S4 hN hi hloc rfl (fun s5 S5 => ?_) (.inr hln)
      have as := ps_set (X := X.suite a ((a, oe4) :: (X.pn ++ pins))) (pos := ap) (pos' := yp) hN hj hlj (pe_var (pos := ep) hi (.inl hln) hnd hncd) hsw hfj
      refine wpAny_mono ((pss_one as).run [] s5 _ H' { nx := fun σ6 H6 => σ6 = (σ'.set i (some (.ref a))).set j (some (.ref a)) ∧ H6 = H', rt := fun _ _ => False } S5 ⟨.ref a, List.getElem?_set_self hil, rfl, rfl⟩) (fun f s6 hsp => ?_) (fun _ _ z => False.elim z)
      cases f with
      | brk => obtain ⟨_, _, _, z⟩ := hsp; exact z.elim
      | cont => obtain ⟨_, _, _, z⟩ := hsp; exact z.elim
      | ret u => obtain ⟨_, _, _, _, _, z⟩ := hsp; exact z.elim
      | next =>
        obtain ⟨σ6, H6, S6, rfl, rfl⟩ := hsp
        have fin : wpAny (model X.prog X.w) X.A (do bindName X.env n .none; unbindBehindTheSuite X.env n pos') (fun _ s7 => SP X pins D .next s7) X.xe s6 := by
          refine L2.gone_ok (X := X.suite a ((a, oe4) :: (X.pn ++ pins))) S6 hN hi hln fun s7 S7 => ?_
          have hin : (a, oe4) ∈ (X.suite a ((a, oe4) :: (X.pn ++ pins))).pn ++ [] := List.mem_append_left _ List.mem_cons_self
          have ea : s7.heap.get? a = some oe4 := (S7.pin _ hin).1
          have J7 := S7.unsuite ok
          have n0s : X.s_0.heap.get? a = none := by
            cases z : X.s_0.heap.get? a with
            | none => rfl
            | some u =>
              obtain ⟨u', hu⟩ := J.base.there a u z (by rw [hex]; exact List.not_mem_nil)
              have := nb a u' hu (by rw [hs]; exact nfr)
              rw [fl3.2.1] at this
              cases this
          have np7 : ∀ p ∈ X.pn ++ pins, p.1 ≠ a := fun p hp z => by
            obtain ⟨e1, _, e3, e4, _⟩ := J.pin p hp
            have hnf : p.1 ∉ frs X.stack := by rw [hs, z]; exact nfr
            have := nb p.1 p.2 e1 hnf
            rw [z, fl3.2.1] at this
            cases this
          have nC : ∀ y c, X.env.cells.lookup y = some c → c ≠ a := fun y c e z => by
            obtain ⟨v, oc, e1, e2⟩ := J7.cell y c e
            rw [z, ea] at e1
            cases e1
            rw [hd4] at e2
            cases e2
          have K7 := inv_track J7 ea na nL nC n0s np7
          have sm : Same H6 (upd H6 a (ho1 oe4)) := same_upd na
          have W7 := K7.weak (σ' := (List.replicate ρ.length none).set j (some (.ref a))) (by rw [List.length_set, List.length_replicate, List.length_set, List.length_set, List.length_set, R0.len, I.len, J.len]) fun m v e => by
            by_cases hm : j = m
            · subst hm
              rw [List.getElem?_set_self (by rw [List.length_replicate, R0.len, I.len, ← J.len]; exact hjl)] at e
              cases e
              rw [List.getElem?_set_ne hij, List.getElem?_set_self (by rw [List.length_set]; exact hjl)]
            · rw [List.getElem?_set_ne hm] at e
              rw [List.getElem?_replicate] at e
              split at e <;> cases e
          refine ⟨_, _, W7, cn _ _ (caughtS ρ j r) n' ((frH.x R0.dr).trans (.of_same sm)) ?_ hq⟩
          have base : Rel X.K q H0 (List.replicate ρ.length Slot.no) n' (List.replicate ρ.length none) (upd H6 a (ho1 oe4)) := by
            refine ⟨by simp, fun m z e => ?_, fun m ds e => ?_, fun m m' ds es p e => ?_, dr_same sm drH, (R0.fr.trans frH).trans (.of_same sm), R0.q0⟩
            all_goals
              rw [List.getElem?_replicate] at e
              split at e <;> cases e
          refine base.set (.ob hca ⟨oe4, vs4, dd, upd_same, hz4.1, hz4.2, hd4, sm _ _ hxd⟩ ?_) (by rw [List.length_replicate, R0.len, I.len, ← J.len]; exact hjl)
          exact hfs.up (.of_same sm)
        exact fin
    · cases f with
      | next =>
        obtain ⟨σ', H', J', q⟩ := hsp
        exact wpAny_execs_nil ⟨σ', H', J'.ofTry ok, q⟩
      | brk =>
        obtain ⟨σ', H', J', q⟩ := hsp
        exact ⟨σ', H', J'.ofTry ok, q⟩
      | cont =>
        obtain ⟨σ', H', J', q⟩ := hsp
        exact ⟨σ', H', J'.ofTry ok, q⟩
      | ret u =>
        obtain ⟨v, σ', H', J', r, q⟩ := hsp
        exact ⟨v, σ', H', J'.ofTry ok, r, q⟩
  · rw [if_neg zo] at h
    exact h.elim
theorem fs_try (hs : X.stack = X.env :: X.outer) (hf : X.env.frame = some X.env.locals) (hex : X.ex = []) (hN : X.N.Nodup) (hi : X.N[i]? = some n) (hln : X.env.kindOf n = some .local) (hj : X.N[j]? = some y) (hlj : Loc X.env.scope y) (hfj : X.fn y = true ∨ X.env.scope.names.lookup y = some .local)
    (hij : i ≠ j) (hc : Names X x (.ref cB)) (hL : ∀ Cn ∈ L, ∀ ca, Cls X.K Cn ca → PySem.W.exmOne X.K (.ref ca) (.ref cB) = some true) (hnd : (n == ("__debug__" : Str)) = false) (hncd : (n == ("__classdict__" : Str)) = false)
    (hsw : swapsWith (.Name n ep) (some (.Name y yp)) ap.line X.env = pure false)
    (hb : ∀ (pn : List (Addr × Obj)) (xe : Value → Shared → Prop) (E' : XK) (H0' : Hp), Takes (X.tr pn xe) (fun cls d _ H' => E' cls d H') → PassesOwn (model X.prog X.w) X.A X.env xe → FSs (X.tr pn xe) q H0' E' body fb) :
    FSt X q H0 E (.Try body [.ExceptHandler (some (.Name x np)) (some n) [.Assign [.Name y yp] (.Name n ep) ap] pos'] [] [] pos) (fTry j L fb) :=
  ⟨(ps_tryP (Φ := fun _ _ => True) hs hf hex hN hi hln hj hlj hfj hij hc hL hnd hncd hsw (fun pn xe E' H0' tk po => (hb pn xe E' H0' tk po).pss.imp fun D σ H h => h.2)).imp fun D σ H h => ⟨True.intro, h⟩⟩
end
end DL
/-! E5: isinstance of a caught error, its fields. -/
namespace DL
open PySem PySem.Spec L2
open PyProof.Rows (envOfC)
/-- isinstance(e, c), e a caught error -/
def rIsO (K : PySem.W.Frag) : List V → Hp → VK → Prop := fun xs H Q => ∃ (a D dx : Addr) (oe : Obj) (fv : Array Value) (vs : List (Str × V)) (c : V) (cv : Value) (b : Bool), xs = [.ref a, c] ∧ H a = some (ho1 oe) ∧ oe.cls = .ref D ∧ oe.dict = some dx ∧ oe.data = .fields fv ∧ H dx = some (.xd vs) ∧
  ExcC K D ∧ (∀ u, RelV c u → u = cv) ∧ PySem.W.kitOne K (.ref D) cv = some b ∧ Q (.bl b) H
section
variable {X : Cx} {q : Dq} {H0 : Hp} {E : XK} {e : Expr} {p p1 p2 pos : Pos} {fa : FE}
theorem inst_at {pins : List (Addr × Obj)} {σ : L2.St} {H : Hp} {s : Shared} {a D dx : Addr} {oe : Obj} {fv : Array Value} {vs : List (Str × V)} (I : Inv X pins σ H s) (h1 : H a = some (ho1 oe)) (h2 : oe.cls = .ref D) (h3 : oe.dict = some dx) (h4 : oe.data = .fields fv) (h5 : H dx = some (.xd vs)) :
    ∃ (od : Obj) (mA : Str → Option Value), PySem.W.InstAt s.heap a oe D (some od) ∧ (∀ n, PySem.W.lookIn n od = some (mA n)) ∧ ∀ f, RelO (vs.lookup f) (mA f) := by
  have hx : ObjOk X.prog X.w H s.heap dx (.xd vs) := I.hok dx _ h5
  obtain ⟨mA, hns, hr⟩ := hx
  obtain ⟨od, ho, hl⟩ := lookIn_ns hns
  have ha : s.heap.get? a = some oe := (show ObjOk X.prog X.w H s.heap a (ho1 oe) from I.hok a _ h1).1
  exact ⟨od, mA, ⟨ha, h2, by unfold PySem.W.notCls; rw [h4] <;> rfl, by rw [h3]; exact ho⟩, hl, hr⟩
theorem call_isO : CallR X (.builtin "isinstance") (rIsO X.K) := by
  intro pins s σ H xs us Q I r h
  obtain ⟨a, D, dx, oe, fv, vs, c, cv, b, rfl, h1, h2, h3, h4, h5, C, hcv, e, q⟩ := h
  cases r with
  | cons rx rr =>
    cases rr with
    | cons rt rr =>
      cases rr
      cases rx
      have ec := hcv _ rt
      subst ec
      obtain ⟨od, mA, J, _⟩ := inst_at I h1 h2 h3 h4 h5
      have hcl : (PySem.W.clsIn X.K D).isSome = true := by obtain ⟨cd, hc, _⟩ := PySem.W.any_some C.hd; rw [hc]; rfl
      exact PySem.W.kia_one (PySem.W.kitx_exc hcl C.hg C.hk C.hs C.ha C.hn C.ht C.hm) I.kIn J e (fun z => nomatch z) fun tk => ⟨.bl b, H, I.kept (t' := tk) fun _ _ z => z, rfl, q⟩
/-- isinstance by a table of the classes that may come -/
def isoF (T : List (Str × Bool)) : D → Option D
  | .ob Cn _ => (T.lookup Cn).map D.bl
  | _ => none
theorem fe_isO {Tn : Str} {cT : Addr} (T : List (Str × Bool)) (hg : Gl X "isinstance") (hm : X.mg "isinstance" = none) (ha : FEx X q H0 E e fa) (hgT : Gl X Tn) (hmT : X.mg Tn = some (.ref cT))
    (hT : ∀ Cn b, T.lookup Cn = some b → ∀ ca, Cls X.K Cn ca → ExcC X.K ca ∧ PySem.W.kitOne X.K (.ref ca) (.ref cT) = some b) (hdb : (Tn == ("__debug__" : Str)) = false := by decide)
    (he : starEach [e, .Name Tn p1] X.env = (false, eval e X.env) :: starEach [.Name Tn p1] X.env := by rfl) (hpl : (backTo pos (starEach [.Name Tn p1] X.env)).any (·.1) = false := by rfl) :
    FEx X q H0 E (.Call (.Name "isinstance" p) [e, .Name Tn p1] [] pos) (fUn (isoF T) fa) := by
  have pg : PE X (.Name Tn p1) (tC (.ref cT)) := ⟨fun pins s σ H Q I h => ld_glob I hgT hmT ⟨.ref cT, H, I.tok _, rfl, h⟩ hdb⟩
  refine ⟨(pe_callB call_isO hg hm (by decide +kernel) (pa_cons ha.pe (pa_cons pg pa_nil) he) (he := he) (hpl := hpl)).imp fun σ H Q ⟨ρ, m, Q0, F, R0, h, c, o⟩ => ?_⟩
  refine dTE_mk R0 (R.bind_wp h) (fun x H1 dx n1 hx f1 R1 h1 => ?_) o
  obtain ⟨z, ez, hz⟩ := R.opt_wp h1
  cases hx with
  | @ob a Ca Cn vs ds hcl hat hfs =>
    simp only [isoF] at ez
    cases e2 : T.lookup Cn with
    | none => rw [e2] at ez; cases ez
    | some b =>
      rw [e2] at ez
      cases ez
      obtain ⟨h1, h2⟩ := hT Cn b e2 Ca hcl
      obtain ⟨oe, fv, dd, g1, g2, g3, g4, g5⟩ := hat
      exact ⟨a, Ca, dd, oe, fv, vs, .ref cT, .ref cT, b, rfl, g1, g2, g3, g4, g5, h1, fun u r => r, h2, c _ H1 _ n1 (.bl b) f1 R1 hz⟩
  | _ => simp only [isoF] at ez; cases ez
/-- e.f, e a caught error of the classes L -/
def fldF (L : List Str) (f : Str) : D → Option D
  | .ob Cn fs => if Cn ∈ L then fs.lookup f else none
  | _ => none
theorem dtFs_at {K : PySem.W.Frag} {H : Hp} {f : Str} : ∀ {vs : List (Str × V)} {ds : List (Str × D)} {d : D}, DtFs K q H vs ds → ds.lookup f = some d → ∃ v, vs.lookup f = some v ∧ Dt K q H v d
  | _, _, _, .nil, e => by cases e
  | _, _, d, @DtFs.cons _ _ _ k v vs d0 ds h t, e => by
    rw [List.lookup_cons] at e ⊢
    by_cases z : (f == k) = true
    · rw [z] at e ⊢
      cases e
      exact ⟨v, rfl, h⟩
    · rw [Bool.not_eq_true] at z
      rw [z] at e ⊢
      exact dtFs_at t e
theorem fe_fld {f : Str} (L : List Str) (ha : FEx X q H0 E e fa) (hL : ∀ Cn ∈ L, ∀ ca, Cls X.K Cn ca → XfC X.K ca ∧ PySem.W.findIn X.K (.ref ca) f = some none) (hb : attributeBase e f X.env (eval e X.env) = eval e X.env := by rfl) :
    FEx X q H0 E (.Attribute e f pos) (fUn (fldF L f) fa) := by
  have pf : PE X (.Attribute e f pos) (fun σ H Q => dTE X.K q H0 E (rd fa) σ H fun x H1 => ∃ (a C dx : Addr) (oe : Obj) (fv : Array Value) (vs : List (Str × V)) (v : V), x = .ref a ∧ H1 a = some (ho1 oe) ∧ oe.cls = .ref C ∧ oe.dict = some dx ∧ oe.data = .fields fv ∧ H1 dx = some (.xd vs) ∧
      XfC X.K C ∧ PySem.W.findIn X.K (.ref C) f = some none ∧ vs.lookup f = some v ∧ Q v H1) := by
    refine ⟨fun pins s σ H Q I h => ?_⟩
    refine attr_of hb (thn (ha.pe.run pins s σ H _ I h) fun u s1 hh => ?_)
    obtain ⟨x, H1, I1, rx, a, C, dx, oe, fv, vs, v, ex, h1, h2, h3, h4, h5, T, hno, l, q⟩ := hh
    subst ex
    obtain rfl : u = Value.ref a := rx
    obtain ⟨od, mA, J, hl, hr⟩ := inst_at I1 h1 h2 h3 h4 h5
    obtain ⟨u, hu, ru⟩ := RelO.some_of (v := v) (o := mA f) (by rw [← l]; exact hr f)
    exact HandSPX.exc_get I1.kIn J T.ga T.gg T.exC (PySem.W.findObj_own T.hdC hno rfl (by rw [hl, hu])) (handed_of ru) ⟨v, H1, I1.tok _, ru, q⟩
  refine ⟨pf.imp fun σ H Q ⟨ρ, m, Q0, F, R0, h, c, o⟩ => ?_⟩
  refine dTE_mk R0 (R.bind_wp h) (fun x H1 dx n1 hx f1 R1 h1 => ?_) o
  obtain ⟨z, ez, hz⟩ := R.opt_wp h1
  cases hx with
  | @ob a Ca Cn vs ds hcl hat hfs =>
    simp only [fldF] at ez
    by_cases m : Cn ∈ L
    · rw [if_pos m] at ez
      obtain ⟨v, ev, hv⟩ := dtFs_at hfs ez
      obtain ⟨g1, g2⟩ := hL Cn m Ca hcl
      obtain ⟨oe, fv, dd, k1, k2, k3, k4, k5⟩ := hat
      exact ⟨a, Ca, dd, oe, fv, vs, v, rfl, k1, k2, k3, k4, k5, g1, g2, ev, c _ H1 _ n1 hv f1 R1 hz⟩
    · rw [if_neg m] at ez; cases ez
  | _ => simp only [fldF] at ez; cases ez
end
end DL
/-! E6: what is asked of an own error class, in parts. -/
namespace DL
open PySem PySem.Spec L2
open PyProof.Rows (envOfC)
section
variable {K : PySem.W.Frag} {B C : Addr} {Cn : Str}
theorem cls_eq {ca : Addr} (h : Cls K Cn C) (g : Cls K Cn ca) : ca = C := by
  have h1 : PySem.W.nsIn K mainGlobals Cn = some (some (.ref C)) := h
  have h2 : PySem.W.nsIn K mainGlobals Cn = some (some (.ref ca)) := g
  rw [h1] at h2
  cases h2
  rfl
/-- the base: an own class behind ValueError, without its own __init__ -/
structure Base (K : PySem.W.Frag) (mg : Str → Option Value) (Bn : Str) (B : Addr) : Prop where
  mg : mg Bn = some (.ref B)
  b : BaseC K B
  s : PySem.W.subIn K (.ref B) (.type "BaseException") = some true
  d : PySem.W.hasDictIn K B = true
  t : PySem.W.typeIn K (.ref B) = some (.type "type")
/-- one error class of the text, over the base at B -/
structure Err (K : PySem.W.Frag) (mg : Str → Option Value) (B : Addr) (Cn : Str) (fs : List Str) (C fI : Addr) (fd : FuncData) (ps : List Str) (qn : Str) (st : Stmt) : Prop where
  e : ErrC K mg Cn fs C fI fd ps
  x : ExcC K C
  f : Fun K "__init__" qn st fI fd
  s : PySem.W.subIn K (.ref C) (.ref B) = some true
theorem Err.mk' {mg : Str → Option Value} {fs : List Str} {fI : Addr} {fd : FuncData} {ps : List Str} {qn : Str} {st : Stmt} (hm : mg Cn = some (.ref C)) (hn : PySem.W.nsIn K mainGlobals Cn = some (some (.ref C)))
    {nm q N bs bm sn sub ab col dd k0 k1 k2 k3 k5} (lo : K.lookup C = some (excClassObj nm q C N bs bm true sn sub ab col dd k0 k1 k2 k3 k5 "ValueError.__new__")) (rv : PySem.HandSPX.refsVE bm = true)
    (sa : PySem.W.findIn K (.ref C) "__setattr__" = some (some (.builtin "object.__setattr__"))) (ex : PySem.W.subIn K (.ref C) (.type "BaseException") = some true) (ty : PySem.W.typeIn K (.ref C) = some (.type "type")) (kp : PySem.W.keepIn K (.ref C) = true)
    (ga : PySem.W.findIn K (.ref C) "__getattribute__" = some (some (.builtin "BaseException.__getattribute__"))) (gg : PySem.W.findIn K (.ref C) "__getattr__" = some none) (hd : PySem.W.hasDictIn K C = true)
    (hi : PySem.W.findIn K (.ref C) "__init__" = some (some (.ref fI))) (ti : PySem.W.typeIn K (.ref fI) = some (.type "function"))
    (cc : PySem.W.findIn K (.ref C) "__class__" = some (some (.builtin "object.__class__"))) (cg : PySem.W.specialIn K (.builtin "object.__class__") "__get__" = some (some (.builtin "getset_descriptor.__get__"))) (ct : PySem.W.takesIn K (.builtin "object.__class__") = some true) (mr : PySem.W.mroIn K C (.type "object") = some true)
    (F : Fun K "__init__" qn st fI fd) (b : Binds K fd ps []) (no : ∀ f ∈ fs, PySem.W.findIn K (.ref C) f = some none) (s : PySem.W.subIn K (.ref C) (.ref B) = some true) : Err K mg B Cn fs C fI fd ps qn st :=
  ⟨⟨hm, hn, ⟨⟨_, _, _, _, _, _, _, _, _, _, _, _, _, _, _, lo, rv⟩, sa, ex, ty, kp⟩, ⟨ga, gg, ex, hd⟩, hi, ti, b, no⟩, ⟨ga, gg, ex, hd, cc, cg, ct, mr⟩, F, s⟩
variable {mg : Str → Option Value} {fs : List Str} {fI : Addr} {fd : FuncData} {ps : List Str} {qn Bn : Str} {st : Stmt}
/-- a clause 'except B' takes it -/
theorem Err.takes (e : Err K mg B Cn fs C fI fd ps qn st) (b : Base K mg Bn B) : ∀ ca, Cls K Cn ca → PySem.W.exmOne K (.ref ca) (.ref B) = some true := fun ca h => by
  rw [cls_eq e.e.cl h]
  exact PySem.W.exm_ref b.s b.d b.t e.s
theorem kit_ref {t : Value} {D : Addr} {v : Bool} (hd : PySem.W.hasDictIn K D = true) (ty : PySem.W.typeIn K (.ref D) = some (.type "type")) (h : PySem.W.subIn K t (.ref D) = some v) (hv : v = true ∨ (t == .ref D) = false) : PySem.W.kitOne K t (.ref D) = some v := by
  obtain ⟨cd, hc, _⟩ := PySem.W.any_some hd
  unfold PySem.W.kitOne
  by_cases z : (t == .ref D) = true
  · rw [if_pos z]
    rcases hv with e | e
    · rw [e]
    · rw [z] at e; cases e
  · rw [if_neg z]
    show (if ((PySem.W.clsIn K D).isSome && PySem.W.typeIn K (.ref D) == some (.type "type")) = true then PySem.W.subIn K t (.ref D) else none) = some v
    have e2 : ((PySem.W.clsIn K D).isSome && PySem.W.typeIn K (.ref D) == some (.type "type")) = true := by rw [hc, ty] <;> rfl
    rw [if_pos e2]
    exact h
theorem allL_nil {P : Addr → Prop} : ∀ Cn ∈ ([] : List Str), ∀ ca, Cls K Cn ca → P ca := fun _ h => nomatch h
theorem allL_cons {P : Addr → Prop} {a : Str} {l : List Str} (h : ∀ ca, Cls K a ca → P ca) (t : ∀ Cn ∈ l, ∀ ca, Cls K Cn ca → P ca) : ∀ Cn ∈ a :: l, ∀ ca, Cls K Cn ca → P ca := fun Cn m => by
  rcases List.mem_cons.mp m with e | e
  · subst e; exact h
  · exact t Cn e
theorem isoT_nil {c : Value} : ∀ Cn b, ([] : List (Str × Bool)).lookup Cn = some b → ∀ ca, Cls K Cn ca → ExcC K ca ∧ PySem.W.kitOne K (.ref ca) c = some b := fun _ _ h => nomatch h
theorem isoT_cons {c : Value} {a : Str} {b : Bool} {l : List (Str × Bool)} (h : ∀ ca, Cls K a ca → ExcC K ca ∧ PySem.W.kitOne K (.ref ca) c = some b)
    (t : ∀ Cn b, l.lookup Cn = some b → ∀ ca, Cls K Cn ca → ExcC K ca ∧ PySem.W.kitOne K (.ref ca) c = some b) : ∀ Cn b', ((a, b) :: l).lookup Cn = some b' → ∀ ca, Cls K Cn ca → ExcC K ca ∧ PySem.W.kitOne K (.ref ca) c = some b' := fun Cn b' e => by
  rw [List.lookup_cons] at e
  by_cases z : (Cn == a) = true
  · rw [z] at e
    cases e
    rw [beq_iff_eq.mp z]
    exact h
  · rw [Bool.not_eq_true] at z
    rw [z] at e
    exact t Cn b' e
/-- isinstance(e, D), e of class C -/
theorem Err.isa (e : Err K mg B Cn fs C fI fd ps qn st) {D : Addr} {v : Bool} (hd : PySem.W.hasDictIn K D = true) (ty : PySem.W.typeIn K (.ref D) = some (.type "type")) (h : PySem.W.subIn K (.ref C) (.ref D) = some v) (hv : v = true ∨ ((Value.ref C : Value) == .ref D) = false) :
    ∀ ca, Cls K Cn ca → ExcC K ca ∧ PySem.W.kitOne K (.ref ca) (.ref D) = some v := fun ca g => by
  rw [cls_eq e.e.cl g]
  exact ⟨e.x, kit_ref hd ty h hv⟩
theorem Err.fld (e : Err K mg B Cn fs C fI fd ps qn st) {f : Str} (h : f ∈ fs) : ∀ ca, Cls K Cn ca → XfC K ca ∧ PySem.W.findIn K (.ref ca) f = some none := fun ca g => by
  rw [cls_eq e.e.cl g]
  exact ⟨e.e.x, e.e.no f h⟩
end
/-- a def that may raise, where it does not -/
def calmM (m : SpF) : SpF := fun ds s => (m ds s).calm
theorem ev_calmM {m : SpF} {ds : List D} {s : Sd} : calmM m ds s = (m ds s).calm := rfl
theorem _root_.DL.FnG.calm {T : List (Addr × Str)} {P : Program} {w : World} {K : PySem.W.Frag} {mg : Str → Option Value} {base : Heap} {k : Nat} {f : Addr} {fd : FuncData} {ps : List Str} {m : SpF}
    (G : FnG P w K mg base (CX P w) k f fd ps (spD K T (spF m))) : FnG P w K mg base CX0 k f fd ps (spD K T (spF (calmM m))) := by
  have low : ∀ vs H Q E, spD K T (spF (calmM m)) vs H Q E → spD K T (spF m) vs H Q (fun _ _ _ => False) := fun vs H Q E ⟨q, ds, n, Q0, F, hT, h1, h2, h3, h4, _⟩ =>
    ⟨q, ds, n, Q0, fun _ _ => False, hT, h1, h2, R.calm_wp h3, h4, fun _ _ _ _ _ _ _ _ z => z.elim⟩
  refine ⟨fun vs H Q E h => G.ln vs H Q _ (low _ _ _ _ h), fun A outer s H args us vs Q E hr hg he hb hv h => codeAny_mono (G.go A outer s H args us vs Q _ hr hg he hb hv (low _ _ _ _ h)) fun r s' c => ?_⟩
  cases r with
  | ok fl => cases fl <;> exact c
  | error er =>
    obtain ⟨_, _, _, _, _, _, _, _, _, _, _, _, z⟩ := c
    exact z.elim
end DL
/-! E7: rules for simp: errors through the frames. Printed by mkE7.py. -/
namespace DL
open PySem PySem.Spec L2
def raiseA (r : R (List D)) (C : Str) (fs : List Str) : RS := r.to fun ds s' => if ds.length = fs.length ∧ fs.length ≤ 8 then .er ⟨C, (fs.zip ds).reverse⟩ s' else .bad
def tryB (b : Bool) (j : Nat) (L : List Str) (ρ : SEnv) (r : RS) : RS := if b = true then tryK j L ρ r else .bad
namespace Ev
section
variable {e : Er} {ρ ρ1 : SEnv} {s : Sd} {a b : FE} {ta tb : FB} {r ra : FA} {i j : Nat} {x y z : D} {ds es : List D} {o : D → D → Option D} {o1 : D → Option D} {u v : FS} {g : FG} {m : SpF} {p : List D → List D → List D} {f : List D → Option D} {C f1 f2 : Str} {fs L : List Str} {T : List (Str × Bool)} {fd : List (Str × D)} {bb : Bool}
theorem er_bin : binA (.er e s) b ρ o = .er e s := rfl
theorem er_binB : binB x (.er e s) o = .er e s := rfl
theorem er_un : unA (.er e s) o1 = .er e s := rfl
theorem er_and : andA (.er e s) b ρ = .er e s := rfl
theorem er_or : orA (.er e s) b ρ = .er e s := rfl
theorem er_not : notA (.er e s) = .er e s := rfl
theorem er_ifE : ifA (.er e s) a b ρ = .er e s := rfl
theorem er_val : valA (.er e s) = .er e s := rfl
theorem er_andT : andTA (.er e s) tb ρ = .er e s := rfl
theorem er_orT : orTA (.er e s) tb ρ = .er e s := rfl
theorem er_notT : notTA (.er e s) = .er e s := rfl
theorem er_consR : (consR y (.er e s : R (List D))) = .er e s := rfl
theorem er_consA : consA (.er e s) r ρ = .er e s := rfl
theorem er_tup : tupA (.er e s) = .er e s := rfl
theorem er_lst : lstA (.er e s) = .er e s := rfl
theorem er_call : callA (.er e s) m = .er e s := rfl
theorem er_callKB : callKB ds (.er e s) m p = .er e s := rfl
theorem er_callKA : callKA (.er e s) m p r ρ = .er e s := rfl
theorem er_cb : cbA (.er e s) f = .er e s := rfl
theorem er_ret : retA (.er e s) = .er e s := rfl
theorem er_drop : dropA (.er e s) ρ = .er e s := rfl
theorem er_set : setA (.er e s) i ρ = .er e s := rfl
theorem er_asg : asgA (.er e s) g ρ = .er e s := rfl
theorem er_parB : parB x (.er e s) i j ρ = .er e s := rfl
theorem er_parA : parA (.er e s) b i j ρ = .er e s := rfl
theorem er_ifS : ifS (.er e s) u v ρ = .er e s := rfl
theorem er_then : (RS.er e s).then u = .er e s := rfl
theorem er_loop : (RS.er e s).loop u = .er e s := rfl
theorem er_fin : (RS.er e s).finE = .er e s := rfl
theorem ev_enx' : (RS.nx ρ s).finE = .ok .non s := rfl
theorem ev_ert' : (RS.rt x s).finE = .ok x s := rfl
theorem ev_raise : fRaise C fs ra ρ s = raiseA (ra ρ s) C fs := rfl
theorem ev_raise1 : raiseA (.ok [x] s) C [f1] = .er ⟨C, [(f1, x)]⟩ s := if_pos (c := [x].length = [f1].length ∧ [f1].length ≤ 8) (e := RS.bad) ⟨rfl, by simp⟩
theorem ev_raise2 : raiseA (.ok [x, y] s) C [f1, f2] = .er ⟨C, [(f2, y), (f1, x)]⟩ s := if_pos (c := [x, y].length = [f1, f2].length ∧ [f1, f2].length ≤ 8) (e := RS.bad) ⟨rfl, by simp⟩
theorem ev_try : fTry j L u ρ s = tryB (noOwn ρ) j L ρ (u ρ s) := rfl
theorem ev_tryNx : tryB true j L ρ (.nx ρ1 s) = .nx ρ1 s := rfl
theorem ev_tryRt : tryB true j L ρ (.rt x s) = .rt x s := rfl
theorem ev_tryEr : tryB true j L ρ (.er e s) = if e.cls ∈ L then .nx (caughtS ρ j e) s else .bad := rfl
theorem ev_ownN : noOwn [] = true := rfl
theorem ev_ownD : noOwn (.d x :: ρ) = noOwn ρ := rfl
theorem ev_ownO : noOwn (.no :: ρ) = noOwn ρ := rfl
theorem ev_caught : caughtS ρ j e = (List.replicate ρ.length Slot.no).set j (.d (.ob e.cls e.fs)) := rfl
theorem ev_calmM : calmM m ds s = (m ds s).calm := rfl
theorem ev_iso : isoF ((f1, bb) :: T) (.ob C fd) = if C = f1 then some (.bl bb) else isoF T (.ob C fd) := by
  by_cases h : C = f1
  · subst h; simp [isoF, List.lookup_cons]
  · have e : (C == f1) = false := beq_eq_false_iff_ne.mpr h
    simp only [isoF, List.lookup_cons, e, if_neg h]
theorem ev_lk : List.lookup f1 ((f2, x) :: fd) = if f1 = f2 then some x else List.lookup f1 fd := by
  by_cases h : f1 = f2
  · subst h; simp [List.lookup_cons]
  · have e : (f1 == f2) = false := beq_eq_false_iff_ne.mpr h
    simp only [List.lookup_cons, e, if_neg h]
theorem ev_fld : fldF L f1 (.ob C fd) = if C ∈ L then fd.lookup f1 else none := rfl
end
def EE := And.intro @er_bin (And.intro @er_binB (And.intro @er_un (And.intro @er_and (And.intro @er_or (And.intro @er_not (And.intro @er_ifE (And.intro @er_val (And.intro @er_andT (And.intro @er_orT (And.intro @er_notT (And.intro @er_consR (And.intro @er_consA (And.intro @er_tup (And.intro @er_lst (And.intro @er_call (And.intro @er_callKB (And.intro @er_callKA (And.intro @er_cb (And.intro @er_ret (And.intro @er_drop (And.intro @er_set (And.intro @er_asg (And.intro @er_parB (And.intro @er_parA (And.intro @er_ifS (And.intro @er_then (And.intro @er_loop (And.intro @er_fin (And.intro @ev_enx' (And.intro @ev_ert' (And.intro @ev_raise (And.intro @ev_raise1 (And.intro @ev_raise2 (And.intro @ev_try (And.intro @ev_tryNx (And.intro @ev_tryRt (And.intro @ev_tryEr (And.intro @ev_ownN (And.intro @ev_ownD (And.intro @ev_ownO (And.intro @ev_caught (And.intro @ev_calmM (And.intro @ev_iso (And.intro @ev_lk (@ev_fld)))))))))))))))))))))))))))))))))))))))))))))
end Ev
end DL
/-! H1: owned lists: read at a place, grown, cut, counted; made by other expressions. -/
namespace DL
open PySem PySem.Spec L2
section
variable {X : Cx} {q : Dq} {H0 : Hp} {E : XK} {e a b : Expr} {fa fb fk : FE} {pos : Pos}
/-! ### reading -/
def rIxM : R2 := fun x y H Q => ∃ p vs k v, x = .ref p ∧ y = .int k ∧ H p = some (MutL p vs) ∧ atI vs k = some v ∧ Q v H
theorem ix_mut : IxR X rIxM := by
  intro value slice pins s σ H x y v u Q I rx ry ⟨p, vs, k, w, e1, e2, e3, e4, hq⟩ hs
  refine thn (ix_list value slice pins s σ (upd H p (.lst vs)) x y v u (fun w' H' => w' = w ∧ H' = upd H p (.lst vs)) (inv_show I e3) rx ry ⟨p, vs, k, w, e1, e2, SqL.of upd_same, e4, rfl, rfl⟩ hs) fun z s1 ⟨w', H1, I1, r1, e5, e6⟩ => ?_
  subst e5 e6
  have I2 := inv_hide I1 upd_same
  rw [upd_upd, upd_id e3] at I2
  exact ⟨w', H, I2, r1, hq⟩
def fOwnAt (i : Nat) (k : FE) : FE := fun ρ s => match ρ[i]? with
  | some (.own ds) => (k ρ s).bind fun z s => .opt (ixF (.lst ds) z) s
  | _ => .bad
theorem fe_ownAt (i : Nat) {x : Str} {px : Pos} (hk : FEx X q H0 E b fk) (hN : X.N[i]? = some x := by rfl) (hv : Vis X.env.scope x := by first | exact Or.inl rfl | exact Or.inr (Or.inl rfl) | exact Or.inr (Or.inr rfl)) (hd : (x == ("__debug__" : Str)) = false := by decide)
    (hcd : (x == ("__classdict__" : Str)) = false := by decide) (hs : PlainIx b := by exact fun _ _ => rfl) : FEx X q H0 E (.Subscript (.Name x px) b pos) (fOwnAt i fk) := by
  refine ⟨(pe_ix ix_mut (pe_var hN hv hd hcd) hk.pe hs).imp fun σ H Q ⟨ρ, n, Q0, F, Rr, h, c, o⟩ => ?_⟩
  have h' : (fOwnAt i fk ρ n).wp Q0 F := h
  unfold fOwnAt at h'
  split at h'
  · rename_i ds e0
    obtain ⟨p, vs, e1, e2, e3, e4, e5⟩ := Rr.ownAt e0
    refine ⟨_, e1, ?_⟩
    refine dTE_mk Rr (R.bind_wp h') (fun kv H2 kd n2 hk2 f2 R2 h2 => ?_) o
    obtain ⟨w, ew, hw⟩ := R.opt_wp h2
    cases kd <;> simp only [ixF] at ew <;> first | (cases ew; done) | skip
    rename_i z
    cases hk2
    have e8 : H2 p = some (MutL p vs) := f2 p _ e2 e5
    obtain ⟨v, ev, hv⟩ := atI_dt (e4.up (f2.x Rr.dr)) ew
    exact ⟨p, vs, z, v, rfl, rfl, e8, ev, c v H2 w n2 hv f2 R2 hw⟩
  · exact h'.elim
/-- len of an owned list -/
theorem call_lenM : CallR X (.builtin "len") (fun xs H Q => ∃ p vs, xs = [.ref p] ∧ H p = some (MutL p vs) ∧ Q (.int (vs.length : Nat)) H) := by
  intro pins s σ H xs us Q I rv ⟨p, vs, e1, e3, hq⟩
  refine thn (call_len pins s σ (upd H p (.lst vs)) xs us (fun w' H' => w' = .int (vs.length : Nat) ∧ H' = upd H p (.lst vs)) (inv_show I e3) rv ⟨_, vs.length, e1, .inl ⟨vs, SqL.of upd_same, rfl⟩, rfl, rfl⟩) fun z s1 ⟨w', H1, I1, r1, e5, e6⟩ => ?_
  subst e5 e6
  have I2 := inv_hide I1 upd_same
  rw [upd_upd, upd_id e3] at I2
  exact ⟨_, H, I2, r1, hq⟩
def fOwnLen (i : Nat) : FE := fun ρ s => match ρ[i]? with
  | some (.own ds) => .ok (.int (ds.length : Nat)) s
  | _ => .bad
theorem fe_ownLen (i : Nat) {x y : Str} {px py : Pos} (hg : Gl X y) (hm : X.mg y = none) (hbt : bootBuiltins y = some (.builtin "len")) (hN : X.N[i]? = some x := by rfl) (hv : Vis X.env.scope x := by first | exact Or.inl rfl | exact Or.inr (Or.inl rfl) | exact Or.inr (Or.inr rfl)) (hd : (x == ("__debug__" : Str)) = false := by decide)
    (hcd : (x == ("__classdict__" : Str)) = false := by decide) (hn : y ≠ "__name__" := by decide) (hdb : (y == ("__debug__" : Str)) = false := by decide)
    (he : starEach [.Name x px] X.env = (false, eval (.Name x px) X.env) :: starEach [] X.env := by rfl) (hpl : (backTo pos (starEach [] X.env)).any (·.1) = false := by rfl) : FEx X q H0 E (.Call (.Name y py) [.Name x px] [] pos) (fOwnLen i) := by
  refine ⟨(pe_callB call_lenM hg hm hbt (pa_cons (pe_var hN hv hd hcd) pa_nil he) hn hdb he hpl).imp fun σ H Q ⟨ρ, n, Q0, F, Rr, h, c, o⟩ => ?_⟩
  have h' : (fOwnLen i ρ n).wp Q0 F := h
  unfold fOwnLen at h'
  split at h'
  · rename_i ds e0
    obtain ⟨p, vs, e1, e2, e3, e4, e5⟩ := Rr.ownAt e0
    refine ⟨_, e1, p, vs, rfl, e2, ?_⟩
    rw [e4.length]
    exact c _ H _ n (.int _) (.refl _) Rr h'
  · exact h'.elim

/-! ### growing, cutting -/
theorem mut_is {pins : List (Addr × Obj)} {σ : L2.St} {H : Hp} {s : Shared} {p : Addr} {vs : List V} (I : Inv X pins σ H s) (e : H p = some (MutL p vs)) :
    s.TypeIs (.ref p) "list" ∧ ∀ a, Value.ref p = .ref a → ∃ ob, s.heap.get? a = some ob ∧ ob.dict = none :=
  tyV_is (x := .ref p) (inv_show I e) rfl (.inl ⟨rfl, vs, SqL.of upd_same⟩)
def tAppM (i : Nat) (te : TE) : TE := fun σ H Q => ∃ p vs, σ[i]? = some (some (.ref p)) ∧ H p = some (MutL p vs) ∧ te σ H fun v H1 => ∃ ws, H1 p = some (MutL p ws) ∧ ws.length < sizeLine ∧ Q .non (upd H1 p (MutL p (ws ++ [v])))
theorem pe_appM {i : Nat} {x : Str} {px apos cpos : Pos} {te : TE} (hN : X.N[i]? = some x) (hv : Vis X.env.scope x) (hd : (x == ("__debug__" : Str)) = false) (hcd : (x == ("__classdict__" : Str)) = false) (ha : PE X e te)
    (hbase : attributeBase (.Name x px) "append" X.env (eval (.Name x px) X.env) = eval (.Name x px) X.env := by rfl)
    (hfew : ((backTo cpos (starEach [e] X.env)).all (fun x => !x.1) && (backToKw cpos (keywordEach [] X.env)).all (fun x => x.1.isSome)
      && decide ([e].length + ([] : List Keyword).length + (if ([] : List Keyword).isEmpty then 0 else 1) < 30)) = true := by rfl)
    (hline : (apos.endLine == cpos.line) = true := by rfl) (hs : starEach [e] X.env = (false, eval e X.env) :: starEach [] X.env := by rfl) (hplain : (backTo cpos (starEach [] X.env)).any (·.1) = false := by rfl) :
    PE X (.Call (.Attribute (.Name x px) "append" apos) [e] [] cpos) (tAppM i te) := by
  refine ⟨fun pins s σ H Q I ⟨p, vs, e1, e2, h⟩ => ?_⟩
  refine wpAny_Call_method_late hbase hfew hline rfl (thn ((pe_var hN hv hd hcd).run pins s σ H (fun v H' => v = .ref p ∧ H' = H) I ⟨_, e1, rfl, rfl⟩) fun v s1 ⟨x, H1, I1, r1, e3, e4⟩ => ?_)
  subst e3 e4
  cases r1
  obtain ⟨h1, h2⟩ := mut_is I1 e2
  refine ⟨"list", _, PySem.F.plainAttrs_list, PySem.F.slot_list_append, PySem.F.type_list_append, h1, h2, ?_⟩
  have hA := (pa_cons ha pa_nil hs).run cpos pins s1 σ H1 (fun vs H2 => match vs with
    | [v] => ∃ ws, H2 p = some (MutL p ws) ∧ ws.length < sizeLine ∧ Q .non (upd H2 p (MutL p (ws ++ [v])))
    | _ => False) I1 h
  rw [hs] at hA ⊢
  refine Calls.callWith_builtin (by show (false || (backTo cpos (starEach [] X.env)).any (·.1)) = false; rw [hplain] <;> rfl) (Calls.evalArgs_plain ?_)
  refine thn hA fun us s2 ⟨vs, H2, I2, r2, hv⟩ => ?_
  dsimp only at hv
  split at hv
  · obtain ⟨ws, e6, e7, hq⟩ := hv
    rename_i v
    refine thn (mt_append pins s2 σ (upd H2 p (.lst ws)) (.ref p) [v] (.ref p) us (fun w' H' => w' = .non ∧ H' = upd (upd H2 p (.lst ws)) p (.lst (ws ++ [v]))) (inv_show I2 e6) rfl r2 ⟨p, ws, v, rfl, rfl, upd_same, e7, rfl, rfl⟩) fun z s3 ⟨w', H3, I3, r3, e8, e9⟩ => ?_
    subst e8 e9
    have I4 := inv_hide I3 upd_same
    rw [upd_upd, upd_upd] at I4
    exact ⟨_, _, I4, r3, hq⟩
  · exact hv.elim
def fOwnApp (i : Nat) (a : FE) : FS := fun ρ s => match ρ[i]? with
  | some (.own ds) => (a ρ s).to fun x s => if ds.length < sizeLine then .nx (ρ.set i (.own (ds ++ [x]))) s else .bad
  | _ => .bad
/-- x.append(e), x an owned list -/
theorem fs_ownApp (i : Nat) {x : Str} {px apos cpos : Pos} (he : FEx X q H0 E e fa) (hN : X.N[i]? = some x := by rfl) (hv : Vis X.env.scope x := by first | exact Or.inl rfl | exact Or.inr (Or.inl rfl) | exact Or.inr (Or.inr rfl)) (hd : (x == ("__debug__" : Str)) = false := by decide)
    (hcd : (x == ("__classdict__" : Str)) = false := by decide)
    (hbase : attributeBase (.Name x px) "append" X.env (eval (.Name x px) X.env) = eval (.Name x px) X.env := by rfl)
    (hfew : ((backTo cpos (starEach [e] X.env)).all (fun x => !x.1) && (backToKw cpos (keywordEach [] X.env)).all (fun x => x.1.isSome)
      && decide ([e].length + ([] : List Keyword).length + (if ([] : List Keyword).isEmpty then 0 else 1) < 30)) = true := by rfl)
    (hline : (apos.endLine == cpos.line) = true := by rfl) (hs : starEach [e] X.env = (false, eval e X.env) :: starEach [] X.env := by rfl) (hplain : (backTo cpos (starEach [] X.env)).any (·.1) = false := by rfl)
    (hsw : swapsWith (.Call (.Attribute (.Name x px) "append" apos) [e] [] cpos) none pos.line X.env = pure false := by rfl) :
    FSt X q H0 E (.Expr (.Call (.Attribute (.Name x px) "append" apos) [e] [] cpos) pos) (fOwnApp i fa) := by
  refine ⟨(ps_expr (pe_appM hN hv hd hcd he.pe hbase hfew hline hs hplain) hsw).imp fun D σ H ⟨ρ, n, G, Rr, h, cn, cr, cb, cc, o⟩ => ?_⟩
  have h' : (fOwnApp i fa ρ n).wp G := h
  unfold fOwnApp at h'
  split at h'
  · rename_i ds e0
    obtain ⟨p, vs, e1, e2, e3, e4, e5⟩ := Rr.ownAt e0
    refine ⟨p, vs, e1, e2, ?_⟩
    refine dTE_mk Rr (R.to_wp h') (fun v H1 d n1 hd f1 R1 h1 => ?_) o
    have fx := f1.x Rr.dr
    have e8 : H1 p = some (MutL p vs) := f1 p _ e2 e5
    have hvs := e4.up fx
    by_cases z : ds.length < sizeLine
    · rw [if_pos z] at h1
      refine ⟨vs, e8, by rw [e4.length]; exact z, ?_⟩
      exact cn σ _ _ n1 (fx.trans (frx_mut e8 _)) (R1.mut e0 e1 e8 (hvs.append (.cons hd .nil))) h1
    · rw [if_neg z] at h1; exact h1.elim
  · exact h'.elim

/-! ### made by other expressions -/
def dTN (K : PySem.W.Frag) (q : Dq) (H0 : Hp) (E : XK) (f : FE) : TE := fun σ H Q => ∃ (ρ : SEnv) (n : Sd) (Q0 : List D → Sd → Prop) (F : QE), Rel K q H0 ρ n σ H ∧ (f ρ n).wp (fun d n1 => ∃ ds, d = .lst ds ∧ Q0 ds n1) F ∧
  (∀ p vs H1 ds n1, H p = none → H1 p = some (MutL p vs) → DtAll K q H1 vs ds → Fr q H H1 → Dr K q n1 H1 → Q0 ds n1 → Q (.ref p) (upd H1 p (.lst vs))) ∧ ErOk K q H0 F E
/-- an expression that makes a list of its own -/
structure FNw (X : Cx) (q : Dq) (H0 : Hp) (E : XK) (e : Expr) (f : FE) : Prop where
  pe : PE X e (dTN X.K q H0 E f)
/-- from a heap where the list is not yet -/
theorem new_in {K : PySem.W.Frag} {H H1 : Hp} {n1 : Sd} {p : Addr} {vs : List V} {ds : List D} {Q : VK} {Q0 : List D → Sd → Prop} (c : ∀ p vs H1 ds n1, H p = none → H1 p = some (MutL p vs) → DtAll K q H1 vs ds → Fr q H H1 → Dr K q n1 H1 → Q0 ds n1 → Q (.ref p) (upd H1 p (.lst vs)))
    (f1 : Fr q H H1) (dr : Dr K q n1 H1) (hp : H1 p = none) (h : DtAll K q H1 vs ds) (hq : Q0 ds n1) : Q (.ref p) (upd H1 p (.lst vs)) := by
  have s := same_upd (o := MutL p vs) hp
  have k := c p vs (upd H1 p (MutL p vs)) ds n1 ?_ upd_same (h.up (.of_same s)) (f1.trans (.of_same s)) (dr.same s) hq
  · rwa [upd_upd] at k
  · cases e : H p with
    | none => rfl
    | some u => have := f1 p u e (dr_not dr hp); rw [hp] at this; exact this.no.elim
/-- a slot takes a list that a value has made -/
theorem Rel.takeN {K : PySem.W.Frag} {ρ : SEnv} {n n1 : Sd} {σ : L2.St} {H H1 : Hp} {i : Nat} {p : Addr} {vs : List V} {ds : List D} (Rr : Rel K q H0 ρ n σ H) (hi : i < ρ.length) (hp : H p = none) (e : H1 p = some (MutL p vs)) (h : DtAll K q H1 vs ds) (f : Fr q H H1) (dr : Dr K q n1 H1) :
    Rel K q H0 (ρ.set i (.own ds)) n1 (σ.set i (some (.ref p))) H1 := by
  have R1 := Rr.up f dr
  have hl := Rr.len
  have hq : some p ≠ qa q := dr_not Rr.dr hp
  have h0 : H0 p = none := by
    cases e : H0 p with
    | none => rfl
    | some u => have := Rr.fr p u e hq; rw [hp] at this; exact this.no.elim
  have np : ∀ (j : Nat) (xs : List D), ρ[j]? = some (Slot.own xs) → σ[j]? ≠ some (some (V.ref p)) := fun j xs e z => by
    obtain ⟨pj, vj, b1, b2, _⟩ := Rr.own j xs e
    rw [b1] at z; cases z
    rw [hp] at b2; cases b2
  refine ⟨by rw [List.length_set, List.length_set]; exact hl, fun j x e1 => ?_, fun j xs e1 => ?_, fun j k xs ys pj e1 e2 e3 e4 => ?_, dr, R1.fr, R1.q0⟩
  · by_cases hj : i = j
    · subst hj
      rw [List.getElem?_set_self (by omega)] at e1
      cases e1
    · rw [List.getElem?_set_ne hj] at e1 ⊢
      exact R1.d j x e1
  · by_cases hj : i = j
    · subst hj
      rw [List.getElem?_set_self (by omega)] at e1
      cases e1
      exact ⟨p, vs, List.getElem?_set_self (by omega), e, h0, h⟩
    · rw [List.getElem?_set_ne hj] at e1 ⊢
      exact R1.own j xs e1
  · by_cases hj : i = j
    · by_cases hk : i = k
      · omega
      · subst hj
        rw [List.getElem?_set_self (by omega)] at e3
        rw [List.getElem?_set_ne hk] at e2 e4
        cases e3
        exact absurd e4 (np k ys e2)
    · rw [List.getElem?_set_ne hj] at e1 e3
      by_cases hk : i = k
      · subst hk
        rw [List.getElem?_set_self (by omega)] at e4
        cases e4
        exact absurd e3 (np j xs e1)
      · rw [List.getElem?_set_ne hk] at e2 e4
        exact R1.apart j k xs ys pj e1 e2 e3 e4
def fSetNew (i : Nat) (a : FE) : FS := fun ρ s => (a ρ s).to fun x s => match x with
  | .lst xs => if i < ρ.length then .nx (ρ.set i (.own xs)) s else .bad
  | _ => .bad
theorem new_wp {ρ : SEnv} {n : Sd} {G : EndsD} {i : Nat} (h : (fSetNew i fa ρ n).wp G) : (fa ρ n).wp (fun d n1 => ∃ ds, d = .lst ds ∧ i < ρ.length ∧ G.nx (ρ.set i (.own ds)) n1) G.ex := by
  refine R.wp_mono (R.to_wp h) (fun x s h => ?_) fun _ _ h => h
  cases x <;> simp only at h <;> first | exact h.elim | skip
  rename_i xs
  by_cases z : i < ρ.length
  · rw [if_pos z] at h; exact ⟨xs, rfl, z, h⟩
  · rw [if_neg z] at h; exact h.elim
/-- x = e, e making a list of its own, to be changed later -/
theorem fs_setNew (i : Nat) {x : Str} {pos' : Pos} (hN : X.N.Nodup) (he : FNw X q H0 E e fa) (hi : X.N[i]? = some x := by rfl) (hx : Loc X.env.scope x := by first | exact .inl rfl | exact .inr rfl) (hs : swapsWith e (some (.Name x pos')) pos.line X.env = pure false := by rfl)
    (hf : X.fn x = true ∨ X.env.scope.names.lookup x = some .local := by first | exact .inl rfl | exact .inr rfl | assumption) : FSt X q H0 E (.Assign [.Name x pos'] e pos) (fSetNew i fa) := by
  refine ⟨(ps_hideNx (ps_set hN hi hx he.pe hs hf)).imp fun D σ H ⟨ρ, n, G, Rr, h, cn, cr, cb, cc, o⟩ => ?_⟩
  refine ⟨ρ, n, _, _, Rr, new_wp h, fun p vs H1 ds n1 hp e1 hd f1 dr ⟨hl, hq⟩ => ⟨p, vs, upd_same, ?_⟩, o⟩
  rw [upd_upd, upd_id e1]
  exact cn _ _ _ n1 (f1.x Rr.dr) (Rr.takeN hl hp e1 hd f1 dr) hq
/-- [..] * n -/
theorem fn_rep (ha : FEx X q H0 E a fa) (hb : FEx X q H0 E b fb) : FNw X q H0 E (.BinOp a .Mult b pos) (fBin repF fa fb) := by
  refine ⟨(pe_op op_rep ha.pe hb.pe).imp fun σ H Q ⟨ρ, n, Q0, F, Rr, h, c, o⟩ => ?_⟩
  refine dTE_mk Rr (R.bind_wp h) (fun x H1 dx n1 hx f1 R1 h1 => ?_) o
  refine dTE_mk R1 (R.bind_wp h1) (fun y H2 dy n2 hy f2 R2 h2 => ?_) o
  obtain ⟨w, ew, ds, e5, hw⟩ := R.opt_wp h2
  subst e5
  cases dx <;> cases dy <;> simp only [repF] at ew <;> try (cases ew; done)
  rename_i xs i
  split at ew <;> cases ew
  rename_i hc
  obtain ⟨h1, h2, h3⟩ := hc
  cases hx with
  | @lst a vs _ ha va =>
    cases hy
    have e1 : (2 : Int) ^ 63 = 9223372036854775808 := rfl
    have l : vs.length * i.toNat ≤ sizeLine := by
      rw [va.length]
      exact Nat.le_trans (Nat.mul_le_mul h3 (by omega : i.toNat ≤ 64)) (by decide)
    have fx := f2.x R1.dr
    refine ⟨a, i, vs, rfl, rfl, fx a _ ha True.intro, by omega, by omega, l, fun p hp => ?_⟩
    exact new_in c (f1.trans f2) R2.dr hp (rep_all (va.up fx) i.toNat) hw
/-- list(e) -/
theorem fn_list {y : Str} {p pos : Pos} (hg : Gl X y) (hm : X.mg y = none) (hv : bootBuiltins y = some (.type "list")) (ha : FEx X q H0 E a fa) (hn : y ≠ "__name__" := by decide) (hdb : (y == ("__debug__" : Str)) = false := by decide)
    (he : starEach [a] X.env = (false, eval a X.env) :: starEach [] X.env := by rfl) (hpl : (backTo pos (starEach [] X.env)).any (·.1) = false := by rfl) : FNw X q H0 E (.Call (.Name y p) [a] [] pos) (fCB listF (fCons fa fNil)) := by
  refine ⟨(pe_callTy call_list_of hg hm hv (pa_cons ha.pe pa_nil he) hn hdb he hpl).imp fun σ H Q ⟨ρ, n, Q0, F, Rr, h, c, o⟩ => ?_⟩
  refine dTE_mk Rr (R.bind_wp (R.bind_wp h)) (fun x H1 dx n1 hx f1 R1 h1 => ?_) o
  obtain ⟨w, ew, ds, e5, hw⟩ := R.opt_wp h1
  subst e5
  cases hx <;> simp only [listF] at ew <;> try (cases ew; done)
  · rename_i a vs ds ha va
    cases ew
    exact ⟨a, vs, rfl, .inl (SqL.of ha), fun l hl => new_in c f1 R1.dr hl va hw⟩
  · rename_i a vs ds ha va
    cases ew
    exact ⟨a, vs, rfl, .inr ha, fun l hl => new_in c f1 R1.dr hl va hw⟩
end
end DL
/-! H2: a comprehension as a list of its own. -/
namespace DL
open PySem PySem.Spec L2
section
variable {X : Cx} {q : Dq} {H0 : Hp} {E : XK} {elt tg iter : Expr} {ifs : List Expr} {scope : Scope} {own : List (Str × Nat)} {pos : Pos} {it : DTI} {g : DG} {tt : DTT} {te : DT} {ow : List Nat}
theorem lc_coreN {K : PySem.W.Frag} {σ : L2.St} {H : Hp} {Q : VK} {vs : List Nat} {ρ : SEnv} {n : Sd} {Q0 : QD} {F : QE} (how : ∀ j ∈ ow, j ∈ vs) (R : Rel K q H0 ρ n σ H) (h : dLc it g tt te vs ρ n Q0 F)
    (c : ∀ p vs H1 ds n1, H p = none → H1 p = some (MutL p vs) → DtAll K q H1 vs ds → Fr q H H1 → Dr K q n1 H1 → Q0 (.lst ds) n1 → Q (.ref p) (upd H1 p (.lst vs))) (o : ErOk K q H0 F E) :
    tLc (dTI K q H0 E it) (mkG (dTG K q H0 ow g)) (mkT (dTT K q H0 L2.E0 tt)) (mkE (dTE K q H0 L2.E0 te)) vs σ H Q := by
  refine ⟨ρ, n, _, F, R, h, fun J H1 ds n1 ok f1 R1 ⟨hz, h1⟩ => ?_, o⟩
  intro A hA
  have aq : some A ≠ qa q := fun z => dr_not R1.dr hA z
  have h0 : H0 A = none := by
    cases e : H0 A with
    | none => rfl
    | some u =>
      have := R1.fr A u e aq
      rw [hA] at this
      exact this.no.elim
  have hAH : H A = none := by
    cases e : H A with
    | none => rfl
    | some u => have := f1 A u e aq; rw [hA] at this; exact this.no.elim
  have close : ∀ (Hm : Hp) (acc : List V) (ac : List D) (n' : Sd), Hm A = some (MutL A acc) → Rel K q H0 (wipeD ρ vs) n' (wipe σ vs) Hm → FrX H1 Hm → Fr q H1 Hm → DtAll K q Hm acc ac → Q0 (.lst ac) n' → Q (.ref A) (upd Hm A (.lst acc)) := fun Hm acc ac n' eA Rm fm fqm da hq => c A acc Hm ac n' hAH eA da (f1.trans fqm) Rm.dr hq
  have Rw := R1.wipe vs
  refine ⟨fun i m H2 => m = ds.length - i ∧ i ≤ ds.length ∧ ∃ acc ac n2 Hm, H2 = upd Hm A (.lst acc) ∧ Hm A = some (MutL A acc) ∧ acc.length ≤ i ∧ Rel K q H0 (wipeD ρ vs) n2 (wipe σ vs) Hm ∧ FrX H1 Hm ∧ Fr q H1 Hm ∧ DtAll K q Hm acc ac ∧ lcD g tt te (wipeD ρ vs) Q0 (ds.drop i) ac n2,
    ⟨ds.length, by simp, Nat.zero_le _, [], [], n1, upd H1 A (MutL A []), by rw [upd_upd], upd_same, Nat.le_refl _, Rw.same (same_upd hA), .of_same (same_upd hA), .of_same (same_upd hA), .nil, h1⟩, ?_⟩
  rintro i m H2 ⟨rfl, hi, acc, ac, n2, Hm, rfl, eA, hl, Rm, fm, fqm, da, h2⟩
  have fU : FrX H1 (upd Hm A (.lst acc)) := fun b u e ne => by
    rw [upd_ne (ne_of_none e hA)]; exact fm b u e ne
  by_cases hlt : i < ds.length
  · let W : Hp → Prop := fun H3 => i + 1 ≤ ds.length ∧ ∃ acc ac n2 Hm, H3 = upd Hm A (.lst acc) ∧ Hm A = some (MutL A acc) ∧ acc.length ≤ i + 1 ∧ Rel K q H0 (wipeD ρ vs) n2 (wipe σ vs) Hm ∧ FrX H1 Hm ∧ Fr q H1 Hm ∧ DtAll K q Hm acc ac ∧ lcD g tt te (wipeD ρ vs) Q0 (ds.drop (i + 1)) ac n2
    refine .inr ⟨ok.go i _ fU hlt, W, fun H' z => ⟨ds.length - (i + 1), by omega, rfl, z⟩, fun x H3 y => ?_⟩
    obtain ⟨s3, d, e3, k3⟩ := ok.yld i _ x H3 fU hlt y
    have e4 : ds.drop i = d :: ds.drop (i + 1) := by
      rw [List.drop_eq_getElem_cons hlt]
      congr
      exact Option.some.inj ((List.getElem?_eq_getElem hlt).symm.trans e3)
    rw [e4] at h2
    have eA3 : H3 A = some (.lst acc) := s3 A _ upd_same
    have s4 : Same Hm (upd H3 A (MutL A acc)) := by
      have z : Same (upd (upd Hm A (.lst acc)) A (MutL A acc)) (upd H3 A (MutL A acc)) := same_updd s3
      rw [upd_upd, upd_id eA] at z
      exact z
    have f4 : FrX H1 (upd H3 A (MutL A acc)) := fm.trans (.of_same s4)
    have hd := k3 _ f4 fun b u hb hu => by
      have hne : b ≠ A := fun z => by subst z; rw [upd_same] at hb; cases hb
      rw [upd_ne hne]; exact hu
    refine ⟨A, acc, eA3, wipeD ρ vs, n2, d, _, Rm.same s4, hd, h2, fun σ5 H5 ρ5 n5 f5 s5 R5 l5 a5 h5 => ?_⟩
    have eA5 : H5 A = some (MutL A acc) := s5 A _ upd_same
    have f15 : FrX H1 H5 := f4.trans f5
    have fq15 : Fr q H1 H5 := (fqm.trans (.of_same s4)).trans (.of_same s5)
    have dm5 : DtAll K q H5 acc ac := da.up ((FrX.of_same s4).trans f5)
    have wz : wipe σ5 vs = wipe σ vs := by
      have e1 := wipe_agree (vs := vs) l5 a5 how
      rw [e1]
      apply List.ext_getElem?
      intro j
      by_cases hj : j ∈ vs
      · by_cases hb : j < σ.length
        · rw [wipe_in hj (by rw [wipe_length]; exact hb), wipe_in hj hb]
        · rw [List.getElem?_eq_none (by rw [wipe_length, wipe_length]; omega), List.getElem?_eq_none (by rw [wipe_length]; omega)]
      · rw [wipe_get hj]
    refine ⟨eA5, wz, A, acc, upd_same, ?_⟩
    rw [upd_upd, upd_id eA5]
    -- back to the block's beginning: what the target stored is forgotten
    have back : ∀ {n6 : Sd} {H6 : Hp}, Fr q H5 H6 → Dr K q n6 H6 → Rel K q H0 (wipeD ρ vs) n6 (wipe σ vs) H6 := fun {n6 H6} f d6 =>
      (Rm.same s4).up ((Fr.of_same s5).trans f) d6
    refine dTT_mk R5 h5 (fun b H6 n6 f6 R6 h6 => ?_) erOk_no
    have eA6 : H6 A = some (MutL A acc) := f6 A _ eA5 aq
    refine ⟨eA6, ?_⟩
    cases b with
    | true =>
      refine ⟨A, acc, upd_same, ?_⟩
      rw [upd_upd, upd_id eA6]
      refine dTE_mk R6 h6 (fun v H7 dy n7 hy f7 R7 h7 => ?_) erOk_no
      have eA7 : H7 A = some (MutL A acc) := f7 A _ eA6 aq
      have f67 : Fr q H5 H7 := f6.trans f7
      have fx57 : FrX H5 H7 := f67.x R5.dr
      have hsz : acc.length < sizeLine := by
        have h3 : acc.length ≤ i := hl
        omega
      refine ⟨eA7, acc, upd_same, hsz, ?_⟩
      rw [upd_upd]
      -- the hidden list takes the new item
      have sU : ∀ b u, H7 b = some u → b ≠ A → upd H7 A (MutL A (acc ++ [v])) b = some u := fun b u e hb => by rw [upd_ne hb]; exact e
      have fxU : FrX H7 (upd H7 A (MutL A (acc ++ [v]))) := fun b u e ne => sU b u e fun z => by subst z; rw [eA7] at e; cases e; exact ne
      have R8 := back f67 R7.dr
      have drU : Dr K q n7 (upd H7 A (MutL A (acc ++ [v]))) := dr_mut R7.dr eA7 aq _
      have hnA : ∀ p, H1 p ≠ none → p ≠ A := fun p z w => by subst w; exact z hA
      have RU : Rel K q H0 (wipeD ρ vs) n7 (wipe σ vs) (upd H7 A (MutL A (acc ++ [v]))) := by
        have fq17 : Fr q H1 H7 := fq15.trans f67
        refine Rw.up (fun b u e nq => ?_) drU
        rw [upd_ne (ne_of_none e hA)]
        exact fq17 b u e nq
      refine ⟨hlt, acc ++ [v], ac ++ [dy], n7, upd H7 A (MutL A (acc ++ [v])), by rw [upd_upd], upd_same, by simp; omega, RU, (f15.trans fx57).trans fxU, ?_, ?_, h7⟩
      · intro b u e nq
        rw [upd_ne (ne_of_none e hA)]
        exact (fq15.trans f67) b u e nq
      · exact ((dm5.up fx57).append (.cons hy .nil)).up fxU
    | false =>
      have fx56 : FrX H5 H6 := f6.x R5.dr
      exact ⟨hlt, acc, ac, n6, H6, rfl, eA6, Nat.le_succ_of_le hl, back f6 R6.dr, f15.trans fx56, fq15.trans f6, dm5.up fx56, h6⟩
  · have e : i = ds.length := by omega
    subst e
    rw [List.drop_length] at h2
    exact .inl ⟨ok.stop _ fU, close Hm acc ac n2 eA Rm fm fqm da h2⟩

end
section
variable {X : Cx} {q : Dq} {H0 : Hp} {E : XK} {elt tg iter : Expr} {ifs : List Expr} {scope : Scope} {own : List (Str × Nat)} {pos : Pos} {it : FA} {g : FG} {tt : FB} {te : FE} {ow : List Nat}
theorem lc_newF {K : PySem.W.Frag} {σ : L2.St} {H : Hp} {Q : VK} {vs : List Nat} (how : ∀ j ∈ ow, j ∈ vs) (h : dTN K q H0 E (fLcC it g tt te vs) σ H Q) :
    tLc (dTI K q H0 E (rd it)) (mkG (dTG K q H0 ow (rdG g))) (mkT (dTT K q H0 L2.E0 (rd tt))) (mkE (dTE K q H0 L2.E0 (rd te))) vs σ H Q := by
  obtain ⟨ρ, n, Q0, F, Rr, h, c, o⟩ := h
  refine lc_coreN how Rr (lc_imp0 (Q := fun d n1 => ∃ ds, d = .lst ds ∧ Q0 ds n1) h) (fun p vs H1 ds n1 hp e hd f dr ⟨es, e1, hq⟩ => ?_) o
  cases e1
  exact c p vs H1 ds n1 hp e hd f dr hq
/-- [..], not at a name's own line -/
theorem fn_lc (hc : X.calm = true) (hN : X.N.Nodup) (hi : FIt X q H0 E tg iter it) (ok : BlkOk X.N X.env.scope scope own) (how : ∀ j ∈ ow, j ∈ own.map (·.2))
    (hg : ∀ (s : Shared) (H : Hp) (C : Addr) (cl : List (Str × Addr)) (fp : List Addr), FGt (X.blk s H scope (compEnvC scope cl C X.env) fp) q H0 ow tg g)
    (ht : ∀ (s : Shared) (H : Hp) (C : Addr) (cl : List (Str × Addr)) (fp : List Addr), FPts (X.blk s H scope (compEnvC scope cl C X.env) fp) q H0 L2.E0 ifs tt)
    (he : ∀ (s : Shared) (H : Hp) (C : Addr) (cl : List (Str × Addr)) (fp : List Addr), FEx (X.blk s H scope (compEnvC scope cl C X.env) fp) q H0 L2.E0 elt te) (hs : ∀ x, foldedSetIterable iter X.env x = pure x := by intro _; rfl) :
    FNw X q H0 E (.ListComp elt [⟨tg, iter, ifs, 0⟩] scope pos) (fLcC it g tt te (own.map (·.2))) :=
  ⟨(pe_lc hc hN hi.pi ok (fun s H C cl fp => pg_mk (hg s H C cl fp).pg) (fun s H C cl fp => (ht s H C cl fp).pts) (fun s H C cl fp => pe_mk' (he s H C cl fp).pe) hs).imp fun σ H Q h => lc_newF how h⟩
/-- y = [..] in one line, the list to be changed later -/
theorem fs_setNewLc (i : Nat) {y : Str} {py spos : Pos} (hc : X.calm = true) (hN : X.N.Nodup) (hi : FIt X q H0 E tg iter it) (ok : BlkOk X.N X.env.scope scope own) (how : ∀ j ∈ ow, j ∈ own.map (·.2))
    (hg : ∀ (s : Shared) (H : Hp) (C : Addr) (cl : List (Str × Addr)) (fp : List Addr), FGt (X.blk s H scope (compEnvC scope cl C X.env) fp) q H0 ow tg g)
    (ht : ∀ (s : Shared) (H : Hp) (C : Addr) (cl : List (Str × Addr)) (fp : List Addr), FPts (X.blk s H scope (compEnvC scope cl C X.env) fp) q H0 L2.E0 ifs tt)
    (he : ∀ (s : Shared) (H : Hp) (C : Addr) (cl : List (Str × Addr)) (fp : List Addr), FEx (X.blk s H scope (compEnvC scope cl C X.env) fp) q H0 L2.E0 elt te)
    (hy : X.N[i]? = some y := by rfl) (hyl : X.env.scope.names.lookup y = some .local := by rfl) (hsw : swapsWith (.ListComp elt [⟨tg, iter, ifs, 0⟩] scope pos) (some (.Name y py)) spos.line X.env = pure true := by exact sw_true rfl rfl rfl (by decide +kernel)) (hs : ∀ x, foldedSetIterable iter X.env x = pure x := by intro _; rfl) :
    FSt X q H0 E (.Assign [.Name y py] (.ListComp elt [⟨tg, iter, ifs, 0⟩] scope pos) spos) (fSetNew i (fLcC it g tt te (own.map (·.2)))) := by
  have h0 : PS X _ (tAsg (tLc (dTI X.K q H0 E (rd it)) (mkG (dTG X.K q H0 ow (rdG g))) (mkT (dTT X.K q H0 L2.E0 (rd tt))) (mkE (dTE X.K q H0 L2.E0 (rd te))) (own.map Prod.snd)) (L2.gName i)) := ps_setLc hc hN hy hyl hsw hi.pi ok (fun s H C cl fp => pg_mk (hg s H C cl fp).pg) (fun s H C cl fp => (ht s H C cl fp).pts) (fun s H C cl fp => pe_mk' (he s H C cl fp).pe) hs
  refine ⟨(ps_hideNx h0).imp fun D σ H ⟨ρ, n, G, Rr, h, cn, cr, cb, cc, o⟩ => ?_⟩
  refine lc_newF how ⟨ρ, n, _, _, Rr, new_wp h, fun p vs H1 ds n1 hp e1 hd f1 dr ⟨hl, hq⟩ => ⟨p, vs, upd_same, ?_⟩, o⟩
  rw [upd_upd, upd_id e1]
  exact cn _ _ _ n1 (f1.x Rr.dr) (Rr.takeN hl hp e1 hd f1 dr) hq
end
/-! ### rules for simp -/
def atS (sl : Slot) (k : FE) : FE := match sl with
  | .own ds => fBin ixF (fC (.lst ds)) k
  | _ => fun _ _ => .bad
def lenS (sl : Slot) (s : Sd) : R D := match sl with
  | .own ds => .ok (.int (ds.length : Nat)) s
  | _ => .bad
def appA (ds : List D) (r : R D) (i : Nat) (ρ : SEnv) : RS := r.to fun x s => if ds.length < sizeLine then gNx (setS ρ i (.own (ds ++ [x]))) s else .bad
def appS (sl : Slot) (r : R D) (i : Nat) (ρ : SEnv) : RS := match sl with
  | .own ds => appA ds r i ρ
  | _ => .bad
def newD (d : D) (i : Nat) (ρ : SEnv) (s : Sd) : RS := match d with
  | .lst xs => gNx (setS ρ i (.own xs)) s
  | _ => .bad
def newA (r : R D) (i : Nat) (ρ : SEnv) : RS := r.to fun x s => newD x i ρ s
section
variable {ρ : SEnv} {s : Sd} {a k : FE} {i : Nat} {x : D} {ds : List D} {r : R D} {e : Er}
theorem ev_ownAt : fOwnAt i k ρ s = atS (getS ρ i) k ρ s := by
  rw [getS_eq]
  unfold fOwnAt
  cases z : ρ[i]? with
  | none => rfl
  | some u => cases u <;> rfl
theorem ev_atS : atS (.own ds) k ρ s = fBin ixF (fC (.lst ds)) k ρ s := rfl
theorem ev_ownLen : fOwnLen i ρ s = lenS (getS ρ i) s := by
  rw [getS_eq]
  unfold fOwnLen
  cases z : ρ[i]? with
  | none => rfl
  | some u => cases u <;> rfl
theorem ev_lenS : lenS (.own ds) s = .ok (.int (ds.length : Nat)) s := rfl
theorem ev_ownApp : fOwnApp i a ρ s = appS (getS ρ i) (a ρ s) i ρ := by
  rw [getS_eq]
  unfold fOwnApp
  cases z : ρ[i]? with
  | none => rfl
  | some u =>
    cases u with
    | d _ => rfl
    | no => rfl
    | own ds =>
      show _ = appA ds (a ρ s) i ρ
      unfold appA
      simp only [own_in z]
      rfl
theorem ev_appS : appS (.own ds) r i ρ = appA ds r i ρ := rfl
theorem ev_appA (h : ds.length < sizeLine) : appA ds (.ok x s) i ρ = gNx (setS ρ i (.own (ds ++ [x]))) s := by
  show (if ds.length < sizeLine then _ else _) = _
  rw [if_pos h]
theorem ev_appE : appA ds (.er e s) i ρ = .er e s := rfl
theorem ev_setNew : fSetNew i a ρ s = newA (a ρ s) i ρ := by
  unfold fSetNew newA
  congr 1
  funext x s
  cases x <;> try rfl
  simp only [newD, setS_eq]
  split <;> rfl
theorem ev_newA : newA (.ok x s) i ρ = newD x i ρ s := rfl
theorem ev_newD : newD (.lst ds) i ρ s = gNx (setS ρ i (.own ds)) s := rfl
theorem ev_newE : newA (.er e s) i ρ = .er e s := rfl
end
def EO := And.intro @ev_ownAt (And.intro @ev_atS (And.intro @ev_ownLen (And.intro @ev_lenS (And.intro @ev_ownApp (And.intro @ev_appS (And.intro @ev_appE (And.intro @ev_setNew (And.intro @ev_newA (And.intro @ev_newD @ev_newE)))))))))
end DL
/-! L1: a lambda without arguments (a default or none) handed to a def. -/
namespace DL
open PySem PySem.Spec L2
open PyProof.Rows (envOfC)
open LamX (TabB among_app)
/-- what was there stays, tables may grow -/
def ExtT (H H' : Hp) : Prop := ∀ b o, H b = some o → StO o (H' b)
theorem ExtT.refl (H : Hp) : ExtT H H := fun _ _ e => .of e
theorem ExtT.fr {q : Dq} {H H' : Hp} (e : ExtT H H') : Fr q H H' := fun b o h _ => e b o h
section
variable {X : Cx} {pins : List (Addr × Obj)} {σ : L2.St} {H : Hp} {s : Shared}
/-- the table is written, the new code object is known from now on -/
theorem inv_tab {P c : Addr} {oc : Obj} {ps more : Array Value} {h' : Heap} {t' : Nat} (I : Inv X pins σ H s) (hP : H P = some (.tbl ps)) (k : ∀ b o, b ≠ P → s.heap.get? b = some o → h'.get? b = some o)
    (hm : h'.get? P = some { cls := .none, data := .fields (ps ++ more) }) (hc : s.heap.objs.size ≤ c) (ho : h'.get? c = some oc) :
    Inv X pins σ (upd (upd H P (.tbl (ps ++ more))) c (ho1 oc)) { s with heap := h', toks := t' } := by
  have nC : H c = none := I.hok.fresh hc
  have nPc : P ≠ c := ne_of_none hP nC
  have at_ : ∀ b, b ≠ P → b ≠ c → upd (upd H P (.tbl (ps ++ more))) c (ho1 oc) b = H b := fun b h1 h2 => by rw [upd_ne h2, upd_ne h1]
  have atP : upd (upd H P (.tbl (ps ++ more))) c (ho1 oc) P = some (.tbl (ps ++ more)) := by rw [upd_ne nPc, upd_same]
  have nP : ∀ b u, H b = some u → (∀ q, u ≠ .tbl q) → b ≠ P := fun b u e q z => by
    subst z
    rw [hP] at e
    exact q ps (Option.some.inj e).symm
  have nN : ∀ b, H b = none → b ≠ P := fun b e z => by subst z; rw [hP] at e; cases e
  have lt' : ∀ b o, s.heap.get? b = some o → b ≠ c := fun b o e z => by
    subst z
    exact Nat.lt_irrefl _ (Nat.lt_of_lt_of_le (Heap.lt_size e) hc)
  have sm : ∀ b u, H b = some u → b ≠ c := fun b u e => ne_of_none e nC
  refine I.step (g' := s.gens) (d' := s.drawn) (ch := []) (fun b hb => absurd hb (by simp)) (fun b o _ _ _ e n => k b o (nN b n) e) (fun b o _ _ _ e n => ⟨o.slots, k b o (nN b n) e⟩)
    (fun b o _ e n => by rw [at_ b (nN b n) (lt' b o e)]; exact n) (fun b o _ e => ?_) (fun b xs e => by rw [at_ b (nP b _ e (fun q z => by cases z)) (sm b _ e)]; exact e) (fun b o u e => by rw [at_ b (nP b _ e (fun q z => by cases z)) (sm b _ e)]; exact e) (fun b qs e => ?_) (fun m hn => ?_) (fun b u e => ?_) I.bare
  · by_cases hb : b = P
    · subst hb; exact ⟨_, hm⟩
    · exact ⟨o, k b o hb e⟩
  · by_cases hb : b = P
    · subst hb
      rw [hP] at e
      cases e
      exact ⟨more, atP⟩
    · rw [at_ b hb (sm b _ e), e]
      exact ⟨#[], by simp⟩
  · obtain ⟨ob, es, ep, ho, r⟩ := hn
    exact ⟨ob, es, ep, k _ ob (nN _ I.free) ho, r⟩
  · by_cases hb : b = c
    · subst hb
      rw [upd_same] at e
      cases e
      exact ⟨ho, True.intro, ⟨oc, ho⟩, fun _ _ _ _ => True.intro⟩
    · by_cases hb2 : b = P
      · subst hb2
        rw [atP] at e
        cases e
        exact hm
      · rw [at_ b hb2 hb] at e
        refine (I.hok b u e).stay (fun d v hd q => k d v ?_ q) (fun d q => by rw [at_ d (nP d _ q (fun q z => by cases z)) (sm d _ q)]; exact q) fun d xs q => by rw [at_ d (nP d _ q (fun q z => by cases z)) (sm d _ q)]; exact q
        rcases hd with z | z
        · rw [z]; exact hb2
        · exact nP d _ z (fun q z => by cases z)
/-- a lambda's default: none, or 0 -/
def DfltAt (dn : Bool) (h : Heap) (H : Hp) (fr : List Addr) (dV : Value) : Prop :=
  if dn = true then ∃ (T0 : Addr) (t : Tok), dV = .ref T0 ∧ h.get? T0 = some (PySem.W.kdv_tup [.int 0 t]) ∧ H T0 = none ∧ T0 ∉ fr else dV = .none
abbrev lamObj (qual : Str) (params : Arguments) (body : Expr) (scope : Scope) (cl : List (Str × Addr)) (dV doc pm : Value) (c' : Addr) (ctv : Value) : Obj := PySem.W.kdv_obj "<lambda>" qual params (.expr body) scope cl dV doc pm c' ctv
/-- the function of a lambda is made, its defaults being there -/
theorem lam_tail {T : List (Addr × Str)} {c P : Addr} {params : Arguments} {body : Expr} {scope : Scope} {pos : Pos} {E : Value → Shared → Prop} {Q : Value → Shared → Prop} {dV : Value} (I : Inv X pins σ H s) (TB : TabB X.base X.mg c P) (hcode : X.env.code = .ref c)
    (hm : (P, X.env.qual ++ "<lambda>") ∈ T) (hu : ∀ p ∈ T, p.1 = P → p.2 = X.env.qual ++ "<lambda>") (hT : TabsF T H) (hfree : ∀ y ∈ scope.names, y.2 = .free → ∃ c, X.env.cells.lookup y.1 = some c)
    (h : ∀ (f c' : Addr) (oc : Obj) (doc pm ctv : Value) (H1 : Hp) (s' : Shared), Inv X pins σ H1 s' → ExtT H H1 → TabsF T H1 → (∀ b o, s.heap.get? b = some o → H b = none → s'.heap.get? b = some o ∧ H1 b = none) →
      s'.heap.get? f = some (lamObj (X.env.qual ++ "<lambda>") params body scope (cloFrom X.env.cells scope.names []) dV doc pm c' ctv) → H1 f = none → f ∉ frs X.stack → H1 c' = some (ho1 oc) → CodeQ oc (X.env.qual ++ "<lambda>") → Q (.ref f) s') :
    wpAny (model X.prog X.w) X.A (makeTail "<lambda>" (X.env.qual ++ "<lambda>") params (.expr body) scope X.env dV .none none pos pos.line) Q E s := by
  obtain ⟨ps, hP, ht, ha⟩ := hT _ hm
  have bP : s.heap.BuiltinsAt X.mg P := TB.bm.keeps I.bk
  have hP' : s.heap.get? P = some { cls := .none, data := .fields ps } := I.hok P _ hP
  have nofr : ∀ f, s.heap.objs.size ≤ f → f ∉ frs X.stack := fun f hf z => by
    rcases List.mem_cons.mp (I.stkSub _ z) with e | e
    · have h1 := I.lt
      rw [← e] at h1
      exact Nat.lt_irrefl _ (Nat.lt_of_lt_of_le h1 hf)
    · exact I.nofs hf e
  cases hc : codeAmong pos ps.toList with
  | none =>
    refine PySem.W.kdv_makeTail (mg := X.mg) (c := c) (P := P) (ps := ps) (closure_ok hfree) I.ok.glob (I.mod.glob.keeps I.bk) hcode (TB.code.keeps I.bk) hP' ht hc TB.gP bP fun c' ctv doc h' tk hx hge hlt hrec htb => ?_
    obtain ⟨c2, oc, vs, t, e2, hoc, hd, hv⟩ := hrec
    cases e2
    have hsz : s.heap.objs.size ≤ h'.objs.size := Nat.le_trans hge (Nat.le_of_lt hlt)
    have nC : H c' = none := I.hok.fresh hge
    have I1 := inv_tab (t' := tk) (oc := oc) (more := #[rawInt pos.line, rawInt pos.col, .ref c']) (h' := h'.push (lamObj (X.env.qual ++ "<lambda>") params body scope (cloFrom X.env.cells scope.names []) dV doc ((X.mg "__name__").getD .none) c' ctv)) I hP
      (fun b o hb e => Heap.get?_push_of_some _ (hx b o hb e)) (Heap.get?_push_of_some _ htb) hge (Heap.get?_push_of_some _ hoc)
    have atO : ∀ b, b ≠ P → b ≠ c' → upd (upd H P (.tbl (ps ++ #[rawInt pos.line, rawInt pos.col, .ref c']))) c' (ho1 oc) b = H b := fun b h1 h2 => by rw [upd_ne h2, upd_ne h1]
    have atP : upd (upd H P (.tbl (ps ++ #[rawInt pos.line, rawInt pos.col, .ref c']))) c' (ho1 oc) P = some (.tbl (ps ++ #[rawInt pos.line, rawInt pos.col, .ref c'])) := by rw [upd_ne (ne_of_none hP nC), upd_same]
    have hE : ExtT H (upd (upd H P (.tbl (ps ++ #[rawInt pos.line, rawInt pos.col, .ref c']))) c' (ho1 oc)) := fun b o e => by
      by_cases hb : b = P
      · subst hb
        rw [hP] at e
        cases e
        exact ⟨_, atP⟩
      · exact .of ((atO b hb (ne_of_none e nC)).trans e)
    have eL : (ps ++ #[rawInt pos.line, rawInt pos.col, .ref c']).toList = ps.toList ++ [rawInt pos.line, rawInt pos.col, .ref c'] := by simp
    have cq : CodeQ oc (X.env.qual ++ "<lambda>") := ⟨vs, t, hd, hv⟩
    have keepC : ∀ b ob, H b = some (ho1 ob) → upd (upd H P (.tbl (ps ++ #[rawInt pos.line, rawInt pos.col, .ref c']))) c' (ho1 oc) b = some (ho1 ob) := fun b ob e => by
      rw [atO b (fun z => by subst z; rw [hP] at e; cases e) (ne_of_none e nC)]; exact e
    refine h h'.objs.size c' oc doc ((X.mg "__name__").getD .none) ctv _ _ I1 hE (fun p hp => ?_) (fun b o e n => ?_) (Heap.get?_push_size _ rfl) ?_ (nofr _ hsz) upd_same cq
    · by_cases hb : p.1 = P
      · rw [hu p hp hb, hb]
        refine ⟨_, atP, by rw [eL]; exact PySem.TriplesOk_snoc _ _ _ _ ht, fun p' cv hcv => ?_⟩
        rw [eL] at hcv
        rcases among_app _ ht hcv with z | z
        · obtain ⟨c0, oc0, e1, e2, e3⟩ := ha p' cv z
          exact ⟨c0, oc0, e1, keepC _ _ e2, e3⟩
        · exact ⟨c', oc, z, upd_same, cq⟩
      · obtain ⟨ps', a1, a2, a3⟩ := hT p hp
        refine ⟨ps', (atO _ hb (ne_of_none a1 nC)).trans a1, a2, fun p' cv hcv => ?_⟩
        obtain ⟨c0, oc0, e1, e2, e3⟩ := a3 p' cv hcv
        exact ⟨c0, oc0, e1, keepC _ _ e2, e3⟩
    · have nb : b ≠ P := fun z => by subst z; rw [hP] at n; cases n
      have nc : b ≠ c' := fun z => by
        subst z
        exact Nat.lt_irrefl _ (Nat.lt_of_lt_of_le (Heap.lt_size e) hge)
      exact ⟨Heap.get?_push_of_some _ (hx b o nb e), (atO b nb nc).trans n⟩
    · have n1 : h'.objs.size ≠ c' := Nat.ne_of_gt hlt
      have n2 : h'.objs.size ≠ P := Nat.ne_of_gt (Nat.lt_of_lt_of_le (Heap.lt_size hP') hsz)
      exact (atO _ n2 n1).trans (I.hok.fresh hsz)
  | some cv =>
    obtain ⟨c', oc, e, hco, cq⟩ := ha pos cv hc
    subst e
    refine PySem.W.kdv_makeTailHit (mg := X.mg) (c := c) (P := P) (ps := ps) (closure_ok hfree) I.ok.glob (I.mod.glob.keeps I.bk) hcode (TB.code.keeps I.bk) hP' ht hc bP fun ctv doc h' tk hx hsz => ?_
    have I1 : Inv X pins σ H { s with heap := h'.push (lamObj (X.env.qual ++ "<lambda>") params body scope (cloFrom X.env.cells scope.names []) dV doc ((X.mg "__name__").getD .none) c' ctv), toks := tk } := I.kept fun b o e => Heap.get?_push_of_some _ (hx b o e)
    exact h h'.objs.size c' oc doc ((X.mg "__name__").getD .none) ctv H _ I1 (ExtT.refl H) hT (fun b o e n => ⟨Heap.get?_push_of_some _ (hx b o e), n⟩) (Heap.get?_push_size _ rfl) (I.hok.fresh hsz) (nofr _ hsz) hco cq
/-- the lambda is made -/
theorem lam_make {T : List (Addr × Str)} {dn : Bool} {c P : Addr} {params : Arguments} {body : Expr} {scope : Scope} {pos : Pos} {Q : Value → Shared → Prop} (I : Inv X pins σ H s) (TB : TabB X.base X.mg c P) (hcode : X.env.code = .ref c)
    (hm : (P, X.env.qual ++ "<lambda>") ∈ T) (hu : ∀ p ∈ T, p.1 = P → p.2 = X.env.qual ++ "<lambda>") (hT : TabsF T H) (hk0 : params.kw_defaults = []) (hd : if dn = true then ∃ j p, params.defaults = [.Constant (.int 0) j p] else params.defaults = []) (hfree : ∀ y ∈ scope.names, y.2 = .free → ∃ c, X.env.cells.lookup y.1 = some c)
    (h : ∀ (f c' : Addr) (oc : Obj) (dV doc pm ctv : Value) (H1 : Hp) (s' : Shared), Inv X pins σ H1 s' → ExtT H H1 → TabsF T H1 → DfltAt dn s'.heap H1 (frs X.stack) dV →
      s'.heap.get? f = some (lamObj (X.env.qual ++ "<lambda>") params body scope (cloFrom X.env.cells scope.names []) dV doc pm c' ctv) → H1 f = none → f ∉ frs X.stack → H1 c' = some (ho1 oc) → CodeQ oc (X.env.qual ++ "<lambda>") → Q (.ref f) s') :
    wpAny (model X.prog X.w) X.A (eval (.Lambda params body scope pos) X.env) Q X.xe s := by
  cases dn with
  | false =>
    have hd : params.defaults = [] := hd
    have e0 : defaultsOf params X.env = ([], []) := by
      rw [defaultsOf_eq, hd, hk0]; rfl
    refine PySem.W.kla_eval e0 ?_
    rw [makeFunction_eq]
    simp only [List.zip_nil_right, List.filterMap_nil, List.isEmpty_nil, if_true, pure_bind]
    exact lam_tail I TB hcode hm hu hT hfree fun f c' oc doc pm ctv H1 s' I1 eN T1 _ hf hfn hfr hco cq => h f c' oc .none doc pm ctv H1 s' I1 eN T1 rfl hf hfn hfr hco cq
  | true =>
    obtain ⟨j, p, hd⟩ : ∃ j p, params.defaults = [.Constant (.int 0) j p] := hd
    refine PySem.W.kdv_lam (by rw [hd]; rfl) hk0 ?_
    rw [hd]
    refine PySem.W.kdv_all1 (wpAny_mono ((pe_int (X := X) (i := 0) (j := j) (pos := p)).run pins s σ H (fun v H' => v = .int 0 ∧ H' = H) I ⟨rfl, rfl⟩) (fun v s1 ⟨v', H', I1, r1, e1, e2⟩ => ?_) fun e s' x => ?_)
    · subst e1 e2
      obtain ⟨t, rfl⟩ := r1
      refine PySem.W.kdv_all0 ?_
      rw [makeFunction_eq]
      simp only [List.zip_nil_right, List.filterMap_nil, List.isEmpty_nil, List.isEmpty_cons, Bool.false_eq_true, if_false, if_true, pure_bind]
      refine wpAny_bind (wpAny_newTextTuple ?_)
      have I2 : Inv X pins σ H' { s1 with heap := s1.heap.push (PySem.W.kdv_tup [.int 0 t]) } := I1.kept (t' := s1.toks) fun b o e => Heap.get?_push_of_some _ e
      have nT : H' s1.heap.objs.size = none := I1.hok.fresh (Nat.le_refl _)
      have nofr : s1.heap.objs.size ∉ frs X.stack := fun z => by
        rcases List.mem_cons.mp (I1.stkSub _ z) with e | e
        · have h1 := I1.lt
          rw [← e] at h1
          exact Nat.lt_irrefl _ h1
        · exact I1.nofs (Nat.le_refl _) e
      exact lam_tail I2 TB hcode hm hu hT hfree fun f c' oc doc pm ctv H1 s' I3 eN T1 kp hf hfn hfr hco cq => h f c' oc (.ref s1.heap.objs.size) doc pm ctv H1 s' I3 eN T1 ⟨_, t, rfl, (kp _ _ (Heap.get?_push_size _ rfl) nT).1, (kp _ _ (Heap.get?_push_size _ rfl) nT).2, nofr⟩ hf hfn hfr hco cq
    · exact x
end
end DL
/-! L2: the call of a lambda in the def that got it. -/
namespace DL
open PySem PySem.Spec L2
open PyProof.Rows (envOfC)
open LamX (TabB lamEnv)
/-- a lambda's names: captured ones, globals, and locals that are no names of the maker -/
structure LamN (N : List Str) (sc scope : Scope) : Prop where
  kind : scope.kind = .function
  co : scope.isCoroutine = false
  gen : scope.isGenerator = false
  cel : ∀ y ∈ scope.names, y.2 ≠ .cell
  loc : ∀ y ∈ scope.names, y.2 = .local → y.1 ∉ N
  free : ∀ y ∈ scope.names, y.2 = .free → sc.names.lookup y.1 = some .cell ∨ sc.names.lookup y.1 = some .free
def lamNB (N : List Str) (sc scope : Scope) : Bool :=
  decide (scope.kind = .function) && !scope.isCoroutine && !scope.isGenerator && scope.names.all fun y => !decide (y.2 = .cell) && (!decide (y.2 = .local) || !decide (y.1 ∈ N)) && (!decide (y.2 = .free) || decide (sc.names.lookup y.1 = some .cell) || decide (sc.names.lookup y.1 = some .free))
theorem lamN_by {N : List Str} {sc scope : Scope} (h : lamNB N sc scope = true) : LamN N sc scope := by
  unfold lamNB at h
  simp only [Bool.and_eq_true, Bool.or_eq_true, Bool.not_eq_true', decide_eq_true_eq, decide_eq_false_iff_not, List.all_eq_true] at h
  obtain ⟨⟨⟨h1, h2⟩, h3⟩, h4⟩ := h
  refine ⟨h1, h2, h3, fun y hy => (h4 y hy).1.1, fun y hy e => ?_, fun y hy e => ?_⟩
  · rcases (h4 y hy).1.2 with z | z
    · exact absurd e z
    · exact z
  · rcases (h4 y hy).2 with (z | z) | z
    · exact absurd e z
    · exact .inl z
    · exact .inr z
theorem LamN.has {X : Cx} {scope : Scope} (L : LamN X.N X.env.scope scope) (ok : X.Ok) : ∀ y ∈ scope.names, y.2 = .free → ∃ c, X.env.cells.lookup y.1 = some c := fun y hy e => by
  rcases L.free y hy e with k | k
  · exact ok.has _ (.inl k)
  · exact ok.has _ (.inr k)
section
variable {X : Cx} {pins : List (Addr × Obj)} {σ : L2.St} {H HZ : Hp} {s s1 : Shared}
theorem lam_start {A : Around} {outer : List Env} {E : XK} {scope : Scope} {f c' : Addr} {h1 : Heap} {tk : Nat} {bs : List (Str × Value)} (I : Inv X pins σ H s) (L : LamN X.N X.env.scope scope) (e0 : Env0 X.prog X.w X.K X.mg X.base A outer s1 HZ) (hd : A.handled = none)
    (un : Un (frs X.stack) [] H HZ s.heap s1.heap) (hns : h1.Ns s1.heap.objs.size fun y => bs.reverse.lookup y) (kp : ∀ b o, s1.heap.get? b = some o → h1.get? b = some o) :
    Inv (LamX.lamCx X A outer s1 HZ E scope f c') [] σ HZ { s1 with heap := h1, toks := tk } := by
  have hfree := L.has I.ok
  have cm : ∀ {y c}, (cloFrom X.env.cells scope.names []).lookup y = some c → X.env.cells.lookup y = some c := fun {y c} e => by
    rcases cloFrom_mem (PySem.mem_of_lookup e) with hm | ⟨h1, h2⟩
    · cases hm
    · obtain ⟨c1, hc⟩ := hfree _ h1 rfl
      have hc : X.env.cells.lookup y = some c1 := hc
      have e2 : c = c1 := by
        rw [h2, hc] <;> rfl
      rw [e2]
      exact hc
  have look : ∀ {y}, scope.names.lookup y = some .free → ∃ c, (cloFrom X.env.cells scope.names []).lookup y = some c := fun {y} hl => by
    have hy : (y, NameKind.free) ∈ scope.names := PySem.mem_of_lookup hl
    exact mem_lookup (cloFrom_has (cells := X.env.cells) (acc := []) hy)
  have cellK : ∀ {c : Addr} {v : Option Value}, H c = none → s.heap.IsCell c v → h1.IsCell c v := fun {c v} n ⟨o, ho, hd⟩ => by
    obtain ⟨sl, q⟩ := un.any ho n (by simp)
    exact ⟨_, kp _ _ q, hd⟩
  have noA : ∀ b : Addr, b ∉ (LamX.lamCx X A outer s1 HZ E scope f c').ex := fun b z => absurd (show b ∈ ([] : List Addr) from z) (by simp)
  refine ⟨⟨e0.mod, L.kind, rfl, rfl, Nat.le_refl _, fun y z c e1 e2 => I.ok.inj y z c (cm e1) (cm e2), fun y hy => ?_, fun y c z _ => ?_, fun _ => hd, Around.frames_deeper e0.frames, .inr ⟨rfl, rfl⟩, fun b z => absurd z (noA b), e0.bs, e0.bsz, fun b _ _ => noA b,
      fun b z => absurd z (noA b), e0.funs, e0.frf⟩,
    rfl, e0.bare, Un.kept kp, ⟨_, hns, fun i y v e1 e2 e3 => ?_⟩, fun y c e => ?_, e0.hok.fresh (Nat.le_refl _), fun y c e => ?_, fun q hq => absurd (show q ∈ ([] : List (Addr × Obj)) ++ [] from hq) (by simp), e0.hok.kept kp, I.len⟩
  · have hy : scope.names.lookup y = some .cell ∨ scope.names.lookup y = some .free := hy
    rcases hy with hy | hy
    · exact absurd rfl (L.cel _ (PySem.mem_of_lookup hy))
    · exact look hy
  · have z : false = true := z
    cases z
  · have e3 : Vis scope y := e3
    rcases e3 with k | k | k
    · have e1 : X.N[i]? = some y := e1
      exact absurd (List.mem_of_getElem? e1) (L.loc _ (PySem.mem_of_lookup k) rfl)
    · exact absurd rfl (L.cel _ (PySem.mem_of_lookup k))
    · obtain ⟨m, hn, hl⟩ := I.loc
      have hvis : Vis X.env.scope y := (L.free _ (PySem.mem_of_lookup k) rfl).elim (fun k => .inr (.inl k)) (fun k => .inr (.inr k))
      obtain ⟨w', r, q⟩ := hl i y v e1 e2 hvis
      obtain ⟨c2, h2⟩ := look k
      refine ⟨w', r, .inr ⟨.inr k, c2, h2, ?_⟩⟩
      have c1 := cm h2
      rcases q with ⟨k', _⟩ | ⟨_, c3, e', z⟩
      · have k' : X.env.scope.names.lookup y = some .local := k'
        rcases L.free _ (PySem.mem_of_lookup k) rfl with k2 | k2 <;> rw [show X.env.scope.names.lookup y = _ from k2] at k' <;> cases k'
      · rw [c1] at e'
        cases e'
        exact cellK (I.freeC y _ c1) z
  · obtain ⟨w', z⟩ := I.cell y c (cm e)
    exact ⟨w', cellK (I.freeC y c (cm e)) z⟩
  · obtain ⟨v, o, ho, hd⟩ := I.cell y c (cm e)
    exact un.free c o ho (I.freeC y c (cm e)) (by simp)
/-- how the call without arguments binds -/
def BindL (dn : Bool) (params : Arguments) (body : Expr) (scope : Scope) : Prop :=
  ∀ (q : Str) (cl : List (Str × Addr)) (dV doc pm cv ctv : Value) (s : Shared), (if dn = true then ∃ (T0 : Addr) (t : Tok), dV = .ref T0 ∧ s.heap.get? T0 = some (PySem.W.kdv_tup [.int 0 t]) else dV = .none) →
    ∃ bs, BindsTo s (PySem.W.kdv_fn "<lambda>" q params (.expr body) scope cl dV doc pm cv ctv) ⟨[], []⟩ bs ∧ ∀ y ∈ bs, scope.names.lookup y.1 = some .local
theorem bindL0 {params : Arguments} {body : Expr} {scope : Scope} (h : ∀ (q : Str) (cl : List (Str × Addr)) (doc pm cv ctv : Value), bindArgs (PySem.W.kdv_fn "<lambda>" q params (.expr body) scope cl .none doc pm cv ctv) ⟨[], []⟩ = pure []) : BindL false params body scope := by
  intro q cl dV doc pm cv ctv s hd
  have hd : dV = .none := hd
  subst hd
  exact ⟨[], .of_eq (h q cl doc pm cv ctv), fun y hy => nomatch hy⟩
theorem bindL1 {params : Arguments} {body : Expr} {scope : Scope} {a : Str} (k : Str → List (Str × Addr) → Value → Value → Value → Value → Value → Option (Array Value) → Sem (List (Str × Value)))
    (h1 : ∀ (q : Str) (cl : List (Str × Addr)) (dV doc pm cv ctv : Value), bindArgs (PySem.W.kdv_fn "<lambda>" q params (.expr body) scope cl dV doc pm cv ctv) ⟨[], []⟩ = seqItems? dV >>= k q cl dV doc pm cv ctv)
    (h2 : ∀ (q : Str) (cl : List (Str × Addr)) (dV doc pm cv ctv v : Value), k q cl dV doc pm cv ctv (some #[v]) = pure [(a, v)]) (hl : scope.names.lookup a = some .local) : BindL true params body scope := by
  intro q cl dV doc pm cv ctv s hd
  obtain ⟨T0, t, rfl, e⟩ : ∃ (T0 : Addr) (t : Tok), dV = .ref T0 ∧ s.heap.get? T0 = some (PySem.W.kdv_tup [.int 0 t]) := hd
  refine ⟨[(a, .int 0 t)], BindsTo.of_defaults (o := PySem.W.kdv_tup [.int 0 t]) (items := #[.int 0 t]) rfl e rfl (h1 q cl _ doc pm cv ctv) (h2 q cl _ doc pm cv ctv _), fun y hy => ?_⟩
  rw [List.mem_singleton.mp hy]
  exact hl
/-- a(), in the def that got the lambda -/
theorem pe_act {Ng : List Str} {qg : Str} {sg : Scope} {g f c' : Addr} {oc : Obj} {dn : Bool} {cdg dV doc pm ctv : Value} {params : Arguments} {body : Expr} {scope : Scope} {k i : Nat} {a : Str} {pn : List (Addr × Obj)} {xe : Value → Shared → Prop} {W : WX} {E Eg : XK} {CXg : CXT} {tb : TE} {p1 p2 : Pos}
    (I : Inv X pins σ H s) (L : LamN X.N X.env.scope scope) (hf : s.heap.get? f = some (lamObj (X.env.qual ++ "<lambda>") params body scope (cloFrom X.env.cells scope.names []) dV doc pm c' ctv)) (hfn : H f = none) (hfr : f ∉ frs X.stack)
    (cq : CodeQ oc (X.env.qual ++ "<lambda>")) (hd0 : DfltAt dn s.heap H (frs X.stack) dV) (hbind : BindL dn params body scope)
    (tk : Takes ((cxOf CXg X.prog X.w X.K X.mg X.base Ng qg sg g cdg X.A X.stack s H Eg).tr pn xe) W) (hW : ∀ cls d σ' H', E cls d H' → W cls d σ' H') (hr : Room (k + 1) (X.A.deeper (envOfC qg sg s.heap.objs.size g cdg))) (hgd : X.A.guards = some [])
    (hbody : ∀ (A : Around) (outer : List Env) (s : Shared) (H : Hp), Room k (A.deeper (lamEnv X scope s.heap.objs.size f c')) → A.guards = some [] → PE (LamX.lamCx X A outer s H E scope f c') body tb)
    (hN : Ng[i]? = some a) (hv : Vis sg a) (hd : (a == ("__debug__" : Str)) = false) (hcd : (a == ("__classdict__" : Str)) = false) :
    PE ((cxOf CXg X.prog X.w X.K X.mg X.base Ng qg sg g cdg X.A X.stack s H Eg).tr pn xe) (.Call (.Name a p1) [] [] p2)
      (fun σZ HZ Q => σZ[i]? = some (some (.ref f)) ∧ HZ c' = some (ho1 oc) ∧ tb σ HZ Q) := by
  refine ⟨fun pinsZ sZ σZ HZ Q IZ h => ?_⟩
  obtain ⟨hs, hc, ht⟩ := h
  refine wpAny_Call_Name_kw (thn ((pe_var (pos := p1) (i := i) hN hv hd hcd).run pinsZ sZ σZ HZ (fun v H1 => v = .ref f ∧ H1 = HZ) IZ ⟨.ref f, hs, rfl, rfl⟩) fun u s1 ⟨v, H1, I1, r1, q1⟩ => ?_)
  obtain ⟨ev, eH⟩ := q1
  subst ev
  rw [eH] at I1
  obtain rfl : u = Value.ref f := r1
  have keep : ∀ b o, s.heap.get? b = some o → H b = none → b ∉ frs X.stack → s1.heap.get? b = some o := fun b o e n z => I1.base.keep b o e n z (fun z => nomatch (show b ∈ ([] : List Addr) from z))
  have of1 := keep f _ hf hfn hfr
  refine PySem.W.callWith_F0 ⟨_, _, _, _, of1⟩ ?_
  have un : Un (frs X.stack) [] H HZ s.heap s1.heap := I1.base
  obtain ⟨hoc, _⟩ := I1.hok c' _ hc
  obtain ⟨vs, t, hdc, hvc⟩ := cq
  have dfl : if dn = true then ∃ (T0 : Addr) (t : Tok), dV = .ref T0 ∧ s1.heap.get? T0 = some (PySem.W.kdv_tup [.int 0 t]) else dV = .none := by
    cases dn with
    | false => exact hd0
    | true =>
      obtain ⟨T0, t, e1, e2, e3, e4⟩ : ∃ (T0 : Addr) (t : Tok), dV = .ref T0 ∧ s.heap.get? T0 = some (PySem.W.kdv_tup [.int 0 t]) ∧ H T0 = none ∧ T0 ∉ frs X.stack := hd0
      exact ⟨T0, t, e1, keep _ _ e2 e3 e4⟩
  obtain ⟨bs, hb, hbl⟩ := hbind (X.env.qual ++ "<lambda>") (cloFrom X.env.cells scope.names []) dV doc pm (.ref c') ctv s1 dfl
  have rc : codeAny (model X.prog X.w) (X.A.deeper (envOfC qg sg s.heap.objs.size g cdg)) (.call (.ref f) ⟨[], []⟩) (CR (L2.CX X.prog X.w) (envOfC qg sg s.heap.objs.size g cdg :: X.stack) X.prog X.w HZ s1 Q E) s1 := by
    refine PySem.W.kla_callFunE hr.depth of1 rfl L.co L.gen rfl ⟨c', oc, vs, t, rfl, hoc, hdc, hvc⟩ (hb _ _ _ _ ?_)
    refine wpAny_newFunctionEnv L.cel hbl (fun h1 hns hsb => ⟨I1.nolimit.fresh _ hsb, ?_⟩) L.kind
    show codeAny _ _ (.expr body (lamEnv X scope s1.heap.objs.size f c')) _ _
    have kp : ∀ b o, s1.heap.get? b = some o → h1.get? b = some o := fun b o e => hsb.extBut b o (Nat.ne_of_lt (Heap.lt_size e)) (Heap.get?_push_of_some _ e)
    have J : Inv (LamX.lamCx X (X.A.deeper (envOfC qg sg s.heap.objs.size g cdg)) (envOfC qg sg s.heap.objs.size g cdg :: X.stack) s1 HZ E scope f c') [] σ HZ { s1 with heap := h1, toks := s1.toks + bs.length } :=
      lam_start I L I1.env0 hr.hd un hns kp
    refine PySem.W.kla_codeExpr (wpAny_mono ((hbody _ _ s1 HZ (hr.deeper _) hgd).run [] _ _ HZ Q J ht) (fun v s' hq => ?_) fun e s' hq => hq)
    obtain ⟨w', H', J', rv, q⟩ := hq
    exact ⟨w', H', J'.os, J'.bare, J'.base, J'.hok, rv, q⟩
  have hx : Passes (L2.CX X.prog X.w) ((cxOf CXg X.prog X.w X.K X.mg X.base Ng qg sg g cdg X.A X.stack s H Eg).tr pn xe) E := passes_call tk hW
  refine wpAny_call (codeAny_mono rc fun r s' hq => ?_)
  cases r with
  | error e => exact hx pinsZ σZ HZ s1 e s' I1 hq
  | ok fl =>
    cases fl with
    | ret u => exact I1.after hq
    | next => exact False.elim hq
    | brk => exact False.elim hq
    | cont => exact False.elim hq
end
end DL
/-! L3: x(lambda: e), over data. -/
namespace DL
open PySem PySem.Spec L2
open PyProof.Rows (envOfC)
open LamX (TabB lamEnv)
/-- what a lambda computes, asked at a state -/
abbrev Lf := Sd → R D
/-- behind the try: the value is let go, or the error is caught -/
def heardK (n j : Nat) (L : List Str) (b : FS) (r : R D) : R D := match r with
  | .ok _ s => (b ((List.replicate n Slot.no).set j (.d .non)) s).fin
  | .er e s => if e.cls ∈ L then (b ((List.replicate n Slot.no).set j (.d (.ob e.cls e.fs))) s).fin else .bad
  | .bad => .bad
def heardM (n j : Nat) (L : List Str) (b : FS) (g : Lf) (s : Sd) : R D := heardK n j L b (g s)
theorem fin_wp {r : RS} {Q : QD} {F : QE} (h : r.fin.wp Q F) : r.wp { nx := fun _ n => Q .non n, rt := Q } := by
  cases r <;> exact h
/-- what is promised of a lambda's reading -/
def TlOk (K : PySem.W.Frag) (q : Dq) (gg : Lf) (H : Hp) (tl : XK → Hp → VK → Prop) : Prop :=
  ∀ (E' : XK) (HZ : Hp) (n' : Sd) (QD : QD) (FD : QE) (Q' : VK), Fr q H HZ → Dr K q n' HZ → (gg n').wp QD FD → ErOk K q HZ FD E' → (∀ v H' d n2, Dt K q H' v d → Fr q HZ H' → Dr K q n2 H' → QD d n2 → Q' v H') → tl E' HZ Q'
/-- the promise of a def that gets a lambda and calls it -/
structure HeardG (P : Program) (w : World) (K : PySem.W.Frag) (mg : Str → Option Value) (base : Heap) (T : List (Addr × Str)) (k : Nat) (N : List Str) (x : Str) (st : Stmt) (g : Addr) (a : Str) (m : Lf → Lf) : Prop where
  go : ∀ (cdg : Value) (A : Around) (outer : List PySem.Env) (s : Shared) (H : Hp) (f c' : Addr) (oc : Obj) (Q : VK) (q : Dq) (n : Sd) (gg : Lf) (Q0 : QD) (tl : XK → Hp → VK → Prop), Room k (A.deeper (envOfC x (defScope st) s.heap.objs.size g cdg)) → A.guards = some [] → q.T = T → Dr K q n H → H c' = some (ho1 oc) →
    (∀ (W : WX) (pn : List (Addr × Obj)) (xe : Value → Shared → Prop) (E : XK) (p1 p2 : Pos), Takes ((cxOf CX0 P w K mg base N x (defScope st) g cdg A outer s H L2.E0).tr pn xe) W → (∀ cls d σ' H', E cls d H' → W cls d σ' H') →
      PE ((cxOf CX0 P w K mg base N x (defScope st) g cdg A outer s H L2.E0).tr pn xe) (.Call (.Name a p1) [] [] p2) (fun σZ HZ Q => σZ[0]? = some (some (.ref f)) ∧ HZ c' = some (ho1 oc) ∧ tl E HZ Q)) →
    TlOk K q gg H tl → (m gg n).wp Q0 (fun _ _ => False) → (∀ v H' d n', Dt K q H' v d → Fr q H H' → Dr K q n' H' → Q0 d n' → Q v H') →
    ∃ t, PSs (cxOf CX0 P w K mg base N x (defScope st) g cdg A outer s H L2.E0).nox (defBody st) t ∧ t { nx := fun _ H' => Q .non H', rt := Q } (L2.start N [.ref f]) H
section
variable {P : Program} {w : World} {K : PySem.W.Frag} {mg : Str → Option Value} {base : Heap} {T : List (Addr × Str)} {k : Nat} {N : List Str} {x : Str} {st : Stmt} {g : Addr} {a : Str}
/-- caught = None; try: a() except C as error: caught = error; and the rest -/
theorem heardF {b : FS} {rest : List Stmt} {xc n y : Str} {cB : Addr} {i j kn : Nat} {L : List Str} {cj : Nat} {p0 p1 p2 p3 p4 yp0 np ep yp ap pos pos' : Pos} {m : Lf → Lf}
    (hm : m = heardM kn j L b) (hst : defBody st = .Assign [.Name y yp0] (.Constant .none cj p0) p1 :: .Try [.Expr (.Call (.Name a p2) [] [] p3) p4] [.ExceptHandler (some (.Name xc np)) (some n) [.Assign [.Name y yp] (.Name n ep) ap] pos'] [] [] pos :: rest)
    (hkn : N.length = kn) (hN : N.Nodup) (h0 : 0 < j) (hi : N[i]? = some n) (hj : N[j]? = some y) (hij : i ≠ j) (hln : (defScope st).names.lookup n = some .local) (hlj : (defScope st).names.lookup y = some .local)
    (hc : (defScope st).names.lookup xc = some .globalImplicit ∧ (xc == ("__debug__" : Str)) = false ∧ mg xc = some (.ref cB)) (hL : ∀ Cn ∈ L, ∀ ca, Cls K Cn ca → PySem.W.exmOne K (.ref ca) (.ref cB) = some true) (hnd : (n == ("__debug__" : Str)) = false) (hncd : (n == ("__classdict__" : Str)) = false)
    (body : ∀ (q : Dq), q.T = T → ∀ (cdg : Value) (A : Around) (outer : List PySem.Env) (s : Shared) (H : Hp), Room k (A.deeper (envOfC x (defScope st) s.heap.objs.size g cdg)) → A.guards = some [] → FSs (cxOf CX0 P w K mg base N x (defScope st) g cdg A outer s H L2.E0).nox q H L2.E0 rest b)
    (sw0 : ∀ (cdg : Value) (A : Around) (outer : List PySem.Env) (s : Shared) (H : Hp), swapsWith (.Constant .none cj p0) (some (.Name y yp0)) p1.line (cxOf CX0 P w K mg base N x (defScope st) g cdg A outer s H L2.E0).nox.env = pure false)
    (sw1 : ∀ (cdg : Value) (A : Around) (outer : List PySem.Env) (s : Shared) (H : Hp), swapsWith (.Name n ep) (some (.Name y yp)) ap.line (cxOf CX0 P w K mg base N x (defScope st) g cdg A outer s H L2.E0).nox.env = pure false)
    (sw2 : ∀ (cdg : Value) (A : Around) (outer : List PySem.Env) (s : Shared) (H : Hp), swapsWith (.Call (.Name a p2) [] [] p3) none p4.line (cxOf CX0 P w K mg base N x (defScope st) g cdg A outer s H L2.E0).nox.env = pure false) :
    HeardG P w K mg base T k N x st g a m := by
  subst hm hkn
  refine ⟨fun cdg A outer s H f c' oc Q q n0 gg Q0 tl hr hgd hT dr hco act htl hq c => ?_⟩
  let X := (cxOf CX0 P w K mg base N x (defScope st) g cdg A outer s H L2.E0).nox
  let Φ : L2.St → Hp → Prop := fun σ H' => σ[0]? = some (some (.ref f)) ∧ H' c' = some (ho1 oc) ∧ Fr q H H'
  have jl : j < N.length := (List.getElem?_eq_some_iff.mp hj).1
  have S1 : PS X (.Assign [.Name y yp0] (.Constant .none cj p0) p1) (tAsg (tC .non) (L2.gName j)) := ps_set hN hj (.inl hlj) pe_non (sw0 cdg A outer s H) (.inr hlj)
  have S2 := ps_tryP (X := X) (Φ := Φ) (q := q) (H0 := H) (E := L2.E0) (fb := fDrop fun _ s => gg s) (L := L) (i := i) (j := j) (pos := pos) (pos' := pos') (np := np) (body := [.Expr (.Call (.Name a p2) [] [] p3) p4]) (cB := cB) (x := xc) (n := n) (y := y) (ep := ep) (yp := yp) (ap := ap)
    rfl rfl rfl hN hi hln hj (.inl hlj) (.inr hlj) hij ⟨hc.1, hc.2.1, .inl hc.2.2⟩ hL hnd hncd (sw1 cdg A outer s H) (fun pn xe E' H0' tk po => ?_)
  · have S3 := (body q hT cdg A outer s H hr hgd).pss
    refine ⟨_, by rw [hst]; exact pss_cons S1 (pss_cons S2 S3), ?_⟩
    let ρ1 : SEnv := (List.replicate N.length Slot.no).set j (.d .non)
    let G3 : EndsD := { nx := fun _ n' => Q0 .non n', rt := Q0 }
    have R0 : Rel K q H (List.replicate N.length Slot.no) n0 (L2.start N [.ref f]) H := by
      refine ⟨by simp [L2.start]; omega, fun m z e => ?_, fun m ds e => ?_, fun m m' ds es p e => ?_, dr, .refl _, fun a e z => dr_not dr z e.symm⟩
      all_goals
        rw [List.getElem?_replicate] at e
        split at e <;> cases e
    have sl : (L2.start N [V.ref f]).length = N.length := by simp [L2.start]; omega
    have R1 := R0.set (i := j) (v := .non) (x := .non) .non (by rw [sl]; exact jl)
    have s0 : (L2.start N [V.ref f])[0]? = some (some (.ref f)) := rfl
    refine ⟨⟨?_, hco, .refl _⟩, ?_⟩
    · rw [List.getElem?_set_ne (by omega)]; exact s0
    · let G2 : EndsD := { nx := fun ρ s => (b ρ s).wp G3, rt := fun _ _ => False }
      have hw : (fTry j L (fDrop fun _ s => gg s) ρ1 n0).wp G2 := by
        have no1 : noOwn ρ1 = true := by
          refine List.all_eq_true.mpr fun sl hs => ?_
          rcases List.mem_or_eq_of_mem_set hs with z | z
          · rw [List.eq_of_mem_replicate z]
          · rw [z]
        have lρ : ρ1.length = N.length := by simp [ρ1]
        unfold fTry
        rw [if_pos no1]
        have hq' : (heardK N.length j L b (gg n0)).wp Q0 fun _ _ => False := hq
        show (tryK j L ρ1 ((gg n0).to fun _ s => .nx ρ1 s)).wp G2
        cases e : gg n0 with
        | ok v s' => rw [e] at hq'; exact fin_wp hq'
        | bad => rw [e] at hq'; exact hq'.elim
        | er r s' =>
          rw [e] at hq'
          show (if r.cls ∈ L then RS.nx (caughtS ρ1 j r) s' else .bad).wp G2
          have hq2 : (if r.cls ∈ L then (b ((List.replicate N.length Slot.no).set j (.d (.ob r.cls r.fs))) s').fin else .bad).wp Q0 fun _ _ => False := hq'
          by_cases z : r.cls ∈ L
          · rw [if_pos z] at hq2 ⊢
            unfold caughtS
            rw [lρ]
            exact fin_wp hq2
          · rw [if_neg z] at hq2; exact hq2.elim
      refine dTS_mk (G := G2) R1 hw (fun σ' H' ρ' n' f1 R' h' => ?_) (fun _ _ _ _ _ _ _ _ z => z.elim) (fun _ _ _ _ _ _ z => z.elim) (fun _ _ _ _ _ _ z => z.elim) erOk_no
      exact dTS_mk (G := G3) R' h' (fun σ2 H2 ρ2 n2 _ R2 h2 => c _ H2 _ n2 .non R2.fr R2.dr h2) (fun v H2 d n2 hd _ fr dr2 h2 => c v H2 d n2 hd fr dr2 h2) (fun _ _ _ _ _ _ z => z.elim) (fun _ _ _ _ _ _ z => z.elim) erOk_no
  · have pe := act (fun cls d _ H' => E' cls d H') pn xe E' p2 p3 tk fun _ _ _ _ h => h
    refine (pss_one (ps_expr (pos := p4) pe (sw2 cdg A outer s H))).imp fun D σ H1 ⟨⟨h1, h2, h3⟩, ρ, n1, G, Rr, h, cn, cr, cb, cc, o⟩ => ?_
    refine ⟨h1, h2, htl E' H1 n1 _ _ _ h3 Rr.dr (R.to_wp h) (erOk_in o Rr.fr) fun v H' d n2 hd fr dr2 h' => ?_⟩
    exact cn σ H' ρ n2 (fr.x Rr.dr) (Rr.up fr dr2) h'
end
end DL
/-! L4: the place where a lambda is handed over; tables at the law's beginning. -/
namespace DL
open PySem PySem.Spec L2
open PyProof.Rows (envOfC)
open LamX (TabB lamEnv run_ofS)
/-- x(lambda: e): m is what x makes of what the lambda answers -/
def fLam (m : Lf → Lf) (fb : FE) : FE := fun ρ s => if noOwn ρ = true then (m (fb ρ) s).calm else .bad
theorem takesL {X : Cx} {A : Around} {outer : List PySem.Env} {s : Shared} {H : Hp} {E : XK} {scope : Scope} {f c' : Addr} : Takes (LamX.lamCx X A outer s H E scope f c') (fun cls d _ H' => E cls d H') := takes_of rfl rfl rfl rfl
theorem passL {X : Cx} {A : Around} {outer : List PySem.Env} {s : Shared} {H : Hp} {E : XK} {scope : Scope} {f c' : Addr} : Passes (CX X.prog X.w) (LamX.lamCx X A outer s H E scope f c') E := passes_call takesL fun _ _ _ _ h => h
abbrev lamQ (x : Str) : Str := (x ++ ".<locals>.") ++ "<lambda>"
theorem fe_lam {X : Cx} {q : Dq} {H0 : Hp} {E : XK} {T : List (Addr × Str)} {kh kl : Nat} {dn : Bool} {Ng : List Str} {x a : Str} {st : Stmt} {g c P : Addr} {fd : FuncData} {m : Lf → Lf} {params : Arguments} {body : Expr} {scope : Scope} {lpos p pos : Pos} {fb : FE}
    (HG : HeardG X.prog X.w X.K X.mg X.base T kh Ng x st g a m) (F : Fun X.K x x st g fd) (S : FnScope Ng [a] (defScope st)) (hmg : X.mg x = some (.ref g)) (hk : PySem.W.keepIn X.K (.ref g) = true) (hb : L2.Binds X.K fd [a] [])
    (hr : Room (kl + 2) X.A) (hkh : kh ≤ kl + 1) (hgd : X.A.guards = some []) (hT : q.T = T) (TB : TabB X.base X.mg c P) (hcode : X.env.code = .ref c) (hm : (P, X.env.qual ++ "<lambda>") ∈ T) (hu : ∀ p ∈ T, p.1 = P → p.2 = X.env.qual ++ "<lambda>")
    (L : LamN X.N X.env.scope scope) (hg : Gl X x) (hk0 : params.kw_defaults = []) (hd : if dn = true then ∃ j p, params.defaults = [.Constant (.int 0) j p] else params.defaults = []) (hbind : BindL dn params body scope)
    (hN0 : Ng[0]? = some a) (hva : Vis (defScope st) a)
    (hbody : ∀ (H0 : Hp) (A : Around) (outer : List PySem.Env) (s : Shared) (H : Hp) (E : XK) (f c' : Addr), Room kl (A.deeper (lamEnv X scope s.heap.objs.size f c')) → A.guards = some [] → FEx (LamX.lamCx X A outer s H E scope f c') q H0 E body fb)
    (hdb : (x == ("__debug__" : Str)) = false := by decide) (hda : (a == ("__debug__" : Str)) = false := by decide) (hca : (a == ("__classdict__" : Str)) = false := by decide) :
    FEx X q H0 E (.Call (.Name x p) [.Lambda params body scope lpos] [] pos) (fLam m fb) := by
  refine ⟨⟨fun pins s σ H Q I h => ?_⟩⟩
  obtain ⟨ρ, n, Q0, F0, Rr, h, c0, o⟩ := h
  have h : (fLam m fb ρ n).wp Q0 F0 := h
  unfold fLam at h
  have zo : noOwn ρ = true := by
    cases z : noOwn ρ with
    | true => rfl
    | false => rw [z] at h; exact h.elim
  rw [if_pos zo] at h
  have h1 : (m (fb ρ) n).wp Q0 (fun _ _ => False) := R.calm_wp h
  have hTT : TabsF T H := hT ▸ Rr.dr.2
  refine wpAny_Call_Name_kw (ld_glob I hg hmg ?_ hdb)
  refine PySem.W.callWith_K (h₀ := X.base) I.ok.mod.kin hk ?_ (by rfl) (by rfl)
  show wpAny _ _ (spliced ((false, eval (.Lambda params body scope lpos) X.env) :: backTo pos (starEach [] X.env))) _ _ s
  refine Calls.spliced_cons (lam_make (dn := dn) I TB hcode hm hu hTT hk0 hd (L.has I.ok) fun f c' oc dV doc pm' ctv H1 s' I1 eN T1 df hf hfn hfr hco cq => ?_)
  refine Calls.spliced_nil ⟨I1.kIn, ?_⟩
  have fr1 : Fr q H H1 := eN.fr
  have dr1 : Dr X.K q n H1 := by
    refine ⟨?_, hT ▸ T1⟩
    have d := Rr.dr.1
    obtain ⟨qo, qT⟩ := q
    cases qo with
    | none => exact True.intro
    | some z =>
      obtain ⟨cc, e1, e2⟩ := d
      exact ⟨cc, eN _ _ e1, eN _ _ e2⟩
  have R1 := Rr.up fr1 dr1
  obtain ⟨occ, od, kV, doc', pm, an, cdv, ct, osl, rfl, lk, hcg⟩ := F.ex
  have rc : codeAny (model X.prog X.w) X.A (.call (.ref g) ⟨[.ref f], []⟩) (CR CX0 X.stack X.prog X.w H1 s' Q L2.E0) s' := by
    refine run_ofS (N := Ng) (ps := [a]) (us := [.ref f]) (vs := [.ref f]) lk hcg S hr I1.env0 (hb s' [.ref f] I1.kIn rfl) (.cons rfl .nil) rfl fun hr' => ?_
    suffices hh : ∃ t, PSs (cxOf CX0 X.prog X.w X.K X.mg X.base Ng x (defScope st) g cdv X.A X.stack s' H1 L2.E0).nox (defBody st) t ∧ t { nx := fun _ H' => Q .non H', rt := Q } (L2.start Ng [.ref f]) H1 by
      obtain ⟨t', ht', hq'⟩ := hh
      exact ⟨t', ht'.nox, hq'⟩
    refine (HG.go cdv X.A X.stack s' H1 f c' oc Q q n (fb ρ) Q0 (fun E' HZ Q' => dTE X.K q HZ E' (rd fb) σ HZ Q') (hr'.mono hkh) hgd hT dr1 hco (fun W pn xe E' p1 p2 tk hW => ?_) (fun E' HZ n' QD FD Q' f2 d2 h2 o2 k2 => ?_) h1 fun v H' d n' hd f2 d2 hq => ?_)
    · exact pe_act (i := 0) (tb := fun σ H Q => dTE X.K q H E' (rd fb) σ H Q) I1 L hf hfn hfr cq df hbind tk hW hr' hgd (fun A outer s H hr2 hg2 => ⟨fun pins s2 σ2 H2 Q2 I2 h2 => (hbody H2 A outer s H E' f c' hr2 hg2).pe.run pins s2 σ2 H2 Q2 I2 h2⟩) hN0 hva hda hca
    · exact dTE_mk (rel_here (R1.up f2 d2) zo) h2 (fun v H' d n2 hd f3 R3 h3 => k2 v H' d n2 hd f3 R3.dr h3) o2
    · exact c0 v H' d n' hd (fr1.trans f2) (R1.up f2 d2) hq
  refine wpAny_call (codeAny_mono rc fun r s2 hq => ?_)
  cases r with
  | error e => exact (show False from hq).elim
  | ok fl =>
    cases fl with
    | ret u => exact I1.after hq
    | next => exact False.elim hq
    | brk => exact False.elim hq
    | cont => exact False.elim hq
end DL
/-! L5: the law's own end, where tables of code objects grow. -/
namespace DL
open PySem PySem.Spec PyProof.Rows L2
open LamX (TabB)
section
variable {P : Program} {w : World} {K : PySem.W.Frag} {mg mb : Str → Option Value} {k : Nat} {fa a : Addr} {fd : FuncData} {x : Str} {sp : Sp} {s1 : Shared} {vs : List Value} {ns : List Int} {cs : List (Addr × Addr)}
/-- the run, once the abstract heap at the law's entry is chosen: the script, and empty tables -/
theorem entry_runT (KX : K.In s1.heap) (hns : s1.heap.Ns mainGlobals mg) (hb : s1.heap.Ns builtinsNs mb) (hbb : ∀ x : Str, x ≠ "__name__" → mb x = bootBuiltins x) (hlim : s1.heap.NoLimit) (hg : s1.gens = #[])
    (hT : ∀ p ∈ cs, s1.heap.get? p.2 = some { cls := .none, data := .fields #[] }) (nT : ∀ p ∈ cs, K.lookup p.2 = none) (C : ∀ p ∈ cs, PySem.W.CodeHd s1.heap p.1 p.2)
    (hbm : ∃ (bm : Addr) (ob : Obj), mg "__builtins__" = some (.ref bm) ∧ bm ≠ builtinsNs ∧ s1.heap.get? bm = some ob ∧ ob.cls = .type "module" ∧ ob.dict = some builtinsNs ∧ ob.data = .plain)
    (ha : s1.heap.get? a = some { cls := .type "list", data := .seq vs.toArray }) (hr : Room k callerA)
    (F : ∀ base : Heap, K.In base → base.Ns mainGlobals mg → (∀ p ∈ cs, TabB base mg p.1 p.2) → FnG P w K mg base CX0 k fa fd [x] sp) (hbind : ∀ (s : Shared) (u : Value), BindsTo s fd ⟨[u], []⟩ [(x, u)])
    (H : Hp) (hH : ∀ p ∈ cs, H p.2 = some (.tbl #[])) (hO : ∀ b, H b = none ∨ (∃ p ∈ cs, p.2 = b) ∨ ∃ o xs, H b = some (.frz o (.lst xs))) (hok : HOk P w H s1.heap) (hA : ∀ b, H b ≠ none → b = a ∨ ∃ p ∈ cs, p.2 = b) (hK : H a ≠ none → K.lookup a = none)
    (hsp : sp [.ref a] H (fun v _ => v = .bl true) fun _ _ _ => False) :
    codeAny (model P w) callerA (.call (.ref fa) ⟨[.ref a], []⟩) (fun r s' => r = .ok (.ret (.bool true)) ∧ OldK s1.heap s'.heap ∧ s'.os = s1.os ∧ AllBare s'.gens) s1 := by
  -- what is neither a list nor an empty table is not tracked
  have noD : ∀ {b : Addr} {o : Obj}, s1.heap.get? b = some o → (∀ vs n, o.data ≠ .seq vs n) → o.data ≠ .fields #[] → H b = none := fun {b o} e h1 h2 => by
    cases q : H b with
    | none => rfl
    | some u =>
      rcases hA b (by rw [q]; simp) with z | ⟨p, hp, z⟩
      · subst z
        rw [ha] at e
        cases e
        exact (h1 _ _ rfl).elim
      · subst z
        rw [hT p hp] at e
        cases e
        exact (h2 rfl).elim
  have base_of : ∀ {b : Addr} {o : Obj}, s1.heap.get? b = some o → (∀ vs n, o.data ≠ .seq vs n) → o.data ≠ .fields #[] → (hidT s1.heap H).get? b = some o := fun e h1 h2 => hidT_get e (noD e h1 h2)
  have ns' : ∀ {b : Addr} {m : Str → Option Value}, s1.heap.Ns b m → (hidT s1.heap H).Ns b m := by
    intro b m ⟨o, es, ep, e, d, r⟩
    refine ⟨o, es, ep, base_of e (fun vs n z => ?_) (fun z => ?_), d, r⟩ <;> (rw [d] at z; cases z)
  have inB : K.In (hidT s1.heap H) := fun b o e => hidT_get (KX b o e) (by
    cases q : H b with
    | none => rfl
    | some u =>
      rcases hA b (by rw [q]; simp) with z | ⟨p, hp, z⟩
      · subst z
        rw [hK (by rw [q]; simp)] at e
        cases e
      · subst z
        rw [nT p hp] at e
        cases e)
  have TB : ∀ p ∈ cs, TabB (hidT s1.heap H) mg p.1 p.2 := fun p hp => by
    have hTp := hT p hp
    refine ⟨?_, ?_, fun z => ?_⟩
    · obtain ⟨o, us, file, tf, flags, tg, inF, text, tt, e1, r1, r2, r3, r4⟩ := C p hp
      refine ⟨o, us, file, tf, flags, tg, inF, text, tt, base_of e1 (fun vs n z => ?_) (fun z => ?_), r1, r2, r3, r4⟩
      · rw [r2] at z; cases z
      · rw [r2] at z; cases z; simp at r3
    · obtain ⟨bm, ob, b1, b2, b3, b4, b5, b6⟩ := hbm
      refine ⟨bm, ob, b1, b2, fun q => ?_, fun q => ?_, base_of b3 (fun vs n z => ?_) (fun z => ?_), b4, b5, b6⟩
      · obtain ⟨o, es, ep, e, hd, _⟩ := hns
        rw [q, e] at b3
        cases b3
        rw [hd] at b6
        cases b6
      · rw [q, hTp] at b3
        cases b3
        cases b6
      · rw [b6] at z; cases z
      · rw [b6] at z; cases z
    · obtain ⟨o, es, ep, e, hd, _⟩ := hns
      rw [z, hTp] at e
      cases e
      cases hd
  have e0 : Env0 P w K mg (hidT s1.heap H) callerA [] s1 H := by
    refine ⟨rfl, ⟨inB, ns' hns, ⟨mb, ns' hb, hbb⟩, ?_⟩, fun b o e => of_hidT e, Nat.le_of_eq (hidT_size _ _), trivial, fun b hb => absurd (show b ∈ ([] : List Addr) from hb) (by simp), hok, .of_eq hg⟩
    obtain ⟨mc, h1, h2⟩ := hlim
    exact ⟨mc, ns' h1, h2⟩
  apply codeAny_mono ((F _ inB (ns' hns) TB).go callerA [] s1 H ⟨[.ref a], []⟩ [.ref a] [.ref a] _ _ hr rfl e0 (hbind s1 (.ref a)) (.cons rfl .nil) hsp)
  intro r s' h
  cases r with
  | error e => exact (show False from h).elim
  | ok fl =>
    cases fl with
    | next => exact (show False from h).elim
    | brk => exact (show False from h).elim
    | cont => exact (show False from h).elim
    | ret u =>
      obtain ⟨v, H', os, bare, un, hok', r', q⟩ := h
      have q' : v = .bl true := q
      subst q'
      have eu : u = Value.bool true := r'
      subst eu
      have grown : ∀ p ∈ cs, ∃ more : Array Value, s'.heap.get? p.2 = some { cls := .none, data := .fields more } := fun p hp => by
        obtain ⟨more, z⟩ := un.tbls p.2 #[] (hH p hp)
        exact ⟨_, hok' p.2 _ z⟩
      have key : ∀ b o, (¬ ∃ p ∈ cs, p.2 = b) → s1.heap.get? b = some o → s'.heap.get? b = some o := fun b o nb e => by
        cases q : H b with
        | none => exact un.keep b o e q (fun z => absurd (show b ∈ ([] : List Addr) from z) (by simp)) (by simp)
        | some u =>
          rcases hO b with z | z | ⟨ob, xs, z⟩
          · rw [q] at z; cases z
          · exact absurd z nb
          · obtain ⟨e1, _⟩ := hok b _ z
            obtain ⟨e2, _⟩ := hok' b _ (un.frzs b ob _ z)
            rw [e] at e1
            cases e1
            exact e2
      refine ⟨rfl, ⟨fun b o e => ?_, fun b o e => ?_⟩, os, bare⟩
      · by_cases hb : ∃ p ∈ cs, p.2 = b
        · obtain ⟨p, hp, rfl⟩ := hb
          obtain ⟨more, hm⟩ := grown p hp
          rw [hT p hp] at e
          cases e
          exact .inr (.inl ⟨((C p hp).tab (hT p hp)).isCodeTable, rfl, #[], more, rfl, by rw [Array.empty_append]; exact hm⟩)
        · exact .inl (key b o hb e)
      · by_cases hb : ∃ p ∈ cs, p.2 = b
        · obtain ⟨p, hp, rfl⟩ := hb
          obtain ⟨more, hm⟩ := grown p hp
          exact ⟨_, hm⟩
        · exact ⟨o, key b o hb e⟩
theorem entry_callT (KX : K.In s1.heap) (hns : s1.heap.Ns mainGlobals mg) (hb : s1.heap.Ns builtinsNs mb) (hbb : ∀ x : Str, x ≠ "__name__" → mb x = bootBuiltins x) (hlim : s1.heap.NoLimit) (hg : s1.gens = #[])
    (hT : ∀ p ∈ cs, s1.heap.get? p.2 = some { cls := .none, data := .fields #[] }) (nT : ∀ p ∈ cs, K.lookup p.2 = none) (C : ∀ p ∈ cs, PySem.W.CodeHd s1.heap p.1 p.2)
    (hbm : ∃ (bm : Addr) (ob : Obj), mg "__builtins__" = some (.ref bm) ∧ bm ≠ builtinsNs ∧ s1.heap.get? bm = some ob ∧ ob.cls = .type "module" ∧ ob.dict = some builtinsNs ∧ ob.data = .plain)
    (ha : s1.heap.get? a = some { cls := .type "list", data := .seq vs.toArray }) (hi : IntsAre vs ns) (hl : ns.length ≤ sizeLine) (hr : Room k callerA)
    (F : ∀ base : Heap, K.In base → base.Ns mainGlobals mg → (∀ p ∈ cs, TabB base mg p.1 p.2) → FnG P w K mg base CX0 k fa fd [x] sp) (hbind : ∀ (s : Shared) (u : Value), BindsTo s fd ⟨[u], []⟩ [(x, u)])
    (hsp : ∀ H : Hp, (∀ p ∈ cs, H p.2 = some (.tbl #[])) → SqL K H a (ns.map V.int) → sp [.ref a] H (fun v _ => v = .bl true) fun _ _ _ => False) :
    codeAny (model P w) callerA (.call (.ref fa) ⟨[.ref a], []⟩) (fun r s' => r = .ok (.ret (.bool true)) ∧ OldK s1.heap s'.heap ∧ s'.os = s1.os ∧ AllBare s'.gens) s1 := by
  have rv := vals_ints hi
  have aT : ¬ ∃ p ∈ cs, p.2 = a := fun ⟨p, hp, z⟩ => by
    have q := hT p hp
    rw [z, ha] at q
    cases q
  classical
  let o0 : Obj := { cls := .type "list", data := .seq vs.toArray }
  let at0 : Option HO := if K.lookup a = none then some (.frz o0 (.lst (ns.map V.int))) else none
  let H : Hp := fun b => if b = a then at0 else if ∃ p ∈ cs, p.2 = b then some (.tbl #[]) else none
  have Ha : H a = at0 := if_pos rfl
  have Ht : ∀ p ∈ cs, H p.2 = some (.tbl #[]) := fun p hp => by
    show (if p.2 = a then at0 else if ∃ p' ∈ cs, p'.2 = p.2 then some (.tbl #[]) else none) = _
    rw [if_neg fun z => aT ⟨p, hp, z⟩, if_pos ⟨p, hp, rfl⟩]
  have Hn : ∀ b, b ≠ a → (¬ ∃ p ∈ cs, p.2 = b) → H b = none := fun b h1 h2 => by
    show (if b = a then at0 else if ∃ p' ∈ cs, p'.2 = b then some (.tbl #[]) else none) = _
    rw [if_neg h1, if_neg h2]
  have sq : SqL K H a (ns.map V.int) := by
    cases hk : K.lookup a with
    | none => exact .inl (.inr ⟨o0, by rw [Ha]; exact if_pos hk⟩)
    | some o =>
      have e := KX a o hk
      rw [ha] at e
      cases e
      exact .inr ⟨_, vs.toArray, _, hk, rfl, rfl, rfl, by rw [List.size_toArray, hi.length]; exact hl, by simpa using rv⟩
  have at0_cases : at0 = none ∨ (K.lookup a = none ∧ at0 = some (.frz o0 (.lst (ns.map V.int)))) := by
    by_cases z : K.lookup a = none
    · exact .inr ⟨z, if_pos z⟩
    · exact .inl (if_neg z)
  refine entry_runT KX hns hb hbb hlim hg hT nT C hbm ha hr F hbind H Ht (fun b => ?_) (fun b u z => ?_) (fun b z => ?_) (fun z => ?_) (hsp H Ht sq)
  · by_cases h1 : b = a
    · subst h1
      rw [Ha]
      rcases at0_cases with z | ⟨_, z⟩
      · exact .inl z
      · exact .inr (.inr ⟨_, _, z⟩)
    · by_cases h2 : ∃ p ∈ cs, p.2 = b
      · exact .inr (.inl h2)
      · exact .inl (Hn b h1 h2)
  · by_cases h1 : b = a
    · subst h1
      rw [Ha] at z
      rcases at0_cases with y | ⟨_, y⟩
      · rw [y] at z; cases z
      · rw [y] at z
        cases z
        exact ⟨ha, by rw [List.length_map]; exact hl, vs, _, rv, ha⟩
    · by_cases h2 : ∃ p ∈ cs, p.2 = b
      · obtain ⟨p, hp, rfl⟩ := h2
        rw [Ht p hp] at z
        cases z
        exact hT p hp
      · rw [Hn b h1 h2] at z; cases z
  · by_cases h1 : b = a
    · exact .inl h1
    · by_cases h2 : ∃ p ∈ cs, p.2 = b
      · exact .inr h2
      · exact absurd (Hn b h1 h2) z
  · rw [Ha] at z
    rcases at0_cases with y | ⟨y, _⟩
    · exact absurd y z
    · exact y
end
/-- a def's code object and its table, by what is known of the module -/
structure TabK (K : PySem.W.Frag) (x : Str) (fd : FuncData) (c P : Addr) : Prop where
  i : PySem.W.tabIn K x = some (c, P)
  n : K.lookup P = none
  c : fd.code = .ref c
theorem tab_code {K : PySem.W.Frag} {x : Str} {f c P : Addr} {oc : Value} {od : Option Addr} {fd : FuncData} {sl : Array (Option Value)} (hn : PySem.W.nsIn K mainGlobals x = some (some (.ref f))) (hl : K.lookup f = some ⟨oc, od, .func fd, sl⟩) (ht : PySem.W.tabIn K x = some (c, P)) : fd.code = .ref c := by
  unfold PySem.W.tabIn at ht
  rw [hn] at ht
  simp only [hl] at ht
  split at ht
  · rename_i c2 hc
    rw [hc]
    split at ht
    · split at ht
      · cases ht; rfl
      · cases ht
    · cases ht
  · cases ht
/-- what k_head leaves, from the law's promise; xs: the defs that make lambdas -/
theorem walk_ofT {l : PySem.W.OpenLaw} {n k : Nat} {q : Program} {loose : List Str} {XP : (Str → Option Value) → Heap → Prop} {YP : World → Heap → Prop} {d : DefRec} {K : Params → PySem.W.Frag} {x : Str} {xs : List Str}
    (hn : l.most = some n) (hn2 : n ≤ 63) (hdf : d.params.defaults = []) (hr : Room k callerA) (hxs : ∀ y ∈ xs, ((recsOf q).find? (fun e => e.name == y)).isSome = true) (hY : ∀ (w : World) (h : Heap), YP w h → (K w.params).In h)
    (F : ∀ (w : World) (mg : Str → Option Value) (fa : Addr) (h : Heap), (K w.params).In h → h.Ns mainGlobals mg → mg d.name = some (.ref fa) →
      ∃ (fd : FuncData) (cs : List (Addr × Addr)), (∀ p ∈ cs, ∃ y ∈ xs, PySem.W.tabIn (K w.params) y = some p) ∧ (∀ p ∈ cs, (K w.params).lookup p.2 = none) ∧ (∀ (s : Shared) (u : Value), BindsTo s fd ⟨[u], []⟩ [(x, u)]) ∧
        ∃ T : List (Addr × Str), (∀ t ∈ T, ∃ p ∈ cs, p.2 = t.1) ∧ ∀ base : Heap, (K w.params).In base → base.Ns mainGlobals mg → (∀ p ∈ cs, TabB base mg p.1 p.2) → FnG l.prog w (K w.params) mg base CX0 k fa fd [x] (spLaw (K w.params) T)) :
    PySem.W.WalkO q loose XP YP l.row.toRowW d [] (fun f vs => PySem.call f vs) := by
  refine Att.attach_callB hn hdf fun w s0 s1 mg mb fa o pm cd doc a vs ns G Y ho hd hcd hmg hobj hints hlen hbits hg => ?_
  have KX := hY w _ Y
  obtain ⟨fd, cs, hcs, nT, hb, T, hTc, hF⟩ := F w mg fa _ KX G.T.g hmg
  have tb : ∀ p ∈ cs, PySem.W.CodeHd s1.heap p.1 p.2 ∧ s1.heap.get? p.2 = some (PySem.W.tabObj #[]) := fun p hp => by
    obtain ⟨y, hy, ht⟩ := hcs p hp
    obtain ⟨e, he⟩ := Option.isSome_iff_exists.mp (hxs y hy)
    exact PySem.W.tab_of G.T KX he ht
  have h63 : (63 : Nat) ≤ sizeLine := by rw [sizeLine_eq]; decide
  refine entry_callT KX G.T.g G.T.b G.T.builtins G.T.nolimit hg (fun p hp => (tb p hp).2) nT (fun p hp => (tb p hp).1) G.T.bmain hobj hints (Nat.le_trans hlen (Nat.le_trans hn2 h63)) hr hF hb fun H hH hS => ⟨a, ns, rfl, hS, by omega, fun t ht => ?_, fun _ => rfl⟩
  obtain ⟨p, hp, e⟩ := hTc t ht
  rw [← e]
  exact ⟨#[], hH p hp, True.intro, fun pos cv hc => by
    have z : codeAmong pos [] = some cv := hc
    simp [codeAmong] at z⟩
end DL
/-! L6: displays of dicts of whole numbers. -/
namespace DL
open PySem PySem.Spec L2
section
variable {X : Cx} {q : Dq} {H0 : Hp} {E : XK} {pos : Pos}
theorem tPairs_c {σ : L2.St} {H : Hp} : ∀ (l : List (Key × Int)) (Q : List (V × V) → Hp → Prop), Q (l.map fun p => (kV p.1, V.int p.2)) H → tPairs (l.map fun p => (tC (kV p.1), tC (V.int p.2))) σ H Q
  | [], _, h => h
  | p :: l, Q, h => tPairs_c l (fun ps H3 => Q ((kV p.1, V.int p.2) :: ps) H3) h
theorem dtKv_c {K : PySem.W.Frag} {H : Hp} : ∀ l : List (Key × Int), DtKv K q H (l.map fun p => (p.1, V.int p.2)) (l.map fun p => (p.1, D.int p.2))
  | [] => .nil
  | p :: l => .cons (.int _) (dtKv_c l)
/-- {k: i, ..} of whole numbers -/
theorem de_disp {keys : List (Option Expr)} {vals : List Expr} (l : List (Key × Int)) (h : PPs X pos keys vals (l.map fun p => (tC (kV p.1), tC (V.int p.2)))) (hall : keys.all (·.isSome) = true) (hl : keys.length = vals.length)
    (h0 : keys ≠ []) (h15 : keys.length ≤ 15) (hn : l.length ≤ 15) (hm : mergeK [] (l.map fun p => (p.1, V.int p.2)) = l.map fun p => (p.1, V.int p.2)) : DE X q H0 E (.Dict keys vals pos) (dC (.dct (l.map fun p => (p.1, D.int p.2)))) := by
  refine ⟨(pe_disp h hall hl h0 h15).imp fun σ H Q ⟨ρ, n, Q0, F, R, h, c, o⟩ p hp => tPairs_c l _ ⟨upd_same, l.map fun p => (p.1, V.int p.2), by rw [List.map_map]; rfl, by rw [List.length_map]; exact hn, ?_⟩⟩
  rw [hm]
  have e : upd (upd H p (.dK [])) p (.dK (l.map fun p => (p.1, V.int p.2))) = upd H p (.dK (l.map fun p => (p.1, V.int p.2))) := by
    funext x
    unfold upd
    split <;> rfl
  rw [e]
  have s := same_upd (o := .dK (l.map fun p => (p.1, V.int p.2))) hp
  exact c _ _ (.dct _) n (.dct upd_same (dtKv_c l)) (.of_same s) (R.same s) h
end
end DL
/-! L7: several names stored at once, lists of their own among them; chained compares; sorted. -/
namespace DL
open PySem PySem.Spec L2
section
variable {X : Cx} {q : Dq} {H0 : Hp} {E : XK} {e a b c : Expr} {es : List Expr} {fa fb fc : FE} {fs : FA} {pos : Pos} {ga gb gc : SEnv → Sd → R Slot}
/-- a list hidden as soon as it is made -/
theorem pe_hide {t : TE} (h : PE X e t) : PE X e (fun σ H Q => t σ H fun v H1 => ∃ p vs, v = .ref p ∧ H1 p = some (.lst vs) ∧ Q v (upd H1 p (MutL p vs))) :=
  ⟨fun pins s σ H Q I hq => thn (h.run pins s σ H _ I hq) fun u s1 ⟨v, H1, I1, rv, p, vs, e1, e2, hq⟩ => ⟨v, _, inv_hide I1 e2, rv, hq⟩⟩
/-- what an expression leaves for a slot -/
def dSl (K : PySem.W.Frag) (q : Dq) (H0 : Hp) (E : XK) (f : SEnv → Sd → R Slot) : TE := fun σ H Q => ∃ (ρ : SEnv) (n : Sd) (Q0 : Slot → Sd → Prop) (F : QE), Rel K q H0 ρ n σ H ∧ (f ρ n).wp Q0 F ∧
  (∀ v H1 sl n1, (∀ ρ2 σ2 i, i < ρ2.length → Rel K q H0 ρ2 n σ2 H → Rel K q H0 (ρ2.set i sl) n1 (σ2.set i (some v)) H1) → Fr q H H1 → Dr K q n1 H1 → Q0 sl n1 → Q v H1) ∧ ErOk K q H0 F E
structure FSl (X : Cx) (q : Dq) (H0 : Hp) (E : XK) (e : Expr) (f : SEnv → Sd → R Slot) : Prop where
  pe : PE X e (dSl X.K q H0 E f)
def fSlV (a : FE) : SEnv → Sd → R Slot := fun ρ s => (a ρ s).bind fun x s => .ok (.d x) s
def fSlO (a : FE) : SEnv → Sd → R Slot := fun ρ s => (a ρ s).bind fun x s => match x with
  | .lst xs => .ok (.own xs) s
  | _ => .bad
theorem sl_val (h : FEx X q H0 E e fa) : FSl X q H0 E e (fSlV fa) := by
  refine ⟨h.pe.imp fun σ H Q ⟨ρ, n, Q0, F, Rr, h, c, o⟩ => ?_⟩
  refine dTE_mk Rr (R.bind_wp h) (fun v H1 d n1 hd f1 R1 hq => ?_) o
  exact c v H1 (.d d) n1 (fun ρ2 σ2 i hi R2 => (R2.up f1 R1.dr).set hd (by rw [← R2.len]; exact hi)) f1 R1.dr hq
theorem sl_own (h : FNw X q H0 E e fa) : FSl X q H0 E e (fSlO fa) := by
  refine ⟨(pe_hide h.pe).imp fun σ H Q ⟨ρ, n, Q0, F, Rr, h, c, o⟩ => ?_⟩
  refine ⟨ρ, n, fun ds n1 => Q0 (.own ds) n1, F, Rr, ?_, fun p vs H1 ds n1 hp e1 hd f1 dr hq => ⟨p, vs, rfl, upd_same, ?_⟩, o⟩
  · refine R.wp_mono (R.bind_wp h) (fun x s h => ?_) fun _ _ h => h
    cases x <;> simp only at h <;> first | exact h.elim | skip
    exact ⟨_, rfl, h⟩
  · rw [upd_upd, upd_id e1]
    exact c (.ref p) H1 (.own ds) n1 (fun ρ2 σ2 i hi R2 => R2.takeN hi hp e1 hd f1 dr) f1 dr hq
/-- [..], a list of its own -/
theorem fn_lst {k : Nat} (h : FAs X q H0 E es fs) (hl : lenA fs k) (hk : k ≤ 20000 := by decide) : FNw X q H0 E (.List es pos) (fLst fs) := by
  refine ⟨(pe_lst h.pa).imp fun σ H Q ⟨ρ, n, Q0, F, Rr, h, c, o⟩ => ?_⟩
  refine dTA_mk Rr (len_imp hl (R.bind_wp h)) (fun vs H1 ds n1 hds f1 R1 ⟨z, ds', e5, hw⟩ => ⟨by rw [hds.length, z, sizeLine_eq]; omega, fun p hp => ?_⟩) o
  cases e5
  exact new_in c f1 R1.dr hp hds hw
def fParI (i j : Nat) (a b : SEnv → Sd → R Slot) : FS := fun ρ s => (a ρ s).to fun x s => (b ρ s).to fun y s => if i < ρ.length ∧ j < ρ.length then .nx ((ρ.set i x).set j y) s else .bad
def fParI3 (i j l : Nat) (a b c : SEnv → Sd → R Slot) : FS := fun ρ s => (a ρ s).to fun x s => (b ρ s).to fun y s => (c ρ s).to fun z s => if i < ρ.length ∧ j < ρ.length ∧ l < ρ.length then .nx (((ρ.set i x).set j y).set l z) s else .bad
theorem fs_parI {x y : Str} {px py pt : Pos} {kt k2 : Nat} {pt2 : Pos} (i j : Nat) (hc : X.calm = true) (hN : X.N.Nodup) (ha : FSl X q H0 E a ga) (hb : FSl X q H0 E b gb) (hi : X.N[i]? = some x := by rfl) (hj : X.N[j]? = some y := by rfl) (hij : i ≠ j := by decide)
    (hx : X.env.scope.names.lookup x = some .local := by rfl) (hy : X.env.scope.names.lookup y = some .local := by rfl)
    (hw : swappedStores [.Tuple [.Name x px, .Name y py] kt pt] (.Tuple [a, b] k2 pt2) X.env = pure (some [x, y]) := by rfl)
    (hs : swapsWithSole [.Tuple [.Name x px, .Name y py] kt pt] (.Tuple [a, b] k2 pt2) pos.line X.env = pure false := by rfl)
    (hs1 : starEach [a, b] X.env = (false, eval a X.env) :: starEach [b] X.env := by rfl) (hs2 : starEach [b] X.env = (false, eval b X.env) :: starEach [] X.env := by rfl) :
    FSt X q H0 E (.Assign [.Tuple [.Name x px, .Name y py] kt pt] (.Tuple [a, b] k2 pt2) pos) (fParI i j ga gb) := by
  refine ⟨(ps_par hc hN hi hj hij hx hy (pa_cons ha.pe (pa_cons hb.pe pa_nil hs2) hs1) hw hs).imp fun D σ H ⟨ρ, n, G, Rr, h, cn, cr, cb, cc, o⟩ => ?_⟩
  refine ⟨ρ, n, _, _, Rr, R.to_wp h, fun v H1 sl n1 k1 f1 dr1 h1 => ?_, o⟩
  refine ⟨ρ, n1, _, _, Rr.up f1 dr1, R.to_wp h1, fun w H2 sl2 n2 k2 f2 dr2 h2 => ?_, o⟩
  by_cases z : i < ρ.length ∧ j < ρ.length
  · rw [if_pos z] at h2
    exact ⟨v, w, rfl, cn _ H2 _ n2 ((f1.trans f2).x Rr.dr) (k2 _ _ j (by rw [List.length_set]; exact z.2) (k1 ρ σ i z.1 Rr)) h2⟩
  · rw [if_neg z] at h2; exact h2.elim
theorem fs_parI3 {x y z : Str} {px py pz pt : Pos} {kt k2 : Nat} {pt2 : Pos} (i j l : Nat) (hc : X.calm = true) (hN : X.N.Nodup) (ha : FSl X q H0 E a ga) (hb : FSl X q H0 E b gb) (hcc : FSl X q H0 E c gc) (hi : X.N[i]? = some x := by rfl) (hj : X.N[j]? = some y := by rfl) (hl : X.N[l]? = some z := by rfl) (hij : i ≠ j := by decide) (hil : i ≠ l := by decide) (hjl : j ≠ l := by decide)
    (hx : X.env.scope.names.lookup x = some .local := by rfl) (hy : X.env.scope.names.lookup y = some .local := by rfl) (hz : X.env.scope.names.lookup z = some .local := by rfl)
    (hw : swappedStores [.Tuple [.Name x px, .Name y py, .Name z pz] kt pt] (.Tuple [a, b, c] k2 pt2) X.env = pure (some [x, y, z]) := by rfl)
    (hs : swapsWithSole [.Tuple [.Name x px, .Name y py, .Name z pz] kt pt] (.Tuple [a, b, c] k2 pt2) pos.line X.env = pure false := by rfl)
    (hs1 : starEach [a, b, c] X.env = (false, eval a X.env) :: starEach [b, c] X.env := by rfl) (hs2 : starEach [b, c] X.env = (false, eval b X.env) :: starEach [c] X.env := by rfl) (hs3 : starEach [c] X.env = (false, eval c X.env) :: starEach [] X.env := by rfl) :
    FSt X q H0 E (.Assign [.Tuple [.Name x px, .Name y py, .Name z pz] kt pt] (.Tuple [a, b, c] k2 pt2) pos) (fParI3 i j l ga gb gc) := by
  refine ⟨(ps_par3 hc hN hi hj hl hij hil hjl hx hy hz (pa_cons ha.pe (pa_cons hb.pe (pa_cons hcc.pe pa_nil hs3) hs2) hs1) hw hs).imp fun D σ H ⟨ρ, n, G, Rr, h, cn, cr, cb, cc, o⟩ => ?_⟩
  refine ⟨ρ, n, _, _, Rr, R.to_wp h, fun v H1 sl n1 k1 f1 dr1 h1 => ?_, o⟩
  refine ⟨ρ, n1, _, _, Rr.up f1 dr1, R.to_wp h1, fun w H2 sl2 n2 k2 f2 dr2 h2 => ?_, o⟩
  refine ⟨ρ, n2, _, _, (Rr.up f1 dr1).up f2 dr2, R.to_wp h2, fun u H3 sl3 n3 k3 f3 dr3 h3 => ?_, o⟩
  by_cases z : i < ρ.length ∧ j < ρ.length ∧ l < ρ.length
  · rw [if_pos z] at h3
    obtain ⟨z1, z2, z3⟩ := z
    exact ⟨v, w, u, rfl, cn _ H3 _ n3 (((f1.trans f2).trans f3).x Rr.dr) (k3 _ _ l (by rw [List.length_set, List.length_set]; exact z3) (k2 _ _ j (by rw [List.length_set]; exact z2) (k1 ρ σ i z1 Rr))) h3⟩
  · rw [if_neg z] at h3; exact h3.elim
end
/-! what they compute -/
section
variable {ρ : SEnv} {s : Sd} {a b c : SEnv → Sd → R Slot} {fa : FE} {x y z : Slot} {d : D} {xs : List D} {i j l : Nat}
def slVA (r : R D) : R Slot := r.bind fun x s => .ok (.d x) s
def slOA (r : R D) : R Slot := r.bind fun x s => match x with
  | .lst xs => .ok (.own xs) s
  | _ => .bad
def gParI (o : Option SEnv) (j : Nat) (y : Slot) (s : Sd) : RS := match o with
  | some ρ => gNx (setS ρ j y) s
  | none => .bad
def gParI3 (o : Option SEnv) (j l : Nat) (y z : Slot) (s : Sd) : RS := match o with
  | some ρ => gParI (setS ρ j y) l z s
  | none => .bad
def parIB (x : Slot) (r : R Slot) (i j : Nat) (ρ : SEnv) : RS := r.to fun y s => gParI (setS ρ i x) j y s
def parIA (r : R Slot) (b : SEnv → Sd → R Slot) (i j : Nat) (ρ : SEnv) : RS := r.to fun x s => parIB x (b ρ s) i j ρ
def parI3C (x y : Slot) (r : R Slot) (i j l : Nat) (ρ : SEnv) : RS := r.to fun z s => gParI3 (setS ρ i x) j l y z s
def parI3B (x : Slot) (r : R Slot) (c : SEnv → Sd → R Slot) (i j l : Nat) (ρ : SEnv) : RS := r.to fun y s => parI3C x y (c ρ s) i j l ρ
def parI3A (r : R Slot) (b c : SEnv → Sd → R Slot) (i j l : Nat) (ρ : SEnv) : RS := r.to fun x s => parI3B x (b ρ s) c i j l ρ
theorem ev_slV : fSlV fa ρ s = slVA (fa ρ s) := rfl
theorem ev_slO : fSlO fa ρ s = slOA (fa ρ s) := rfl
theorem ev_slVA : slVA (.ok d s) = .ok (.d d) s := rfl
theorem ev_slOA : slOA (.ok (.lst xs) s) = .ok (.own xs) s := rfl
theorem ev_parI : fParI i j a b ρ s = parIA (a ρ s) b i j ρ := by
  unfold fParI parIA parIB
  congr 1
  funext x s
  congr 1
  funext y s
  rw [setS_eq]
  by_cases h1 : i < ρ.length
  · rw [if_pos h1]
    show _ = gNx (setS _ j _) s
    rw [setS_eq, List.length_set]
    by_cases h2 : j < ρ.length
    · rw [if_pos h2, if_pos ⟨h1, h2⟩]; rfl
    · rw [if_neg h2, if_neg fun z => h2 z.2]; rfl
  · rw [if_neg h1, if_neg fun z => h1 z.1]; rfl
theorem ev_parIA : parIA (.ok x s) b i j ρ = parIB x (b ρ s) i j ρ := rfl
theorem ev_parIB : parIB x (.ok y s) i j ρ = gParI (setS ρ i x) j y s := rfl
theorem ev_gParI : gParI (some ρ) j y s = gNx (setS ρ j y) s := rfl
theorem ev_parI3 : fParI3 i j l a b c ρ s = parI3A (a ρ s) b c i j l ρ := by
  unfold fParI3 parI3A parI3B parI3C
  congr 1
  funext x s
  congr 1
  funext y s
  congr 1
  funext z s
  rw [setS_eq]
  by_cases h1 : i < ρ.length
  · rw [if_pos h1]
    show _ = gParI (setS _ j _) l z s
    rw [setS_eq, List.length_set]
    by_cases h2 : j < ρ.length
    · rw [if_pos h2]
      show _ = gNx (setS _ l _) s
      rw [setS_eq, List.length_set, List.length_set]
      by_cases h3 : l < ρ.length
      · rw [if_pos h3, if_pos ⟨h1, h2, h3⟩]; rfl
      · rw [if_neg h3, if_neg fun z => h3 z.2.2]; rfl
    · rw [if_neg h2, if_neg fun z => h2 z.2.1]; rfl
  · rw [if_neg h1, if_neg fun z => h1 z.1]; rfl
theorem ev_parI3A : parI3A (.ok x s) b c i j l ρ = parI3B x (b ρ s) c i j l ρ := rfl
theorem ev_parI3B : parI3B x (.ok y s) c i j l ρ = parI3C x y (c ρ s) i j l ρ := rfl
theorem ev_parI3C : parI3C x y (.ok z s) i j l ρ = gParI3 (setS ρ i x) j l y z s := rfl
theorem ev_gParI3 : gParI3 (some ρ) j l y z s = gParI (setS ρ j y) l z s := rfl
def EP := And.intro @ev_slV (And.intro @ev_slO (And.intro @ev_slVA (And.intro @ev_slOA (And.intro @ev_parI (And.intro @ev_parIA (And.intro @ev_parIB (And.intro @ev_gParI (And.intro @ev_parI3 (And.intro @ev_parI3A (And.intro @ev_parI3B (And.intro @ev_parI3C @ev_gParI3)))))))))))
end
end DL
/-! L8: chained compares; sorted; two places stored at once. -/
namespace DL
open PySem PySem.Spec L2
section
variable {X : Cx} {q : Dq} {H0 : Hp} {E : XK} {e a b c : Expr} {es : List Expr} {fa fb fc : FE} {pos : Pos}
def fChain (o o' : D → D → Option D) (fa fb fc : FE) : FE := fun ρ s => (fa ρ s).bind fun x s => (fb ρ s).bind fun y s => (R.opt (o x y) s).bind fun z s => match z with
  | .bl true => (fc ρ s).bind fun w s => .opt (o' y w) s
  | .bl false => .ok (.bl false) s
  | _ => .bad
theorem chain_core {op op' : CmpOp} {o o' : D → D → Option D} (ho : OpF X q (compareOp op) o) (ho' : OpF X q (compareOp op') o') : ∃ r r', OpR X (compareOp op) r ∧ OpR X (compareOp op') r' ∧
    ∀ σ H Q, dTE X.K q H0 E (rd (fChain o o' fa fb fc)) σ H Q → tChain r r' (dTE X.K q H0 E (rd fa)) (dTE X.K q H0 E (rd fb)) (dTE X.K q H0 E (rd fc)) σ H Q := by
  obtain ⟨od, h1, k1⟩ := ho.ex
  obtain ⟨r, p, k2⟩ := h1.ex
  obtain ⟨od', h1', k1'⟩ := ho'.ex
  obtain ⟨r', p', k2'⟩ := h1'.ex
  refine ⟨r, r', p, p', fun σ H Q ⟨ρ, n, Q0, F, Rr, h, c, oo⟩ => ?_⟩
  refine dTE_mk Rr (R.bind_wp h) (fun x H1 dx n1 hx f1 R1 h1 => ?_) oo
  refine dTE_mk R1 (R.bind_wp h1) (fun y H2 dy n2 hy f2 R2 h2 => ?_) oo
  obtain ⟨z, ez, h3⟩ := R.opt_wp (R.bind_wp h2)
  refine k2 H2 x y dx dy (fun d => d = z) _ (hx.up (f2.x R1.dr)) hy (k1 _ _ z _ ez rfl) fun v H3 d hd s3 ed => ?_
  subst ed
  obtain ⟨k, rfl⟩ : ∃ k, d = .bl k := by
    cases d <;> first | exact ⟨_, rfl⟩ | exact (show False from h3).elim
  have R3 := R2.same s3
  have ev : v = .bl k := by cases hd; rfl
  subst ev
  cases k with
  | false =>
    refine ⟨false, rfl, ?_⟩
    exact c _ H3 _ n2 hd ((f1.trans f2).trans (.of_same s3)) R3 h3
  | true =>
    refine ⟨true, rfl, ?_⟩
    refine dTE_mk R3 (R.bind_wp h3) (fun w H4 dw n4 hw f4 R4 h4 => ?_) oo
    obtain ⟨u, eu, h5⟩ := R.opt_wp h4
    refine k2' H4 y w dy dw (fun d => d = u) _ ((hy.up (.of_same s3)).up (f4.x R3.dr)) hw (k1' _ _ u _ eu rfl) fun v5 H5 d5 hd5 s5 ed5 => ?_
    subst ed5
    exact c _ H5 _ n4 hd5 ((((f1.trans f2).trans (.of_same s3)).trans f4).trans (.of_same s5)) (R4.same s5) h5
theorem fe_chain {op op' : CmpOp} {o o' : D → D → Option D} (ho : OpF X q (compareOp op) o) (ho' : OpF X q (compareOp op') o') (ha : FEx X q H0 E a fa) (hb : FEx X q H0 E b fb) (hc : FEx X q H0 E c fc)
    (hm : lastMarks [op, op'] [b, c] = false := by with_unfolding_all rfl) : FEx X q H0 E (.Compare a [op, op'] [b, c] pos) (fChain o o' fa fb fc) := by
  obtain ⟨r, r', p, p', k⟩ := chain_core (fa := fa) (fb := fb) (fc := fc) (H0 := H0) (E := E) ho ho'
  exact ⟨(pe_chain p p' ha.pe hb.pe hc.pe hm).imp fun σ H Q h => k σ H Q h⟩
theorem ft_chain {op op' : CmpOp} {o o' : D → D → Option D} (ho : OpF X q (compareOp op) o) (ho' : OpF X q (compareOp op') o') (ha : FEx X q H0 E a fa) (hb : FEx X q H0 E b fb) (hc : FEx X q H0 E c fc)
    (hm : lastMarks [op, op'] [b, c] = false := by with_unfolding_all rfl) : FTe X q H0 E (.Compare a [op, op'] [b, c] pos) (fVal (fChain o o' fa fb fc)) := by
  obtain ⟨r, r', p, p', k⟩ := chain_core (fa := fa) (fb := fb) (fc := fc) (H0 := H0) (E := E) ho ho'
  refine ⟨(pt_chain p p' ha.pe hb.pe hc.pe hm).imp fun σ H Q ⟨ρ, n, Q0, F, Rr, h, c, oo⟩ => ?_⟩
  refine k σ H _ (dTE_mk Rr (R.bind_wp h) (fun x H1 dx n1 hx f1 R1 h1 => ?_) oo)
  obtain ⟨t, et, h2⟩ := R.opt_wp h1
  have e := toBl_eq et
  subst e
  have ev : x = .bl t := by cases hx; rfl
  subst ev
  exact ⟨t, rfl, c _ H1 n1 f1 R1 h2⟩
end
/-! sorted -/
section
open PyProof.Rows
variable {prog : Program} {w : World} {A : Around} {E : Value → Shared → Prop} {s : Shared}
theorem collect_tup {l : Addr} {vs : List Value} {Q : List Value → Shared → Prop} (hl : IsTup s.heap l vs.toArray)
    (h : Q vs { s with heap := (s.heap.push (seqObj "list" #[] 0)).update s.heap.objs.size (Obj.mapSeq (· ++ vs.toArray)) }) (hsz : vs.length ≤ sizeLine) :
    wpAny (model prog w) A (collect (.ref l)) Q E s := by
  obtain ⟨o, ho, hc, n, hd⟩ := id hl
  unfold collect
  refine wpAny_bind (wpAny_runValue (codeAny_builtin entry_proto_collect' ?_))
  show wpAny _ _ (do again (.builtin "list.__iadd__" ⟨[← newList [], .ref l], []⟩)) _ _ s
  refine wpAny_bind (wpAny_newList (wpAny_pure ⟨Code.quiet_builtin _ (by decide +kernel), codeAny_builtin entry_list_iadd' ?_⟩))
  show wpAny _ _ (Builtin.List.listExtendWith (.ref s.heap.objs.size) (.ref l) (.ref s.heap.objs.size)) _ _ { s with heap := s.heap.push (seqObj "list" #[] 0) }
  unfold Builtin.List.listExtendWith
  have ho' : (s.heap.push (seqObj "list" #[] 0)).get? l = some o := Heap.get?_push_of_some _ ho
  refine wpAny_bind (wpAny_typeOf (T := "tuple") ⟨o, ho', hc⟩ ?_)
  have ht : (Value.type "tuple" == Value.type "tuple") = true := by rfl
  rw [if_pos (by rw [ht]; simp)]
  refine wpAny_bind (listItems_at ho' hd ?_)
  refine wpAny_bind (listItems_at (xs := #[]) (n := 0) (Heap.get?_push_size _ rfl) rfl ?_)
  rw [if_neg (by simp)]
  refine wpAny_bind (listUpdate_at (xs := #[]) (n := 0) (Heap.get?_push_size _ rfl) rfl ?_ (Nat.zero_le _) (by show (#[] ++ vs.toArray).size ≤ sizeLine + 1; simp only [Array.size_append, List.size_toArray, List.length_nil]; omega))
  refine wpAny_pure ?_
  show wpAny (model prog w) A (do
      let o ← load s.heap.objs.size
      match o.data with
      | .seq xs _ => pure xs.toList
      | _ => unsupported "internal:collect") Q E { s with heap := (s.heap.push (seqObj "list" #[] 0)).update s.heap.objs.size (Obj.mapSeq (· ++ vs.toArray)) }
  refine wpAny_bind (wpAny_load (get?_update_seq (Heap.get?_push_size _ rfl) _) ?_)
  show wpAny _ _ (pure ((#[] : Array Value) ++ vs.toArray).toList) Q E _
  rw [show ((#[] : Array Value) ++ vs.toArray).toList = vs by simp]
  exact wpAny_pure h
theorem sorted_tup {l : Addr} {vs : List Value} {ns : List Int} {Q : Value → Shared → Prop} (hl : IsTup s.heap l vs.toArray) (hI : IntsAre vs ns) (h64 : vs.length < 64)
    (h : ∀ (out : Array Value) (ns' : List Int), IntsAre out.toList ns' → ns'.Perm ns → ns'.Pairwise (· ≤ ·) → Q (.ref (s.heap.objs.size + 1)) { s with heap := sortedAll s.heap vs out }) :
    wpAny (model prog w) A (call (.builtin "sorted") [.ref l]) Q E s := by
  refine Calls.call_function_entry kind_sorted plain_sorted entry_sorted (args_sorted1 _) ?_
  unfold Builtin.«sorted»
  refine wpAny_bind (m := checkCount "sorted" 1 1 _) (wpAny_pure ?_)
  refine wpAny_bind (collect_tup hl ?_ (by rw [sizeLine_eq]; omega))
  refine wpAny_bind (wpAny_newList ?_)
  have hsz : ((s.heap.push (seqObj "list" #[] 0)).update s.heap.objs.size (Obj.mapSeq (· ++ vs.toArray))).objs.size = s.heap.objs.size + 1 := by
    rw [Heap.size_update, size_push']
  have hoL : (((s.heap.push (seqObj "list" #[] 0)).update s.heap.objs.size (Obj.mapSeq (· ++ vs.toArray))).push (seqObj "list" vs.toArray 0)).get? (s.heap.objs.size + 1) = some (seqObj "list" vs.toArray 0) := by
    rw [← hsz]; exact Heap.get?_push_size _ rfl
  show wpAny _ _ _ _ _ { s with heap := ((s.heap.push (seqObj "list" #[] 0)).update s.heap.objs.size (Obj.mapSeq (· ++ vs.toArray))).push (seqObj "list" vs.toArray 0) }
  rw [hsz]
  refine wpAny_bind (wpAny_holding (wpAny_call_entry slot_list_sort ⟨_, hoL, rfl⟩ entry_list_sort (list_sort_tree hoL hI h64 fun out ns' a1 a2 a3 => ⟨_, rfl, ?_⟩) (args_list_sort _)))
  exact wpAny_pure ⟨_, rfl, h out ns' a1 a2 a3⟩
end
def insI (x : Int) : List Int → List Int
  | [] => [x]
  | y :: l => if x ≤ y then x :: y :: l else y :: insI x l
def sortI : List Int → List Int
  | [] => []
  | x :: l => insI x (sortI l)
theorem insI_perm (x : Int) : ∀ l : List Int, (insI x l).Perm (x :: l)
  | [] => .refl _
  | y :: l => by
    unfold insI
    split
    · exact .refl _
    · exact ((insI_perm x l).cons y).trans (.swap x y l)
theorem sortI_perm : ∀ l : List Int, (sortI l).Perm l
  | [] => .nil
  | x :: l => (insI_perm x (sortI l)).trans ((sortI_perm l).cons x)
theorem insI_sorted (x : Int) : ∀ {l : List Int}, l.Pairwise (· ≤ ·) → (insI x l).Pairwise (· ≤ ·)
  | [], _ => by unfold insI; exact List.pairwise_singleton _ _
  | y :: l, h => by
    have h' := List.pairwise_cons.mp h
    unfold insI
    split
    · rename_i g
      refine List.pairwise_cons.mpr ⟨fun z hz => ?_, h⟩
      rcases List.mem_cons.mp hz with rfl | hz
      · exact g
      · exact Int.le_trans g (h'.1 z hz)
    · rename_i g
      refine List.pairwise_cons.mpr ⟨fun z hz => ?_, insI_sorted x h'.2⟩
      rcases List.mem_cons.mp ((insI_perm x l).mem_iff.mp hz) with rfl | hz
      · omega
      · exact h'.1 z hz
theorem sortI_sorted : ∀ l : List Int, (sortI l).Pairwise (· ≤ ·)
  | [] => .nil
  | x :: l => insI_sorted x (sortI_sorted l)
theorem sorted_uniq : ∀ {l m : List Int}, l.Perm m → l.Pairwise (· ≤ ·) → m.Pairwise (· ≤ ·) → l = m
  | [], m, p, _, _ => by rw [List.nil_perm.mp p]
  | x :: l, [], p, _, _ => absurd p.length_eq (by simp)
  | x :: l, y :: m, p, hl, hm => by
    have h1 := List.pairwise_cons.mp hl
    have h2 := List.pairwise_cons.mp hm
    have e : x = y := by
      have hx : x ∈ y :: m := p.mem_iff.mp (List.mem_cons_self ..)
      have hy : y ∈ x :: l := p.mem_iff.mpr (List.mem_cons_self ..)
      rcases List.mem_cons.mp hx with rfl | hx
      · rfl
      · rcases List.mem_cons.mp hy with rfl | hy
        · rfl
        · have := h2.1 x hx; have := h1.1 y hy; omega
    subst e
    rw [sorted_uniq ((List.perm_cons x).mp p) h1.2 h2.2]
def intsD : List D → Option (List Int)
  | [] => some []
  | .int i :: ds => (intsD ds).map (i :: ·)
  | _ => none
theorem intsD_eq : ∀ {ds : List D} {ns : List Int}, intsD ds = some ns → ds = ns.map D.int
  | [], _, h => by cases h; rfl
  | d :: ds, ns, h => by
    cases d <;> simp only [intsD] at h <;> first | (cases h; done) | skip
    obtain ⟨ms, h1, rfl⟩ := Option.map_eq_some_iff.mp h
    rw [intsD_eq h1]; rfl
def sortedF : List D → Option D
  | [.lst ds] => (intsD ds).bind fun ns => if ns.length < 64 then some (.lst ((sortI ns).map D.int)) else none
  | [.tup ds] => (intsD ds).bind fun ns => if ns.length < 64 then some (.lst ((sortI ns).map D.int)) else none
  | _ => none
section
variable {X : Cx} {q : Dq}
theorem call_sorted : CallR X (.builtin "sorted") (fun vs H Q => ∃ (a : Addr) (ns : List Int), vs = [V.ref a] ∧ (SqL X.K H a (ns.map V.int) ∨ SqT X.K H a (ns.map V.int)) ∧ ns.length < 64 ∧
    ∀ p, H p = none → Q (.ref p) (upd H p (.lst ((sortI ns).map V.int)))) := by
  intro pins s σ H vs us Q I r h
  obtain ⟨a, ns, rfl, hs, h64, hq⟩ := h
  rcases hs with hs | hs
  · refine cr_sorted pins s σ H [.ref a] us Q I r ⟨a, ns, rfl, hs, h64, fun ns' p h1 h2 hp => ?_⟩
    rw [sorted_uniq (h1.trans (sortI_perm ns).symm) h2 (sortI_sorted ns)]
    exact hq p hp
  · obtain ⟨its, rv, hl, _⟩ := I.tuple hs
    rw [Vals.ref1 r]
    have hi := rv.ints
    refine sorted_tup hl hi (by rw [hi.length]; exact h64) fun out ns' h1 h2 h3 => ?_
    obtain ⟨ep, he'⟩ := PyProof.Rows.sortedAll_at s.heap its out
    have hlen : (ns'.map V.int).length ≤ sizeLine := by rw [List.length_map, h2.length_eq]; exact small64 h64
    have e := sorted_uniq (h2.trans (sortI_perm ns).symm) h3 (sortI_sorted ns)
    have hq' := hq (s.heap.objs.size + 1) (I.hok.fresh (Nat.le_succ _))
    rw [← e] at hq'
    exact ⟨.ref _, upd H (s.heap.objs.size + 1) (.lst (ns'.map V.int)), I.laid (t' := s.toks) (fun _ _ => PyProof.Rows.sortedAll_old) (Nat.le_succ _) ⟨hlen, out.toList, ep, vals_of_ints h1, he'⟩, rfl, hq'⟩
theorem dtAll_ints {K : PySem.W.Frag} {H : Hp} : ∀ {vs : List V} {ns : List Int}, DtAll K q H vs (ns.map D.int) → vs = ns.map V.int
  | [], [], _ => rfl
  | v :: vs, n :: ns, h => by
    cases h with
    | cons h t =>
      cases h
      rw [dtAll_ints t]; rfl
  | [], n :: ns, h => by cases h
  | v :: vs, [], h => by cases h
theorem dtAll_mk {K : PySem.W.Frag} {H : Hp} : ∀ ns : List Int, DtAll K q H (ns.map V.int) (ns.map D.int)
  | [] => .nil
  | n :: ns => .cons (.int n) (dtAll_mk ns)
def cSorted (ds : List D) (P : D → Prop) : Prop := ∃ z, sortedF ds = some z ∧ P z
theorem cd_sorted : CallD X q (.builtin "sorted") cSorted := ⟨_, call_sorted, fun H xs ds Q0 Q hds h c => by
  obtain ⟨z, ez, hz⟩ := h
  match ds, hds, ez with
  | [.lst ds], hds, ez =>
    cases hds with
    | cons hd ht =>
      cases ht
      obtain ⟨ns, e1, e2⟩ := Option.bind_eq_some_iff.mp ez
      have e3 := intsD_eq e1
      subst e3
      split at e2 <;> cases e2
      cases hd with
      | lst ha va =>
        have e4 := dtAll_ints va
        subst e4
        refine ⟨_, ns, rfl, .inl (SqL.of ha), by assumption, fun p hp => c _ _ _ (.lst upd_same (dtAll_mk _)) (same_upd hp) hz⟩
  | [.tup ds], hds, ez =>
    cases hds with
    | cons hd ht =>
      cases ht
      obtain ⟨ns, e1, e2⟩ := Option.bind_eq_some_iff.mp ez
      have e3 := intsD_eq e1
      subst e3
      split at e2 <;> cases e2
      cases hd with
      | tup ha va =>
        have e4 := dtAll_ints va
        subst e4
        refine ⟨_, ns, rfl, .inr ha, by assumption, fun p hp => c _ _ _ (.lst upd_same (dtAll_mk _)) (same_upd hp) hz⟩⟩
theorem cf_sorted : CallF X q (.builtin "sorted") sortedF := ⟨_, cd_sorted, fun ds z P e h => ⟨z, e, h⟩⟩
end
/-! what they compute -/
section
variable {ρ : SEnv} {s : Sd} {fa fb fc : FE} {o o' : D → D → Option D} {x y z w : D}
def chA (r : R D) (o o' : D → D → Option D) (fb fc : FE) (ρ : SEnv) : R D := r.bind fun x s => (fb ρ s).bind fun y s => (R.opt (o x y) s).bind fun z s => match z with
  | .bl true => (fc ρ s).bind fun w s => .opt (o' y w) s
  | .bl false => .ok (.bl false) s
  | _ => .bad
def chB (x : D) (r : R D) (o o' : D → D → Option D) (fc : FE) (ρ : SEnv) : R D := r.bind fun y s => (R.opt (o x y) s).bind fun z s => match z with
  | .bl true => (fc ρ s).bind fun w s => .opt (o' y w) s
  | .bl false => .ok (.bl false) s
  | _ => .bad
def chC (y : D) (z : Option D) (s : Sd) (o' : D → D → Option D) (fc : FE) (ρ : SEnv) : R D := (R.opt z s).bind fun z s => match z with
  | .bl true => (fc ρ s).bind fun w s => .opt (o' y w) s
  | .bl false => .ok (.bl false) s
  | _ => .bad
def chD (y : D) (r : R D) (o' : D → D → Option D) : R D := r.bind fun w s => .opt (o' y w) s
theorem ev_chain : fChain o o' fa fb fc ρ s = chA (fa ρ s) o o' fb fc ρ := rfl
theorem ev_chA : chA (.ok x s) o o' fb fc ρ = chB x (fb ρ s) o o' fc ρ := rfl
theorem ev_chB : chB x (.ok y s) o o' fc ρ = chC y (o x y) s o' fc ρ := rfl
theorem ev_chCt : chC y (some (.bl true)) s o' fc ρ = chD y (fc ρ s) o' := rfl
theorem ev_chCf : chC y (some (.bl false)) s o' fc ρ = .ok (.bl false) s := rfl
theorem ev_chD : chD y (.ok w s) o' = .opt (o' y w) s := rfl
def EC := And.intro @ev_chain (And.intro @ev_chA (And.intro @ev_chB (And.intro @ev_chCt (And.intro @ev_chCf @ev_chD))))
end
end DL
/-! L9: two places of owned lists stored at once. -/
namespace DL
open PySem PySem.Spec L2
section
variable {X : Cx} {q : Dq} {H0 : Hp} {E : XK} {a b ka kb : Expr} {fa fb ga gb fk : FE} {pos : Pos}
theorem put_core {i : Nat} {ρ : SEnv} {n1 : Sd} {σ : L2.St} {H1 : Hp} {v : V} {d : D} {G : EndsD} {Q : L2.St → Hp → Prop} {te : TE} (hte : te = dTE X.K q H0 E (rd fk)) (R1 : Rel X.K q H0 ρ n1 σ H1) (hd : Dt X.K q H1 v d) (h : (fOwnSet i fk (fC d) ρ n1).wp G) (o : ErOk X.K q H0 G.ex E)
    (c : ∀ ρ' H2 n2, FrX H1 H2 → Rel X.K q H0 ρ' n2 σ H2 → G.nx ρ' n2 → Q σ H2) : ∃ x, σ[i]? = some (some x) ∧ te σ H1 fun k H2 => rSetM x k v H2 fun H3 => Q σ H3 := by
  subst hte
  unfold fOwnSet at h
  split at h
  · rename_i ds e0
    obtain ⟨p, vs, e1, e2, e3, e4, e5⟩ := R1.ownAt e0
    refine ⟨_, e1, ?_⟩
    have h' := R.to_wp h
    refine dTE_mk R1 (R.to_wp h') (fun kv H2 kd n2 hk2 f2 R2 h2 => ?_) o
    cases kd <;> first | exact (show False from h2).elim | skip
    rename_i z
    simp only at h2
    split at h2
    · rename_i j e7
      cases hk2
      have fx := f2.x R1.dr
      have e8 : H2 p = some (MutL p vs) := f2 p _ e2 e5
      have hvs := e4.up fx
      exact ⟨p, vs, z, j, rfl, rfl, e8, by rw [e4.length]; exact e7, c _ _ n2 (fx.trans (frx_mut e8 _)) (R2.mut e0 e1 e8 (hvs.set j (hd.up fx))) h2⟩
    · exact h2.elim
  · exact h.elim
def fSubs2 (i j : Nat) (ga gb fa fb : FE) : FS := fun ρ s => (fa ρ s).to fun x s => (fb ρ s).to fun y s => fSeq (fOwnSet i ga (fC x)) (fOwnSet j gb (fC y)) ρ s
theorem fs_subs2 (i j : Nat) {x y : Str} {px py tp tp2 pt pt2 : Pos} {kt k2 : Nat} (hc : X.calm = true) (hka : FEx X q H0 E ka ga) (hkb : FEx X q H0 E kb gb) (ha : FEx X q H0 E a fa) (hb : FEx X q H0 E b fb)
    (hN : X.N[i]? = some x := by rfl) (hv : Vis X.env.scope x := by first | exact Or.inl rfl | exact Or.inr (Or.inl rfl) | exact Or.inr (Or.inr rfl)) (hd : (x == ("__debug__" : Str)) = false := by decide) (hcd : (x == ("__classdict__" : Str)) = false := by decide)
    (hN2 : X.N[j]? = some y := by rfl) (hv2 : Vis X.env.scope y := by first | exact Or.inl rfl | exact Or.inr (Or.inl rfl) | exact Or.inr (Or.inr rfl)) (hd2 : (y == ("__debug__" : Str)) = false := by decide) (hcd2 : (y == ("__classdict__" : Str)) = false := by decide)
    (as1 : ∀ v, assign (.Subscript (.Name x px) ka tp) X.env v = (do
      let ov ← holding [v] (eval (.Name x px) X.env)
      let iv ← holding [v, ov] (eval ka X.env)
      standAt tp
      holding [v, ov, iv] (setItem ov iv v)
      release [v, ov, iv] []) := by intro _; rfl)
    (as2 : ∀ v, assign (.Subscript (.Name y py) kb tp2) X.env v = (do
      let ov ← holding [v] (eval (.Name y py) X.env)
      let iv ← holding [v, ov] (eval kb X.env)
      standAt tp2
      holding [v, ov, iv] (setItem ov iv v)
      release [v, ov, iv] []) := by intro _; rfl)
    (hs1 : starEach [a, b] X.env = (false, eval a X.env) :: starEach [b] X.env := by rfl) (hs2 : starEach [b] X.env = (false, eval b X.env) :: starEach [] X.env := by rfl)
    (ht1 : (assignEach [.Subscript (.Name x px) ka tp, .Subscript (.Name y py) kb tp2] X.env).map (·.2) = assign (.Subscript (.Name x px) ka tp) X.env :: (assignEach [.Subscript (.Name y py) kb tp2] X.env).map (·.2) := by rfl)
    (ht2 : (assignEach [.Subscript (.Name y py) kb tp2] X.env).map (·.2) = assign (.Subscript (.Name y py) kb tp2) X.env :: (assignEach [] X.env).map (·.2) := by rfl)
    (hn : (assignEach [.Subscript (.Name x px) ka tp, .Subscript (.Name y py) kb tp2] X.env).length = 2 := by rfl) (hst : (assignEach [.Subscript (.Name x px) ka tp, .Subscript (.Name y py) kb tp2] X.env).findIdx? (·.1) = none := by rfl)
    (hs : swapsWithSole [.Tuple [.Subscript (.Name x px) ka tp, .Subscript (.Name y py) kb tp2] kt pt] (.Tuple [a, b] k2 pt2) pos.line X.env = pure false := by rfl) (hw : swappedStores [.Tuple [.Subscript (.Name x px) ka tp, .Subscript (.Name y py) kb tp2] kt pt] (.Tuple [a, b] k2 pt2) X.env = pure none := by rfl)
    (h1 : (assignEach [.Tuple [.Subscript (.Name x px) ka tp, .Subscript (.Name y py) kb tp2] kt pt] X.env).map (·.2) = [assign (.Tuple [.Subscript (.Name x px) ka tp, .Subscript (.Name y py) kb tp2] kt pt) X.env] := by rfl) :
    FSt X q H0 E (.Assign [.Tuple [.Subscript (.Name x px) ka tp, .Subscript (.Name y py) kb tp2] kt pt] (.Tuple [a, b] k2 pt2) pos) (fSubs2 i j ga gb fa fb) := by
  refine ⟨(ps_asg (pe_tup (pa_cons ha.pe (pa_cons hb.pe pa_nil hs2) hs1)) (pg_tup (k := kt) hc (pgs_cons (pg_sub (pe_var hN hv hd hcd) hka.pe set_mut as1) (pgs_cons (pg_sub (pe_var hN2 hv2 hd2 hcd2) hkb.pe set_mut as2) pgs_nil ht2) ht1) hn hst) hs hw h1).imp fun D σ H ⟨ρ, n, G, Rr, h, cn, cr, cb, cc, o⟩ => ?_⟩
  refine dTE_mk Rr (R.to_wp h) (fun v H1 d n1 hd f1 R1 h1 => ?_) o
  refine dTE_mk R1 (R.to_wp h1) (fun w H2 d2 n2 hd2 f2 R2 h2 => ?_) o
  refine ⟨by rw [sizeLine_eq]; show 2 ≤ _; decide, fun p hp => ?_⟩
  have s := same_upd (o := .tup [v, w]) hp
  have R3 := R2.same s
  refine ⟨p, [v, w], rfl, SqT.of upd_same, rfl, v, [w], rfl, ?_⟩
  have dv : Dt X.K q (upd H2 p (.tup [v, w])) v d := (hd.up (f2.x R1.dr)).up (.of_same s)
  have dw : Dt X.K q (upd H2 p (.tup [v, w])) w d2 := hd2.up (.of_same s)
  have f3 : FrX H (upd H2 p (.tup [v, w])) := ((f1.trans f2).trans (.of_same s)).x Rr.dr
  have h3 : (((fOwnSet i ga (fC d)) ρ n2).then (fOwnSet j gb (fC d2))).wp G := h2
  have h4 : ((fOwnSet i ga (fC d)) ρ n2).wp { G with nx := fun ρ n => (fOwnSet j gb (fC d2) ρ n).wp G } := by
    cases e : (fOwnSet i ga (fC d)) ρ n2 <;> rw [e] at h3 <;> exact h3
  refine put_core (Q := fun σ' H' => L2.gCons (gSub (tVar j) (dTE X.K q H0 E (rd gb)) rSetM) L2.gNil [w] σ' H' D.nx) rfl R3 dv h4 o fun ρ' H4 n4 f4 R4 h5 => ?_
  refine ⟨w, [], rfl, ?_⟩
  exact put_core (Q := fun σ' H' => L2.gNil [] σ' H' D.nx) rfl R4 (dw.up f4) h5 o fun ρ2 H5 n5 f5 R5 h6 => ⟨rfl, cn _ _ ρ2 n5 ((f3.trans f4).trans f5) R5 h6⟩
end
section
variable {ρ : SEnv} {s : Sd} {fa fb ga gb : FE} {x y : D} {i j : Nat}
def sub2A (r : R D) (i j : Nat) (ga gb fb : FE) (ρ : SEnv) : RS := r.to fun x s => (fb ρ s).to fun y s => fSeq (fOwnSet i ga (fC x)) (fOwnSet j gb (fC y)) ρ s
def sub2B (x : D) (r : R D) (i j : Nat) (ga gb : FE) (ρ : SEnv) : RS := r.to fun y s => fSeq (fOwnSet i ga (fC x)) (fOwnSet j gb (fC y)) ρ s
theorem ev_subs2 : fSubs2 i j ga gb fa fb ρ s = sub2A (fa ρ s) i j ga gb fb ρ := rfl
theorem ev_sub2A : sub2A (.ok x s) i j ga gb fb ρ = sub2B x (fb ρ s) i j ga gb ρ := rfl
theorem ev_sub2B : sub2B x (.ok y s) i j ga gb ρ = fSeq (fOwnSet i ga (fC x)) (fOwnSet j gb (fC y)) ρ s := rfl
end
end DL
/-! L10: repr of a dict of whole numbers. -/
namespace DL
open PySem PySem.Spec L2
def intsKv : List (Key × D) → Option (List (Int × Int))
  | [] => some []
  | (.inl i, .int j) :: l => (intsKv l).map ((i, j) :: ·)
  | _ => none
theorem intsKv_eq : ∀ {l : List (Key × D)} {ns : List (Int × Int)}, intsKv l = some ns → l = ns.map fun p => (.inl p.1, D.int p.2)
  | [], _, h => by cases h; rfl
  | (k, d) :: l, ns, h => by
    cases k <;> cases d <;> simp only [intsKv] at h <;> first | (cases h; done) | skip
    obtain ⟨ms, h1, rfl⟩ := Option.map_eq_some_iff.mp h
    rw [intsKv_eq h1]; rfl
theorem dtKv_ints {K : PySem.W.Frag} {q : Dq} {H : Hp} : ∀ {vs : List (Key × V)} {ns : List (Int × Int)}, DtKv K q H vs (ns.map fun p => (.inl p.1, D.int p.2)) → vs = ns.map fun p => (.inl p.1, V.int p.2)
  | _, [], h => by cases h; rfl
  | _, n :: ns, h => by
    cases h with
    | cons h t =>
      cases h
      rw [dtKv_ints t]; rfl
theorem pyk_ints : ∀ ns : List (Int × Int), D.pyk (ns.map fun p => (.inl p.1, D.int p.2)) = ns.map fun p => (PyData.int p.1, PyData.int p.2)
  | [] => rfl
  | n :: ns => by
    rw [List.map_cons, List.map_cons]
    simp only [D.pyk, D.py]
    rw [pyk_ints ns]
theorem reads_kv {P : Program} {w : World} {h : Heap} : ∀ {es : List DictEntry} {vs : List (Key × Value)} {ns : List (Int × Int)}, Pairs (mixKind P w) es vs → KV (ns.map fun p => ((.inl p.1 : Key), V.int p.2)) vs →
    ReadsAll h (es.map (·.key)) (ns.map fun p => PyData.int p.1) [] ∧ ReadsAll h (es.map (·.val)) (ns.map fun p => PyData.int p.2) []
  | _, _, [], p, k => by
    cases k
    cases p
    exact ⟨.nil, .nil⟩
  | _, _, n :: ns, p, k => by
    cases k with
    | cons hk tk =>
      cases p with
      | cons h1 h2 tp =>
        obtain ⟨r1, r2⟩ := reads_kv (h := h) tp tk
        obtain ⟨e1, e2⟩ := hk
        rw [← e1] at h1
        have h1' : keyIs (.inl n.1) _ = true := h1
        rcases keyIs_shape h1' with ⟨i, t, e3, e4⟩ | ⟨x, t, e3, e4⟩
        · cases e3
          obtain ⟨t2, e5⟩ := e2
          rw [List.map_cons, List.map_cons, List.map_cons, List.map_cons, e4, h2, e5]
          exact ⟨.cons (.int _ _) r1, .cons (.int _ _) r2⟩
        · cases e3
def reprDF : List D → Option D
  | [.dct l] => if (intsKv l).isSome = true ∧ (D.dct l).py.showable = true ∧ (D.dct l).py.shown.length ≤ 1000 ∧ (D.dct l).py.depth ≤ 60 then some (.str (D.dct l).py.shown) else none
  | ds => reprF ds
section
variable {X : Cx} {q : Dq}
theorem call_reprD {k : Nat} (hr : Room k X.A) (hg : X.A.guards = some []) : CallR X (.builtin "repr") (fun xs H Q => ∃ (a : Addr) (ns : List (Int × Int)), xs = [V.ref a] ∧ H a = some (.dK (ns.map fun p => ((.inl p.1 : Key), V.int p.2))) ∧
    (D.dct (ns.map fun p => (.inl p.1, D.int p.2))).py.showable = true ∧ (D.dct (ns.map fun p => (.inl p.1, D.int p.2))).py.shown.length ≤ 1000 ∧ (D.dct (ns.map fun p => (.inl p.1, D.int p.2))).py.depth ≤ 60 ∧
    Q (.str (D.dct (ns.map fun p => (.inl p.1, D.int p.2))).py.shown) H) := by
  intro pins s σ H xs us Q I r h
  obtain ⟨a, ns, rfl, hd, h1, h2, h3, z⟩ := h
  rw [Vals.ref1 r]
  obtain ⟨_, hsys, vs, kv, ob, es, ep, g1, g2, g3, _, pr, _⟩ := dk_of I.hok hd
  obtain ⟨r1, r2⟩ := reads_kv (h := s.heap) pr kv
  have rd : Reads s.heap (.ref a) (D.dct (ns.map fun p => (.inl p.1, D.int p.2))).py (a :: [] ++ []) := by
    simp only [D.py]
    rw [pyk_ints]
    refine .dict g1 g2.1 g3 ?_ ?_
    · rw [List.map_map]; exact r1
    · rw [List.map_map]; exact r2
  have hu := hr.units
  refine repr_of_reads' rd h1 (fun _ hm => ?_) hg (by omega) (fun _ _ e => e) (fun h' v tk hk => ?_) (by rw [sizeLine_eq]; omega)
  · simp only [List.append_nil, List.mem_singleton] at hm
    rw [hm] at hsys
    simp at hsys
  · exact ⟨.str _, H, I.kept hk, ⟨v, rfl⟩, z⟩
def cReprD (ds : List D) (P : D → Prop) : Prop := ∃ z, reprDF ds = some z ∧ P z
theorem cd_reprD {k : Nat} (hr : Room k X.A) (hg : X.A.guards = some []) : CallD X q (.builtin "repr") cReprD := by
  obtain ⟨cd, h0, k0⟩ := cf_repr (X := X) (q := q) hr hg
  obtain ⟨r0, p0, k1⟩ := h0.ex
  refine ⟨_, p0.or (call_reprD hr hg), fun H xs ds Q0 Q hds h c => ?_⟩
  obtain ⟨z, ez, hz⟩ := h
  by_cases g : ∃ l, ds = [.dct l]
  · obtain ⟨l, rfl⟩ := g
    right
    have ez' : (if (intsKv l).isSome = true ∧ (D.dct l).py.showable = true ∧ (D.dct l).py.shown.length ≤ 1000 ∧ (D.dct l).py.depth ≤ 60 then some (D.str (D.dct l).py.shown) else none) = some z := ez
    by_cases hh : (intsKv l).isSome = true ∧ (D.dct l).py.showable = true ∧ (D.dct l).py.shown.length ≤ 1000 ∧ (D.dct l).py.depth ≤ 60
    · rw [if_pos hh] at ez'
      obtain ⟨h1, h2, h3, h4⟩ := hh
      cases ez'
      obtain ⟨ns, e1⟩ := Option.isSome_iff_exists.mp h1
      have e2 := intsKv_eq e1
      subst e2
      cases hds with
      | cons hd ht =>
        cases ht
        cases hd with
        | dct ha va =>
          have e4 := dtKv_ints va
          subst e4
          exact ⟨_, ns, rfl, ha, h2, h3, h4, c _ H _ (.str _) (.refl _) hz⟩
    · rw [if_neg hh] at ez'; cases ez'
  · left
    have e : reprF ds = some z := by
      unfold reprDF at ez
      split at ez
      · exact absurd ⟨_, rfl⟩ g
      · exact ez
    exact k1 H xs ds Q0 Q hds (k0 ds z Q0 e hz) c
theorem cf_reprD {k : Nat} (hr : Room k X.A) (hg : X.A.guards = some []) : CallF X q (.builtin "repr") reprDF := ⟨_, cd_reprD hr hg, fun ds z P e h => ⟨z, e, h⟩⟩
end
end DL
namespace Lw
open PySem PySem.Spec L2 DL
noncomputable abbrev b_is_integer : FS := H.b_is_integer
noncomputable abbrev m_is_integer : SpF := H.m_is_integer
noncomputable abbrev b_is_within : FS := H.b_is_within
noncomputable abbrev m_is_within : SpF := H.m_is_within
noncomputable abbrev b_is_list : FS := H.b_is_list
noncomputable abbrev m_is_list : SpF := H.m_is_list
noncomputable def b_is_word : FS := (fSeq (fIf (fOrT (fNotT (fVal (fCall H.m_is_list (fCons (fVar 0) fNil)))) (fVal (fBin neF (fCB lenF (fCons (fVar 0) fNil)) (fC (.int 3))))) (fRet (fC (.bl false))) fNext)
  (fSeq (fIf (fNotT (fVal (fCB allF (fCons (fLcC (fSeqI (fVar 0)) (gName 1) fYes (fCall H.m_is_within (fCons (fVar 1) (fCons (fUn negF (fC (.int 24))) (fCons (fC (.int 24)) fNil)))) [1]) fNil)))) (fRet (fC (.bl false))) fNext)
  (fRet (fBin ltF (fCB lenF (fCons (fLcC (fSeqI (fVar 0)) (gName 1) (fVal (fBin eqF (fBin modF (fVar 1) (fC (.int 2))) (fC (.int 1)))) (fVar 1) [1]) fNil)) (fC (.int 2))))))
noncomputable def m_is_word : SpF := fnM 1 2 b_is_word
noncomputable def b_put_at : FS := (fRet (fCB tupleF (fCons (fLcC (fRng1 (fC (.int 3))) (gName 2) fYes (fIfE (fVal (fBin eqF (fVar 2) (fVar 0))) (fVar 1) (fC (.int 0))) [2]) fNil)))
noncomputable def m_put_at : SpF := fnM 2 3 b_put_at
noncomputable def b_alone_from : FS := (fSeq (fIf (fVal (fBin ltF (fVar 1) (fC (.int 0)))) (fRet (fTup (fCons (fCall m_put_at (fCons (fVar 0) (fCons (fC (.int 0)) fNil))) (fCons (fCall m_put_at (fCons (fVar 0) (fCons (fUn negF (fVar 1)) fNil))) fNil)))) fNext)
  (fSeq (fIf (fVal (fBin eqF (fBin modF (fVar 1) (fC (.int 2))) (fC (.int 0)))) (fRet (fTup (fCons (fCall m_put_at (fCons (fVar 0) (fCons (fBin divF (fVar 1) (fC (.int 2))) fNil))) (fCons (fCall m_put_at (fCons (fVar 0) (fCons (fC (.int 0)) fNil))) fNil)))) fNext)
  (fRet (fTup (fCons (fCall m_put_at (fCons (fVar 0) (fCons (fBin divF (fBin addF (fVar 1) (fC (.int 1))) (fC (.int 2))) fNil))) (fCons (fCall m_put_at (fCons (fVar 0) (fCons (fC (.int 1)) fNil))) fNil))))))
noncomputable def m_alone_from : SpF := fnM 2 2 b_alone_from
noncomputable def b_made_in : FS := (fSeq (fIf (fVal (fBin inF (fVar 0) (fC (.tup [(.tup [(.int 0), (.int 0), (.int 0)]), (.tup [(.int 1), (.int 0), (.int 0)]), (.tup [(.int 0), (.int 1), (.int 0)]), (.tup [(.int 0), (.int 0), (.int 1)])])))) (fRet (fC .non)) fNext)
  (fSeq (fSet 1 (fLcC (fEnumA (fVar 0)) (gTup 2 (gCons (gName 3) (gCons (gName 4) gNil))) (fVal (fBin neF (fVar 4) (fC (.int 0)))) (fVar 3) [3, 4]))
  (fSeq (fIf (fVal (fBin eqF (fCB lenF (fCons (fVar 1) fNil)) (fC (.int 1)))) (fRet (fCall m_alone_from (fCons (fBin ixF (fVar 1) (fC (.int 0))) (fCons (fBin ixF (fVar 0) (fBin ixF (fVar 1) (fC (.int 0)))) fNil)))) fNext)
  (fSeq (fSet 2 (fBin ixF (fLcC (fSeqI (fVar 1)) (gName 3) (fVal (fBin eqF (fBin modF (fBin ixF (fVar 0) (fVar 3)) (fC (.int 2))) (fC (.int 0)))) (fVar 3) [3]) (fC (.int 0))))
  (fRet (fTup (fCons (fCall m_put_at (fCons (fVar 2) (fCons (fBin divF (fBin ixF (fVar 0) (fVar 2)) (fC (.int 2))) fNil))) (fCons (fCB tupleF (fCons (fLcC (fEnumA (fVar 0)) (gTup 2 (gCons (gName 3) (gCons (gName 4) gNil))) fYes (fIfE (fVal (fBin eqF (fVar 3) (fVar 2))) (fC (.int 0)) (fUn negF (fVar 4))) [3, 4]) fNil)) fNil))))))))
noncomputable def m_made_in : SpF := fnM 1 5 b_made_in
noncomputable def b_need_word : FS := (fSeq (fIf (fNotT (fVal (fCall m_is_word (fCons (fVar 0) fNil)))) (fRaise "BadWord" ["part"] (fCons (fC (.str "word")) fNil)) fNext)
  (fRet (fCB tupleF (fCons (fVar 0) fNil))))
noncomputable def m_need_word : SpF := fnR 1 1 b_need_word
noncomputable def b_made_of : FS := (fRet (fCall m_made_in (fCons (fCall m_need_word (fCons (fVar 0) fNil)) fNil)))
noncomputable def m_made_of : SpF := fnR 1 1 b_made_of
noncomputable def b__law_quill : FS := (H.b_sack 60)
noncomputable def m__law_quill : SpF := (H.m_sack 60)
noncomputable def b__law_scratch : FS := (H.b_reach4 70325 6655 2147483587 57597 6655 2147483549 2715 70325 57597 2147483563)
noncomputable def m__law_scratch : SpF := (H.m_reach4 70325 6655 2147483587 57597 6655 2147483549 2715 70325 57597 2147483563)
noncomputable def b__law_pick : FS := (H.b_pick m__law_scratch)
noncomputable def m__law_pick : SpF := (H.m_pick m__law_scratch)
noncomputable def b__law_word : FS := (fSeq (fSet 3 (fLcC (fRng1 (fC (.int 3))) (gName 2) fYes (fBin mulF (fC (.int 2)) (fBin subF (fCall m__law_scratch (fCons (fVar 0) (fCons (fBin addF (fVar 1) (fC (.int 1))) fNil))) (fBin divF (fVar 1) (fC (.int 2))))) [2]))
  (fSeq (fSetNew 3 (fLcC (fSeqI (fVar 3)) (gName 4) fYes (fIfE (fVal (fBin gtF (fCall m__law_scratch (fCons (fVar 0) (fCons (fC (.int 3)) fNil))) (fC (.int 0)))) (fVar 4) (fC (.int 0))) [4]))
  (fSeq (fIf (fVal (fBin eqF (fCall m__law_scratch (fCons (fVar 0) (fCons (fC (.int 2)) fNil))) (fC (.int 0)))) (fSeq (fSet 2 (fCall m__law_scratch (fCons (fVar 0) (fCons (fC (.int 3)) fNil))))
  (fOwnSet 3 (fVar 2) (fBin addF (fOwnAt 3 (fVar 2)) (fIfE (fVal (fBin ltF (fOwnAt 3 (fVar 2)) (fVar 1))) (fC (.int 1)) (fUn negF (fC (.int 1))))))) fNext)
  (fFree 3 (fRet (fCB tupleF (fCons (fVar 3) fNil)))))))
noncomputable def m__law_word : SpF := fnM 2 5 b__law_word
noncomputable def b__law_heard : FS := (fSeq (fFor (fSeqI (fLst (fCons (fTup (fCons (fC (.str "word")) (fCons (fUn (isoF [("BadWord", true)]) (fVar 1)) fNil))) fNil))) (gTup 2 (gCons (gName 3) (gCons (gName 4) gNil))) (fIf (fVal (fVar 4)) (fRet (fTup (fCons (fVar 3) (fCons (fUn (fldF ["BadWord"] "part") (fVar 1)) fNil)))) fNext))
  (fRet (fIfE (fVal (fBin isF (fVar 1) (fC .non))) (fC .non) (fTup (fCons (fC (.str "other")) (fCons (fC .non) fNil))))))
noncomputable def m__law_heard : Lf → Lf := heardM 5 1 ["BadWord"] b__law_heard
noncomputable def b__law_bent : FS := (fSeq (fPar 2 3 (fCall m__law_scratch (fCons (fVar 0) (fCons (fC (.int 3)) fNil))) (fCall m__law_scratch (fCons (fVar 0) (fCons (fC (.int 6)) fNil))))
  (fSeq (fIf (fVal (fBin ltF (fVar 3) (fC (.int 3)))) (fSeq (fSet 4 (fCall m__law_pick (fCons (fVar 0) (fCons (fLst (fCons (fC (.int 25)) (fCons (fUn negF (fC (.int 25))) (fCons (fC (.int 24)) (fCons (fUn negF (fC (.int 24))) (fCons (fC (.int 23)) (fCons (fUn negF (fC (.int 23))) (fCons (fC (.int 1)) (fCons (fUn negF (fC (.int 1))) (fCons (fBin addF (fBin ixF (fVar 1) (fVar 2)) (fC (.int 1))) (fCons (fBin subF (fBin ixF (fVar 1) (fVar 2)) (fC (.int 1))) (fCons (fC (.int 26)) (fCons (fBin powF (fC (.int 10)) (fC (.int 20))) fNil))))))))))))) fNil))))
  (fSeq (fSet 5 (fBin addF (fBin addF (fSlice (fVar 1) fNoPart (fPart (fVar 2))) (fTup (fCons (fVar 4) fNil))) (fSlice (fVar 1) (fPart (fBin addF (fVar 2) (fC (.int 1)))) fNoPart)))
  (fRet (fTup (fCons (fVar 5) (fCons (fAndV (fBin ltF (fCB lenF (fCons (fLcC (fSeqI (fVar 5)) (gName 7) (fVal (fBin eqF (fBin bandF (fVar 7) (fC (.int 1))) (fC (.int 1)))) (fVar 7) [7]) fNil)) (fC (.int 2))) (fBin eqF (fLcC (fSeqI (fVar 5)) (gName 7) (fNotT (fVal (fChain leF leF (fUn negF (fC (.int 24))) (fVar 7) (fC (.int 24))))) (fVar 7) [7]) (fLst fNil))) fNil)))))) fNext)
  (fSeq (fSet 6 (fLst (fCons (fC .non) (fCons (fC (.int 5)) (fCons (fC (.str "000")) (fCons (fSlice (fVar 1) fNoPart (fPart (fC (.int 2)))) (fCons (fBin addF (fVar 1) (fTup (fCons (fC (.int 0)) fNil))) (fCons (fC (.dct [(.inl 0, .int 1), (.inl 1, .int 2), (.inl 2, .int 3)])) (fCons (fC (.bl true)) (fCons (fBin addF (fBin addF (fSlice (fVar 1) fNoPart (fPart (fVar 2))) (fTup (fCons (fC .non) fNil))) (fSlice (fVar 1) (fPart (fBin addF (fVar 2) (fC (.int 1)))) fNoPart)) (fCons (fBin addF (fBin addF (fSlice (fVar 1) fNoPart (fPart (fVar 2))) (fTup (fCons (fC (.bl true)) fNil))) (fSlice (fVar 1) (fPart (fBin addF (fVar 2) (fC (.int 1)))) fNoPart)) fNil)))))))))))
  (fSeq (fSet 6 (fBin addF (fVar 6) (fLst (fCons (fBin addF (fBin addF (fSlice (fVar 1) fNoPart (fPart (fVar 2))) (fTup (fCons (fC (.str "2")) fNil))) (fSlice (fVar 1) (fPart (fBin addF (fVar 2) (fC (.int 1)))) fNoPart)) (fCons (fBin addF (fBin addF (fSlice (fVar 1) fNoPart (fPart (fVar 2))) (fTup (fCons (fTup (fCons (fC (.int 1)) (fCons (fC (.int 2)) fNil))) fNil))) (fSlice (fVar 1) (fPart (fBin addF (fVar 2) (fC (.int 1)))) fNoPart)) (fCons (fLst (fCons (fCB listF (fCons (fVar 1) fNil)) fNil)) (fCons (fTup fNil) fNil)))))))
  (fRet (fIfE (fVal (fBin eqF (fVar 3) (fC (.int 3)))) (fTup (fCons (fCB listF (fCons (fVar 1) fNil)) (fCons (fC (.bl true)) fNil))) (fTup (fCons (fCall m__law_pick (fCons (fVar 0) (fCons (fVar 6) fNil))) (fCons (fC (.bl false)) fNil)))))))))
noncomputable def m__law_bent : SpF := fnM 2 8 b__law_bent
noncomputable def b__law_made : FS := (fSeq (fIf (fVal (fBin inF (fVar 0) (fTup (fCons (fTup (fCons (fC (.int 0)) (fCons (fC (.int 0)) (fCons (fC (.int 0)) fNil)))) (fCons (fTup (fCons (fC (.int 1)) (fCons (fC (.int 0)) (fCons (fC (.int 0)) fNil)))) (fCons (fTup (fCons (fC (.int 0)) (fCons (fC (.int 1)) (fCons (fC (.int 0)) fNil)))) (fCons (fTup (fCons (fC (.int 0)) (fCons (fC (.int 0)) (fCons (fC (.int 1)) fNil)))) fNil))))))) (fRet (fC .non)) fNext)
  (fSeq (fSet 1 (fLcC (fRng1 (fC (.int 3))) (gName 6) (fVal (fBin neF (fBin ixF (fVar 0) (fVar 6)) (fC (.int 0)))) (fVar 6) [6]))
  (fSeq (fSet 2 (fIfE (fVal (fBin eqF (fCB lenF (fCons (fVar 1) fNil)) (fC (.int 1)))) (fBin ixF (fVar 1) (fC (.int 0))) (fBin ixF (fLcC (fSeqI (fVar 1)) (gName 6) (fVal (fBin eqF (fBin bandF (fBin ixF (fVar 0) (fVar 6)) (fC (.int 1))) (fC (.int 0)))) (fVar 6) [6]) (fC (.int 0)))))
  (fSeq (fParI3 3 4 5 (fSlV (fBin ixF (fVar 0) (fVar 2))) (fSlO (fLst (fCons (fC (.int 0)) (fCons (fC (.int 0)) (fCons (fC (.int 0)) fNil))))) (fSlO (fLst (fCons (fC (.int 0)) (fCons (fC (.int 0)) (fCons (fC (.int 0)) fNil))))))
  (fSeq (fIf (fVal (fBin gtF (fCB lenF (fCons (fVar 1) fNil)) (fC (.int 1)))) (fSeq (fOwnSet 4 (fVar 2) (fBin divF (fCB intF (fCons (fVar 3) fNil)) (fC (.int 2))))
  (fSetNew 5 (fLcC (fRng1 (fC (.int 3))) (gName 6) fYes (fIfE (fVal (fBin eqF (fVar 6) (fVar 2))) (fC (.int 0)) (fUn negF (fBin ixF (fVar 0) (fVar 6)))) [6]))) (fIf (fVal (fBin ltF (fVar 3) (fC (.int 0)))) (fOwnSet 5 (fVar 2) (fUn negF (fVar 3))) (fSubs2 4 5 (fVar 2) (fVar 2) (fBin divF (fBin addF (fVar 3) (fC (.int 1))) (fC (.int 2))) (fBin bandF (fVar 3) (fC (.int 1))))))
  (fFree 4 (fFree 5 (fRet (fTup (fCons (fCB tupleF (fCons (fVar 4) fNil)) (fCons (fCB tupleF (fCons (fVar 5) fNil)) fNil)))))))))))
noncomputable def m__law_made : SpF := fnM 1 7 b__law_made
noncomputable def b__law_word_right : FS := (fSeq (fPar 2 3 (fCall m__law_made (fCons (fVar 1) fNil)) (fIfE (fVal (fBin eqF (fCall m__law_scratch (fCons (fVar 0) (fCons (fC (.int 2)) fNil))) (fC (.int 0)))) (fVar 1) (fCB listF (fCons (fVar 1) fNil))))
  (fSeq (fIf (fVal (fBin neF (fCB reprDF (fCons (fLst (fCons (fCall m_is_word (fCons (fVar 3) fNil)) (fCons (fCallK m_is_word (pickK 0 1 [0]) fNil (fCons (fVar 1) fNil)) (fCons (fCall (calmM m_made_of) (fCons (fVar 3) fNil)) (fCons (fCallK (calmM m_made_of) (pickK 0 1 [0]) fNil (fCons (fVar 1) fNil)) fNil))))) fNil)) (fCB reprDF (fCons (fLst (fCons (fC (.bl true)) (fCons (fC (.bl true)) (fCons (fVar 2) (fCons (fVar 2) fNil))))) fNil)))) (fRet (fC (.bl false))) fNext)
  (fSeq (fIf (fVal (fBin isF (fVar 2) (fC .non))) (fRet (fBin inF (fCB sortedF (fCons (fVar 1) fNil)) (fTup (fCons (fLst (fCons (fC (.int 0)) (fCons (fC (.int 0)) (fCons (fC (.int 0)) fNil)))) (fCons (fLst (fCons (fC (.int 0)) (fCons (fC (.int 0)) (fCons (fC (.int 1)) fNil)))) fNil))))) fNext)
  (fSeq (fAsg (fCall (calmM m_made_of) (fCons (fVar 1) fNil)) (gTup 2 (gCons (gName 4) (gCons (gName 5) gNil))))
  (fSeq (fIf (fOrT (fVal (fBin neF (fCB tupleF (fCons (fLcC (fZip (fVar 4) (fVar 5)) (gTup 2 (gCons (gName 7) (gCons (gName 8) gNil))) fYes (fBin subF (fBin mulF (fC (.int 2)) (fVar 7)) (fVar 8)) [7, 8]) fNil)) (fVar 1))) (fVal (fBin neF (fLst (fCons (fCall m_is_word (fCons (fVar 4) fNil)) (fCons (fCall m_is_word (fCons (fVar 5) fNil)) fNil))) (fLst (fCons (fC (.bl true)) (fCons (fC (.bl true)) fNil)))))) (fRet (fC (.bl false))) fNext)
  (fRet (fBin eqF (fLcC (fSeqI (fVar 5)) (gName 6) fYes (fBin bandF (fVar 6) (fC (.int 1))) [6]) (fLcC (fSeqI (fVar 1)) (gName 6) fYes (fBin bandF (fVar 6) (fC (.int 1))) [6]))))))))
noncomputable def m__law_word_right : SpF := fnM 2 9 b__law_word_right
noncomputable def f0_law : FE := (fCall m__law_quill (fCons (fVar 0) fNil))
noncomputable def b_law : FS := (fSeq (fFor (fRng1 (fC (.int 6))) (gName 2) (fSeq (fSet 3 (fCall m__law_word (fCons (fVar 1) (fCons (fCall m__law_pick (fCons (fVar 1) (fCons (fLst (fCons (fC (.int 2)) (fCons (fC (.int 4)) (fCons (fC (.int 24)) (fCons (fC (.int 24)) (fCons (fC (.int 12)) fNil)))))) fNil))) fNil))))
  (fSeq (fIf (fNotT (fVal (fCall m__law_word_right (fCons (fVar 1) (fCons (fVar 3) fNil))))) (fRet (fC (.bl false))) fNext)
  (fSeq (fAsg (fCall m__law_bent (fCons (fVar 1) (fCons (fVar 3) fNil))) (gTup 2 (gCons (gName 7) (gCons (gName 4) gNil))))
  (fSeq (fSet 5 (fCB reprDF (fCons (fVar 7) fNil)))
  (fSeq (fIf (fOrT (fVal (fBin neF (fCB reprDF (fCons (fCall m_is_word (fCons (fVar 7) fNil)) fNil)) (fCB reprDF (fCons (fVar 4) fNil)))) (fVal (fBin neF (fCB reprDF (fCons (fVar 7) fNil)) (fVar 5)))) (fRet (fC (.bl false))) fNext)
  (fIf (fOrT (fAndT (fVal (fVar 4)) (fNotT (fVal (fCall m__law_word_right (fCons (fVar 1) (fCons (fCB tupleF (fCons (fVar 7) fNil)) fNil)))))) (fAndT (fNotT (fVal (fVar 4))) (fVal (fBin neF (fLam m__law_heard (fCall m_made_of (fCons (fVar 7) fNil))) (fTup (fCons (fC (.str "word")) (fCons (fC (.str "word")) fNil))))))) (fRet (fC (.bl false))) fNext)))))))
  (fSeq (fSet 6 (fLst (fCons (fTup (fCons (fC (.int 0)) (fCons (fC (.int 0)) (fCons (fC (.int 0)) fNil)))) (fCons (fTup (fCons (fC (.int 1)) (fCons (fC (.int 0)) (fCons (fC (.int 0)) fNil)))) (fCons (fTup (fCons (fC (.int 0)) (fCons (fC (.int 1)) (fCons (fC (.int 0)) fNil)))) (fCons (fTup (fCons (fC (.int 0)) (fCons (fC (.int 0)) (fCons (fC (.int 1)) fNil)))) fNil))))))
  (fRet (fAndV (fBin eqF (fLcC (fSeqI (fVar 6)) (gName 3) (fVal (fBin isntF (fCall (calmM m_made_of) (fCons (fVar 3) fNil)) (fC .non))) (fVar 3) [3]) (fLst fNil)) (fAndV (fBin eqF (fCall (calmM m_made_of) (fCons (fTup (fCons (fC (.int 0)) (fCons (fUn negF (fC (.int 24))) (fCons (fC (.int 0)) fNil)))) fNil)) (fTup (fCons (fTup (fCons (fC (.int 0)) (fCons (fC (.int 0)) (fCons (fC (.int 0)) fNil)))) (fCons (fTup (fCons (fC (.int 0)) (fCons (fC (.int 24)) (fCons (fC (.int 0)) fNil)))) fNil)))) (fNotV (fCall m_is_word (fCons (fTup (fCons (fC (.int 1)) (fCons (fC (.int 0)) (fCons (fUn negF (fC (.int 1))) fNil)))) fNil))))))))
theorem pk_0_1_0 (y0 : D) : pickK 0 1 [0] [] [y0] = [y0] := rfl
def PK := pk_0_1_0
end Lw
namespace Lw
open PySem PySem.Spec L2 DL
open PyProof.Rows (envOfC)
def top (i : Nat) : Stmt := PySem.Challenge.pw_typedcurve_k39_words_and_what_they_are_m.main.body.getD i (.Pass ⟨0, 0, 0, 0⟩)
abbrev st_is_integer : Stmt := top 4
abbrev ps_is_integer : List Str := ["value"]
abbrev st_is_within : Stmt := top 5
abbrev ps_is_within : List Str := ["value", "least", "most"]
abbrev st_is_list : Stmt := top 6
abbrev ps_is_list : List Str := ["value"]
abbrev st_is_word : Stmt := top 14
abbrev ps_is_word : List Str := ["value"]
abbrev st_put_at : Stmt := top 10
abbrev ps_put_at : List Str := ["at", "number"]
abbrev st_alone_from : Stmt := top 11
abbrev ps_alone_from : List Str := ["at", "number"]
abbrev st_made_in : Stmt := top 12
abbrev ps_made_in : List Str := ["word"]
abbrev st_need_word : Stmt := top 13
abbrev ps_need_word : List Str := ["value"]
abbrev st_made_of : Stmt := top 15
abbrev ps_made_of : List Str := ["word"]
abbrev st__law_quill : Stmt := top 17
abbrev ps__law_quill : List Str := ["_law_script"]
abbrev st__law_scratch : Stmt := top 18
abbrev ps__law_scratch : List Str := ["_law_quill_here", "_law_many"]
abbrev st__law_pick : Stmt := top 19
abbrev ps__law_pick : List Str := ["_law_quill_here", "_law_some"]
abbrev st__law_word : Stmt := top 21
abbrev ps__law_word : List Str := ["_law_quill_here", "_law_most"]
abbrev st__law_heard : Stmt := top 22
abbrev ps__law_heard : List Str := ["_law_ask"]
abbrev st__law_bent : Stmt := top 23
abbrev ps__law_bent : List Str := ["_law_quill_here", "_law_word_here"]
abbrev st__law_made : Stmt := top 20
abbrev ps__law_made : List Str := ["_law_word_here"]
abbrev st__law_word_right : Stmt := top 24
abbrev ps__law_word_right : List Str := ["_law_quill_here", "_law_word_here"]
abbrev st_law : Stmt := top 25
abbrev ps_law : List Str := ["_law_script"]
def initOf : Stmt → Stmt
  | .ClassDef (body := b) .. => b.headD (.Pass ⟨0, 0, 0, 0⟩)
  | s => s
abbrev st_BadWord : Stmt := initOf (top 2)
theorem tab_mk {K : PySem.W.Frag} {x : Str} {f c P : Addr} {oc co : Value} {od cdd : Option Addr} {fd : FuncData} {sl cs vs : _} (h1 : PySem.W.nsIn K mainGlobals x = some (some (.ref f))) (h2 : K.lookup f = some ⟨oc, od, .func fd, sl⟩) (h3 : fd.code = .ref c) (h4 : K.lookup c = some ⟨co, cdd, .fields vs, cs⟩) (h5 : vs[11]? = some (.ref P)) : PySem.W.tabIn K x = some (c, P) := by
  unfold PySem.W.tabIn
  rw [h1]
  simp only [h2, h3, h4, h5]
structure Ads where
  a_is_integer : Addr
  d_is_integer : FuncData
  a_is_within : Addr
  d_is_within : FuncData
  a_is_list : Addr
  d_is_list : FuncData
  a_is_word : Addr
  d_is_word : FuncData
  a_put_at : Addr
  d_put_at : FuncData
  a_alone_from : Addr
  d_alone_from : FuncData
  a_made_in : Addr
  d_made_in : FuncData
  a_need_word : Addr
  d_need_word : FuncData
  a_made_of : Addr
  d_made_of : FuncData
  a__law_quill : Addr
  d__law_quill : FuncData
  a__law_scratch : Addr
  d__law_scratch : FuncData
  a__law_pick : Addr
  d__law_pick : FuncData
  a__law_word : Addr
  d__law_word : FuncData
  a__law_heard : Addr
  d__law_heard : FuncData
  a__law_bent : Addr
  d__law_bent : FuncData
  a__law_made : Addr
  d__law_made : FuncData
  a__law_word_right : Addr
  d__law_word_right : FuncData
  a_law : Addr
  d_law : FuncData
  tc_law : Addr
  tp_law : Addr
  u_FIRST_WORDS : Value
  u_MOST_IN_WORD : Value
  c_BadWord : Addr
  i_BadWord : Addr
  j_BadWord : FuncData
  c_B : Addr
structure Txt (K : PySem.W.Frag) (mg : Str → Option Value) (a : Ads) : Prop where
  o_is_integer : Own K mg "is_integer" st_is_integer ps_is_integer a.a_is_integer a.d_is_integer
  o_is_within : Own K mg "is_within" st_is_within ps_is_within a.a_is_within a.d_is_within
  o_is_list : Own K mg "is_list" st_is_list ps_is_list a.a_is_list a.d_is_list
  o_is_word : Own K mg "is_word" st_is_word ps_is_word a.a_is_word a.d_is_word
  o_put_at : Own K mg "put_at" st_put_at ps_put_at a.a_put_at a.d_put_at
  o_alone_from : Own K mg "alone_from" st_alone_from ps_alone_from a.a_alone_from a.d_alone_from
  o_made_in : Own K mg "made_in" st_made_in ps_made_in a.a_made_in a.d_made_in
  o_need_word : Own K mg "need_word" st_need_word ps_need_word a.a_need_word a.d_need_word
  o_made_of : Own K mg "made_of" st_made_of ps_made_of a.a_made_of a.d_made_of
  o__law_quill : Own K mg "_law_quill" st__law_quill ps__law_quill a.a__law_quill a.d__law_quill
  o__law_scratch : Own K mg "_law_scratch" st__law_scratch ps__law_scratch a.a__law_scratch a.d__law_scratch
  o__law_pick : Own K mg "_law_pick" st__law_pick ps__law_pick a.a__law_pick a.d__law_pick
  o__law_word : Own K mg "_law_word" st__law_word ps__law_word a.a__law_word a.d__law_word
  o__law_heard : Own K mg "_law_heard" st__law_heard ps__law_heard a.a__law_heard a.d__law_heard
  o__law_bent : Own K mg "_law_bent" st__law_bent ps__law_bent a.a__law_bent a.d__law_bent
  o__law_made : Own K mg "_law_made" st__law_made ps__law_made a.a__law_made a.d__law_made
  o__law_word_right : Own K mg "_law_word_right" st__law_word_right ps__law_word_right a.a__law_word_right a.d__law_word_right
  o_law : Own K mg "law" st_law ps_law a.a_law a.d_law
  b_abs : mg "abs" = none
  b_all : mg "all" = none
  b_bool : mg "bool" = none
  b_enumerate : mg "enumerate" = none
  b_int : mg "int" = none
  b_isinstance : mg "isinstance" = none
  b_len : mg "len" = none
  b_list : mg "list" = none
  b_range : mg "range" = none
  b_repr : mg "repr" = none
  b_sorted : mg "sorted" = none
  b_tuple : mg "tuple" = none
  b_zip : mg "zip" = none
  t_law : TabK K "law" a.d_law a.tc_law a.tp_law
  m_FIRST_WORDS : mg "FIRST_WORDS" = some a.u_FIRST_WORDS
  r_FIRST_WORDS : KD K a.u_FIRST_WORDS (.tup [(.tup [(.int 0), (.int 0), (.int 0)]), (.tup [(.int 1), (.int 0), (.int 0)]), (.tup [(.int 0), (.int 1), (.int 0)]), (.tup [(.int 0), (.int 0), (.int 1)])])
  m_MOST_IN_WORD : mg "MOST_IN_WORD" = some a.u_MOST_IN_WORD
  r_MOST_IN_WORD : KD K a.u_MOST_IN_WORD (.int 24)
  B0 : Base K mg "CurveError" a.c_B
  E_BadWord : Err K mg a.c_B "BadWord" ["part"] a.c_BadWord a.i_BadWord a.j_BadWord ["self", "part"] "BadWord.__init__" st_BadWord
  K_BadWord_BadWord : ∀ ca, Cls K "BadWord" ca → ExcC K ca ∧ PySem.W.kitOne K (.ref ca) (.ref a.c_BadWord) = some true
abbrev tabsT (a : Ads) : List (Addr × Str) := [(a.tp_law, lamQ "law")]
theorem mem_law {a : Ads} : (a.tp_law, lamQ "law") ∈ tabsT a := List.mem_cons_self
theorem hu_law {K : PySem.W.Frag} {mg : Str → Option Value} {a : Ads} (T : Txt K mg a) : ∀ p ∈ tabsT a, p.1 = a.tp_law → p.2 = lamQ "law" := by
  intro p hp e
  simp only [tabsT, List.mem_cons, List.not_mem_nil, or_false] at hp
  rcases hp with rfl
  · exact rfl
section
variable {P : Program} {w : World} {K : PySem.W.Frag} {mg : Str → Option Value} {base : Heap} {a : Ads}
theorem sc_BadWord : FnScope ["self", "part"] ["self", "part"] (defScope st_BadWord) := ⟨rfl, rfl, rfl, by decide +kernel, rfl, by decide +kernel, by decide +kernel⟩
theorem ini_BadWord (T : Txt K mg a) : FnOk P w K mg base CX0 1 a.i_BadWord a.j_BadWord ["self", "part"] (iniSp K a.c_BadWord ["part"]) :=
  ini1 (k := 0) (nm := "BadWord") T.E_BadWord.f sc_BadWord fun cdv A outer s H E hr =>
    pss_cons (ps_expr (pe_cinit (by rfl) T.B0.mg T.B0.b (pa_cons (pv 0) (pa_cons pe_str pa_nil)))) (pss_one (ps_ost (pv 0) (pv 1)))
theorem sc_is_integer : FnScope ["value"] ["value"] (defScope st_is_integer) := ⟨rfl, rfl, rfl, by decide +kernel, rfl, by decide +kernel, by decide +kernel⟩
theorem ok_is_integer (T : Txt K mg a) : FnG P w K mg base CX0 1 a.a_is_integer a.d_is_integer ps_is_integer (spD K (tabsT a) (spF m_is_integer)) :=
  fnF (b := b_is_integer) T.o_is_integer.fn sc_is_integer rfl rfl rfl fun q hT cdv hcd A outer s H E hr hg =>
      (fss_one (fs_ret (fe_and (fe_isi (de_isi1 (n := "int") (by rfl) T.b_isinstance (fe_var 0) (by rfl) T.b_int (by decide +kernel) (by decide))) (fe_one (fe_not (fe_isi (de_isi1 (n := "bool") (by rfl) T.b_isinstance (fe_var 0) (by rfl) T.b_bool (by decide +kernel) (by decide))))))))
theorem sc_is_within : FnScope ["value", "least", "most"] ["value", "least", "most"] (defScope st_is_within) := ⟨rfl, rfl, rfl, by decide +kernel, rfl, by decide +kernel, by decide +kernel⟩
theorem ok_is_within (T : Txt K mg a) (G_is_integer : FnG P w K mg base CX0 1 a.a_is_integer a.d_is_integer ps_is_integer (spD K (tabsT a) (spF m_is_integer))) : FnG P w K mg base CX0 2 a.a_is_within a.d_is_within ps_is_within (spD K (tabsT a) (spF m_is_within)) :=
  fnF (b := b_is_within) T.o_is_within.fn sc_is_within rfl rfl rfl fun q hT cdv hcd A outer s H E hr hg =>
      (fss_cons (fs_if (ft_not (ft_val (fe_call G_is_integer (hr.mono (by decide)) hg hT (by rfl) T.o_is_integer.mg T.o_is_integer.fn.kp T.o_is_integer.b pass0 (fa_cons (fe_var 0) fa_nil)))) (fss_one (fs_ret fe_bl)) fss_nil)
      (fss_one (fs_ret (fe_and (fe_or (fe_cmp opf_is (fe_var 1) fe_non) (fe_one (fe_cmp opf_le (fe_var 1) (fe_var 0)))) (fe_one (fe_or (fe_cmp opf_is (fe_var 2) fe_non) (fe_one (fe_cmp opf_le (fe_var 0) (fe_var 2)))))))))
theorem sc_is_list : FnScope ["value"] ["value"] (defScope st_is_list) := ⟨rfl, rfl, rfl, by decide +kernel, rfl, by decide +kernel, by decide +kernel⟩
theorem ok_is_list (T : Txt K mg a) : FnG P w K mg base CX0 1 a.a_is_list a.d_is_list ps_is_list (spD K (tabsT a) (spF m_is_list)) :=
  fnF (b := b_is_list) T.o_is_list.fn sc_is_list rfl rfl rfl fun q hT cdv hcd A outer s H E hr hg =>
      (fss_one (fs_ret (fe_isi (de_isi2 (n := "list") (m := "tuple") (by rfl) T.b_isinstance (fe_var 0) (by rfl) T.b_list (by decide +kernel) (by decide) (by rfl) T.b_tuple (by decide +kernel) (by decide)))))
theorem sc_is_word : FnScope ["value", "number"] ["value"] (defScope st_is_word) := ⟨rfl, rfl, rfl, by decide +kernel, rfl, by decide +kernel, by decide +kernel⟩
theorem ok_is_word (T : Txt K mg a) (G_is_within : FnG P w K mg base CX0 2 a.a_is_within a.d_is_within ps_is_within (spD K (tabsT a) (spF m_is_within))) (G_is_list : FnG P w K mg base CX0 1 a.a_is_list a.d_is_list ps_is_list (spD K (tabsT a) (spF m_is_list))) : FnG P w K mg base CX0 3 a.a_is_word a.d_is_word ps_is_word (spD K (tabsT a) (spF m_is_word)) :=
  fnF (b := b_is_word) T.o_is_word.fn sc_is_word rfl rfl rfl fun q hT cdv hcd A outer s H E hr hg =>
      (fss_cons (fs_if (fw_t (fw_or (ft_not (ft_val (fe_call G_is_list (hr.mono (by decide)) hg hT (by rfl) T.o_is_list.mg T.o_is_list.fn.kp T.o_is_list.b pass0 (fa_cons (fe_var 0) fa_nil)))) (fw_or1 (ft_cmp (opf_ne hr) (fe_callB (cf_len) (by rfl) T.b_len (by decide +kernel) (fa_cons (fe_var 0) fa_nil)) fe_int)))) (fss_one (fs_ret fe_bl)) fss_nil)
      (fss_cons (fs_if (ft_not (ft_val (fe_callB (cf_all rfl) (by rfl) T.b_all (by decide +kernel) (fa_cons (fe_lc (own := [("number", 1)]) rfl (sc_is_word).nd (fi_seq (fe_var 0)) (blkOk_by (own := [("number", 1)]) (N := ["value", "number"]) (sc := defScope st_is_word) (by decide +kernel)) (by decide) (fun _ _ _ _ _ => (fg_name 1 (sc_is_word).nd)) (fun _ _ _ _ _ => fp_nil) (fun _ _ _ _ _ => (fe_call G_is_within (hr.mono (by decide)) hg hT (by rfl) T.o_is_within.mg T.o_is_within.fn.kp T.o_is_within.b pass0 (fa_cons (fe_var 1) (fa_cons (fe_un un_negD neg_imp (fe_c (de_glob (by rfl) T.m_MOST_IN_WORD T.r_MOST_IN_WORD.choose_spec.1 (T.r_MOST_IN_WORD.choose_spec.2 _)))) (fa_cons (fe_c (de_glob (by rfl) T.m_MOST_IN_WORD T.r_MOST_IN_WORD.choose_spec.1 (T.r_MOST_IN_WORD.choose_spec.2 _))) fa_nil)))))) fa_nil)))) (fss_one (fs_ret fe_bl)) fss_nil)
      (fss_one (fs_ret (fe_cmp opf_lt (fe_callB (cf_len) (by rfl) T.b_len (by decide +kernel) (fa_cons (fe_lc (own := [("number", 1)]) rfl (sc_is_word).nd (fi_seq (fe_var 0)) (blkOk_by (own := [("number", 1)]) (N := ["value", "number"]) (sc := defScope st_is_word) (by decide +kernel)) (by decide) (fun _ _ _ _ _ => (fg_name 1 (sc_is_word).nd)) (fun _ _ _ _ _ => (fp_one (ft_cmp (opf_eq hr) (fe_bin opf_mod (fe_var 1) fe_int) fe_int))) (fun _ _ _ _ _ => (fe_var 1))) fa_nil)) fe_int)))))
theorem sc_put_at : FnScope ["at", "number", "spot"] ["at", "number"] (defScope st_put_at) := ⟨rfl, rfl, rfl, by decide +kernel, rfl, by decide +kernel, by decide +kernel⟩
theorem ok_put_at (T : Txt K mg a) : FnG P w K mg base CX0 1 a.a_put_at a.d_put_at ps_put_at (spD K (tabsT a) (spF m_put_at)) :=
  fnF (b := b_put_at) T.o_put_at.fn sc_put_at rfl rfl rfl fun q hT cdv hcd A outer s H E hr hg =>
      (fss_one (fs_ret (fe_callTy (cf_tuple) (by rfl) T.b_tuple (by decide +kernel) (fa_cons (fe_lc (own := [("spot", 2)]) rfl (sc_put_at).nd (fi_rng1 (by rfl) T.b_range fe_int) (blkOk_by (own := [("spot", 2)]) (N := ["at", "number", "spot"]) (sc := defScope st_put_at) (by decide +kernel)) (by decide) (fun _ _ _ _ _ => (fg_name 2 (sc_put_at).nd)) (fun _ _ _ _ _ => fp_nil) (fun _ _ _ _ _ => (fe_if (ft_cmp (opf_eq hr) (fe_var 2) (fe_var 0)) (fe_var 1) fe_int))) fa_nil))))
theorem sc_alone_from : FnScope ["at", "number"] ["at", "number"] (defScope st_alone_from) := ⟨rfl, rfl, rfl, by decide +kernel, rfl, by decide +kernel, by decide +kernel⟩
theorem ok_alone_from (T : Txt K mg a) (G_put_at : FnG P w K mg base CX0 1 a.a_put_at a.d_put_at ps_put_at (spD K (tabsT a) (spF m_put_at))) : FnG P w K mg base CX0 2 a.a_alone_from a.d_alone_from ps_alone_from (spD K (tabsT a) (spF m_alone_from)) :=
  fnF (b := b_alone_from) T.o_alone_from.fn sc_alone_from rfl rfl rfl fun q hT cdv hcd A outer s H E hr hg =>
      (fss_cons (fs_if (ft_cmp opf_lt (fe_var 1) fe_int) (fss_one (fs_ret (fe_tup (fa_cons (fe_call G_put_at (hr.mono (by decide)) hg hT (by rfl) T.o_put_at.mg T.o_put_at.fn.kp T.o_put_at.b pass0 (fa_cons (fe_var 0) (fa_cons fe_int fa_nil))) (fa_cons (fe_call G_put_at (hr.mono (by decide)) hg hT (by rfl) T.o_put_at.mg T.o_put_at.fn.kp T.o_put_at.b pass0 (fa_cons (fe_var 0) (fa_cons (fe_un un_negD neg_imp (fe_var 1)) fa_nil))) fa_nil)) (lenA_cons (lenA_cons lenA_nil))))) fss_nil)
      (fss_cons (fs_if (ft_cmp (opf_eq hr) (fe_bin opf_mod (fe_var 1) fe_int) fe_int) (fss_one (fs_ret (fe_tup (fa_cons (fe_call G_put_at (hr.mono (by decide)) hg hT (by rfl) T.o_put_at.mg T.o_put_at.fn.kp T.o_put_at.b pass0 (fa_cons (fe_var 0) (fa_cons (fe_bin opf_div (fe_var 1) fe_int) fa_nil))) (fa_cons (fe_call G_put_at (hr.mono (by decide)) hg hT (by rfl) T.o_put_at.mg T.o_put_at.fn.kp T.o_put_at.b pass0 (fa_cons (fe_var 0) (fa_cons fe_int fa_nil))) fa_nil)) (lenA_cons (lenA_cons lenA_nil))))) fss_nil)
      (fss_one (fs_ret (fe_tup (fa_cons (fe_call G_put_at (hr.mono (by decide)) hg hT (by rfl) T.o_put_at.mg T.o_put_at.fn.kp T.o_put_at.b pass0 (fa_cons (fe_var 0) (fa_cons (fe_bin opf_div (fe_bin opf_add (fe_var 1) fe_int) fe_int) fa_nil))) (fa_cons (fe_call G_put_at (hr.mono (by decide)) hg hT (by rfl) T.o_put_at.mg T.o_put_at.fn.kp T.o_put_at.b pass0 (fa_cons (fe_var 0) (fa_cons fe_int fa_nil))) fa_nil)) (lenA_cons (lenA_cons lenA_nil)))))))
theorem sc_made_in : FnScope ["word", "others", "even", "at", "number"] ["word"] (defScope st_made_in) := ⟨rfl, rfl, rfl, by decide +kernel, rfl, by decide +kernel, by decide +kernel⟩
theorem ok_made_in (T : Txt K mg a) (G_put_at : FnG P w K mg base CX0 1 a.a_put_at a.d_put_at ps_put_at (spD K (tabsT a) (spF m_put_at))) (G_alone_from : FnG P w K mg base CX0 2 a.a_alone_from a.d_alone_from ps_alone_from (spD K (tabsT a) (spF m_alone_from))) : FnG P w K mg base CX0 3 a.a_made_in a.d_made_in ps_made_in (spD K (tabsT a) (spF m_made_in)) :=
  fnF (b := b_made_in) T.o_made_in.fn sc_made_in rfl rfl rfl fun q hT cdv hcd A outer s H E hr hg =>
      (fss_cons (fs_if (ft_cmp (opf_in hr) (fe_var 0) (fe_c (de_glob (by rfl) T.m_FIRST_WORDS T.r_FIRST_WORDS.choose_spec.1 (T.r_FIRST_WORDS.choose_spec.2 _)))) (fss_one (fs_ret fe_non)) fss_nil)
      (fss_cons (fs_setLc (own := [("at", 3), ("number", 4)]) 1 rfl (sc_made_in).nd (fi_enumA (by rfl) T.b_enumerate (fe_var 0)) (blkOk_by (own := [("at", 3), ("number", 4)]) (N := ["word", "others", "even", "at", "number"]) (sc := defScope st_made_in) (by decide +kernel)) (by decide) (fun _ _ _ _ _ => (fg_tup (k := 2) rfl (fg_cons (fg_name 3 (sc_made_in).nd) (fg_cons (fg_name 4 (sc_made_in).nd) fg_nil)))) (fun _ _ _ _ _ => (fp_one (ft_cmp (opf_ne hr) (fe_var 4) fe_int))) (fun _ _ _ _ _ => (fe_var 3)))
      (fss_cons (fs_if (ft_cmp (opf_eq hr) (fe_callB (cf_len) (by rfl) T.b_len (by decide +kernel) (fa_cons (fe_var 1) fa_nil)) fe_int) (fss_one (fs_ret (fe_call G_alone_from (hr.mono (by decide)) hg hT (by rfl) T.o_alone_from.mg T.o_alone_from.fn.kp T.o_alone_from.b pass0 (fa_cons (fe_at (fe_var 1) fe_int) (fa_cons (fe_at (fe_var 0) (fe_at (fe_var 1) fe_int)) fa_nil))))) fss_nil)
      (fss_cons (fs_set 2 (sc_made_in).nd (fe_at (fe_lc (own := [("at", 3)]) rfl (sc_made_in).nd (fi_seq (fe_var 1)) (blkOk_by (own := [("at", 3)]) (N := ["word", "others", "even", "at", "number"]) (sc := defScope st_made_in) (by decide +kernel)) (by decide) (fun _ _ _ _ _ => (fg_name 3 (sc_made_in).nd)) (fun _ _ _ _ _ => (fp_one (ft_cmp (opf_eq hr) (fe_bin opf_mod (fe_at (fe_var 0) (fe_var 3)) fe_int) fe_int))) (fun _ _ _ _ _ => (fe_var 3))) fe_int))
      (fss_one (fs_ret (fe_tup (fa_cons (fe_call G_put_at (hr.mono (by decide)) hg hT (by rfl) T.o_put_at.mg T.o_put_at.fn.kp T.o_put_at.b pass0 (fa_cons (fe_var 2) (fa_cons (fe_bin opf_div (fe_at (fe_var 0) (fe_var 2)) fe_int) fa_nil))) (fa_cons (fe_callTy (cf_tuple) (by rfl) T.b_tuple (by decide +kernel) (fa_cons (fe_lc (own := [("at", 3), ("number", 4)]) rfl (sc_made_in).nd (fi_enumA (by rfl) T.b_enumerate (fe_var 0)) (blkOk_by (own := [("at", 3), ("number", 4)]) (N := ["word", "others", "even", "at", "number"]) (sc := defScope st_made_in) (by decide +kernel)) (by decide) (fun _ _ _ _ _ => (fg_tup (k := 2) rfl (fg_cons (fg_name 3 (sc_made_in).nd) (fg_cons (fg_name 4 (sc_made_in).nd) fg_nil)))) (fun _ _ _ _ _ => fp_nil) (fun _ _ _ _ _ => (fe_if (ft_cmp (opf_eq hr) (fe_var 3) (fe_var 2)) fe_int (fe_un un_negD neg_imp (fe_var 4))))) fa_nil)) fa_nil)) (lenA_cons (lenA_cons lenA_nil)))))))))
theorem sc_need_word : FnScope ["value"] ["value"] (defScope st_need_word) := ⟨rfl, rfl, rfl, by decide +kernel, rfl, by decide +kernel, by decide +kernel⟩
theorem ok_need_word (T : Txt K mg a) (G_is_word : FnG P w K mg base CX0 3 a.a_is_word a.d_is_word ps_is_word (spD K (tabsT a) (spF m_is_word))) : FnG P w K mg base (CX P w) 4 a.a_need_word a.d_need_word ps_need_word (spD K (tabsT a) (spF m_need_word)) :=
  fnE (b := b_need_word) T.o_need_word.fn sc_need_word rfl rfl rfl fun q hT cdv hcd A outer s H E hr hg =>
      (fss_cons (fs_if (ft_not (ft_val (fe_call G_is_word (hr.mono (by decide)) hg hT (by rfl) T.o_is_word.mg T.o_is_word.fn.kp T.o_is_word.b pass0 (fa_cons (fe_var 0) fa_nil)))) (fss_one (fs_raise T.E_BadWord.e rfl takesX (ini_BadWord T) (hr.mono (by decide)) (by rfl) (fa_cons fe_str fa_nil))) fss_nil)
      (fss_one (fs_ret (fe_callTy (cf_tuple) (by rfl) T.b_tuple (by decide +kernel) (fa_cons (fe_var 0) fa_nil)))))
theorem sc_made_of : FnScope ["word"] ["word"] (defScope st_made_of) := ⟨rfl, rfl, rfl, by decide +kernel, rfl, by decide +kernel, by decide +kernel⟩
theorem ok_made_of (T : Txt K mg a) (G_made_in : FnG P w K mg base CX0 3 a.a_made_in a.d_made_in ps_made_in (spD K (tabsT a) (spF m_made_in))) (G_need_word : FnG P w K mg base (CX P w) 4 a.a_need_word a.d_need_word ps_need_word (spD K (tabsT a) (spF m_need_word))) : FnG P w K mg base (CX P w) 5 a.a_made_of a.d_made_of ps_made_of (spD K (tabsT a) (spF m_made_of)) :=
  fnE (b := b_made_of) T.o_made_of.fn sc_made_of rfl rfl rfl fun q hT cdv hcd A outer s H E hr hg =>
      (fss_one (fs_ret (fe_call G_made_in (hr.mono (by decide)) hg hT (by rfl) T.o_made_in.mg T.o_made_in.fn.kp T.o_made_in.b pass0 (fa_cons (fe_call G_need_word (hr.mono (by decide)) hg hT (by rfl) T.o_need_word.mg T.o_need_word.fn.kp T.o_need_word.b passX (fa_cons (fe_var 0) fa_nil)) fa_nil))))
theorem sc__law_quill : FnScope ["_law_script", "_law_cell"] ["_law_script"] (defScope st__law_quill) := ⟨rfl, rfl, rfl, by decide +kernel, rfl, by decide +kernel, by decide +kernel⟩
theorem ok__law_quill (T : Txt K mg a) : FnG P w K mg base CX0 1 a.a__law_quill a.d__law_quill ps__law_quill (spD K (tabsT a) (spF m__law_quill)) :=
  fnF (b := b__law_quill) T.o__law_quill.fn sc__law_quill rfl rfl rfl fun q hT cdv hcd A outer s H E hr hg =>
      (fss_one (fs_ret (fe_lst (fa_cons (fe_lc (own := [("_law_cell", 1)]) rfl (sc__law_quill).nd (fi_seq (fe_slice (fe_var 0) fo_none (fo_some fe_int))) (blkOk_by (own := [("_law_cell", 1)]) (N := ["_law_script", "_law_cell"]) (sc := defScope st__law_quill) (by decide +kernel)) (by decide) (fun _ _ _ _ _ => (fg_name 1 (sc__law_quill).nd)) (fun _ _ _ _ _ => fp_nil) (fun _ _ _ _ _ => (fe_callTy (cf_int) (by rfl) T.b_int (by decide +kernel) (fa_cons (fe_var 1) fa_nil)))) (fa_cons fe_int (fa_cons fe_int fa_nil))) (lenA_cons (lenA_cons (lenA_cons lenA_nil))))))
theorem sc__law_scratch : FnScope ["_law_quill_here", "_law_many", "_law_left", "_law_turn", "_law_cell", "_law_mixed"] ["_law_quill_here", "_law_many"] (defScope st__law_scratch) := ⟨rfl, rfl, rfl, by decide +kernel, rfl, by decide +kernel, by decide +kernel⟩
theorem ok__law_scratch (T : Txt K mg a) : FnG P w K mg base CX0 1 a.a__law_scratch a.d__law_scratch ps__law_scratch (spD K (tabsT a) (spF m__law_scratch)) :=
  fnF (b := b__law_scratch) T.o__law_scratch.fn sc__law_scratch rfl rfl rfl fun q hT cdv hcd A outer s H E hr hg =>
      (fss_cons (fs_if (ft_cmp opf_gt (fe_drum 0) fe_int) (fss_cons (fs_set 2 (sc__law_scratch).nd (fe_drum 0))
      (fss_cons (fs_drum 0 (fe_bin opf_div (fe_callTy (cf_int) (by rfl) T.b_int (by decide +kernel) (fa_cons (fe_var 2) fa_nil)) (fe_var 1)))
      (fss_one (fs_ret (fe_bin opf_mod (fe_callTy (cf_int) (by rfl) T.b_int (by decide +kernel) (fa_cons (fe_var 2) fa_nil)) (fe_var 1)))))) fss_nil)
      (fss_cons (fs_set 3 (sc__law_scratch).nd (fe_drum 0))
      (fss_cons (fs_drum 0 (fe_bin opf_add (fe_var 3) fe_int))
      (fss_cons (fs_set 4 (sc__law_scratch).nd (fe_bin opf_add (fe_bin opf_mul fe_int (fe_var 3)) fe_int))
      (fss_cons (fs_if (ft_cmp (opf_ne hr) (fe_drum 0) (fe_lst fa_nil lenA_nil)) (fss_one (fs_set 4 (sc__law_scratch).nd (fe_at (fe_drum 0) (fe_bin opf_mod (fe_callTy (cf_int) (by rfl) T.b_int (by decide +kernel) (fa_cons (fe_var 3) fa_nil)) (fe_callB (cf_len) (by rfl) T.b_len (by decide +kernel) (fa_cons (fe_drum 0) fa_nil)))))) fss_nil)
      (fss_cons (fs_if (fw_t (fw_and (ft_cmp opf_lt (fe_var 3) (fe_callB (cf_len) (by rfl) T.b_len (by decide +kernel) (fa_cons (fe_drum 0) fa_nil))) (fw_and1 (ft_cmp opf_ge (fe_callB (cf_abs) (by rfl) T.b_abs (by decide +kernel) (fa_cons (fe_var 4) fa_nil)) (fe_bin opf_pow fe_int fe_int))))) (fss_cons (fs_set 2 (sc__law_scratch).nd (fe_bin opf_add (fe_bin opf_mul fe_int (fe_bin opf_sub (fe_callB (cf_abs) (by rfl) T.b_abs (by decide +kernel) (fa_cons (fe_var 4) fa_nil)) (fe_bin opf_pow fe_int fe_int))) (fe_callTy (cf_int) (by rfl) T.b_int (by decide +kernel) (fa_cons (fe_cmp opf_lt (fe_var 4) fe_int) fa_nil))))
      (fss_cons (fs_drum 0 (fe_bin opf_div (fe_callTy (cf_int) (by rfl) T.b_int (by decide +kernel) (fa_cons (fe_var 2) fa_nil)) (fe_var 1)))
      (fss_one (fs_ret (fe_bin opf_mod (fe_callTy (cf_int) (by rfl) T.b_int (by decide +kernel) (fa_cons (fe_var 2) fa_nil)) (fe_var 1)))))) fss_nil)
      (fss_cons (fs_set 5 (sc__law_scratch).nd (fe_bin opf_mod (fe_callTy (cf_int) (by rfl) T.b_int (by decide +kernel) (fa_cons (fe_bin opf_pow (fe_bin opf_add (fe_bin opf_add (fe_bin opf_mod (fe_callTy (cf_int) (by rfl) T.b_int (by decide +kernel) (fa_cons (fe_var 4) fa_nil)) fe_int) (fe_bin opf_mul fe_int (fe_var 3))) fe_int) fe_int) fa_nil)) fe_int))
      (fss_cons (fs_set 5 (sc__law_scratch).nd (fe_bin opf_mod (fe_callTy (cf_int) (by rfl) T.b_int (by decide +kernel) (fa_cons (fe_bin opf_pow (fe_bin opf_add (fe_bin opf_add (fe_bin opf_mul (fe_var 5) (fe_bin opf_add (fe_bin opf_mul fe_int (fe_var 3)) fe_int)) (fe_bin opf_mul (fe_bin opf_mul fe_int (fe_var 3)) (fe_var 3))) fe_int) fe_int) fa_nil)) fe_int))
      (fss_one (fs_ret (fe_bin opf_mod (fe_callTy (cf_int) (by rfl) T.b_int (by decide +kernel) (fa_cons (fe_bin opf_div (fe_var 5) fe_int) fa_nil)) (fe_var 1))))))))))))
theorem sc__law_pick : FnScope ["_law_quill_here", "_law_some"] ["_law_quill_here", "_law_some"] (defScope st__law_pick) := ⟨rfl, rfl, rfl, by decide +kernel, rfl, by decide +kernel, by decide +kernel⟩
theorem ok__law_pick (T : Txt K mg a) (G__law_scratch : FnG P w K mg base CX0 1 a.a__law_scratch a.d__law_scratch ps__law_scratch (spD K (tabsT a) (spF m__law_scratch))) : FnG P w K mg base CX0 2 a.a__law_pick a.d__law_pick ps__law_pick (spD K (tabsT a) (spF m__law_pick)) :=
  fnF (b := b__law_pick) T.o__law_pick.fn sc__law_pick rfl rfl rfl fun q hT cdv hcd A outer s H E hr hg =>
      (fss_one (fs_ret (fe_at (fe_var 1) (fe_call G__law_scratch (hr.mono (by decide)) hg hT (by rfl) T.o__law_scratch.mg T.o__law_scratch.fn.kp T.o__law_scratch.b pass0 (fa_cons (fe_var 0) (fa_cons (fe_callB (cf_len) (by rfl) T.b_len (by decide +kernel) (fa_cons (fe_var 1) fa_nil)) fa_nil))))))
theorem sc__law_word : FnScope ["_law_quill_here", "_law_most", "_law_spot", "_law_word_here", "_law_each"] ["_law_quill_here", "_law_most"] (defScope st__law_word) := ⟨rfl, rfl, rfl, by decide +kernel, rfl, by decide +kernel, by decide +kernel⟩
theorem ok__law_word (T : Txt K mg a) (G__law_scratch : FnG P w K mg base CX0 1 a.a__law_scratch a.d__law_scratch ps__law_scratch (spD K (tabsT a) (spF m__law_scratch))) : FnG P w K mg base CX0 2 a.a__law_word a.d__law_word ps__law_word (spD K (tabsT a) (spF m__law_word)) :=
  fnF (b := b__law_word) T.o__law_word.fn sc__law_word rfl rfl rfl fun q hT cdv hcd A outer s H E hr hg =>
      (fss_cons (fs_setLc (own := [("_law_spot", 2)]) 3 rfl (sc__law_word).nd (fi_rng1 (by rfl) T.b_range fe_int) (blkOk_by (own := [("_law_spot", 2)]) (N := ["_law_quill_here", "_law_most", "_law_spot", "_law_word_here", "_law_each"]) (sc := defScope st__law_word) (by decide +kernel)) (by decide) (fun _ _ _ _ _ => (fg_name 2 (sc__law_word).nd)) (fun _ _ _ _ _ => fp_nil) (fun _ _ _ _ _ => (fe_bin opf_mul fe_int (fe_bin opf_sub (fe_call G__law_scratch (hr.mono (by decide)) hg hT (by rfl) T.o__law_scratch.mg T.o__law_scratch.fn.kp T.o__law_scratch.b pass0 (fa_cons (fe_var 0) (fa_cons (fe_bin opf_add (fe_var 1) fe_int) fa_nil))) (fe_bin opf_div (fe_var 1) fe_int)))))
      (fss_cons (fs_setNewLc (own := [("_law_each", 4)]) 3 rfl (sc__law_word).nd (fi_seq (fe_var 3)) (blkOk_by (own := [("_law_each", 4)]) (N := ["_law_quill_here", "_law_most", "_law_spot", "_law_word_here", "_law_each"]) (sc := defScope st__law_word) (by decide +kernel)) (by decide) (fun _ _ _ _ _ => (fg_name 4 (sc__law_word).nd)) (fun _ _ _ _ _ => fp_nil) (fun _ _ _ _ _ => (fe_if (ft_cmp opf_gt (fe_call G__law_scratch (hr.mono (by decide)) hg hT (by rfl) T.o__law_scratch.mg T.o__law_scratch.fn.kp T.o__law_scratch.b pass0 (fa_cons (fe_var 0) (fa_cons fe_int fa_nil))) fe_int) (fe_var 4) fe_int)))
      (fss_cons (fs_if (ft_cmp (opf_eq hr) (fe_call G__law_scratch (hr.mono (by decide)) hg hT (by rfl) T.o__law_scratch.mg T.o__law_scratch.fn.kp T.o__law_scratch.b pass0 (fa_cons (fe_var 0) (fa_cons fe_int fa_nil))) fe_int) (fss_cons (fs_set 2 (sc__law_word).nd (fe_call G__law_scratch (hr.mono (by decide)) hg hT (by rfl) T.o__law_scratch.mg T.o__law_scratch.fn.kp T.o__law_scratch.b pass0 (fa_cons (fe_var 0) (fa_cons fe_int fa_nil))))
      (fss_one (fs_ownSet 3 (fe_var 2) (fe_bin opf_add (fe_ownAt 3 (fe_var 2)) (fe_if (ft_cmp opf_lt (fe_ownAt 3 (fe_var 2)) (fe_var 1)) fe_int (fe_un un_negD neg_imp fe_int)))))) fss_nil)
      (fss_free 3 (fss_one (fs_ret (fe_callTy (cf_tuple) (by rfl) T.b_tuple (by decide +kernel) (fa_cons (fe_var 3) fa_nil))))))))
theorem sc__law_heard : FnScope ["_law_ask", "_law_caught", "error", "_law_word_here", "_law_is_so"] ["_law_ask"] (defScope st__law_heard) := ⟨rfl, rfl, rfl, by decide +kernel, rfl, by decide +kernel, by decide +kernel⟩
theorem ok__law_heard (T : Txt K mg a) : HeardG P w K mg base (tabsT a) 0 ["_law_ask", "_law_caught", "error", "_law_word_here", "_law_is_so"] "_law_heard" st__law_heard a.a__law_heard "_law_ask" m__law_heard :=
  heardF (i := 2) (j := 1) (kn := 5) (L := ["BadWord"]) rfl rfl rfl sc__law_heard.nd (by decide) rfl rfl (by decide) rfl rfl ⟨rfl, by decide, T.B0.mg⟩ (allL_cons (T.E_BadWord.takes T.B0) allL_nil) (by decide) (by decide) (fun q hT cdg A outer s H hr hg =>
      (fss_cons (fs_for PassesOwn.never rfl (fi_seq (fe_lst (fa_cons (fe_tup (fa_cons fe_str (fa_cons (fe_isO [("BadWord", true)] (by rfl) T.b_isinstance (fe_var 1) (by rfl) T.E_BadWord.e.mg (isoT_cons T.K_BadWord_BadWord isoT_nil)) fa_nil)) (lenA_cons (lenA_cons lenA_nil))) fa_nil) (lenA_cons lenA_nil))) (fg_tup (k := 2) rfl (fg_cons (fg_name 3 (sc__law_heard).nd) (fg_cons (fg_name 4 (sc__law_heard).nd) fg_nil))) (fss_one (fs_if (ft_val (fe_var 4)) (fss_one (fs_ret (fe_tup (fa_cons (fe_var 3) (fa_cons (fe_fld ["BadWord"] (fe_var 1) (allL_cons (T.E_BadWord.fld (by decide)) allL_nil)) fa_nil)) (lenA_cons (lenA_cons lenA_nil))))) fss_nil)))
      (fss_one (fs_ret (fe_if (ft_cmp opf_is (fe_var 1) fe_non) fe_non (fe_tup (fa_cons fe_str (fa_cons fe_non fa_nil)) (lenA_cons (lenA_cons lenA_nil)))))))) (fun _ _ _ _ _ => rfl) (fun _ _ _ _ _ => rfl) (fun _ _ _ _ _ => rfl)
theorem sc__law_bent : FnScope ["_law_quill_here", "_law_word_here", "_law_spot", "_law_way", "_law_new", "_law_found", "_law_odd", "_law_each"] ["_law_quill_here", "_law_word_here"] (defScope st__law_bent) := ⟨rfl, rfl, rfl, by decide +kernel, rfl, by decide +kernel, by decide +kernel⟩
theorem ok__law_bent (T : Txt K mg a) (G__law_scratch : FnG P w K mg base CX0 1 a.a__law_scratch a.d__law_scratch ps__law_scratch (spD K (tabsT a) (spF m__law_scratch))) (G__law_pick : FnG P w K mg base CX0 2 a.a__law_pick a.d__law_pick ps__law_pick (spD K (tabsT a) (spF m__law_pick))) : FnG P w K mg base CX0 3 a.a__law_bent a.d__law_bent ps__law_bent (spD K (tabsT a) (spF m__law_bent)) :=
  fnF (b := b__law_bent) T.o__law_bent.fn sc__law_bent rfl rfl rfl fun q hT cdv hcd A outer s H E hr hg =>
      (fss_cons (fs_par 2 3 rfl (sc__law_bent).nd (fe_call G__law_scratch (hr.mono (by decide)) hg hT (by rfl) T.o__law_scratch.mg T.o__law_scratch.fn.kp T.o__law_scratch.b pass0 (fa_cons (fe_var 0) (fa_cons fe_int fa_nil))) (fe_call G__law_scratch (hr.mono (by decide)) hg hT (by rfl) T.o__law_scratch.mg T.o__law_scratch.fn.kp T.o__law_scratch.b pass0 (fa_cons (fe_var 0) (fa_cons fe_int fa_nil))))
      (fss_cons (fs_if (ft_cmp opf_lt (fe_var 3) fe_int) (fss_cons (fs_set 4 (sc__law_bent).nd (fe_call G__law_pick (hr.mono (by decide)) hg hT (by rfl) T.o__law_pick.mg T.o__law_pick.fn.kp T.o__law_pick.b pass0 (fa_cons (fe_var 0) (fa_cons (fe_lst (fa_cons fe_int (fa_cons (fe_un un_negD neg_imp fe_int) (fa_cons fe_int (fa_cons (fe_un un_negD neg_imp fe_int) (fa_cons fe_int (fa_cons (fe_un un_negD neg_imp fe_int) (fa_cons fe_int (fa_cons (fe_un un_negD neg_imp fe_int) (fa_cons (fe_bin opf_add (fe_at (fe_var 1) (fe_var 2)) fe_int) (fa_cons (fe_bin opf_sub (fe_at (fe_var 1) (fe_var 2)) fe_int) (fa_cons fe_int (fa_cons (fe_bin opf_pow fe_int fe_int) fa_nil)))))))))))) (lenA_cons (lenA_cons (lenA_cons (lenA_cons (lenA_cons (lenA_cons (lenA_cons (lenA_cons (lenA_cons (lenA_cons (lenA_cons (lenA_cons lenA_nil))))))))))))) fa_nil))))
      (fss_cons (fs_set 5 (sc__law_bent).nd (fe_bin opf_add (fe_bin opf_add (fe_slice (fe_var 1) fo_none (fo_some (fe_var 2))) (fe_tup (fa_cons (fe_var 4) fa_nil) (lenA_cons lenA_nil))) (fe_slice (fe_var 1) (fo_some (fe_bin opf_add (fe_var 2) fe_int)) fo_none)))
      (fss_one (fs_ret (fe_tup (fa_cons (fe_var 5) (fa_cons (fe_and (fe_cmp opf_lt (fe_callB (cf_len) (by rfl) T.b_len (by decide +kernel) (fa_cons (fe_lc (own := [("_law_each", 7)]) rfl (sc__law_bent).nd (fi_seq (fe_var 5)) (blkOk_by (own := [("_law_each", 7)]) (N := ["_law_quill_here", "_law_word_here", "_law_spot", "_law_way", "_law_new", "_law_found", "_law_odd", "_law_each"]) (sc := defScope st__law_bent) (by decide +kernel)) (by decide) (fun _ _ _ _ _ => (fg_name 7 (sc__law_bent).nd)) (fun _ _ _ _ _ => (fp_one (ft_cmp (opf_eq hr) (fe_bin opf_band (fe_var 7) fe_int) fe_int))) (fun _ _ _ _ _ => (fe_var 7))) fa_nil)) fe_int) (fe_one (fe_cmp (opf_eq hr) (fe_lc (own := [("_law_each", 7)]) rfl (sc__law_bent).nd (fi_seq (fe_var 5)) (blkOk_by (own := [("_law_each", 7)]) (N := ["_law_quill_here", "_law_word_here", "_law_spot", "_law_way", "_law_new", "_law_found", "_law_odd", "_law_each"]) (sc := defScope st__law_bent) (by decide +kernel)) (by decide) (fun _ _ _ _ _ => (fg_name 7 (sc__law_bent).nd)) (fun _ _ _ _ _ => (fp_one (ft_not (ft_chain opf_le opf_le (fe_un un_negD neg_imp fe_int) (fe_var 7) fe_int)))) (fun _ _ _ _ _ => (fe_var 7))) (fe_lst fa_nil lenA_nil)))) fa_nil)) (lenA_cons (lenA_cons lenA_nil))))))) fss_nil)
      (fss_cons (fs_set 6 (sc__law_bent).nd (fe_lst (fa_cons fe_non (fa_cons fe_int (fa_cons fe_str (fa_cons (fe_slice (fe_var 1) fo_none (fo_some fe_int)) (fa_cons (fe_bin opf_add (fe_var 1) (fe_tup (fa_cons fe_int fa_nil) (lenA_cons lenA_nil))) (fa_cons (fe_c (de_disp [(.inl 0, 1), (.inl 1, 2), (.inl 2, 3)] (pps_cons pe_int pe_int (pps_cons pe_int pe_int (pps_cons pe_int pe_int pps_nil))) rfl rfl (List.cons_ne_nil _ _) (by decide) (by decide) rfl)) (fa_cons fe_bl (fa_cons (fe_bin opf_add (fe_bin opf_add (fe_slice (fe_var 1) fo_none (fo_some (fe_var 2))) (fe_tup (fa_cons fe_non fa_nil) (lenA_cons lenA_nil))) (fe_slice (fe_var 1) (fo_some (fe_bin opf_add (fe_var 2) fe_int)) fo_none)) (fa_cons (fe_bin opf_add (fe_bin opf_add (fe_slice (fe_var 1) fo_none (fo_some (fe_var 2))) (fe_tup (fa_cons fe_bl fa_nil) (lenA_cons lenA_nil))) (fe_slice (fe_var 1) (fo_some (fe_bin opf_add (fe_var 2) fe_int)) fo_none)) fa_nil))))))))) (lenA_cons (lenA_cons (lenA_cons (lenA_cons (lenA_cons (lenA_cons (lenA_cons (lenA_cons (lenA_cons lenA_nil)))))))))))
      (fss_cons (fs_set 6 (sc__law_bent).nd (fe_bin opf_add (fe_var 6) (fe_lst (fa_cons (fe_bin opf_add (fe_bin opf_add (fe_slice (fe_var 1) fo_none (fo_some (fe_var 2))) (fe_tup (fa_cons fe_str fa_nil) (lenA_cons lenA_nil))) (fe_slice (fe_var 1) (fo_some (fe_bin opf_add (fe_var 2) fe_int)) fo_none)) (fa_cons (fe_bin opf_add (fe_bin opf_add (fe_slice (fe_var 1) fo_none (fo_some (fe_var 2))) (fe_tup (fa_cons (fe_tup (fa_cons fe_int (fa_cons fe_int fa_nil)) (lenA_cons (lenA_cons lenA_nil))) fa_nil) (lenA_cons lenA_nil))) (fe_slice (fe_var 1) (fo_some (fe_bin opf_add (fe_var 2) fe_int)) fo_none)) (fa_cons (fe_lst (fa_cons (fe_callTy (cf_list) (by rfl) T.b_list (by decide +kernel) (fa_cons (fe_var 1) fa_nil)) fa_nil) (lenA_cons lenA_nil)) (fa_cons (fe_tup fa_nil lenA_nil) fa_nil)))) (lenA_cons (lenA_cons (lenA_cons (lenA_cons lenA_nil)))))))
      (fss_one (fs_ret (fe_if (ft_cmp (opf_eq hr) (fe_var 3) fe_int) (fe_tup (fa_cons (fe_callTy (cf_list) (by rfl) T.b_list (by decide +kernel) (fa_cons (fe_var 1) fa_nil)) (fa_cons fe_bl fa_nil)) (lenA_cons (lenA_cons lenA_nil))) (fe_tup (fa_cons (fe_call G__law_pick (hr.mono (by decide)) hg hT (by rfl) T.o__law_pick.mg T.o__law_pick.fn.kp T.o__law_pick.b pass0 (fa_cons (fe_var 0) (fa_cons (fe_var 6) fa_nil))) (fa_cons fe_bl fa_nil)) (lenA_cons (lenA_cons lenA_nil))))))))))
theorem sc__law_made : FnScope ["_law_word_here", "_law_some", "_law_spot", "_law_k", "_law_x", "_law_y", "_law_at"] ["_law_word_here"] (defScope st__law_made) := ⟨rfl, rfl, rfl, by decide +kernel, rfl, by decide +kernel, by decide +kernel⟩
theorem ok__law_made (T : Txt K mg a) : FnG P w K mg base CX0 1 a.a__law_made a.d__law_made ps__law_made (spD K (tabsT a) (spF m__law_made)) :=
  fnF (b := b__law_made) T.o__law_made.fn sc__law_made rfl rfl rfl fun q hT cdv hcd A outer s H E hr hg =>
      (fss_cons (fs_if (ft_cmp (opf_in hr) (fe_var 0) (fe_tup (fa_cons (fe_tup (fa_cons fe_int (fa_cons fe_int (fa_cons fe_int fa_nil))) (lenA_cons (lenA_cons (lenA_cons lenA_nil)))) (fa_cons (fe_tup (fa_cons fe_int (fa_cons fe_int (fa_cons fe_int fa_nil))) (lenA_cons (lenA_cons (lenA_cons lenA_nil)))) (fa_cons (fe_tup (fa_cons fe_int (fa_cons fe_int (fa_cons fe_int fa_nil))) (lenA_cons (lenA_cons (lenA_cons lenA_nil)))) (fa_cons (fe_tup (fa_cons fe_int (fa_cons fe_int (fa_cons fe_int fa_nil))) (lenA_cons (lenA_cons (lenA_cons lenA_nil)))) fa_nil)))) (lenA_cons (lenA_cons (lenA_cons (lenA_cons lenA_nil)))))) (fss_one (fs_ret fe_non)) fss_nil)
      (fss_cons (fs_setLc (own := [("_law_at", 6)]) 1 rfl (sc__law_made).nd (fi_rng1 (by rfl) T.b_range fe_int) (blkOk_by (own := [("_law_at", 6)]) (N := ["_law_word_here", "_law_some", "_law_spot", "_law_k", "_law_x", "_law_y", "_law_at"]) (sc := defScope st__law_made) (by decide +kernel)) (by decide) (fun _ _ _ _ _ => (fg_name 6 (sc__law_made).nd)) (fun _ _ _ _ _ => (fp_one (ft_cmp (opf_ne hr) (fe_at (fe_var 0) (fe_var 6)) fe_int))) (fun _ _ _ _ _ => (fe_var 6)))
      (fss_cons (fs_set 2 (sc__law_made).nd (fe_if (ft_cmp (opf_eq hr) (fe_callB (cf_len) (by rfl) T.b_len (by decide +kernel) (fa_cons (fe_var 1) fa_nil)) fe_int) (fe_at (fe_var 1) fe_int) (fe_at (fe_lc (own := [("_law_at", 6)]) rfl (sc__law_made).nd (fi_seq (fe_var 1)) (blkOk_by (own := [("_law_at", 6)]) (N := ["_law_word_here", "_law_some", "_law_spot", "_law_k", "_law_x", "_law_y", "_law_at"]) (sc := defScope st__law_made) (by decide +kernel)) (by decide) (fun _ _ _ _ _ => (fg_name 6 (sc__law_made).nd)) (fun _ _ _ _ _ => (fp_one (ft_cmp (opf_eq hr) (fe_bin opf_band (fe_at (fe_var 0) (fe_var 6)) fe_int) fe_int))) (fun _ _ _ _ _ => (fe_var 6))) fe_int)))
      (fss_cons (fs_parI3 3 4 5 rfl (sc__law_made).nd (sl_val (fe_at (fe_var 0) (fe_var 2))) (sl_own (fn_lst (fa_cons fe_int (fa_cons fe_int (fa_cons fe_int fa_nil))) (lenA_cons (lenA_cons (lenA_cons lenA_nil))))) (sl_own (fn_lst (fa_cons fe_int (fa_cons fe_int (fa_cons fe_int fa_nil))) (lenA_cons (lenA_cons (lenA_cons lenA_nil))))))
      (fss_cons (fs_if (ft_cmp opf_gt (fe_callB (cf_len) (by rfl) T.b_len (by decide +kernel) (fa_cons (fe_var 1) fa_nil)) fe_int) (fss_cons (fs_ownSet 4 (fe_var 2) (fe_bin opf_div (fe_callTy (cf_int) (by rfl) T.b_int (by decide +kernel) (fa_cons (fe_var 3) fa_nil)) fe_int))
      (fss_one (fs_setNewLc (own := [("_law_at", 6)]) 5 rfl (sc__law_made).nd (fi_rng1 (by rfl) T.b_range fe_int) (blkOk_by (own := [("_law_at", 6)]) (N := ["_law_word_here", "_law_some", "_law_spot", "_law_k", "_law_x", "_law_y", "_law_at"]) (sc := defScope st__law_made) (by decide +kernel)) (by decide) (fun _ _ _ _ _ => (fg_name 6 (sc__law_made).nd)) (fun _ _ _ _ _ => fp_nil) (fun _ _ _ _ _ => (fe_if (ft_cmp (opf_eq hr) (fe_var 6) (fe_var 2)) fe_int (fe_un un_negD neg_imp (fe_at (fe_var 0) (fe_var 6)))))))) (fss_one (fs_if (ft_cmp opf_lt (fe_var 3) fe_int) (fss_one (fs_ownSet 5 (fe_var 2) (fe_un un_negD neg_imp (fe_var 3)))) (fss_one (fs_subs2 4 5 rfl (fe_var 2) (fe_var 2) (fe_bin opf_div (fe_bin opf_add (fe_var 3) fe_int) fe_int) (fe_bin opf_band (fe_var 3) fe_int))))))
      (fss_free 4 (fss_free 5 (fss_one (fs_ret (fe_tup (fa_cons (fe_callTy (cf_tuple) (by rfl) T.b_tuple (by decide +kernel) (fa_cons (fe_var 4) fa_nil)) (fa_cons (fe_callTy (cf_tuple) (by rfl) T.b_tuple (by decide +kernel) (fa_cons (fe_var 5) fa_nil)) fa_nil)) (lenA_cons (lenA_cons lenA_nil))))))))))))
theorem sc__law_word_right : FnScope ["_law_quill_here", "_law_word_here", "_law_due", "_law_given", "_law_x", "_law_y", "_law_each", "_law_one", "_law_other"] ["_law_quill_here", "_law_word_here"] (defScope st__law_word_right) := ⟨rfl, rfl, rfl, by decide +kernel, rfl, by decide +kernel, by decide +kernel⟩
theorem ok__law_word_right (T : Txt K mg a) (G_is_word : FnG P w K mg base CX0 3 a.a_is_word a.d_is_word ps_is_word (spD K (tabsT a) (spF m_is_word))) (G_made_of : FnG P w K mg base (CX P w) 5 a.a_made_of a.d_made_of ps_made_of (spD K (tabsT a) (spF m_made_of))) (G__law_scratch : FnG P w K mg base CX0 1 a.a__law_scratch a.d__law_scratch ps__law_scratch (spD K (tabsT a) (spF m__law_scratch))) (G__law_made : FnG P w K mg base CX0 1 a.a__law_made a.d__law_made ps__law_made (spD K (tabsT a) (spF m__law_made))) : FnG P w K mg base CX0 6 a.a__law_word_right a.d__law_word_right ps__law_word_right (spD K (tabsT a) (spF m__law_word_right)) :=
  fnF (b := b__law_word_right) T.o__law_word_right.fn sc__law_word_right rfl rfl rfl fun q hT cdv hcd A outer s H E hr hg =>
      (fss_cons (fs_par 2 3 rfl (sc__law_word_right).nd (fe_call G__law_made (hr.mono (by decide)) hg hT (by rfl) T.o__law_made.mg T.o__law_made.fn.kp T.o__law_made.b pass0 (fa_cons (fe_var 1) fa_nil)) (fe_if (ft_cmp (opf_eq hr) (fe_call G__law_scratch (hr.mono (by decide)) hg hT (by rfl) T.o__law_scratch.mg T.o__law_scratch.fn.kp T.o__law_scratch.b pass0 (fa_cons (fe_var 0) (fa_cons fe_int fa_nil))) fe_int) (fe_var 1) (fe_callTy (cf_list) (by rfl) T.b_list (by decide +kernel) (fa_cons (fe_var 1) fa_nil))))
      (fss_cons (fs_if (ft_cmp (opf_ne hr) (fe_callB (cf_reprD hr hg) (by rfl) T.b_repr (by decide +kernel) (fa_cons (fe_lst (fa_cons (fe_call G_is_word (hr.mono (by decide)) hg hT (by rfl) T.o_is_word.mg T.o_is_word.fn.kp T.o_is_word.b pass0 (fa_cons (fe_var 3) fa_nil)) (fa_cons (fe_callK0 (g := @pickK 0 1 [0]) G_is_word (hr.mono (by decide)) hg hT (by rfl) T.o_is_word.mg T.o_is_word.fn.kp (kb_of (ks := ["value"]) (n := 0) (ix := [0]) T.o_is_word.fn (List.cons_ne_nil _ _) fun _ _ _ _ _ _ us ws h1 h2 => match us, ws, h1, h2 with | [], [_], _, _ => rfl) pass0 (pickK_dt 0 1 [0]) (fk_cons (fe_var 1) fk_nil)) (fa_cons (fe_call (FnG.calm G_made_of) (hr.mono (by decide)) hg hT (by rfl) T.o_made_of.mg T.o_made_of.fn.kp T.o_made_of.b pass0 (fa_cons (fe_var 3) fa_nil)) (fa_cons (fe_callK0 (g := @pickK 0 1 [0]) (FnG.calm G_made_of) (hr.mono (by decide)) hg hT (by rfl) T.o_made_of.mg T.o_made_of.fn.kp (kb_of (ks := ["word"]) (n := 0) (ix := [0]) T.o_made_of.fn (List.cons_ne_nil _ _) fun _ _ _ _ _ _ us ws h1 h2 => match us, ws, h1, h2 with | [], [_], _, _ => rfl) pass0 (pickK_dt 0 1 [0]) (fk_cons (fe_var 1) fk_nil)) fa_nil)))) (lenA_cons (lenA_cons (lenA_cons (lenA_cons lenA_nil))))) fa_nil)) (fe_callB (cf_reprD hr hg) (by rfl) T.b_repr (by decide +kernel) (fa_cons (fe_lst (fa_cons fe_bl (fa_cons fe_bl (fa_cons (fe_var 2) (fa_cons (fe_var 2) fa_nil)))) (lenA_cons (lenA_cons (lenA_cons (lenA_cons lenA_nil))))) fa_nil))) (fss_one (fs_ret fe_bl)) fss_nil)
      (fss_cons (fs_if (ft_cmp opf_is (fe_var 2) fe_non) (fss_one (fs_ret (fe_cmp (opf_in hr) (fe_callB (cf_sorted) (by rfl) T.b_sorted (by decide +kernel) (fa_cons (fe_var 1) fa_nil)) (fe_tup (fa_cons (fe_lst (fa_cons fe_int (fa_cons fe_int (fa_cons fe_int fa_nil))) (lenA_cons (lenA_cons (lenA_cons lenA_nil)))) (fa_cons (fe_lst (fa_cons fe_int (fa_cons fe_int (fa_cons fe_int fa_nil))) (lenA_cons (lenA_cons (lenA_cons lenA_nil)))) fa_nil)) (lenA_cons (lenA_cons lenA_nil)))))) fss_nil)
      (fss_cons (fs_asg (fe_call (FnG.calm G_made_of) (hr.mono (by decide)) hg hT (by rfl) T.o_made_of.mg T.o_made_of.fn.kp T.o_made_of.b pass0 (fa_cons (fe_var 1) fa_nil)) (fg_tup (k := 2) rfl (fg_cons (fg_name 4 (sc__law_word_right).nd) (fg_cons (fg_name 5 (sc__law_word_right).nd) fg_nil))))
      (fss_cons (fs_if (fw_t (fw_or (ft_cmp (opf_ne hr) (fe_callTy (cf_tuple) (by rfl) T.b_tuple (by decide +kernel) (fa_cons (fe_lc (own := [("_law_one", 7), ("_law_other", 8)]) rfl (sc__law_word_right).nd (fi_zip (by rfl) T.b_zip (fe_var 4) (fe_var 5)) (blkOk_by (own := [("_law_one", 7), ("_law_other", 8)]) (N := ["_law_quill_here", "_law_word_here", "_law_due", "_law_given", "_law_x", "_law_y", "_law_each", "_law_one", "_law_other"]) (sc := defScope st__law_word_right) (by decide +kernel)) (by decide) (fun _ _ _ _ _ => (fg_tup (k := 2) rfl (fg_cons (fg_name 7 (sc__law_word_right).nd) (fg_cons (fg_name 8 (sc__law_word_right).nd) fg_nil)))) (fun _ _ _ _ _ => fp_nil) (fun _ _ _ _ _ => (fe_bin opf_sub (fe_bin opf_mul fe_int (fe_var 7)) (fe_var 8)))) fa_nil)) (fe_var 1)) (fw_or1 (ft_cmp (opf_ne hr) (fe_lst (fa_cons (fe_call G_is_word (hr.mono (by decide)) hg hT (by rfl) T.o_is_word.mg T.o_is_word.fn.kp T.o_is_word.b pass0 (fa_cons (fe_var 4) fa_nil)) (fa_cons (fe_call G_is_word (hr.mono (by decide)) hg hT (by rfl) T.o_is_word.mg T.o_is_word.fn.kp T.o_is_word.b pass0 (fa_cons (fe_var 5) fa_nil)) fa_nil)) (lenA_cons (lenA_cons lenA_nil))) (fe_lst (fa_cons fe_bl (fa_cons fe_bl fa_nil)) (lenA_cons (lenA_cons lenA_nil))))))) (fss_one (fs_ret fe_bl)) fss_nil)
      (fss_one (fs_ret (fe_cmp (opf_eq hr) (fe_lc (own := [("_law_each", 6)]) rfl (sc__law_word_right).nd (fi_seq (fe_var 5)) (blkOk_by (own := [("_law_each", 6)]) (N := ["_law_quill_here", "_law_word_here", "_law_due", "_law_given", "_law_x", "_law_y", "_law_each", "_law_one", "_law_other"]) (sc := defScope st__law_word_right) (by decide +kernel)) (by decide) (fun _ _ _ _ _ => (fg_name 6 (sc__law_word_right).nd)) (fun _ _ _ _ _ => fp_nil) (fun _ _ _ _ _ => (fe_bin opf_band (fe_var 6) fe_int))) (fe_lc (own := [("_law_each", 6)]) rfl (sc__law_word_right).nd (fi_seq (fe_var 1)) (blkOk_by (own := [("_law_each", 6)]) (N := ["_law_quill_here", "_law_word_here", "_law_due", "_law_given", "_law_x", "_law_y", "_law_each", "_law_one", "_law_other"]) (sc := defScope st__law_word_right) (by decide +kernel)) (by decide) (fun _ _ _ _ _ => (fg_name 6 (sc__law_word_right).nd)) (fun _ _ _ _ _ => fp_nil) (fun _ _ _ _ _ => (fe_bin opf_band (fe_var 6) fe_int)))))))))))
theorem sc_law : FnScope ["_law_script", "_law_quill_here", "_law_turn", "_law_word_here", "_law_due", "_law_kept", "_law_some", "_law_value"] ["_law_script"] (defScope st_law) := ⟨rfl, rfl, rfl, by decide +kernel, rfl, by decide +kernel, by decide +kernel⟩
theorem ok_law (T : Txt K mg a) (G_is_word : FnG P w K mg base CX0 3 a.a_is_word a.d_is_word ps_is_word (spD K (tabsT a) (spF m_is_word))) (G_made_of : FnG P w K mg base (CX P w) 5 a.a_made_of a.d_made_of ps_made_of (spD K (tabsT a) (spF m_made_of))) (G__law_quill : FnG P w K mg base CX0 1 a.a__law_quill a.d__law_quill ps__law_quill (spD K (tabsT a) (spF m__law_quill))) (G__law_pick : FnG P w K mg base CX0 2 a.a__law_pick a.d__law_pick ps__law_pick (spD K (tabsT a) (spF m__law_pick))) (G__law_word : FnG P w K mg base CX0 2 a.a__law_word a.d__law_word ps__law_word (spD K (tabsT a) (spF m__law_word))) (G__law_heard : HeardG P w K mg base (tabsT a) 0 ["_law_ask", "_law_caught", "error", "_law_word_here", "_law_is_so"] "_law_heard" st__law_heard a.a__law_heard "_law_ask" m__law_heard) (G__law_bent : FnG P w K mg base CX0 3 a.a__law_bent a.d__law_bent ps__law_bent (spD K (tabsT a) (spF m__law_bent))) (G__law_word_right : FnG P w K mg base CX0 6 a.a__law_word_right a.d__law_word_right ps__law_word_right (spD K (tabsT a) (spF m__law_word_right))) (B_law : LamX.TabB base mg a.tc_law a.tp_law) (r0 : ∀ ns : List Int, ns.length ≤ 63 → ∃ (ms : List Int) (s : Sd), f0_law (Slot.d (.scr ns) :: List.replicate (8 - 1) Slot.no) (0, 0) = .ok (.lst [.lst (ms.map D.int), .int 0, .int 0]) s)
    (r1 : ∀ ms : List Int, ∃ s, b_law (Slot.no :: Slot.d (.drum ms) :: List.replicate (8 - 2) Slot.no) (0, 0) = .rt (.bl true) s) : FnG P w K mg base CX0 8 a.a_law a.d_law ps_law (spLaw K (tabsT a)) := by
  exact lawF (f0 := f0_law) (u := b_law) T.o_law.fn sc_law rfl rfl (by decide) (fun cdv hcd A outer s H E hr hg => have hT : (Dq.mk none (tabsT a)).T = tabsT a := rfl; (fs_set 1 (sc_law).nd (fe_call G__law_quill (hr.mono (by decide)) hg hT (by rfl) T.o__law_quill.mg T.o__law_quill.fn.kp T.o__law_quill.b pass0 (fa_cons (fe_var 0) fa_nil)))) (fun cdv hcd A outer s H E hr hg => have hT : (Dq.mk none (tabsT a)).T = tabsT a := rfl; (ds_set 1 (sc_law).nd (fe_call G__law_quill (hr.mono (by decide)) hg hT (by rfl) T.o__law_quill.mg T.o__law_quill.fn.kp T.o__law_quill.b pass0 (fa_cons (fe_var 0) fa_nil)))) (fun q hT H0 cdv hcd A outer s H E hr hg =>
      (fss_cons (fs_for PassesOwn.never rfl (fi_rng1 (by rfl) T.b_range fe_int) (fg_name 2 (sc_law).nd) (fss_cons (fs_set 3 (sc_law).nd (fe_call G__law_word (hr.mono (by decide)) hg hT (by rfl) T.o__law_word.mg T.o__law_word.fn.kp T.o__law_word.b pass0 (fa_cons (fe_var 1) (fa_cons (fe_call G__law_pick (hr.mono (by decide)) hg hT (by rfl) T.o__law_pick.mg T.o__law_pick.fn.kp T.o__law_pick.b pass0 (fa_cons (fe_var 1) (fa_cons (fe_lst (fa_cons fe_int (fa_cons fe_int (fa_cons fe_int (fa_cons fe_int (fa_cons fe_int fa_nil))))) (lenA_cons (lenA_cons (lenA_cons (lenA_cons (lenA_cons lenA_nil)))))) fa_nil))) fa_nil))))
      (fss_cons (fs_if (ft_not (ft_val (fe_call G__law_word_right (hr.mono (by decide)) hg hT (by rfl) T.o__law_word_right.mg T.o__law_word_right.fn.kp T.o__law_word_right.b pass0 (fa_cons (fe_var 1) (fa_cons (fe_var 3) fa_nil))))) (fss_one (fs_ret fe_bl)) fss_nil)
      (fss_cons (fs_asg (fe_call G__law_bent (hr.mono (by decide)) hg hT (by rfl) T.o__law_bent.mg T.o__law_bent.fn.kp T.o__law_bent.b pass0 (fa_cons (fe_var 1) (fa_cons (fe_var 3) fa_nil))) (fg_tup (k := 2) rfl (fg_cons (fg_name 7 (sc_law).nd) (fg_cons (fg_name 4 (sc_law).nd) fg_nil))))
      (fss_cons (fs_set 5 (sc_law).nd (fe_callB (cf_reprD hr hg) (by rfl) T.b_repr (by decide +kernel) (fa_cons (fe_var 7) fa_nil)))
      (fss_cons (fs_if (fw_t (fw_or (ft_cmp (opf_ne hr) (fe_callB (cf_reprD hr hg) (by rfl) T.b_repr (by decide +kernel) (fa_cons (fe_call G_is_word (hr.mono (by decide)) hg hT (by rfl) T.o_is_word.mg T.o_is_word.fn.kp T.o_is_word.b pass0 (fa_cons (fe_var 7) fa_nil)) fa_nil)) (fe_callB (cf_reprD hr hg) (by rfl) T.b_repr (by decide +kernel) (fa_cons (fe_var 4) fa_nil))) (fw_or1 (ft_cmp (opf_ne hr) (fe_callB (cf_reprD hr hg) (by rfl) T.b_repr (by decide +kernel) (fa_cons (fe_var 7) fa_nil)) (fe_var 5))))) (fss_one (fs_ret fe_bl)) fss_nil)
      (fss_one (fs_if (fw_t (fw_or (fw_t (fw_and (ft_val (fe_var 4)) (fw_and1 (ft_not (ft_val (fe_call G__law_word_right (hr.mono (by decide)) hg hT (by rfl) T.o__law_word_right.mg T.o__law_word_right.fn.kp T.o__law_word_right.b pass0 (fa_cons (fe_var 1) (fa_cons (fe_callTy (cf_tuple) (by rfl) T.b_tuple (by decide +kernel) (fa_cons (fe_var 7) fa_nil)) fa_nil)))))))) (fw_or1 (fw_t (fw_and (ft_not (ft_val (fe_var 4))) (fw_and1 (ft_cmp (opf_ne hr) (fe_lam (dn := false) (kl := 5) G__law_heard T.o__law_heard.fn sc__law_heard T.o__law_heard.mg T.o__law_heard.fn.kp T.o__law_heard.b (hr.mono (by decide)) (by decide) hg hT B_law (hcd.symm.trans T.t_law.c) mem_law (hu_law T) (lamN_by (N := ["_law_script", "_law_quill_here", "_law_turn", "_law_word_here", "_law_due", "_law_kept", "_law_some", "_law_value"]) (sc := defScope st_law) (by decide +kernel)) (by rfl) rfl rfl (bindL0 fun _ _ _ _ _ _ => rfl) rfl (.inl rfl) (fun H0 A outer s H E f c' hr hg => (fe_call G_made_of (hr.mono (by decide)) hg hT (by rfl) T.o_made_of.mg T.o_made_of.fn.kp T.o_made_of.b passL (fa_cons (fe_var 7) fa_nil)))) (fe_tup (fa_cons fe_str (fa_cons fe_str fa_nil)) (lenA_cons (lenA_cons lenA_nil)))))))))) (fss_one (fs_ret fe_bl)) fss_nil))))))))
      (fss_cons (fs_set 6 (sc_law).nd (fe_lst (fa_cons (fe_tup (fa_cons fe_int (fa_cons fe_int (fa_cons fe_int fa_nil))) (lenA_cons (lenA_cons (lenA_cons lenA_nil)))) (fa_cons (fe_tup (fa_cons fe_int (fa_cons fe_int (fa_cons fe_int fa_nil))) (lenA_cons (lenA_cons (lenA_cons lenA_nil)))) (fa_cons (fe_tup (fa_cons fe_int (fa_cons fe_int (fa_cons fe_int fa_nil))) (lenA_cons (lenA_cons (lenA_cons lenA_nil)))) (fa_cons (fe_tup (fa_cons fe_int (fa_cons fe_int (fa_cons fe_int fa_nil))) (lenA_cons (lenA_cons (lenA_cons lenA_nil)))) fa_nil)))) (lenA_cons (lenA_cons (lenA_cons (lenA_cons lenA_nil))))))
      (fss_one (fs_ret (fe_and (fe_cmp (opf_eq hr) (fe_lc (own := [("_law_word_here", 3)]) rfl (sc_law).nd (fi_seq (fe_var 6)) (blkOk_by (own := [("_law_word_here", 3)]) (N := ["_law_script", "_law_quill_here", "_law_turn", "_law_word_here", "_law_due", "_law_kept", "_law_some", "_law_value"]) (sc := defScope st_law) (by decide +kernel)) (by decide) (fun _ _ _ _ _ => (fg_name 3 (sc_law).nd)) (fun _ _ _ _ _ => (fp_one (ft_cmp opf_isnt (fe_call (FnG.calm G_made_of) (hr.mono (by decide)) hg hT (by rfl) T.o_made_of.mg T.o_made_of.fn.kp T.o_made_of.b pass0 (fa_cons (fe_var 3) fa_nil)) fe_non))) (fun _ _ _ _ _ => (fe_var 3))) (fe_lst fa_nil lenA_nil)) (fe_and (fe_cmp (opf_eq hr) (fe_call (FnG.calm G_made_of) (hr.mono (by decide)) hg hT (by rfl) T.o_made_of.mg T.o_made_of.fn.kp T.o_made_of.b pass0 (fa_cons (fe_tup (fa_cons fe_int (fa_cons (fe_un un_negD neg_imp fe_int) (fa_cons fe_int fa_nil))) (lenA_cons (lenA_cons (lenA_cons lenA_nil)))) fa_nil)) (fe_tup (fa_cons (fe_tup (fa_cons fe_int (fa_cons fe_int (fa_cons fe_int fa_nil))) (lenA_cons (lenA_cons (lenA_cons lenA_nil)))) (fa_cons (fe_tup (fa_cons fe_int (fa_cons fe_int (fa_cons fe_int fa_nil))) (lenA_cons (lenA_cons (lenA_cons lenA_nil)))) fa_nil)) (lenA_cons (lenA_cons lenA_nil)))) (fe_one (fe_not (fe_call G_is_word (hr.mono (by decide)) hg hT (by rfl) T.o_is_word.mg T.o_is_word.fn.kp T.o_is_word.b pass0 (fa_cons (fe_tup (fa_cons fe_int (fa_cons fe_int (fa_cons (fe_un un_negD neg_imp fe_int) fa_nil))) (lenA_cons (lenA_cons (lenA_cons lenA_nil)))) fa_nil))))))))))) r0 r1
end
theorem all_mk (r0 : ∀ ns : List Int, ns.length ≤ 63 → ∃ (ms : List Int) (s : Sd), f0_law (Slot.d (.scr ns) :: List.replicate (8 - 1) Slot.no) (0, 0) = .ok (.lst [.lst (ms.map D.int), .int 0, .int 0]) s) (r1 : ∀ ms : List Int, ∃ s, b_law (Slot.no :: Slot.d (.drum ms) :: List.replicate (8 - 2) Slot.no) (0, 0) = .rt (.bl true) s) {l : PySem.W.OpenLaw} {w : World} {K : PySem.W.Frag} {h : Heap} {mg : Str → Option Value} {fa : Addr} (X : K.In h) (G : h.Ns mainGlobals mg) (hfa : mg "law" = some (.ref fa))
    {f_is_integer : Addr} {od_is_integer an_is_integer : Option Addr} {sl_is_integer : Array (Option Value)} {oc_is_integer kV_is_integer dc_is_integer pm_is_integer cd_is_integer ct_is_integer : Value}
    (n_is_integer : PySem.W.nsIn K mainGlobals "is_integer" = some (some (.ref f_is_integer))) (l_is_integer : K.lookup f_is_integer = some ⟨oc_is_integer, od_is_integer, .func (PySem.W.fnOf "is_integer" "is_integer" (defArgs st_is_integer) (defBody st_is_integer) (defScope st_is_integer) .none kV_is_integer dc_is_integer pm_is_integer an_is_integer cd_is_integer ct_is_integer), sl_is_integer⟩) (c_is_integer : PySem.W.codeIn K cd_is_integer "is_integer" = true) (k_is_integer : PySem.W.keepIn K (.ref f_is_integer) = true)
    {f_is_within : Addr} {od_is_within an_is_within : Option Addr} {sl_is_within : Array (Option Value)} {oc_is_within kV_is_within dc_is_within pm_is_within cd_is_within ct_is_within : Value}
    (n_is_within : PySem.W.nsIn K mainGlobals "is_within" = some (some (.ref f_is_within))) (l_is_within : K.lookup f_is_within = some ⟨oc_is_within, od_is_within, .func (PySem.W.fnOf "is_within" "is_within" (defArgs st_is_within) (defBody st_is_within) (defScope st_is_within) .none kV_is_within dc_is_within pm_is_within an_is_within cd_is_within ct_is_within), sl_is_within⟩) (c_is_within : PySem.W.codeIn K cd_is_within "is_within" = true) (k_is_within : PySem.W.keepIn K (.ref f_is_within) = true)
    {f_is_list : Addr} {od_is_list an_is_list : Option Addr} {sl_is_list : Array (Option Value)} {oc_is_list kV_is_list dc_is_list pm_is_list cd_is_list ct_is_list : Value}
    (n_is_list : PySem.W.nsIn K mainGlobals "is_list" = some (some (.ref f_is_list))) (l_is_list : K.lookup f_is_list = some ⟨oc_is_list, od_is_list, .func (PySem.W.fnOf "is_list" "is_list" (defArgs st_is_list) (defBody st_is_list) (defScope st_is_list) .none kV_is_list dc_is_list pm_is_list an_is_list cd_is_list ct_is_list), sl_is_list⟩) (c_is_list : PySem.W.codeIn K cd_is_list "is_list" = true) (k_is_list : PySem.W.keepIn K (.ref f_is_list) = true)
    {f_is_word : Addr} {od_is_word an_is_word : Option Addr} {sl_is_word : Array (Option Value)} {oc_is_word kV_is_word dc_is_word pm_is_word cd_is_word ct_is_word : Value}
    (n_is_word : PySem.W.nsIn K mainGlobals "is_word" = some (some (.ref f_is_word))) (l_is_word : K.lookup f_is_word = some ⟨oc_is_word, od_is_word, .func (PySem.W.fnOf "is_word" "is_word" (defArgs st_is_word) (defBody st_is_word) (defScope st_is_word) .none kV_is_word dc_is_word pm_is_word an_is_word cd_is_word ct_is_word), sl_is_word⟩) (c_is_word : PySem.W.codeIn K cd_is_word "is_word" = true) (k_is_word : PySem.W.keepIn K (.ref f_is_word) = true)
    {f_put_at : Addr} {od_put_at an_put_at : Option Addr} {sl_put_at : Array (Option Value)} {oc_put_at kV_put_at dc_put_at pm_put_at cd_put_at ct_put_at : Value}
    (n_put_at : PySem.W.nsIn K mainGlobals "put_at" = some (some (.ref f_put_at))) (l_put_at : K.lookup f_put_at = some ⟨oc_put_at, od_put_at, .func (PySem.W.fnOf "put_at" "put_at" (defArgs st_put_at) (defBody st_put_at) (defScope st_put_at) .none kV_put_at dc_put_at pm_put_at an_put_at cd_put_at ct_put_at), sl_put_at⟩) (c_put_at : PySem.W.codeIn K cd_put_at "put_at" = true) (k_put_at : PySem.W.keepIn K (.ref f_put_at) = true)
    {f_alone_from : Addr} {od_alone_from an_alone_from : Option Addr} {sl_alone_from : Array (Option Value)} {oc_alone_from kV_alone_from dc_alone_from pm_alone_from cd_alone_from ct_alone_from : Value}
    (n_alone_from : PySem.W.nsIn K mainGlobals "alone_from" = some (some (.ref f_alone_from))) (l_alone_from : K.lookup f_alone_from = some ⟨oc_alone_from, od_alone_from, .func (PySem.W.fnOf "alone_from" "alone_from" (defArgs st_alone_from) (defBody st_alone_from) (defScope st_alone_from) .none kV_alone_from dc_alone_from pm_alone_from an_alone_from cd_alone_from ct_alone_from), sl_alone_from⟩) (c_alone_from : PySem.W.codeIn K cd_alone_from "alone_from" = true) (k_alone_from : PySem.W.keepIn K (.ref f_alone_from) = true)
    {f_made_in : Addr} {od_made_in an_made_in : Option Addr} {sl_made_in : Array (Option Value)} {oc_made_in kV_made_in dc_made_in pm_made_in cd_made_in ct_made_in : Value}
    (n_made_in : PySem.W.nsIn K mainGlobals "made_in" = some (some (.ref f_made_in))) (l_made_in : K.lookup f_made_in = some ⟨oc_made_in, od_made_in, .func (PySem.W.fnOf "made_in" "made_in" (defArgs st_made_in) (defBody st_made_in) (defScope st_made_in) .none kV_made_in dc_made_in pm_made_in an_made_in cd_made_in ct_made_in), sl_made_in⟩) (c_made_in : PySem.W.codeIn K cd_made_in "made_in" = true) (k_made_in : PySem.W.keepIn K (.ref f_made_in) = true)
    {f_need_word : Addr} {od_need_word an_need_word : Option Addr} {sl_need_word : Array (Option Value)} {oc_need_word kV_need_word dc_need_word pm_need_word cd_need_word ct_need_word : Value}
    (n_need_word : PySem.W.nsIn K mainGlobals "need_word" = some (some (.ref f_need_word))) (l_need_word : K.lookup f_need_word = some ⟨oc_need_word, od_need_word, .func (PySem.W.fnOf "need_word" "need_word" (defArgs st_need_word) (defBody st_need_word) (defScope st_need_word) .none kV_need_word dc_need_word pm_need_word an_need_word cd_need_word ct_need_word), sl_need_word⟩) (c_need_word : PySem.W.codeIn K cd_need_word "need_word" = true) (k_need_word : PySem.W.keepIn K (.ref f_need_word) = true)
    {f_made_of : Addr} {od_made_of an_made_of : Option Addr} {sl_made_of : Array (Option Value)} {oc_made_of kV_made_of dc_made_of pm_made_of cd_made_of ct_made_of : Value}
    (n_made_of : PySem.W.nsIn K mainGlobals "made_of" = some (some (.ref f_made_of))) (l_made_of : K.lookup f_made_of = some ⟨oc_made_of, od_made_of, .func (PySem.W.fnOf "made_of" "made_of" (defArgs st_made_of) (defBody st_made_of) (defScope st_made_of) .none kV_made_of dc_made_of pm_made_of an_made_of cd_made_of ct_made_of), sl_made_of⟩) (c_made_of : PySem.W.codeIn K cd_made_of "made_of" = true) (k_made_of : PySem.W.keepIn K (.ref f_made_of) = true)
    {f__law_quill : Addr} {od__law_quill an__law_quill : Option Addr} {sl__law_quill : Array (Option Value)} {oc__law_quill kV__law_quill dc__law_quill pm__law_quill cd__law_quill ct__law_quill : Value}
    (n__law_quill : PySem.W.nsIn K mainGlobals "_law_quill" = some (some (.ref f__law_quill))) (l__law_quill : K.lookup f__law_quill = some ⟨oc__law_quill, od__law_quill, .func (PySem.W.fnOf "_law_quill" "_law_quill" (defArgs st__law_quill) (defBody st__law_quill) (defScope st__law_quill) .none kV__law_quill dc__law_quill pm__law_quill an__law_quill cd__law_quill ct__law_quill), sl__law_quill⟩) (c__law_quill : PySem.W.codeIn K cd__law_quill "_law_quill" = true) (k__law_quill : PySem.W.keepIn K (.ref f__law_quill) = true)
    {f__law_scratch : Addr} {od__law_scratch an__law_scratch : Option Addr} {sl__law_scratch : Array (Option Value)} {oc__law_scratch kV__law_scratch dc__law_scratch pm__law_scratch cd__law_scratch ct__law_scratch : Value}
    (n__law_scratch : PySem.W.nsIn K mainGlobals "_law_scratch" = some (some (.ref f__law_scratch))) (l__law_scratch : K.lookup f__law_scratch = some ⟨oc__law_scratch, od__law_scratch, .func (PySem.W.fnOf "_law_scratch" "_law_scratch" (defArgs st__law_scratch) (defBody st__law_scratch) (defScope st__law_scratch) .none kV__law_scratch dc__law_scratch pm__law_scratch an__law_scratch cd__law_scratch ct__law_scratch), sl__law_scratch⟩) (c__law_scratch : PySem.W.codeIn K cd__law_scratch "_law_scratch" = true) (k__law_scratch : PySem.W.keepIn K (.ref f__law_scratch) = true)
    {f__law_pick : Addr} {od__law_pick an__law_pick : Option Addr} {sl__law_pick : Array (Option Value)} {oc__law_pick kV__law_pick dc__law_pick pm__law_pick cd__law_pick ct__law_pick : Value}
    (n__law_pick : PySem.W.nsIn K mainGlobals "_law_pick" = some (some (.ref f__law_pick))) (l__law_pick : K.lookup f__law_pick = some ⟨oc__law_pick, od__law_pick, .func (PySem.W.fnOf "_law_pick" "_law_pick" (defArgs st__law_pick) (defBody st__law_pick) (defScope st__law_pick) .none kV__law_pick dc__law_pick pm__law_pick an__law_pick cd__law_pick ct__law_pick), sl__law_pick⟩) (c__law_pick : PySem.W.codeIn K cd__law_pick "_law_pick" = true) (k__law_pick : PySem.W.keepIn K (.ref f__law_pick) = true)
    {f__law_word : Addr} {od__law_word an__law_word : Option Addr} {sl__law_word : Array (Option Value)} {oc__law_word kV__law_word dc__law_word pm__law_word cd__law_word ct__law_word : Value}
    (n__law_word : PySem.W.nsIn K mainGlobals "_law_word" = some (some (.ref f__law_word))) (l__law_word : K.lookup f__law_word = some ⟨oc__law_word, od__law_word, .func (PySem.W.fnOf "_law_word" "_law_word" (defArgs st__law_word) (defBody st__law_word) (defScope st__law_word) .none kV__law_word dc__law_word pm__law_word an__law_word cd__law_word ct__law_word), sl__law_word⟩) (c__law_word : PySem.W.codeIn K cd__law_word "_law_word" = true) (k__law_word : PySem.W.keepIn K (.ref f__law_word) = true)
    {f__law_heard : Addr} {od__law_heard an__law_heard : Option Addr} {sl__law_heard : Array (Option Value)} {oc__law_heard kV__law_heard dc__law_heard pm__law_heard cd__law_heard ct__law_heard : Value}
    (n__law_heard : PySem.W.nsIn K mainGlobals "_law_heard" = some (some (.ref f__law_heard))) (l__law_heard : K.lookup f__law_heard = some ⟨oc__law_heard, od__law_heard, .func (PySem.W.fnOf "_law_heard" "_law_heard" (defArgs st__law_heard) (defBody st__law_heard) (defScope st__law_heard) .none kV__law_heard dc__law_heard pm__law_heard an__law_heard cd__law_heard ct__law_heard), sl__law_heard⟩) (c__law_heard : PySem.W.codeIn K cd__law_heard "_law_heard" = true) (k__law_heard : PySem.W.keepIn K (.ref f__law_heard) = true)
    {f__law_bent : Addr} {od__law_bent an__law_bent : Option Addr} {sl__law_bent : Array (Option Value)} {oc__law_bent kV__law_bent dc__law_bent pm__law_bent cd__law_bent ct__law_bent : Value}
    (n__law_bent : PySem.W.nsIn K mainGlobals "_law_bent" = some (some (.ref f__law_bent))) (l__law_bent : K.lookup f__law_bent = some ⟨oc__law_bent, od__law_bent, .func (PySem.W.fnOf "_law_bent" "_law_bent" (defArgs st__law_bent) (defBody st__law_bent) (defScope st__law_bent) .none kV__law_bent dc__law_bent pm__law_bent an__law_bent cd__law_bent ct__law_bent), sl__law_bent⟩) (c__law_bent : PySem.W.codeIn K cd__law_bent "_law_bent" = true) (k__law_bent : PySem.W.keepIn K (.ref f__law_bent) = true)
    {f__law_made : Addr} {od__law_made an__law_made : Option Addr} {sl__law_made : Array (Option Value)} {oc__law_made kV__law_made dc__law_made pm__law_made cd__law_made ct__law_made : Value}
    (n__law_made : PySem.W.nsIn K mainGlobals "_law_made" = some (some (.ref f__law_made))) (l__law_made : K.lookup f__law_made = some ⟨oc__law_made, od__law_made, .func (PySem.W.fnOf "_law_made" "_law_made" (defArgs st__law_made) (defBody st__law_made) (defScope st__law_made) .none kV__law_made dc__law_made pm__law_made an__law_made cd__law_made ct__law_made), sl__law_made⟩) (c__law_made : PySem.W.codeIn K cd__law_made "_law_made" = true) (k__law_made : PySem.W.keepIn K (.ref f__law_made) = true)
    {f__law_word_right : Addr} {od__law_word_right an__law_word_right : Option Addr} {sl__law_word_right : Array (Option Value)} {oc__law_word_right kV__law_word_right dc__law_word_right pm__law_word_right cd__law_word_right ct__law_word_right : Value}
    (n__law_word_right : PySem.W.nsIn K mainGlobals "_law_word_right" = some (some (.ref f__law_word_right))) (l__law_word_right : K.lookup f__law_word_right = some ⟨oc__law_word_right, od__law_word_right, .func (PySem.W.fnOf "_law_word_right" "_law_word_right" (defArgs st__law_word_right) (defBody st__law_word_right) (defScope st__law_word_right) .none kV__law_word_right dc__law_word_right pm__law_word_right an__law_word_right cd__law_word_right ct__law_word_right), sl__law_word_right⟩) (c__law_word_right : PySem.W.codeIn K cd__law_word_right "_law_word_right" = true) (k__law_word_right : PySem.W.keepIn K (.ref f__law_word_right) = true)
    {f_law : Addr} {od_law an_law : Option Addr} {sl_law : Array (Option Value)} {oc_law kV_law dc_law pm_law cd_law ct_law : Value}
    (n_law : PySem.W.nsIn K mainGlobals "law" = some (some (.ref f_law))) (l_law : K.lookup f_law = some ⟨oc_law, od_law, .func (PySem.W.fnOf "law" "law" (defArgs st_law) (defBody st_law) (defScope st_law) .none kV_law dc_law pm_law an_law cd_law ct_law), sl_law⟩) (c_law : PySem.W.codeIn K cd_law "law" = true) (k_law : PySem.W.keepIn K (.ref f_law) = true)
    (b_abs : PySem.W.nsIn K mainGlobals "abs" = some none)
    (b_all : PySem.W.nsIn K mainGlobals "all" = some none)
    (b_bool : PySem.W.nsIn K mainGlobals "bool" = some none)
    (b_enumerate : PySem.W.nsIn K mainGlobals "enumerate" = some none)
    (b_int : PySem.W.nsIn K mainGlobals "int" = some none)
    (b_isinstance : PySem.W.nsIn K mainGlobals "isinstance" = some none)
    (b_len : PySem.W.nsIn K mainGlobals "len" = some none)
    (b_list : PySem.W.nsIn K mainGlobals "list" = some none)
    (b_range : PySem.W.nsIn K mainGlobals "range" = some none)
    (b_repr : PySem.W.nsIn K mainGlobals "repr" = some none)
    (b_sorted : PySem.W.nsIn K mainGlobals "sorted" = some none)
    (b_tuple : PySem.W.nsIn K mainGlobals "tuple" = some none)
    (b_zip : PySem.W.nsIn K mainGlobals "zip" = some none)
    {t_FIRST_WORDS_3 : Tok} {t_FIRST_WORDS_4 : Tok} {t_FIRST_WORDS_5 : Tok} {a_FIRST_WORDS_2 : Addr} {d_FIRST_WORDS_2 : Option Addr} {n_FIRST_WORDS_2 : Nat} {s_FIRST_WORDS_2 : Array (Option Value)} {t_FIRST_WORDS_7 : Tok} {t_FIRST_WORDS_8 : Tok} {t_FIRST_WORDS_9 : Tok} {a_FIRST_WORDS_6 : Addr} {d_FIRST_WORDS_6 : Option Addr} {n_FIRST_WORDS_6 : Nat} {s_FIRST_WORDS_6 : Array (Option Value)} {t_FIRST_WORDS_11 : Tok} {t_FIRST_WORDS_12 : Tok} {t_FIRST_WORDS_13 : Tok} {a_FIRST_WORDS_10 : Addr} {d_FIRST_WORDS_10 : Option Addr} {n_FIRST_WORDS_10 : Nat} {s_FIRST_WORDS_10 : Array (Option Value)} {t_FIRST_WORDS_15 : Tok} {t_FIRST_WORDS_16 : Tok} {t_FIRST_WORDS_17 : Tok} {a_FIRST_WORDS_14 : Addr} {d_FIRST_WORDS_14 : Option Addr} {n_FIRST_WORDS_14 : Nat} {s_FIRST_WORDS_14 : Array (Option Value)} {a_FIRST_WORDS_1 : Addr} {d_FIRST_WORDS_1 : Option Addr} {n_FIRST_WORDS_1 : Nat} {s_FIRST_WORDS_1 : Array (Option Value)} (m_FIRST_WORDS : PySem.W.nsIn K mainGlobals "FIRST_WORDS" = some (some (.ref a_FIRST_WORDS_1))) (l_FIRST_WORDS_1 : K.lookup a_FIRST_WORDS_1 = some ⟨.type "tuple", d_FIRST_WORDS_1, .seq #[.ref a_FIRST_WORDS_2, .ref a_FIRST_WORDS_6, .ref a_FIRST_WORDS_10, .ref a_FIRST_WORDS_14] n_FIRST_WORDS_1, s_FIRST_WORDS_1⟩) (l_FIRST_WORDS_2 : K.lookup a_FIRST_WORDS_2 = some ⟨.type "tuple", d_FIRST_WORDS_2, .seq #[.int (0) t_FIRST_WORDS_3, .int (0) t_FIRST_WORDS_4, .int (0) t_FIRST_WORDS_5] n_FIRST_WORDS_2, s_FIRST_WORDS_2⟩) (l_FIRST_WORDS_6 : K.lookup a_FIRST_WORDS_6 = some ⟨.type "tuple", d_FIRST_WORDS_6, .seq #[.int (1) t_FIRST_WORDS_7, .int (0) t_FIRST_WORDS_8, .int (0) t_FIRST_WORDS_9] n_FIRST_WORDS_6, s_FIRST_WORDS_6⟩) (l_FIRST_WORDS_10 : K.lookup a_FIRST_WORDS_10 = some ⟨.type "tuple", d_FIRST_WORDS_10, .seq #[.int (0) t_FIRST_WORDS_11, .int (1) t_FIRST_WORDS_12, .int (0) t_FIRST_WORDS_13] n_FIRST_WORDS_10, s_FIRST_WORDS_10⟩) (l_FIRST_WORDS_14 : K.lookup a_FIRST_WORDS_14 = some ⟨.type "tuple", d_FIRST_WORDS_14, .seq #[.int (0) t_FIRST_WORDS_15, .int (0) t_FIRST_WORDS_16, .int (1) t_FIRST_WORDS_17] n_FIRST_WORDS_14, s_FIRST_WORDS_14⟩)
    {t_MOST_IN_WORD_1 : Tok} (m_MOST_IN_WORD : PySem.W.nsIn K mainGlobals "MOST_IN_WORD" = some (some (.int (24) t_MOST_IN_WORD_1)))
    {f_B : Addr} (n_B : PySem.W.nsIn K mainGlobals "CurveError" = some (some (.ref f_B))) (sp_B : PySem.W.specialIn K (.ref f_B) "__getattribute__" = some (some (.builtin "type.__getattribute__"))) (rd_B : PySem.W.readsIn K f_B (.type "type") = true) (at_B : PySem.W.findCls K (.ref f_B) (.type "type") "__init__" = some (.val (.builtin "ValueError.__init__"))) (ex_B : PySem.W.subIn K (.ref f_B) (.type "BaseException") = some true) (hd_B : PySem.W.hasDictIn K f_B = true) (ty_B : PySem.W.typeIn K (.ref f_B) = some (.type "type"))
    (cg_0 : PySem.W.specialIn K (.builtin "object.__class__") "__get__" = some (some (.builtin "getset_descriptor.__get__"))) (ct_0 : PySem.W.takesIn K (.builtin "object.__class__") = some true)
    {f_BadWord g_BadWord N_BadWord : Addr} {nm_BadWord q_BadWord : Str} {bs_BadWord bm_BadWord sub_BadWord : List Value} {sn_BadWord : List Str} {ab_BadWord : Bool} {col_BadWord : Option Bool} {dd_BadWord od_BadWord an_BadWord : Option Addr} {k0_BadWord k1_BadWord k2_BadWord k3_BadWord k5_BadWord : Option Value} {sl_BadWord : Array (Option Value)} {oc_BadWord kV_BadWord dc_BadWord pm_BadWord cd_BadWord ctt_BadWord : Value}
    (n_BadWord : PySem.W.nsIn K mainGlobals "BadWord" = some (some (.ref f_BadWord))) (lo_BadWord : K.lookup f_BadWord = some (excClassObj nm_BadWord q_BadWord f_BadWord N_BadWord bs_BadWord bm_BadWord true sn_BadWord sub_BadWord ab_BadWord col_BadWord dd_BadWord k0_BadWord k1_BadWord k2_BadWord k3_BadWord k5_BadWord "ValueError.__new__")) (rv_BadWord : PySem.HandSPX.refsVE bm_BadWord = true)
    (sa_BadWord : PySem.W.findIn K (.ref f_BadWord) "__setattr__" = some (some (.builtin "object.__setattr__"))) (ex_BadWord : PySem.W.subIn K (.ref f_BadWord) (.type "BaseException") = some true) (ty_BadWord : PySem.W.typeIn K (.ref f_BadWord) = some (.type "type")) (kp_BadWord : PySem.W.keepIn K (.ref f_BadWord) = true)
    (ga_BadWord : PySem.W.findIn K (.ref f_BadWord) "__getattribute__" = some (some (.builtin "BaseException.__getattribute__"))) (gg_BadWord : PySem.W.findIn K (.ref f_BadWord) "__getattr__" = some none) (hd_BadWord : PySem.W.hasDictIn K f_BadWord = true) (hi_BadWord : PySem.W.findIn K (.ref f_BadWord) "__init__" = some (some (.ref g_BadWord))) (ti_BadWord : PySem.W.typeIn K (.ref g_BadWord) = some (.type "function"))
    (cc_BadWord : PySem.W.findIn K (.ref f_BadWord) "__class__" = some (some (.builtin "object.__class__"))) (mr_BadWord : PySem.W.mroIn K f_BadWord (.type "object") = some true) (su_BadWord : PySem.W.subIn K (.ref f_BadWord) (.ref f_B) = some true)
    (l_BadWord : K.lookup g_BadWord = some ⟨oc_BadWord, od_BadWord, .func (PySem.W.fnOf "__init__" "BadWord.__init__" (defArgs st_BadWord) (defBody st_BadWord) (defScope st_BadWord) .none kV_BadWord dc_BadWord pm_BadWord an_BadWord cd_BadWord ctt_BadWord), sl_BadWord⟩) (c_BadWord : PySem.W.codeIn K cd_BadWord "BadWord.__init__" = true) (k_BadWord : PySem.W.keepIn K (.ref g_BadWord) = true) (no_BadWord_part : PySem.W.findIn K (.ref f_BadWord) "part" = some none)
    (is_BadWord_BadWord : PySem.W.subIn K (.ref f_BadWord) (.ref f_BadWord) = some true)
    {tc_law tp_law : Addr} {oc2_law : Value} {od2_law : Option Addr} {vs_law sl2_law : _} (e_law : cd_law = .ref tc_law) (v_law : K.lookup tc_law = some ⟨oc2_law, od2_law, .fields vs_law, sl2_law⟩) (w_law : vs_law[11]? = some (.ref tp_law)) (nt_law : K.lookup tp_law = none)
    : ∃ (fd : FuncData) (cs : List (Addr × Addr)), (∀ p ∈ cs, ∃ y ∈ (["law"] : List Str), PySem.W.tabIn K y = some p) ∧ (∀ p ∈ cs, K.lookup p.2 = none) ∧ (∀ (s : Shared) (v : Value), BindsTo s fd ⟨[v], []⟩ [("_law_script", v)]) ∧ ∃ TT : List (Addr × Str), (∀ t ∈ TT, ∃ p ∈ cs, p.2 = t.1) ∧ ∀ base : Heap, K.In base → base.Ns mainGlobals mg → (∀ p ∈ cs, LamX.TabB base mg p.1 p.2) → FnG l.prog w K mg base CX0 8 fa fd ["_law_script"] (spLaw K TT) := by
  have e := hfa.symm.trans (PySem.W.mg_of X G n_law)
  have e1 : f_law = fa := by cases e; rfl
  subst e1
  have t_law : PySem.W.tabIn K "law" = some (tc_law, tp_law) := tab_mk n_law l_law e_law v_law w_law
  have F_is_integer := fun_mk (st := st_is_integer) l_is_integer c_is_integer k_is_integer
  have O_is_integer : Own K mg "is_integer" st_is_integer ps_is_integer f_is_integer _ := ⟨F_is_integer, PySem.W.mg_of X G n_is_integer, F_is_integer.binds fun _ _ _ _ _ _ us hl => match us, hl with | [_], _ => rfl⟩
  have F_is_within := fun_mk (st := st_is_within) l_is_within c_is_within k_is_within
  have O_is_within : Own K mg "is_within" st_is_within ps_is_within f_is_within _ := ⟨F_is_within, PySem.W.mg_of X G n_is_within, F_is_within.binds fun _ _ _ _ _ _ us hl => match us, hl with | [_, _, _], _ => rfl⟩
  have F_is_list := fun_mk (st := st_is_list) l_is_list c_is_list k_is_list
  have O_is_list : Own K mg "is_list" st_is_list ps_is_list f_is_list _ := ⟨F_is_list, PySem.W.mg_of X G n_is_list, F_is_list.binds fun _ _ _ _ _ _ us hl => match us, hl with | [_], _ => rfl⟩
  have F_is_word := fun_mk (st := st_is_word) l_is_word c_is_word k_is_word
  have O_is_word : Own K mg "is_word" st_is_word ps_is_word f_is_word _ := ⟨F_is_word, PySem.W.mg_of X G n_is_word, F_is_word.binds fun _ _ _ _ _ _ us hl => match us, hl with | [_], _ => rfl⟩
  have F_put_at := fun_mk (st := st_put_at) l_put_at c_put_at k_put_at
  have O_put_at : Own K mg "put_at" st_put_at ps_put_at f_put_at _ := ⟨F_put_at, PySem.W.mg_of X G n_put_at, F_put_at.binds fun _ _ _ _ _ _ us hl => match us, hl with | [_, _], _ => rfl⟩
  have F_alone_from := fun_mk (st := st_alone_from) l_alone_from c_alone_from k_alone_from
  have O_alone_from : Own K mg "alone_from" st_alone_from ps_alone_from f_alone_from _ := ⟨F_alone_from, PySem.W.mg_of X G n_alone_from, F_alone_from.binds fun _ _ _ _ _ _ us hl => match us, hl with | [_, _], _ => rfl⟩
  have F_made_in := fun_mk (st := st_made_in) l_made_in c_made_in k_made_in
  have O_made_in : Own K mg "made_in" st_made_in ps_made_in f_made_in _ := ⟨F_made_in, PySem.W.mg_of X G n_made_in, F_made_in.binds fun _ _ _ _ _ _ us hl => match us, hl with | [_], _ => rfl⟩
  have F_need_word := fun_mk (st := st_need_word) l_need_word c_need_word k_need_word
  have O_need_word : Own K mg "need_word" st_need_word ps_need_word f_need_word _ := ⟨F_need_word, PySem.W.mg_of X G n_need_word, F_need_word.binds fun _ _ _ _ _ _ us hl => match us, hl with | [_], _ => rfl⟩
  have F_made_of := fun_mk (st := st_made_of) l_made_of c_made_of k_made_of
  have O_made_of : Own K mg "made_of" st_made_of ps_made_of f_made_of _ := ⟨F_made_of, PySem.W.mg_of X G n_made_of, F_made_of.binds fun _ _ _ _ _ _ us hl => match us, hl with | [_], _ => rfl⟩
  have F__law_quill := fun_mk (st := st__law_quill) l__law_quill c__law_quill k__law_quill
  have O__law_quill : Own K mg "_law_quill" st__law_quill ps__law_quill f__law_quill _ := ⟨F__law_quill, PySem.W.mg_of X G n__law_quill, F__law_quill.binds fun _ _ _ _ _ _ us hl => match us, hl with | [_], _ => rfl⟩
  have F__law_scratch := fun_mk (st := st__law_scratch) l__law_scratch c__law_scratch k__law_scratch
  have O__law_scratch : Own K mg "_law_scratch" st__law_scratch ps__law_scratch f__law_scratch _ := ⟨F__law_scratch, PySem.W.mg_of X G n__law_scratch, F__law_scratch.binds fun _ _ _ _ _ _ us hl => match us, hl with | [_, _], _ => rfl⟩
  have F__law_pick := fun_mk (st := st__law_pick) l__law_pick c__law_pick k__law_pick
  have O__law_pick : Own K mg "_law_pick" st__law_pick ps__law_pick f__law_pick _ := ⟨F__law_pick, PySem.W.mg_of X G n__law_pick, F__law_pick.binds fun _ _ _ _ _ _ us hl => match us, hl with | [_, _], _ => rfl⟩
  have F__law_word := fun_mk (st := st__law_word) l__law_word c__law_word k__law_word
  have O__law_word : Own K mg "_law_word" st__law_word ps__law_word f__law_word _ := ⟨F__law_word, PySem.W.mg_of X G n__law_word, F__law_word.binds fun _ _ _ _ _ _ us hl => match us, hl with | [_, _], _ => rfl⟩
  have F__law_heard := fun_mk (st := st__law_heard) l__law_heard c__law_heard k__law_heard
  have O__law_heard : Own K mg "_law_heard" st__law_heard ps__law_heard f__law_heard _ := ⟨F__law_heard, PySem.W.mg_of X G n__law_heard, F__law_heard.binds fun _ _ _ _ _ _ us hl => match us, hl with | [_], _ => rfl⟩
  have F__law_bent := fun_mk (st := st__law_bent) l__law_bent c__law_bent k__law_bent
  have O__law_bent : Own K mg "_law_bent" st__law_bent ps__law_bent f__law_bent _ := ⟨F__law_bent, PySem.W.mg_of X G n__law_bent, F__law_bent.binds fun _ _ _ _ _ _ us hl => match us, hl with | [_, _], _ => rfl⟩
  have F__law_made := fun_mk (st := st__law_made) l__law_made c__law_made k__law_made
  have O__law_made : Own K mg "_law_made" st__law_made ps__law_made f__law_made _ := ⟨F__law_made, PySem.W.mg_of X G n__law_made, F__law_made.binds fun _ _ _ _ _ _ us hl => match us, hl with | [_], _ => rfl⟩
  have F__law_word_right := fun_mk (st := st__law_word_right) l__law_word_right c__law_word_right k__law_word_right
  have O__law_word_right : Own K mg "_law_word_right" st__law_word_right ps__law_word_right f__law_word_right _ := ⟨F__law_word_right, PySem.W.mg_of X G n__law_word_right, F__law_word_right.binds fun _ _ _ _ _ _ us hl => match us, hl with | [_, _], _ => rfl⟩
  have F_law := fun_mk (st := st_law) l_law c_law k_law
  have O_law : Own K mg "law" st_law ps_law f_law _ := ⟨F_law, PySem.W.mg_of X G n_law, F_law.binds fun _ _ _ _ _ _ us hl => match us, hl with | [_], _ => rfl⟩
  have F_BadWord := fun_mk (st := st_BadWord) l_BadWord c_BadWord k_BadWord
  have E_BadWord := Err.mk' (fs := ["part"]) (PySem.W.mg_of X G n_BadWord) n_BadWord lo_BadWord rv_BadWord sa_BadWord ex_BadWord ty_BadWord kp_BadWord ga_BadWord gg_BadWord hd_BadWord hi_BadWord ti_BadWord cc_BadWord cg_0 ct_0 mr_BadWord F_BadWord (F_BadWord.binds (ps := ["self", "part"]) fun _ _ _ _ _ _ us hl => match us, hl with | [_, _], _ => rfl) (List.forall_mem_cons.mpr ⟨no_BadWord_part, (fun _ h => nomatch h)⟩) su_BadWord
  have B0 : Base K mg "CurveError" f_B := ⟨PySem.W.mg_of X G n_B, ⟨sp_B, rd_B, at_B⟩, ex_B, hd_B, ty_B⟩
  have T : Txt K mg ⟨f_is_integer, _, f_is_within, _, f_is_list, _, f_is_word, _, f_put_at, _, f_alone_from, _, f_made_in, _, f_need_word, _, f_made_of, _, f__law_quill, _, f__law_scratch, _, f__law_pick, _, f__law_word, _, f__law_heard, _, f__law_bent, _, f__law_made, _, f__law_word_right, _, f_law, _, tc_law, tp_law, _, _, f_BadWord, g_BadWord, _, f_B⟩ := ⟨O_is_integer, O_is_within, O_is_list, O_is_word, O_put_at, O_alone_from, O_made_in, O_need_word, O_made_of, O__law_quill, O__law_scratch, O__law_pick, O__law_word, O__law_heard, O__law_bent, O__law_made, O__law_word_right, O_law, PySem.W.mg_none_of X G b_abs, PySem.W.mg_none_of X G b_all, PySem.W.mg_none_of X G b_bool, PySem.W.mg_none_of X G b_enumerate, PySem.W.mg_none_of X G b_int, PySem.W.mg_none_of X G b_isinstance, PySem.W.mg_none_of X G b_len, PySem.W.mg_none_of X G b_list, PySem.W.mg_none_of X G b_range, PySem.W.mg_none_of X G b_repr, PySem.W.mg_none_of X G b_sorted, PySem.W.mg_none_of X G b_tuple, PySem.W.mg_none_of X G b_zip, ⟨t_law, nt_law, tab_code n_law l_law t_law⟩, PySem.W.mg_of X G m_FIRST_WORDS, (kd_tup (us := [.ref a_FIRST_WORDS_2, .ref a_FIRST_WORDS_6, .ref a_FIRST_WORDS_10, .ref a_FIRST_WORDS_14]) l_FIRST_WORDS_1 (by rw [sizeLine_eq]; simp only [List.length_cons, List.length_nil]; decide) (kds_cons (kd_tup (us := [.int (0) t_FIRST_WORDS_3, .int (0) t_FIRST_WORDS_4, .int (0) t_FIRST_WORDS_5]) l_FIRST_WORDS_2 (by rw [sizeLine_eq]; simp only [List.length_cons, List.length_nil]; decide) (kds_cons kd_int (kds_cons kd_int (kds_cons kd_int kds_nil)))) (kds_cons (kd_tup (us := [.int (1) t_FIRST_WORDS_7, .int (0) t_FIRST_WORDS_8, .int (0) t_FIRST_WORDS_9]) l_FIRST_WORDS_6 (by rw [sizeLine_eq]; simp only [List.length_cons, List.length_nil]; decide) (kds_cons kd_int (kds_cons kd_int (kds_cons kd_int kds_nil)))) (kds_cons (kd_tup (us := [.int (0) t_FIRST_WORDS_11, .int (1) t_FIRST_WORDS_12, .int (0) t_FIRST_WORDS_13]) l_FIRST_WORDS_10 (by rw [sizeLine_eq]; simp only [List.length_cons, List.length_nil]; decide) (kds_cons kd_int (kds_cons kd_int (kds_cons kd_int kds_nil)))) (kds_cons (kd_tup (us := [.int (0) t_FIRST_WORDS_15, .int (0) t_FIRST_WORDS_16, .int (1) t_FIRST_WORDS_17]) l_FIRST_WORDS_14 (by rw [sizeLine_eq]; simp only [List.length_cons, List.length_nil]; decide) (kds_cons kd_int (kds_cons kd_int (kds_cons kd_int kds_nil)))) kds_nil))))), PySem.W.mg_of X G m_MOST_IN_WORD, kd_int, B0, E_BadWord, E_BadWord.isa hd_BadWord ty_BadWord is_BadWord_BadWord (.inl rfl)⟩
  refine ⟨PySem.W.fnOf "law" "law" (defArgs st_law) (defBody st_law) (defScope st_law) .none kV_law dc_law pm_law an_law cd_law ct_law, [(tc_law, tp_law)], ?_, ?_, fun s v => .of_eq rfl, [(tp_law, lamQ "law")], ?_, fun base _ _ TB => ?_⟩
  · intro p hp
    simp only [List.mem_cons, List.not_mem_nil, or_false] at hp
    rcases hp with rfl
    · exact ⟨_, List.mem_cons_self, t_law⟩
  · intro p hp
    simp only [List.mem_cons, List.not_mem_nil, or_false] at hp
    rcases hp with rfl
    · exact nt_law
  · intro p hp
    simp only [List.mem_cons, List.not_mem_nil, or_false] at hp
    rcases hp with rfl
    · exact ⟨_, List.mem_cons_self, rfl⟩
  have B_law := TB (tc_law, tp_law) List.mem_cons_self
  have G_is_integer := ok_is_integer (P := l.prog) (w := w) (base := base) T
  have G_is_within := ok_is_within (P := l.prog) (w := w) (base := base) T G_is_integer
  have G_is_list := ok_is_list (P := l.prog) (w := w) (base := base) T
  have G_is_word := ok_is_word (P := l.prog) (w := w) (base := base) T G_is_within G_is_list
  have G_put_at := ok_put_at (P := l.prog) (w := w) (base := base) T
  have G_alone_from := ok_alone_from (P := l.prog) (w := w) (base := base) T G_put_at
  have G_made_in := ok_made_in (P := l.prog) (w := w) (base := base) T G_put_at G_alone_from
  have G_need_word := ok_need_word (P := l.prog) (w := w) (base := base) T G_is_word
  have G_made_of := ok_made_of (P := l.prog) (w := w) (base := base) T G_made_in G_need_word
  have G__law_quill := ok__law_quill (P := l.prog) (w := w) (base := base) T
  have G__law_scratch := ok__law_scratch (P := l.prog) (w := w) (base := base) T
  have G__law_pick := ok__law_pick (P := l.prog) (w := w) (base := base) T G__law_scratch
  have G__law_word := ok__law_word (P := l.prog) (w := w) (base := base) T G__law_scratch
  have G__law_heard := ok__law_heard (P := l.prog) (w := w) (base := base) T
  have G__law_bent := ok__law_bent (P := l.prog) (w := w) (base := base) T G__law_scratch G__law_pick
  have G__law_made := ok__law_made (P := l.prog) (w := w) (base := base) T
  have G__law_word_right := ok__law_word_right (P := l.prog) (w := w) (base := base) T G_is_word G_made_of G__law_scratch G__law_made
  have G_law := ok_law (P := l.prog) (w := w) (base := base) T G_is_word G_made_of G__law_quill G__law_pick G__law_word G__law_heard G__law_bent G__law_word_right B_law r0 r1
  exact G_law
theorem walk {l : PySem.W.OpenLaw} {q : Program} {loose : List Str} {XP : (Str → Option Value) → Heap → Prop} {YP : World → Heap → Prop} {d : DefRec} {K : Params → PySem.W.Frag} (hn : l.most = some 63) (hdf : d.params.defaults = [])
    (hxs : ∀ y ∈ (["law"] : List Str), ((PyProof.Rows.recsOf q).find? (fun e => e.name == y)).isSome = true) (hY : ∀ (w : World) (h : Heap), YP w h → (K w.params).In h)
    (F : ∀ (w : World) (mg : Str → Option Value) (fa : Addr) (h : Heap), (K w.params).In h → h.Ns mainGlobals mg → mg d.name = some (.ref fa) →
      ∃ (fd : FuncData) (cs : List (Addr × Addr)), (∀ p ∈ cs, ∃ y ∈ (["law"] : List Str), PySem.W.tabIn (K w.params) y = some p) ∧ (∀ p ∈ cs, (K w.params).lookup p.2 = none) ∧ (∀ (s : Shared) (u : Value), BindsTo s fd ⟨[u], []⟩ [("_law_script", u)]) ∧
        ∃ T : List (Addr × Str), (∀ t ∈ T, ∃ p ∈ cs, p.2 = t.1) ∧ ∀ base : Heap, (K w.params).In base → base.Ns mainGlobals mg → (∀ p ∈ cs, LamX.TabB base mg p.1 p.2) → FnG l.prog w (K w.params) mg base CX0 8 fa fd ["_law_script"] (spLaw (K w.params) T)) :
    PySem.W.WalkO q loose XP YP l.row.toRowW d [] (fun f vs => PySem.call f vs) :=
  walk_ofT (n := 63) (k := 8) (x := "_law_script") (xs := ["law"]) hn (by decide) hdf ⟨rfl, by decide, by decide⟩ hxs hY F
end Lw
namespace Lw
open PySem PySem.Spec L2 DL DL.Ev
section
variable {s : Sd} {x y : Rat} {a b : Nat} {d p : D} {i j k : Int} {ms : List Int} {n : Nat}
abbrev wD (i j k : Int) : D := .tup [.int i, .int j, .int k]
abbrev B24 (i : Int) : Prop := -24 ≤ i ∧ i ≤ 24
theorem rch : Rch m__law_scratch := fun hs hn hk hk2 => by
  unfold m__law_scratch H.m_reach4
  exact reach4_ok (by decide) (by decide) (by decide) (by decide) (by decide) (by decide) (by decide) (by decide) (by decide) (by decide) hs hn hk hk2
/-- at most one odd -/
def Ev2 (i j k : Int) : Prop := (i % 2 = 0 ∧ j % 2 = 0) ∨ (i % 2 = 0 ∧ k % 2 = 0) ∨ (j % 2 = 0 ∧ k % 2 = 0)
structure Wd (i j k : Int) : Prop where
  bi : B24 i
  bj : B24 j
  bk : B24 k
  ev : Ev2 i j k
theorem within24 {i : Int} (h : B24 i) : H.m_is_within [.int i, .int (-24), .int 24] s = .ok (.bl true) s := by
  unfold H.m_is_within H.b_is_within
  simp (decide := true) only [EV, fnM, List.length_cons, List.length_nil, Nat.reduceAdd, Nat.reduceSub, if_true, if_false, ↓reduceIte, List.map_cons, List.map_nil, List.replicate, List.cons_append, List.nil_append, Bool.false_eq_true, Bool.not_true, Bool.not_false, Bool.and_true, Bool.true_and, Bool.and_self, List.all_cons, List.all_nil, List.any_cons, List.any_nil, List.reverse_cons, List.reverse_nil, decide_true, decide_false, Int.reduceAdd, Int.reduceSub, Int.reduceMul, Int.reduceNeg, Option.map_some, PK, is_integer_int, h.1, h.2]
theorem is_word_ok (h : Wd i j k) (hd : d = wD i j k ∨ d = .lst [.int i, .int j, .int k]) : m_is_word [d] s = .ok (.bl true) s := by
  have w1 := within24 (s := s) h.bi
  have w2 := within24 (s := s) h.bj
  have w3 := within24 (s := s) h.bk
  have m1 := modF_ok (i := i) (j := 2) (by decide)
  have m2 := modF_ok (i := j) (j := 2) (by decide)
  have m3 := modF_ok (i := k) (j := 2) (by decide)
  have ev : ¬ (i % 2 = 1 ∧ j % 2 = 1) ∧ ¬ (i % 2 = 1 ∧ k % 2 = 1) ∧ ¬ (j % 2 = 1 ∧ k % 2 = 1) := by
    have := h.ev
    unfold Ev2 at this
    omega
  have b1 : (-24 : Int) = -24 := rfl
  rcases hd with rfl | rfl <;>
  · unfold m_is_word b_is_word
    by_cases o1 : i % 2 = 1 <;> by_cases o2 : j % 2 = 1 <;> by_cases o3 : k % 2 = 1 <;> first
      | (exfalso; omega)
      | simp (decide := true) only [EV, fnM, List.length_cons, List.length_nil, Nat.reduceAdd, Nat.reduceSub, if_true, if_false, ↓reduceIte, List.map_cons, List.map_nil, List.replicate, List.cons_append, List.nil_append, Bool.false_eq_true, Bool.not_true, Bool.not_false, Bool.and_true, Bool.true_and, Bool.and_self, List.all_cons, List.all_nil, List.any_cons, List.any_nil, List.reverse_cons, List.reverse_nil, decide_true, decide_false, Int.reduceAdd, Int.reduceSub, Int.reduceMul, Int.reduceNeg, Option.map_some, PK, is_list_tup, is_list_lst, ev_lcC, ev_lcN, ev_lstR (show 3 ≤ 20000 by decide), w1, w2, w3, m1, m2, m3, o1, o2, o3]
theorem need_word_ok (h : Wd i j k) (hd : d = wD i j k ∨ d = .lst [.int i, .int j, .int k]) : m_need_word [d] s = .ok (wD i j k) s := by
  have iw := is_word_ok (s := s) h hd
  unfold m_need_word b_need_word
  rcases hd with rfl | rfl <;> simp (decide := true) only [EV, fnM, List.length_cons, List.length_nil, Nat.reduceAdd, Nat.reduceSub, if_true, if_false, ↓reduceIte, List.map_cons, List.map_nil, List.replicate, List.cons_append, List.nil_append, Bool.false_eq_true, Bool.not_true, Bool.not_false, Bool.and_true, Bool.true_and, Bool.and_self, List.all_cons, List.all_nil, List.any_cons, List.any_nil, List.reverse_cons, List.reverse_nil, decide_true, decide_false, Int.reduceAdd, Int.reduceSub, Int.reduceMul, Int.reduceNeg, Option.map_some, PK, EE, fnR, iw]
def OddW (d : D) : Prop := ∀ s, m_is_word [d] s = .ok (.bl false) s
theorem need_word_er (h : OddW d) : m_need_word [d] s = .er ⟨"BadWord", [("part", .str "word")]⟩ s := by
  unfold m_need_word b_need_word
  simp (decide := true) only [EV, fnM, List.length_cons, List.length_nil, Nat.reduceAdd, Nat.reduceSub, if_true, if_false, ↓reduceIte, List.map_cons, List.map_nil, List.replicate, List.cons_append, List.nil_append, Bool.false_eq_true, Bool.not_true, Bool.not_false, Bool.and_true, Bool.true_and, Bool.and_self, List.all_cons, List.all_nil, List.any_cons, List.any_nil, List.reverse_cons, List.reverse_nil, decide_true, decide_false, Int.reduceAdd, Int.reduceSub, Int.reduceMul, Int.reduceNeg, Option.map_some, PK, EE, fnR, h s]
variable {d1 d2 d3 : D} {v : Int}
/-! a drawn word -/
def EvB (m x : Int) : Prop := x % 2 = 0 ∧ -m ≤ x ∧ x ≤ m
theorem word_a {m : Int} (hm0 : 2 ≤ m) (hm1 : m ≤ 24) (hm2 : m % 2 = 0) {s4 : Slot} : ∀ (rs : List D) (k : Nat) (s : Sd), StOk k s → k + rs.length < 2 ^ 31 → ∃ (l : List Int) (s' : Sd), StOk (k + rs.length) s' ∧ l.length = rs.length ∧ (∀ x ∈ l, EvB m x) ∧
    lcF (DL.gName 2) fYes (fBin mulF (fC (.int 2)) (fBin subF (fCall m__law_scratch (fCons (fVar 0) (fCons (fBin addF (fVar 1) (fC (.int 1))) fNil))) (fBin divF (fVar 1) (fC (.int 2))))) [.d (.drum ms), .d (.int m), .no, .no, s4] rs s = .ok (l.map D.int) s'
  | [], k, s, hs, _ => ⟨[], s, hs, rfl, (fun _ h => nomatch h), rfl⟩
  | r :: rs, k, s, hs, hn => by
    simp only [List.length_cons] at hn
    obtain ⟨_, s1, e1, hs1, v, rfl, v0, v1⟩ := rch (ms := ms) (k := m + 1) hs (by omega) (by omega) (by omega)
    obtain ⟨l, s', h1, h2, h3, h4⟩ := word_a hm0 hm1 hm2 (s4 := s4) rs (k + 1) s1 hs1 (by omega)
    have d1 := divF_ok (i := m) (j := 2) (by decide) (by decide)
    have m1 : MulOk 2 (v - m / 2) := mulOk_l (by decide) (by decide)
    refine ⟨2 * (v - m / 2) :: l, s', h1.up (by simp only [List.length_cons]; omega), by simp only [List.length_cons, h2], fun x hx => ?_, ?_⟩
    · rcases List.mem_cons.mp hx with rfl | hx
      · unfold EvB; omega
      · exact h3 x hx
    · rw [ev_lcC]
      simp (decide := true) only [EV, fnM, List.length_cons, List.length_nil, Nat.reduceAdd, Nat.reduceSub, if_true, if_false, ↓reduceIte, List.map_cons, List.map_nil, List.replicate, List.cons_append, List.nil_append, Bool.false_eq_true, Bool.not_true, Bool.not_false, Bool.and_true, Bool.true_and, Bool.and_self, List.all_cons, List.all_nil, List.any_cons, List.any_nil, List.reverse_cons, List.reverse_nil, decide_true, decide_false, Int.reduceAdd, Int.reduceSub, Int.reduceMul, Int.reduceNeg, Option.map_some, PK, e1, d1, m1, h4]
theorem word_b {m : Int} (hm : 0 ≤ m) {s2 s3 : Slot} : ∀ (rs : List Int) (k : Nat) (s : Sd), (∀ x ∈ rs, EvB m x) → StOk k s → k + rs.length < 2 ^ 31 → ∃ (l : List Int) (s' : Sd), StOk (k + rs.length) s' ∧ l.length = rs.length ∧ (∀ x ∈ l, EvB m x) ∧
    lcF (DL.gName 4) fYes (fIfE (fVal (fBin gtF (fCall m__law_scratch (fCons (fVar 0) (fCons (fC (.int 3)) fNil))) (fC (.int 0)))) (fVar 4) (fC (.int 0))) [.d (.drum ms), .d (.int m), s2, s3, .no] (rs.map D.int) s = .ok (l.map D.int) s'
  | [], k, s, _, hs, _ => ⟨[], s, hs, rfl, (fun _ h => nomatch h), rfl⟩
  | r :: rs, k, s, hr, hs, hn => by
    simp only [List.length_cons] at hn
    obtain ⟨_, s1, e1, hs1, v, rfl, v0, v1⟩ := rch (ms := ms) (k := 3) hs (by omega) (by decide) (by decide)
    obtain ⟨l, s', h1, h2, h3, h4⟩ := word_b hm (s2 := s2) (s3 := s3) rs (k + 1) s1 (fun x hx => hr x (List.mem_cons_of_mem _ hx)) hs1 (by omega)
    by_cases hv : 0 < v
    · refine ⟨r :: l, s', h1.up (by simp only [List.length_cons]; omega), by simp only [List.length_cons, h2], fun x hx => ?_, ?_⟩
      · rcases List.mem_cons.mp hx with rfl | hx
        · exact hr _ (List.mem_cons_self ..)
        · exact h3 x hx
      · rw [List.map_cons, ev_lcC]
        simp (decide := true) only [EV, fnM, List.length_cons, List.length_nil, Nat.reduceAdd, Nat.reduceSub, if_true, if_false, ↓reduceIte, List.map_cons, List.map_nil, List.replicate, List.cons_append, List.nil_append, Bool.false_eq_true, Bool.not_true, Bool.not_false, Bool.and_true, Bool.true_and, Bool.and_self, List.all_cons, List.all_nil, List.any_cons, List.any_nil, List.reverse_cons, List.reverse_nil, decide_true, decide_false, Int.reduceAdd, Int.reduceSub, Int.reduceMul, Int.reduceNeg, Option.map_some, PK, e1, hv, h4]
    · refine ⟨0 :: l, s', h1.up (by simp only [List.length_cons]; omega), by simp only [List.length_cons, h2], fun x hx => ?_, ?_⟩
      · rcases List.mem_cons.mp hx with rfl | hx
        · unfold EvB; omega
        · exact h3 x hx
      · rw [List.map_cons, ev_lcC]
        simp (decide := true) only [EV, fnM, List.length_cons, List.length_nil, Nat.reduceAdd, Nat.reduceSub, if_true, if_false, ↓reduceIte, List.map_cons, List.map_nil, List.replicate, List.cons_append, List.nil_append, Bool.false_eq_true, Bool.not_true, Bool.not_false, Bool.and_true, Bool.true_and, Bool.and_self, List.all_cons, List.all_nil, List.any_cons, List.any_nil, List.reverse_cons, List.reverse_nil, decide_true, decide_false, Int.reduceAdd, Int.reduceSub, Int.reduceMul, Int.reduceNeg, Option.map_some, PK, e1, hv, h4]
def WordD (d : D) : Prop := ∃ i j k, Wd i j k ∧ d = wD i j k
theorem word_ok {m : Int} (hm0 : 2 ≤ m) (hm1 : m ≤ 24) (hm2 : m % 2 = 0) (hs : StOk n s) (hn : n + 10 < 2 ^ 31) : Dr1 (m__law_word [.drum ms, .int m] s) (n + 8) WordD := by
  obtain ⟨l1, s1, hs1, n1, p1, e1⟩ := word_a (ms := ms) hm0 hm1 hm2 (s4 := .no) (rgD 0 3) n s hs (by rw [rgD_length]; omega)
  obtain ⟨l2, s2, hs2, n2, p2, e2⟩ := word_b (ms := ms) (m := m) (by omega) (s2 := .no) (s3 := .d (.lst (l1.map D.int))) l1 (n + 3) s1 p1 (by rw [rgD_length] at hs1; exact hs1) (by rw [n1, rgD_length]; omega)
  rw [rgD_length] at n1
  rw [n1] at n2 hs2
  obtain ⟨_, s3, e3, hs3, v, rfl, v0, v1⟩ := rch (ms := ms) (k := 2) hs2 (by omega) (by decide) (by decide)
  have rg : DL.rng1 (.int 3) = some (rgD 0 3) := rfl
  have z1 : (rgD 0 3).length ≤ 20000 := by rw [rgD_length]; decide
  have z2 : (l1.map D.int).length ≤ 20000 := by rw [List.length_map]; omega
  match l2, n2, p2, e2 with
  | [x, y, z], _, p2, e2 =>
    have hx : EvB m x := p2 x (by simp)
    have hy : EvB m y := p2 y (by simp)
    have hz : EvB m z := p2 z (by simp)
    unfold EvB at hx hy hz
    simp only [List.map_cons, List.map_nil] at e2
    by_cases hv : v = 0
    · obtain ⟨_, s4, e4, hs4, w, rfl, w0, w1⟩ := rch (ms := ms) (k := 3) hs3 (by omega) (by decide) (by decide)
      have hw : w = 0 ∨ w = 1 ∨ w = 2 := by omega
      have i0 : ixN 3 0 = some 0 := rfl
      have i1 : ixN 3 1 = some 1 := rfl
      have i2 : ixN 3 2 = some 2 := rfl
      have ow : ∀ (q : D) (ρ : SEnv) (s : Sd), ownI [.int x, .int y, .int z] q (.int 0) 3 ρ s = gNx (setS ρ 3 (.own [q, .int y, .int z])) s := fun _ _ _ => rfl
      have ow1 : ∀ (q : D) (ρ : SEnv) (s : Sd), ownI [.int x, .int y, .int z] q (.int 1) 3 ρ s = gNx (setS ρ 3 (.own [.int x, q, .int z])) s := fun _ _ _ => rfl
      have ow2 : ∀ (q : D) (ρ : SEnv) (s : Sd), ownI [.int x, .int y, .int z] q (.int 2) 3 ρ s = gNx (setS ρ 3 (.own [.int x, .int y, q])) s := fun _ _ _ => rfl
      rcases hw with rfl | rfl | rfl
      · by_cases g : x < m
        · refine ⟨_, s4, ?_, hs4.up (by omega), x + 1, y, z, ⟨⟨by omega, by omega⟩, ⟨by omega, by omega⟩, ⟨by omega, by omega⟩, by unfold Ev2; omega⟩, rfl⟩
          unfold m__law_word b__law_word
          simp (decide := true) only [EV, fnM, List.length_cons, List.length_nil, Nat.reduceAdd, Nat.reduceSub, if_true, if_false, ↓reduceIte, List.map_cons, List.map_nil, List.replicate, List.cons_append, List.nil_append, Bool.false_eq_true, Bool.not_true, Bool.not_false, Bool.and_true, Bool.true_and, Bool.and_self, List.all_cons, List.all_nil, List.any_cons, List.any_nil, List.reverse_cons, List.reverse_nil, decide_true, decide_false, Int.reduceAdd, Int.reduceSub, Int.reduceMul, Int.reduceNeg, Option.map_some, PK, EO, rg, e1, ev_lstR z1, e2, ev_lstR z2, e3, hv, e4, g, ow]
        · refine ⟨_, s4, ?_, hs4.up (by omega), x + -1, y, z, ⟨⟨by omega, by omega⟩, ⟨by omega, by omega⟩, ⟨by omega, by omega⟩, by unfold Ev2; omega⟩, rfl⟩
          unfold m__law_word b__law_word
          simp (decide := true) only [EV, fnM, List.length_cons, List.length_nil, Nat.reduceAdd, Nat.reduceSub, if_true, if_false, ↓reduceIte, List.map_cons, List.map_nil, List.replicate, List.cons_append, List.nil_append, Bool.false_eq_true, Bool.not_true, Bool.not_false, Bool.and_true, Bool.true_and, Bool.and_self, List.all_cons, List.all_nil, List.any_cons, List.any_nil, List.reverse_cons, List.reverse_nil, decide_true, decide_false, Int.reduceAdd, Int.reduceSub, Int.reduceMul, Int.reduceNeg, Option.map_some, PK, EO, rg, e1, ev_lstR z1, e2, ev_lstR z2, e3, hv, e4, g, ow]
      · by_cases g : y < m
        · refine ⟨_, s4, ?_, hs4.up (by omega), x, y + 1, z, ⟨⟨by omega, by omega⟩, ⟨by omega, by omega⟩, ⟨by omega, by omega⟩, by unfold Ev2; omega⟩, rfl⟩
          unfold m__law_word b__law_word
          simp (decide := true) only [EV, fnM, List.length_cons, List.length_nil, Nat.reduceAdd, Nat.reduceSub, if_true, if_false, ↓reduceIte, List.map_cons, List.map_nil, List.replicate, List.cons_append, List.nil_append, Bool.false_eq_true, Bool.not_true, Bool.not_false, Bool.and_true, Bool.true_and, Bool.and_self, List.all_cons, List.all_nil, List.any_cons, List.any_nil, List.reverse_cons, List.reverse_nil, decide_true, decide_false, Int.reduceAdd, Int.reduceSub, Int.reduceMul, Int.reduceNeg, Option.map_some, PK, EO, rg, e1, ev_lstR z1, e2, ev_lstR z2, e3, hv, e4, g, ow1]
        · refine ⟨_, s4, ?_, hs4.up (by omega), x, y + -1, z, ⟨⟨by omega, by omega⟩, ⟨by omega, by omega⟩, ⟨by omega, by omega⟩, by unfold Ev2; omega⟩, rfl⟩
          unfold m__law_word b__law_word
          simp (decide := true) only [EV, fnM, List.length_cons, List.length_nil, Nat.reduceAdd, Nat.reduceSub, if_true, if_false, ↓reduceIte, List.map_cons, List.map_nil, List.replicate, List.cons_append, List.nil_append, Bool.false_eq_true, Bool.not_true, Bool.not_false, Bool.and_true, Bool.true_and, Bool.and_self, List.all_cons, List.all_nil, List.any_cons, List.any_nil, List.reverse_cons, List.reverse_nil, decide_true, decide_false, Int.reduceAdd, Int.reduceSub, Int.reduceMul, Int.reduceNeg, Option.map_some, PK, EO, rg, e1, ev_lstR z1, e2, ev_lstR z2, e3, hv, e4, g, ow1]
      · by_cases g : z < m
        · refine ⟨_, s4, ?_, hs4.up (by omega), x, y, z + 1, ⟨⟨by omega, by omega⟩, ⟨by omega, by omega⟩, ⟨by omega, by omega⟩, by unfold Ev2; omega⟩, rfl⟩
          unfold m__law_word b__law_word
          simp (decide := true) only [EV, fnM, List.length_cons, List.length_nil, Nat.reduceAdd, Nat.reduceSub, if_true, if_false, ↓reduceIte, List.map_cons, List.map_nil, List.replicate, List.cons_append, List.nil_append, Bool.false_eq_true, Bool.not_true, Bool.not_false, Bool.and_true, Bool.true_and, Bool.and_self, List.all_cons, List.all_nil, List.any_cons, List.any_nil, List.reverse_cons, List.reverse_nil, decide_true, decide_false, Int.reduceAdd, Int.reduceSub, Int.reduceMul, Int.reduceNeg, Option.map_some, PK, EO, rg, e1, ev_lstR z1, e2, ev_lstR z2, e3, hv, e4, g, ow2]
        · refine ⟨_, s4, ?_, hs4.up (by omega), x, y, z + -1, ⟨⟨by omega, by omega⟩, ⟨by omega, by omega⟩, ⟨by omega, by omega⟩, by unfold Ev2; omega⟩, rfl⟩
          unfold m__law_word b__law_word
          simp (decide := true) only [EV, fnM, List.length_cons, List.length_nil, Nat.reduceAdd, Nat.reduceSub, if_true, if_false, ↓reduceIte, List.map_cons, List.map_nil, List.replicate, List.cons_append, List.nil_append, Bool.false_eq_true, Bool.not_true, Bool.not_false, Bool.and_true, Bool.true_and, Bool.and_self, List.all_cons, List.all_nil, List.any_cons, List.any_nil, List.reverse_cons, List.reverse_nil, decide_true, decide_false, Int.reduceAdd, Int.reduceSub, Int.reduceMul, Int.reduceNeg, Option.map_some, PK, EO, rg, e1, ev_lstR z1, e2, ev_lstR z2, e3, hv, e4, g, ow2]
    · refine ⟨_, s3, ?_, hs3.up (by omega), x, y, z, ⟨⟨by omega, by omega⟩, ⟨by omega, by omega⟩, ⟨by omega, by omega⟩, by unfold Ev2; omega⟩, rfl⟩
      unfold m__law_word b__law_word
      simp (decide := true) only [EV, fnM, List.length_cons, List.length_nil, Nat.reduceAdd, Nat.reduceSub, if_true, if_false, ↓reduceIte, List.map_cons, List.map_nil, List.replicate, List.cons_append, List.nil_append, Bool.false_eq_true, Bool.not_true, Bool.not_false, Bool.and_true, Bool.true_and, Bool.and_self, List.all_cons, List.all_nil, List.any_cons, List.any_nil, List.reverse_cons, List.reverse_nil, decide_true, decide_false, Int.reduceAdd, Int.reduceSub, Int.reduceMul, Int.reduceNeg, Option.map_some, PK, EO, rg, e1, ev_lstR z1, e2, ev_lstR z2, e3, hv]
end
end Lw
namespace Lw
open PySem PySem.Spec L2 DL DL.Ev
section
variable {s : Sd} {d p d1 d2 d3 : D} {i j k v : Int} {ms : List Int} {n : Nat}
theorem put0 : m_put_at [.int 0, .int v] s = .ok (wD v 0 0) s := by
  unfold m_put_at b_put_at
  have rg : DL.rng1 (.int 3) = some [.int 0, .int 1, .int 2] := rfl
  simp (decide := true) only [EV, fnM, List.length_cons, List.length_nil, Nat.reduceAdd, Nat.reduceSub, if_true, if_false, ↓reduceIte, List.map_cons, List.map_nil, List.replicate, List.cons_append, List.nil_append, Bool.false_eq_true, Bool.not_true, Bool.not_false, Bool.and_true, Bool.true_and, Bool.and_self, List.all_cons, List.all_nil, List.any_cons, List.any_nil, List.reverse_cons, List.reverse_nil, decide_true, decide_false, Int.reduceAdd, Int.reduceSub, Int.reduceMul, Int.reduceNeg, Option.map_some, PK, rg, ev_lcC, ev_lcN, ev_lstR (show 3 ≤ 20000 by decide)]
theorem put1 : m_put_at [.int 1, .int v] s = .ok (wD 0 v 0) s := by
  unfold m_put_at b_put_at
  have rg : DL.rng1 (.int 3) = some [.int 0, .int 1, .int 2] := rfl
  simp (decide := true) only [EV, fnM, List.length_cons, List.length_nil, Nat.reduceAdd, Nat.reduceSub, if_true, if_false, ↓reduceIte, List.map_cons, List.map_nil, List.replicate, List.cons_append, List.nil_append, Bool.false_eq_true, Bool.not_true, Bool.not_false, Bool.and_true, Bool.true_and, Bool.and_self, List.all_cons, List.all_nil, List.any_cons, List.any_nil, List.reverse_cons, List.reverse_nil, decide_true, decide_false, Int.reduceAdd, Int.reduceSub, Int.reduceMul, Int.reduceNeg, Option.map_some, PK, rg, ev_lcC, ev_lcN, ev_lstR (show 3 ≤ 20000 by decide)]
theorem put2 : m_put_at [.int 2, .int v] s = .ok (wD 0 0 v) s := by
  unfold m_put_at b_put_at
  have rg : DL.rng1 (.int 3) = some [.int 0, .int 1, .int 2] := rfl
  simp (decide := true) only [EV, fnM, List.length_cons, List.length_nil, Nat.reduceAdd, Nat.reduceSub, if_true, if_false, ↓reduceIte, List.map_cons, List.map_nil, List.replicate, List.cons_append, List.nil_append, Bool.false_eq_true, Bool.not_true, Bool.not_false, Bool.and_true, Bool.true_and, Bool.and_self, List.all_cons, List.all_nil, List.any_cons, List.any_nil, List.reverse_cons, List.reverse_nil, decide_true, decide_false, Int.reduceAdd, Int.reduceSub, Int.reduceMul, Int.reduceNeg, Option.map_some, PK, rg, ev_lcC, ev_lcN, ev_lstR (show 3 ≤ 20000 by decide)]
/-- both words of which a word is made -/
def MadeD (i j k : Int) (d : D) : Prop := ∃ p0 p1 p2 r0 r1 r2, d = .tup [wD p0 p1 p2, wD r0 r1 r2] ∧ Wd p0 p1 p2 ∧ Wd r0 r1 r2 ∧ p0 + p0 - r0 = i ∧ p1 + p1 - r1 = j ∧ p2 + p2 - r2 = k
def put3 (at_ : Nat) (v : Int) : D := wD (if at_ = 0 then v else 0) (if at_ = 1 then v else 0) (if at_ = 2 then v else 0)
theorem putA {at_ : Nat} (h : at_ < 3) : m_put_at [.int (at_ : Nat), .int v] s = .ok (put3 at_ v) s := by
  have : at_ = 0 ∨ at_ = 1 ∨ at_ = 2 := by omega
  rcases this with rfl | rfl | rfl
  · exact put0
  · exact put1
  · exact put2
def aP (v : Int) : Int := if v < 0 then 0 else (v + 1) / 2
def aR (v : Int) : Int := if v < 0 then -v else v % 2
theorem alone_ok {at_ : Nat} (h : at_ < 3) (hv : B24 v) : m_alone_from [.int (at_ : Nat), .int v] s = .ok (.tup [put3 at_ (aP v), put3 at_ (aR v)]) s := by
  unfold m_alone_from b_alone_from aP aR
  by_cases g : v < 0
  · simp (decide := true) only [EV, fnM, List.length_cons, List.length_nil, Nat.reduceAdd, Nat.reduceSub, if_true, if_false, ↓reduceIte, List.map_cons, List.map_nil, List.replicate, List.cons_append, List.nil_append, Bool.false_eq_true, Bool.not_true, Bool.not_false, Bool.and_true, Bool.true_and, Bool.and_self, List.all_cons, List.all_nil, List.any_cons, List.any_nil, List.reverse_cons, List.reverse_nil, decide_true, decide_false, Int.reduceAdd, Int.reduceSub, Int.reduceMul, Int.reduceNeg, Option.map_some, PK, g, putA h]
  · have m1 := modF_ok (i := v) (j := 2) (by decide)
    by_cases g2 : v % 2 = 0
    · have d1 := divF_ok (i := v) (j := 2) (by decide) (by decide)
      have e : (v + 1) / 2 = v / 2 := by omega
      simp (decide := true) only [EV, fnM, List.length_cons, List.length_nil, Nat.reduceAdd, Nat.reduceSub, if_true, if_false, ↓reduceIte, List.map_cons, List.map_nil, List.replicate, List.cons_append, List.nil_append, Bool.false_eq_true, Bool.not_true, Bool.not_false, Bool.and_true, Bool.true_and, Bool.and_self, List.all_cons, List.all_nil, List.any_cons, List.any_nil, List.reverse_cons, List.reverse_nil, decide_true, decide_false, Int.reduceAdd, Int.reduceSub, Int.reduceMul, Int.reduceNeg, Option.map_some, PK, g, m1, g2, d1, e, putA h]
    · have d1 := divF_ok (i := v + 1) (j := 2) (by decide) (by decide)
      have e : v % 2 = 1 := by omega
      simp (decide := true) only [EV, fnM, List.length_cons, List.length_nil, Nat.reduceAdd, Nat.reduceSub, if_true, if_false, ↓reduceIte, List.map_cons, List.map_nil, List.replicate, List.cons_append, List.nil_append, Bool.false_eq_true, Bool.not_true, Bool.not_false, Bool.and_true, Bool.true_and, Bool.and_self, List.all_cons, List.all_nil, List.any_cons, List.any_nil, List.reverse_cons, List.reverse_nil, decide_true, decide_false, Int.reduceAdd, Int.reduceSub, Int.reduceMul, Int.reduceNeg, Option.map_some, PK, g, m1, g2, d1, e, putA h]
theorem alone_w (h : Wd i j k) (hv : B24 v) : aP v + aP v - aR v = v ∧ B24 (aP v) ∧ B24 (aR v) := by
  unfold aP aR
  split <;> omega
def firsts : List D := [.tup [.int 0, .int 0, .int 0], .tup [.int 1, .int 0, .int 0], .tup [.int 0, .int 1, .int 0], .tup [.int 0, .int 0, .int 1]]
def IsF (i j k : Int) : Prop := (i = 0 ∧ j = 0 ∧ k = 0) ∨ (i = 1 ∧ j = 0 ∧ k = 0) ∨ (i = 0 ∧ j = 1 ∧ k = 0) ∨ (i = 0 ∧ j = 0 ∧ k = 1)
theorem eq_w (a b c : Int) : D.eq (wD a b c) (wD i j k) = decide (a = i ∧ b = j ∧ c = k) := by
  show PyData.eqv (.tuple [.int a, .int b, .int c]) (.tuple [.int i, .int j, .int k]) = _
  simp [PyData.eqv, PyData.eqvAll]
  rfl
theorem in_first : ∃ b, inF (wD i j k) (.tup firsts) = some (.bl b) ∧ (b = true ↔ IsF i j k) := by
  have h1 : (wD i j k).okEq = true := Oe.ok (inferInstance : Oe (wD i j k) _) (by decide)
  have h2 : (D.tup firsts).okEq = true := by decide +kernel
  refine ⟨inL (wD i j k) firsts, ?_, ?_⟩
  · unfold inF
    simp only
    rw [if_pos ⟨h1, h2⟩]
  · unfold inL firsts
    simp only [List.any_cons, List.any_nil, eq_w, Bool.or_eq_true, decide_eq_true_eq, Bool.or_false]
    unfold IsF
    constructor
    · rintro (⟨rfl, rfl, rfl⟩ | ⟨rfl, rfl, rfl⟩ | ⟨rfl, rfl, rfl⟩ | ⟨rfl, rfl, rfl⟩) <;> simp
    · rintro (⟨rfl, rfl, rfl⟩ | ⟨rfl, rfl, rfl⟩ | ⟨rfl, rfl, rfl⟩ | ⟨rfl, rfl, rfl⟩) <;> simp
theorem band1 {x : Int} : bandF (.int x) (.int 1) = some (.int (x % 2)) := by
  have e := Bits.bit_at (x := x) 0
  have e1 : x.fdiv (2 ^ 0) = x := by simp
  have e2 : x / 2 ^ 0 % 2 = x % 2 := by simp
  rw [e1, e2] at e
  show some (D.int (Builtin.bitAnd x 1)) = _
  rw [e]
end
end Lw
namespace Lw
open PySem PySem.Spec L2 DL DL.Ev
section
variable {s : Sd} {d p d1 d2 d3 : D} {i j k v : Int} {ms : List Int} {n : Nat}
theorem ow0 (i : Nat) (a b c q : D) (ρ : SEnv) (s : Sd) : ownI [a, b, c] q (.int 0) i ρ s = gNx (setS ρ i (.own [q, b, c])) s := rfl
theorem ow1 (i : Nat) (a b c q : D) (ρ : SEnv) (s : Sd) : ownI [a, b, c] q (.int 1) i ρ s = gNx (setS ρ i (.own [a, q, c])) s := rfl
theorem ow2 (i : Nat) (a b c q : D) (ρ : SEnv) (s : Sd) : ownI [a, b, c] q (.int 2) i ρ s = gNx (setS ρ i (.own [a, b, q])) s := rfl
theorem rg3 : DL.rng1 (.int 3) = some [.int 0, .int 1, .int 2] := rfl
theorem made_first (h : inF (wD i j k) (.tup firsts) = some (.bl true)) : m_made_in [wD i j k] s = .ok .non s ∧ m__law_made [wD i j k] s = .ok .non s := by
  unfold firsts at h
  constructor
  · unfold m_made_in b_made_in
    simp (decide := true) only [EV, fnM, List.length_cons, List.length_nil, Nat.reduceAdd, Nat.reduceSub, if_true, if_false, ↓reduceIte, List.map_cons, List.map_nil, List.replicate, List.cons_append, List.nil_append, Bool.false_eq_true, Bool.not_true, Bool.not_false, Bool.and_true, Bool.true_and, Bool.and_self, List.all_cons, List.all_nil, List.any_cons, List.any_nil, List.reverse_cons, List.reverse_nil, decide_true, decide_false, Int.reduceAdd, Int.reduceSub, Int.reduceMul, Int.reduceNeg, Option.map_some, PK, h]
  · unfold m__law_made b__law_made
    simp (decide := true) only [EV, fnM, List.length_cons, List.length_nil, Nat.reduceAdd, Nat.reduceSub, if_true, if_false, ↓reduceIte, List.map_cons, List.map_nil, List.replicate, List.cons_append, List.nil_append, Bool.false_eq_true, Bool.not_true, Bool.not_false, Bool.and_true, Bool.true_and, Bool.and_self, List.all_cons, List.all_nil, List.any_cons, List.any_nil, List.reverse_cons, List.reverse_nil, decide_true, decide_false, Int.reduceAdd, Int.reduceSub, Int.reduceMul, Int.reduceNeg, Option.map_some, PK, h]
theorem made_both (h : Wd i j k) (hf : inF (wD i j k) (.tup firsts) = some (.bl false)) (nz : ¬ (i = 0 ∧ j = 0 ∧ k = 0)) : ∃ d, (∀ s, m_made_in [wD i j k] s = .ok d s) ∧ (∀ s, m__law_made [wD i j k] s = .ok d s) ∧ MadeD i j k d := by
  unfold firsts at hf
  have en : enumD [.int i, .int j, .int k] = [.tup [.int 0, .int i], .tup [.int 1, .int j], .tup [.int 2, .int k]] := rfl
  have m1 := modF_ok (i := i) (j := 2) (by decide)
  have m2 := modF_ok (i := j) (j := 2) (by decide)
  have m3 := modF_ok (i := k) (j := 2) (by decide)
  have v1 := divF_ok (i := i) (j := 2) (by decide) (by decide)
  have v2 := divF_ok (i := j) (j := 2) (by decide) (by decide)
  have v3 := divF_ok (i := k) (j := 2) (by decide) (by decide)
  have v1' := divF_ok (i := i + 1) (j := 2) (by decide) (by decide)
  have v2' := divF_ok (i := j + 1) (j := 2) (by decide) (by decide)
  have v3' := divF_ok (i := k + 1) (j := 2) (by decide) (by decide)
  have ev := h.ev
  unfold Ev2 at ev
  have bi := h.bi
  have bj := h.bj
  have bk := h.bk
  by_cases z1 : i = 0 <;> by_cases z2 : j = 0 <;> by_cases z3 : k = 0
  · exact absurd ⟨z1, z2, z3⟩ nz
  · subst z1 z2
    have al := fun s => alone_ok (s := s) (at_ := 2) (v := k) (by decide) bk
    obtain ⟨w1, w2, w3⟩ := alone_w h bk
    simp only [Int.cast_ofNat_Int] at al
    refine ⟨.tup [wD (0) (0) (aP k), wD (0) (0) (aR k)], ?_, ?_, 0, 0, aP k, 0, 0, aR k, rfl, ⟨by omega, by omega, by omega, by unfold Ev2; omega⟩, ⟨by omega, by omega, by omega, by unfold Ev2; omega⟩, by omega, by omega, by omega⟩
    · intro s; unfold m_made_in b_made_in
      simp (decide := true) only [EV, fnM, List.length_cons, List.length_nil, Nat.reduceAdd, Nat.reduceSub, if_true, if_false, ↓reduceIte, List.map_cons, List.map_nil, List.replicate, List.cons_append, List.nil_append, Bool.false_eq_true, Bool.not_true, Bool.not_false, Bool.and_true, Bool.true_and, Bool.and_self, List.all_cons, List.all_nil, List.any_cons, List.any_nil, List.reverse_cons, List.reverse_nil, decide_true, decide_false, Int.reduceAdd, Int.reduceSub, Int.reduceMul, Int.reduceNeg, Option.map_some, PK, hf, en, Int.neg_zero, ev_lcC, ev_lcN, ev_lstR (show 3 ≤ 20000 by decide), ev_lstR (show 2 ≤ 20000 by decide), ev_lstR (show 1 ≤ 20000 by decide), z3, al]
      rfl
    · intro s; unfold m__law_made b__law_made aP aR
      by_cases g : k < 0
      · simp (decide := true) only [EV, fnM, List.length_cons, List.length_nil, Nat.reduceAdd, Nat.reduceSub, if_true, if_false, ↓reduceIte, List.map_cons, List.map_nil, List.replicate, List.cons_append, List.nil_append, Bool.false_eq_true, Bool.not_true, Bool.not_false, Bool.and_true, Bool.true_and, Bool.and_self, List.all_cons, List.all_nil, List.any_cons, List.any_nil, List.reverse_cons, List.reverse_nil, decide_true, decide_false, Int.reduceAdd, Int.reduceSub, Int.reduceMul, Int.reduceNeg, Option.map_some, PK, EO, DL.EP, hf, rg3, Int.neg_zero, ev_lcC, ev_lcN, ev_lstR (show 3 ≤ 20000 by decide), ev_lstR (show 2 ≤ 20000 by decide), ev_lstR (show 1 ≤ 20000 by decide), z3, g, band1, ow0, ow1, ow2, ev_subs2, ev_sub2A, ev_sub2B, v3']
      · simp (decide := true) only [EV, fnM, List.length_cons, List.length_nil, Nat.reduceAdd, Nat.reduceSub, if_true, if_false, ↓reduceIte, List.map_cons, List.map_nil, List.replicate, List.cons_append, List.nil_append, Bool.false_eq_true, Bool.not_true, Bool.not_false, Bool.and_true, Bool.true_and, Bool.and_self, List.all_cons, List.all_nil, List.any_cons, List.any_nil, List.reverse_cons, List.reverse_nil, decide_true, decide_false, Int.reduceAdd, Int.reduceSub, Int.reduceMul, Int.reduceNeg, Option.map_some, PK, EO, DL.EP, hf, rg3, Int.neg_zero, ev_lcC, ev_lcN, ev_lstR (show 3 ≤ 20000 by decide), ev_lstR (show 2 ≤ 20000 by decide), ev_lstR (show 1 ≤ 20000 by decide), z3, g, band1, ow0, ow1, ow2, ev_subs2, ev_sub2A, ev_sub2B, v3']
  · subst z1 z3
    have al := fun s => alone_ok (s := s) (at_ := 1) (v := j) (by decide) bj
    obtain ⟨w1, w2, w3⟩ := alone_w h bj
    simp only [Int.cast_ofNat_Int] at al
    refine ⟨.tup [wD (0) (aP j) (0), wD (0) (aR j) (0)], ?_, ?_, 0, aP j, 0, 0, aR j, 0, rfl, ⟨by omega, by omega, by omega, by unfold Ev2; omega⟩, ⟨by omega, by omega, by omega, by unfold Ev2; omega⟩, by omega, by omega, by omega⟩
    · intro s; unfold m_made_in b_made_in
      simp (decide := true) only [EV, fnM, List.length_cons, List.length_nil, Nat.reduceAdd, Nat.reduceSub, if_true, if_false, ↓reduceIte, List.map_cons, List.map_nil, List.replicate, List.cons_append, List.nil_append, Bool.false_eq_true, Bool.not_true, Bool.not_false, Bool.and_true, Bool.true_and, Bool.and_self, List.all_cons, List.all_nil, List.any_cons, List.any_nil, List.reverse_cons, List.reverse_nil, decide_true, decide_false, Int.reduceAdd, Int.reduceSub, Int.reduceMul, Int.reduceNeg, Option.map_some, PK, hf, en, Int.neg_zero, ev_lcC, ev_lcN, ev_lstR (show 3 ≤ 20000 by decide), ev_lstR (show 2 ≤ 20000 by decide), ev_lstR (show 1 ≤ 20000 by decide), z2, al]
      rfl
    · intro s; unfold m__law_made b__law_made aP aR
      by_cases g : j < 0
      · simp (decide := true) only [EV, fnM, List.length_cons, List.length_nil, Nat.reduceAdd, Nat.reduceSub, if_true, if_false, ↓reduceIte, List.map_cons, List.map_nil, List.replicate, List.cons_append, List.nil_append, Bool.false_eq_true, Bool.not_true, Bool.not_false, Bool.and_true, Bool.true_and, Bool.and_self, List.all_cons, List.all_nil, List.any_cons, List.any_nil, List.reverse_cons, List.reverse_nil, decide_true, decide_false, Int.reduceAdd, Int.reduceSub, Int.reduceMul, Int.reduceNeg, Option.map_some, PK, EO, DL.EP, hf, rg3, Int.neg_zero, ev_lcC, ev_lcN, ev_lstR (show 3 ≤ 20000 by decide), ev_lstR (show 2 ≤ 20000 by decide), ev_lstR (show 1 ≤ 20000 by decide), z2, g, band1, ow0, ow1, ow2, ev_subs2, ev_sub2A, ev_sub2B, v2']
      · simp (decide := true) only [EV, fnM, List.length_cons, List.length_nil, Nat.reduceAdd, Nat.reduceSub, if_true, if_false, ↓reduceIte, List.map_cons, List.map_nil, List.replicate, List.cons_append, List.nil_append, Bool.false_eq_true, Bool.not_true, Bool.not_false, Bool.and_true, Bool.true_and, Bool.and_self, List.all_cons, List.all_nil, List.any_cons, List.any_nil, List.reverse_cons, List.reverse_nil, decide_true, decide_false, Int.reduceAdd, Int.reduceSub, Int.reduceMul, Int.reduceNeg, Option.map_some, PK, EO, DL.EP, hf, rg3, Int.neg_zero, ev_lcC, ev_lcN, ev_lstR (show 3 ≤ 20000 by decide), ev_lstR (show 2 ≤ 20000 by decide), ev_lstR (show 1 ≤ 20000 by decide), z2, g, band1, ow0, ow1, ow2, ev_subs2, ev_sub2A, ev_sub2B, v2']
  · subst z1
    by_cases o2 : j % 2 = 0
    · refine ⟨.tup [wD (0) (j / 2) (0), wD (0) (0) (-k)], ?_, ?_, 0, j / 2, 0, 0, 0, -k, rfl, ⟨by omega, by omega, by omega, by unfold Ev2; omega⟩, ⟨by omega, by omega, by omega, by unfold Ev2; omega⟩, by omega, by omega, by omega⟩
      · intro s; unfold m_made_in b_made_in
        by_cases q3 : k % 2 = 0 <;> simp (decide := true) only [EV, fnM, List.length_cons, List.length_nil, Nat.reduceAdd, Nat.reduceSub, if_true, if_false, ↓reduceIte, List.map_cons, List.map_nil, List.replicate, List.cons_append, List.nil_append, Bool.false_eq_true, Bool.not_true, Bool.not_false, Bool.and_true, Bool.true_and, Bool.and_self, List.all_cons, List.all_nil, List.any_cons, List.any_nil, List.reverse_cons, List.reverse_nil, decide_true, decide_false, Int.reduceAdd, Int.reduceSub, Int.reduceMul, Int.reduceNeg, Option.map_some, PK, hf, en, Int.neg_zero, ev_lcC, ev_lcN, ev_lstR (show 3 ≤ 20000 by decide), ev_lstR (show 2 ≤ 20000 by decide), ev_lstR (show 1 ≤ 20000 by decide), z2, z3, m1, m2, m3, v2, put1, o2, q3]
      · intro s; unfold m__law_made b__law_made
        by_cases q3 : k % 2 = 0 <;> simp (decide := true) only [EV, fnM, List.length_cons, List.length_nil, Nat.reduceAdd, Nat.reduceSub, if_true, if_false, ↓reduceIte, List.map_cons, List.map_nil, List.replicate, List.cons_append, List.nil_append, Bool.false_eq_true, Bool.not_true, Bool.not_false, Bool.and_true, Bool.true_and, Bool.and_self, List.all_cons, List.all_nil, List.any_cons, List.any_nil, List.reverse_cons, List.reverse_nil, decide_true, decide_false, Int.reduceAdd, Int.reduceSub, Int.reduceMul, Int.reduceNeg, Option.map_some, PK, EO, DL.EP, hf, rg3, Int.neg_zero, ev_lcC, ev_lcN, ev_lstR (show 3 ≤ 20000 by decide), ev_lstR (show 2 ≤ 20000 by decide), ev_lstR (show 1 ≤ 20000 by decide), z2, z3, band1, v2, ow0, ow1, ow2, o2, q3]
    · have o3 : k % 2 = 0 := by omega
      refine ⟨.tup [wD (0) (0) (k / 2), wD (0) (-j) (0)], ?_, ?_, 0, 0, k / 2, 0, -j, 0, rfl, ⟨by omega, by omega, by omega, by unfold Ev2; omega⟩, ⟨by omega, by omega, by omega, by unfold Ev2; omega⟩, by omega, by omega, by omega⟩
      · intro s; unfold m_made_in b_made_in
        simp (decide := true) only [EV, fnM, List.length_cons, List.length_nil, Nat.reduceAdd, Nat.reduceSub, if_true, if_false, ↓reduceIte, List.map_cons, List.map_nil, List.replicate, List.cons_append, List.nil_append, Bool.false_eq_true, Bool.not_true, Bool.not_false, Bool.and_true, Bool.true_and, Bool.and_self, List.all_cons, List.all_nil, List.any_cons, List.any_nil, List.reverse_cons, List.reverse_nil, decide_true, decide_false, Int.reduceAdd, Int.reduceSub, Int.reduceMul, Int.reduceNeg, Option.map_some, PK, hf, en, Int.neg_zero, ev_lcC, ev_lcN, ev_lstR (show 3 ≤ 20000 by decide), ev_lstR (show 2 ≤ 20000 by decide), ev_lstR (show 1 ≤ 20000 by decide), z2, z3, m1, m2, m3, v3, put2, o3, o2]
      · intro s; unfold m__law_made b__law_made
        simp (decide := true) only [EV, fnM, List.length_cons, List.length_nil, Nat.reduceAdd, Nat.reduceSub, if_true, if_false, ↓reduceIte, List.map_cons, List.map_nil, List.replicate, List.cons_append, List.nil_append, Bool.false_eq_true, Bool.not_true, Bool.not_false, Bool.and_true, Bool.true_and, Bool.and_self, List.all_cons, List.all_nil, List.any_cons, List.any_nil, List.reverse_cons, List.reverse_nil, decide_true, decide_false, Int.reduceAdd, Int.reduceSub, Int.reduceMul, Int.reduceNeg, Option.map_some, PK, EO, DL.EP, hf, rg3, Int.neg_zero, ev_lcC, ev_lcN, ev_lstR (show 3 ≤ 20000 by decide), ev_lstR (show 2 ≤ 20000 by decide), ev_lstR (show 1 ≤ 20000 by decide), z2, z3, band1, v3, ow0, ow1, ow2, o3, o2]
  · subst z2 z3
    have al := fun s => alone_ok (s := s) (at_ := 0) (v := i) (by decide) bi
    obtain ⟨w1, w2, w3⟩ := alone_w h bi
    simp only [Int.cast_ofNat_Int] at al
    refine ⟨.tup [wD (aP i) (0) (0), wD (aR i) (0) (0)], ?_, ?_, aP i, 0, 0, aR i, 0, 0, rfl, ⟨by omega, by omega, by omega, by unfold Ev2; omega⟩, ⟨by omega, by omega, by omega, by unfold Ev2; omega⟩, by omega, by omega, by omega⟩
    · intro s; unfold m_made_in b_made_in
      simp (decide := true) only [EV, fnM, List.length_cons, List.length_nil, Nat.reduceAdd, Nat.reduceSub, if_true, if_false, ↓reduceIte, List.map_cons, List.map_nil, List.replicate, List.cons_append, List.nil_append, Bool.false_eq_true, Bool.not_true, Bool.not_false, Bool.and_true, Bool.true_and, Bool.and_self, List.all_cons, List.all_nil, List.any_cons, List.any_nil, List.reverse_cons, List.reverse_nil, decide_true, decide_false, Int.reduceAdd, Int.reduceSub, Int.reduceMul, Int.reduceNeg, Option.map_some, PK, hf, en, Int.neg_zero, ev_lcC, ev_lcN, ev_lstR (show 3 ≤ 20000 by decide), ev_lstR (show 2 ≤ 20000 by decide), ev_lstR (show 1 ≤ 20000 by decide), z1, al]
      rfl
    · intro s; unfold m__law_made b__law_made aP aR
      by_cases g : i < 0
      · simp (decide := true) only [EV, fnM, List.length_cons, List.length_nil, Nat.reduceAdd, Nat.reduceSub, if_true, if_false, ↓reduceIte, List.map_cons, List.map_nil, List.replicate, List.cons_append, List.nil_append, Bool.false_eq_true, Bool.not_true, Bool.not_false, Bool.and_true, Bool.true_and, Bool.and_self, List.all_cons, List.all_nil, List.any_cons, List.any_nil, List.reverse_cons, List.reverse_nil, decide_true, decide_false, Int.reduceAdd, Int.reduceSub, Int.reduceMul, Int.reduceNeg, Option.map_some, PK, EO, DL.EP, hf, rg3, Int.neg_zero, ev_lcC, ev_lcN, ev_lstR (show 3 ≤ 20000 by decide), ev_lstR (show 2 ≤ 20000 by decide), ev_lstR (show 1 ≤ 20000 by decide), z1, g, band1, ow0, ow1, ow2, ev_subs2, ev_sub2A, ev_sub2B, v1']
      · simp (decide := true) only [EV, fnM, List.length_cons, List.length_nil, Nat.reduceAdd, Nat.reduceSub, if_true, if_false, ↓reduceIte, List.map_cons, List.map_nil, List.replicate, List.cons_append, List.nil_append, Bool.false_eq_true, Bool.not_true, Bool.not_false, Bool.and_true, Bool.true_and, Bool.and_self, List.all_cons, List.all_nil, List.any_cons, List.any_nil, List.reverse_cons, List.reverse_nil, decide_true, decide_false, Int.reduceAdd, Int.reduceSub, Int.reduceMul, Int.reduceNeg, Option.map_some, PK, EO, DL.EP, hf, rg3, Int.neg_zero, ev_lcC, ev_lcN, ev_lstR (show 3 ≤ 20000 by decide), ev_lstR (show 2 ≤ 20000 by decide), ev_lstR (show 1 ≤ 20000 by decide), z1, g, band1, ow0, ow1, ow2, ev_subs2, ev_sub2A, ev_sub2B, v1']
  · subst z2
    by_cases o1 : i % 2 = 0
    · refine ⟨.tup [wD (i / 2) (0) (0), wD (0) (0) (-k)], ?_, ?_, i / 2, 0, 0, 0, 0, -k, rfl, ⟨by omega, by omega, by omega, by unfold Ev2; omega⟩, ⟨by omega, by omega, by omega, by unfold Ev2; omega⟩, by omega, by omega, by omega⟩
      · intro s; unfold m_made_in b_made_in
        by_cases q3 : k % 2 = 0 <;> simp (decide := true) only [EV, fnM, List.length_cons, List.length_nil, Nat.reduceAdd, Nat.reduceSub, if_true, if_false, ↓reduceIte, List.map_cons, List.map_nil, List.replicate, List.cons_append, List.nil_append, Bool.false_eq_true, Bool.not_true, Bool.not_false, Bool.and_true, Bool.true_and, Bool.and_self, List.all_cons, List.all_nil, List.any_cons, List.any_nil, List.reverse_cons, List.reverse_nil, decide_true, decide_false, Int.reduceAdd, Int.reduceSub, Int.reduceMul, Int.reduceNeg, Option.map_some, PK, hf, en, Int.neg_zero, ev_lcC, ev_lcN, ev_lstR (show 3 ≤ 20000 by decide), ev_lstR (show 2 ≤ 20000 by decide), ev_lstR (show 1 ≤ 20000 by decide), z1, z3, m1, m2, m3, v1, put0, o1, q3]
      · intro s; unfold m__law_made b__law_made
        by_cases q3 : k % 2 = 0 <;> simp (decide := true) only [EV, fnM, List.length_cons, List.length_nil, Nat.reduceAdd, Nat.reduceSub, if_true, if_false, ↓reduceIte, List.map_cons, List.map_nil, List.replicate, List.cons_append, List.nil_append, Bool.false_eq_true, Bool.not_true, Bool.not_false, Bool.and_true, Bool.true_and, Bool.and_self, List.all_cons, List.all_nil, List.any_cons, List.any_nil, List.reverse_cons, List.reverse_nil, decide_true, decide_false, Int.reduceAdd, Int.reduceSub, Int.reduceMul, Int.reduceNeg, Option.map_some, PK, EO, DL.EP, hf, rg3, Int.neg_zero, ev_lcC, ev_lcN, ev_lstR (show 3 ≤ 20000 by decide), ev_lstR (show 2 ≤ 20000 by decide), ev_lstR (show 1 ≤ 20000 by decide), z1, z3, band1, v1, ow0, ow1, ow2, o1, q3]
    · have o3 : k % 2 = 0 := by omega
      refine ⟨.tup [wD (0) (0) (k / 2), wD (-i) (0) (0)], ?_, ?_, 0, 0, k / 2, -i, 0, 0, rfl, ⟨by omega, by omega, by omega, by unfold Ev2; omega⟩, ⟨by omega, by omega, by omega, by unfold Ev2; omega⟩, by omega, by omega, by omega⟩
      · intro s; unfold m_made_in b_made_in
        simp (decide := true) only [EV, fnM, List.length_cons, List.length_nil, Nat.reduceAdd, Nat.reduceSub, if_true, if_false, ↓reduceIte, List.map_cons, List.map_nil, List.replicate, List.cons_append, List.nil_append, Bool.false_eq_true, Bool.not_true, Bool.not_false, Bool.and_true, Bool.true_and, Bool.and_self, List.all_cons, List.all_nil, List.any_cons, List.any_nil, List.reverse_cons, List.reverse_nil, decide_true, decide_false, Int.reduceAdd, Int.reduceSub, Int.reduceMul, Int.reduceNeg, Option.map_some, PK, hf, en, Int.neg_zero, ev_lcC, ev_lcN, ev_lstR (show 3 ≤ 20000 by decide), ev_lstR (show 2 ≤ 20000 by decide), ev_lstR (show 1 ≤ 20000 by decide), z1, z3, m1, m2, m3, v3, put2, o3, o1]
      · intro s; unfold m__law_made b__law_made
        simp (decide := true) only [EV, fnM, List.length_cons, List.length_nil, Nat.reduceAdd, Nat.reduceSub, if_true, if_false, ↓reduceIte, List.map_cons, List.map_nil, List.replicate, List.cons_append, List.nil_append, Bool.false_eq_true, Bool.not_true, Bool.not_false, Bool.and_true, Bool.true_and, Bool.and_self, List.all_cons, List.all_nil, List.any_cons, List.any_nil, List.reverse_cons, List.reverse_nil, decide_true, decide_false, Int.reduceAdd, Int.reduceSub, Int.reduceMul, Int.reduceNeg, Option.map_some, PK, EO, DL.EP, hf, rg3, Int.neg_zero, ev_lcC, ev_lcN, ev_lstR (show 3 ≤ 20000 by decide), ev_lstR (show 2 ≤ 20000 by decide), ev_lstR (show 1 ≤ 20000 by decide), z1, z3, band1, v3, ow0, ow1, ow2, o3, o1]
  · subst z3
    by_cases o1 : i % 2 = 0
    · refine ⟨.tup [wD (i / 2) (0) (0), wD (0) (-j) (0)], ?_, ?_, i / 2, 0, 0, 0, -j, 0, rfl, ⟨by omega, by omega, by omega, by unfold Ev2; omega⟩, ⟨by omega, by omega, by omega, by unfold Ev2; omega⟩, by omega, by omega, by omega⟩
      · intro s; unfold m_made_in b_made_in
        by_cases q2 : j % 2 = 0 <;> simp (decide := true) only [EV, fnM, List.length_cons, List.length_nil, Nat.reduceAdd, Nat.reduceSub, if_true, if_false, ↓reduceIte, List.map_cons, List.map_nil, List.replicate, List.cons_append, List.nil_append, Bool.false_eq_true, Bool.not_true, Bool.not_false, Bool.and_true, Bool.true_and, Bool.and_self, List.all_cons, List.all_nil, List.any_cons, List.any_nil, List.reverse_cons, List.reverse_nil, decide_true, decide_false, Int.reduceAdd, Int.reduceSub, Int.reduceMul, Int.reduceNeg, Option.map_some, PK, hf, en, Int.neg_zero, ev_lcC, ev_lcN, ev_lstR (show 3 ≤ 20000 by decide), ev_lstR (show 2 ≤ 20000 by decide), ev_lstR (show 1 ≤ 20000 by decide), z1, z2, m1, m2, m3, v1, put0, o1, q2]
      · intro s; unfold m__law_made b__law_made
        by_cases q2 : j % 2 = 0 <;> simp (decide := true) only [EV, fnM, List.length_cons, List.length_nil, Nat.reduceAdd, Nat.reduceSub, if_true, if_false, ↓reduceIte, List.map_cons, List.map_nil, List.replicate, List.cons_append, List.nil_append, Bool.false_eq_true, Bool.not_true, Bool.not_false, Bool.and_true, Bool.true_and, Bool.and_self, List.all_cons, List.all_nil, List.any_cons, List.any_nil, List.reverse_cons, List.reverse_nil, decide_true, decide_false, Int.reduceAdd, Int.reduceSub, Int.reduceMul, Int.reduceNeg, Option.map_some, PK, EO, DL.EP, hf, rg3, Int.neg_zero, ev_lcC, ev_lcN, ev_lstR (show 3 ≤ 20000 by decide), ev_lstR (show 2 ≤ 20000 by decide), ev_lstR (show 1 ≤ 20000 by decide), z1, z2, band1, v1, ow0, ow1, ow2, o1, q2]
    · have o2 : j % 2 = 0 := by omega
      refine ⟨.tup [wD (0) (j / 2) (0), wD (-i) (0) (0)], ?_, ?_, 0, j / 2, 0, -i, 0, 0, rfl, ⟨by omega, by omega, by omega, by unfold Ev2; omega⟩, ⟨by omega, by omega, by omega, by unfold Ev2; omega⟩, by omega, by omega, by omega⟩
      · intro s; unfold m_made_in b_made_in
        simp (decide := true) only [EV, fnM, List.length_cons, List.length_nil, Nat.reduceAdd, Nat.reduceSub, if_true, if_false, ↓reduceIte, List.map_cons, List.map_nil, List.replicate, List.cons_append, List.nil_append, Bool.false_eq_true, Bool.not_true, Bool.not_false, Bool.and_true, Bool.true_and, Bool.and_self, List.all_cons, List.all_nil, List.any_cons, List.any_nil, List.reverse_cons, List.reverse_nil, decide_true, decide_false, Int.reduceAdd, Int.reduceSub, Int.reduceMul, Int.reduceNeg, Option.map_some, PK, hf, en, Int.neg_zero, ev_lcC, ev_lcN, ev_lstR (show 3 ≤ 20000 by decide), ev_lstR (show 2 ≤ 20000 by decide), ev_lstR (show 1 ≤ 20000 by decide), z1, z2, m1, m2, m3, v2, put1, o2, o1]
      · intro s; unfold m__law_made b__law_made
        simp (decide := true) only [EV, fnM, List.length_cons, List.length_nil, Nat.reduceAdd, Nat.reduceSub, if_true, if_false, ↓reduceIte, List.map_cons, List.map_nil, List.replicate, List.cons_append, List.nil_append, Bool.false_eq_true, Bool.not_true, Bool.not_false, Bool.and_true, Bool.true_and, Bool.and_self, List.all_cons, List.all_nil, List.any_cons, List.any_nil, List.reverse_cons, List.reverse_nil, decide_true, decide_false, Int.reduceAdd, Int.reduceSub, Int.reduceMul, Int.reduceNeg, Option.map_some, PK, EO, DL.EP, hf, rg3, Int.neg_zero, ev_lcC, ev_lcN, ev_lstR (show 3 ≤ 20000 by decide), ev_lstR (show 2 ≤ 20000 by decide), ev_lstR (show 1 ≤ 20000 by decide), z1, z2, band1, v2, ow0, ow1, ow2, o2, o1]
  · by_cases o1 : i % 2 = 0
    · refine ⟨.tup [wD (i / 2) (0) (0), wD (0) (-j) (-k)], ?_, ?_, i / 2, 0, 0, 0, -j, -k, rfl, ⟨by omega, by omega, by omega, by unfold Ev2; omega⟩, ⟨by omega, by omega, by omega, by unfold Ev2; omega⟩, by omega, by omega, by omega⟩
      · intro s; unfold m_made_in b_made_in
        by_cases q2 : j % 2 = 0 <;> by_cases q3 : k % 2 = 0 <;> simp (decide := true) only [EV, fnM, List.length_cons, List.length_nil, Nat.reduceAdd, Nat.reduceSub, if_true, if_false, ↓reduceIte, List.map_cons, List.map_nil, List.replicate, List.cons_append, List.nil_append, Bool.false_eq_true, Bool.not_true, Bool.not_false, Bool.and_true, Bool.true_and, Bool.and_self, List.all_cons, List.all_nil, List.any_cons, List.any_nil, List.reverse_cons, List.reverse_nil, decide_true, decide_false, Int.reduceAdd, Int.reduceSub, Int.reduceMul, Int.reduceNeg, Option.map_some, PK, hf, en, Int.neg_zero, ev_lcC, ev_lcN, ev_lstR (show 3 ≤ 20000 by decide), ev_lstR (show 2 ≤ 20000 by decide), ev_lstR (show 1 ≤ 20000 by decide), z1, z2, z3, m1, m2, m3, v1, put0, o1, q2, q3]
      · intro s; unfold m__law_made b__law_made
        by_cases q2 : j % 2 = 0 <;> by_cases q3 : k % 2 = 0 <;> simp (decide := true) only [EV, fnM, List.length_cons, List.length_nil, Nat.reduceAdd, Nat.reduceSub, if_true, if_false, ↓reduceIte, List.map_cons, List.map_nil, List.replicate, List.cons_append, List.nil_append, Bool.false_eq_true, Bool.not_true, Bool.not_false, Bool.and_true, Bool.true_and, Bool.and_self, List.all_cons, List.all_nil, List.any_cons, List.any_nil, List.reverse_cons, List.reverse_nil, decide_true, decide_false, Int.reduceAdd, Int.reduceSub, Int.reduceMul, Int.reduceNeg, Option.map_some, PK, EO, DL.EP, hf, rg3, Int.neg_zero, ev_lcC, ev_lcN, ev_lstR (show 3 ≤ 20000 by decide), ev_lstR (show 2 ≤ 20000 by decide), ev_lstR (show 1 ≤ 20000 by decide), z1, z2, z3, band1, v1, ow0, ow1, ow2, o1, q2, q3]
    · have o2 : j % 2 = 0 := by omega
      refine ⟨.tup [wD (0) (j / 2) (0), wD (-i) (0) (-k)], ?_, ?_, 0, j / 2, 0, -i, 0, -k, rfl, ⟨by omega, by omega, by omega, by unfold Ev2; omega⟩, ⟨by omega, by omega, by omega, by unfold Ev2; omega⟩, by omega, by omega, by omega⟩
      · intro s; unfold m_made_in b_made_in
        by_cases q3 : k % 2 = 0 <;> simp (decide := true) only [EV, fnM, List.length_cons, List.length_nil, Nat.reduceAdd, Nat.reduceSub, if_true, if_false, ↓reduceIte, List.map_cons, List.map_nil, List.replicate, List.cons_append, List.nil_append, Bool.false_eq_true, Bool.not_true, Bool.not_false, Bool.and_true, Bool.true_and, Bool.and_self, List.all_cons, List.all_nil, List.any_cons, List.any_nil, List.reverse_cons, List.reverse_nil, decide_true, decide_false, Int.reduceAdd, Int.reduceSub, Int.reduceMul, Int.reduceNeg, Option.map_some, PK, hf, en, Int.neg_zero, ev_lcC, ev_lcN, ev_lstR (show 3 ≤ 20000 by decide), ev_lstR (show 2 ≤ 20000 by decide), ev_lstR (show 1 ≤ 20000 by decide), z1, z2, z3, m1, m2, m3, v2, put1, o2, o1, q3]
      · intro s; unfold m__law_made b__law_made
        by_cases q3 : k % 2 = 0 <;> simp (decide := true) only [EV, fnM, List.length_cons, List.length_nil, Nat.reduceAdd, Nat.reduceSub, if_true, if_false, ↓reduceIte, List.map_cons, List.map_nil, List.replicate, List.cons_append, List.nil_append, Bool.false_eq_true, Bool.not_true, Bool.not_false, Bool.and_true, Bool.true_and, Bool.and_self, List.all_cons, List.all_nil, List.any_cons, List.any_nil, List.reverse_cons, List.reverse_nil, decide_true, decide_false, Int.reduceAdd, Int.reduceSub, Int.reduceMul, Int.reduceNeg, Option.map_some, PK, EO, DL.EP, hf, rg3, Int.neg_zero, ev_lcC, ev_lcN, ev_lstR (show 3 ≤ 20000 by decide), ev_lstR (show 2 ≤ 20000 by decide), ev_lstR (show 1 ≤ 20000 by decide), z1, z2, z3, band1, v2, ow0, ow1, ow2, o2, o1, q3]
end
end Lw
namespace Lw
open PySem PySem.Spec L2 DL DL.Ev
section
variable {s : Sd} {d p d1 d2 d3 : D} {i j k v : Int} {ms : List Int} {n : Nat}
theorem made_ok (h : Wd i j k) : ∃ d, (∀ s, m_made_in [wD i j k] s = .ok d s) ∧ (∀ s, m__law_made [wD i j k] s = .ok d s) ∧ ((d = .non ∧ IsF i j k) ∨ MadeD i j k d) := by
  obtain ⟨b, e, hb⟩ := in_first (i := i) (j := j) (k := k)
  cases b with
  | true => exact ⟨_, fun s => (made_first (s := s) e).1, fun s => (made_first (s := s) e).2, .inl ⟨rfl, hb.mp rfl⟩⟩
  | false =>
    obtain ⟨d, e1, e2, hd⟩ := made_both h e fun z => Bool.false_ne_true (hb.mpr (.inl z))
    exact ⟨d, e1, e2, .inr hd⟩
theorem made_of_ok {x : D} (h : Wd i j k) (hx : x = wD i j k ∨ x = .lst [.int i, .int j, .int k]) (e : m_made_in [wD i j k] s = .ok d s) : m_made_of [x] s = .ok d s := by
  unfold m_made_of b_made_of
  simp (decide := true) only [EV, fnM, List.length_cons, List.length_nil, Nat.reduceAdd, Nat.reduceSub, if_true, if_false, ↓reduceIte, List.map_cons, List.map_nil, List.replicate, List.cons_append, List.nil_append, Bool.false_eq_true, Bool.not_true, Bool.not_false, Bool.and_true, Bool.true_and, Bool.and_self, List.all_cons, List.all_nil, List.any_cons, List.any_nil, List.reverse_cons, List.reverse_nil, decide_true, decide_false, Int.reduceAdd, Int.reduceSub, Int.reduceMul, Int.reduceNeg, Option.map_some, PK, EE, fnR, need_word_ok h hx, e]
theorem made_of_er (h : OddW d) : m_made_of [d] s = .er ⟨"BadWord", [("part", .str "word")]⟩ s := by
  unfold m_made_of b_made_of
  simp (decide := true) only [EV, fnM, List.length_cons, List.length_nil, Nat.reduceAdd, Nat.reduceSub, if_true, if_false, ↓reduceIte, List.map_cons, List.map_nil, List.replicate, List.cons_append, List.nil_append, Bool.false_eq_true, Bool.not_true, Bool.not_false, Bool.and_true, Bool.true_and, Bool.and_self, List.all_cons, List.all_nil, List.any_cons, List.any_nil, List.reverse_cons, List.reverse_nil, decide_true, decide_false, Int.reduceAdd, Int.reduceSub, Int.reduceMul, Int.reduceNeg, Option.map_some, PK, EE, fnR, need_word_er h]
theorem rdL {l : List D} : reprDF [.lst l] = reprF [.lst l] := rfl
theorem eqS {x : Str} : neF (.str x) (.str x) = some (.bl false) := by
  rw [ev_neS]; simp
theorem rkw (h : Wd i j k) : Rk (wD i j k) 4 1 := by
  have h1 := h.bi
  have h2 := h.bj
  have h3 := h.bk
  have b (x : Int) (hx : B24 x) : x.natAbs < 2 ^ 1893 := Nat.lt_of_lt_of_le (show x.natAbs < 2 ^ 5 by have : (2 : Nat) ^ 5 = 32 := rfl; omega) (Nat.pow_le_pow_right (by decide) (by decide))
  have r1 := rk_int (b i h1)
  have r2 := rk_int (b j h2)
  have r3 := rk_int (b k h3)
  exact rk_tup
theorem new : neF (wD i j k) (wD i j k) = some (.bl false) := by
  have h1 : (wD i j k).okEq = true := Oe.ok (inferInstance : Oe (wD i j k) _) (by decide)
  unfold neF
  rw [if_pos ⟨h1, h1⟩, eq_w]
  simp
theorem neb : neF (.lst [.bl true, .bl true]) (.lst [.bl true, .bl true]) = some (.bl false) := by
  have e : D.eq (.lst [.bl true, .bl true]) (.lst [.bl true, .bl true]) = true := by decide +kernel
  unfold neF
  rw [if_pos ⟨by decide +kernel, by decide +kernel⟩, e]
  rfl
theorem eql (a b c : Int) : eqF (.lst [.int a, .int b, .int c]) (.lst [.int a, .int b, .int c]) = some (.bl true) := by
  have h1 : (D.lst [.int a, .int b, .int c]).okEq = true := Oe.ok (inferInstance : Oe (D.lst [.int a, .int b, .int c]) _) (by decide)
  have e : D.eq (.lst [.int a, .int b, .int c]) (.lst [.int a, .int b, .int c]) = true := by
    show PyData.eqv (.list [.int a, .int b, .int c]) (.list [.int a, .int b, .int c]) = true
    simp [PyData.eqv, PyData.eqvAll]
  unfold eqF
  rw [if_pos ⟨h1, h1⟩, e]
theorem sorted_first (h : IsF i j k) : ∃ l, sortedF [wD i j k] = some l ∧ inF l (.tup [.lst [.int 0, .int 0, .int 0], .lst [.int 0, .int 0, .int 1]]) = some (.bl true) := by
  have f (l : D) (h1 : l.okEq = true) (h2 : inL l [.lst [.int 0, .int 0, .int 0], .lst [.int 0, .int 0, .int 1]] = true) : inF l (.tup [.lst [.int 0, .int 0, .int 0], .lst [.int 0, .int 0, .int 1]]) = some (.bl true) := by
    unfold inF
    simp only
    rw [if_pos ⟨h1, by decide +kernel⟩, h2]
  rcases h with ⟨rfl, rfl, rfl⟩ | ⟨rfl, rfl, rfl⟩ | ⟨rfl, rfl, rfl⟩ | ⟨rfl, rfl, rfl⟩ <;> exact ⟨_, rfl, f _ (by decide +kernel) (by decide +kernel)⟩
theorem zipw {a b c x y z : Int} : zipD [.int a, .int b, .int c] [.int x, .int y, .int z] = [.tup [.int a, .int x], .tup [.int b, .int y], .tup [.int c, .int z]] := rfl
theorem right_ok (h : Wd i j k) (hs : StOk n s) (hn : n + 3 < 2 ^ 31) : ∃ s', StOk (n + 1) s' ∧ m__law_word_right [.drum ms, wD i j k] s = .ok (.bl true) s' := by
  obtain ⟨_, s1, e1, hs1, v, rfl, v0, v1⟩ := rch (ms := ms) (k := 2) hs (by omega) (by decide) (by decide)
  obtain ⟨d, b1, b2, b3⟩ := made_ok h
  refine ⟨s1, hs1, ?_⟩
  have w1 := is_word_ok (s := s1) h (.inl rfl)
  have w2 := is_word_ok (s := s1) h (.inr rfl)
  have q1 := made_of_ok h (.inl rfl) (b1 s1)
  have q2 := made_of_ok h (.inr rfl) (b1 s1)
  unfold m__law_word_right b__law_word_right
  rcases b3 with ⟨rfl, hf⟩ | ⟨p0, p1, p2, r0, r1, r2, rfl, hp, hr, g0, g1, g2⟩
  · obtain ⟨l, f1, f2⟩ := sorted_first hf
    have rr := ev_repr (d := .lst [.bl true, .bl true, .non, .non]) (by decide) (by decide)
    by_cases hv : v = 0
    · simp (decide := true) only [EV, fnM, List.length_cons, List.length_nil, Nat.reduceAdd, Nat.reduceSub, if_true, if_false, ↓reduceIte, List.map_cons, List.map_nil, List.replicate, List.cons_append, List.nil_append, Bool.false_eq_true, Bool.not_true, Bool.not_false, Bool.and_true, Bool.true_and, Bool.and_self, List.all_cons, List.all_nil, List.any_cons, List.any_nil, List.reverse_cons, List.reverse_nil, decide_true, decide_false, Int.reduceAdd, Int.reduceSub, Int.reduceMul, Int.reduceNeg, Option.map_some, PK, PK, EE, b2, e1, hv, w1, w2, q1, q2, rdL, rr, eqS, f1, f2]
    · simp (decide := true) only [EV, fnM, List.length_cons, List.length_nil, Nat.reduceAdd, Nat.reduceSub, if_true, if_false, ↓reduceIte, List.map_cons, List.map_nil, List.replicate, List.cons_append, List.nil_append, Bool.false_eq_true, Bool.not_true, Bool.not_false, Bool.and_true, Bool.true_and, Bool.and_self, List.all_cons, List.all_nil, List.any_cons, List.any_nil, List.reverse_cons, List.reverse_nil, decide_true, decide_false, Int.reduceAdd, Int.reduceSub, Int.reduceMul, Int.reduceNeg, Option.map_some, PK, PK, EE, b2, e1, hv, w1, w2, q1, q2, rdL, rr, eqS, f1, f2]
  · have k1 := rkw hp
    have k2 := rkw hr
    have rr := ev_repr (d := .lst [.bl true, .bl true, .tup [wD p0 p1 p2, wD r0 r1 r2], .tup [wD p0 p1 p2, wD r0 r1 r2]]) (by decide) (by decide)
    have wp := is_word_ok (s := s1) hp (.inl rfl)
    have wr := is_word_ok (s := s1) hr (.inl rfl)
    have mo (x : Int) (hx : B24 x) : MulOk 2 x := mulOk_l (by decide) (by decide)
    have m0 := mo p0 hp.bi
    have m1 := mo p1 hp.bj
    have m2 := mo p2 hp.bk
    have x0 : 2 * p0 - r0 = i := by omega
    have x1 : 2 * p1 - r1 = j := by omega
    have x2 : 2 * p2 - r2 = k := by omega
    have y0 : r0 % 2 = i % 2 := by omega
    have y1 : r1 % 2 = j % 2 := by omega
    have y2 : r2 % 2 = k % 2 := by omega
    have nw := new (i := i) (j := j) (k := k)
    have el := eql (i % 2) (j % 2) (k % 2)
    by_cases hv : v = 0
    · simp (decide := true) only [EV, fnM, List.length_cons, List.length_nil, Nat.reduceAdd, Nat.reduceSub, if_true, if_false, ↓reduceIte, List.map_cons, List.map_nil, List.replicate, List.cons_append, List.nil_append, Bool.false_eq_true, Bool.not_true, Bool.not_false, Bool.and_true, Bool.true_and, Bool.and_self, List.all_cons, List.all_nil, List.any_cons, List.any_nil, List.reverse_cons, List.reverse_nil, decide_true, decide_false, Int.reduceAdd, Int.reduceSub, Int.reduceMul, Int.reduceNeg, Option.map_some, PK, PK, EE, b2, e1, hv, w1, w2, q1, q2, rdL, rr, eqS, zipw, ev_lcC, ev_lcN, ev_lstR (show 3 ≤ 20000 by decide), m0, m1, m2, x0, x1, x2, nw, wp, wr, neb, band1, y0, y1, y2, el]
    · simp (decide := true) only [EV, fnM, List.length_cons, List.length_nil, Nat.reduceAdd, Nat.reduceSub, if_true, if_false, ↓reduceIte, List.map_cons, List.map_nil, List.replicate, List.cons_append, List.nil_append, Bool.false_eq_true, Bool.not_true, Bool.not_false, Bool.and_true, Bool.true_and, Bool.and_self, List.all_cons, List.all_nil, List.any_cons, List.any_nil, List.reverse_cons, List.reverse_nil, decide_true, decide_false, Int.reduceAdd, Int.reduceSub, Int.reduceMul, Int.reduceNeg, Option.map_some, PK, PK, EE, b2, e1, hv, w1, w2, q1, q2, rdL, rr, eqS, zipw, ev_lcC, ev_lcN, ev_lstR (show 3 ≤ 20000 by decide), m0, m1, m2, x0, x1, x2, nw, wp, wr, neb, band1, y0, y1, y2, el]
end
end Lw
namespace Lw
open PySem PySem.Spec L2 DL DL.Ev
section
variable {s : Sd} {d p d1 d2 d3 : D} {i j k v a b c : Int} {ms : List Int} {n : Nat}
def oddOk (a b c : Int) : Bool := decide (¬(a % 2 = 1 ∧ b % 2 = 1) ∧ ¬(a % 2 = 1 ∧ c % 2 = 1) ∧ ¬(b % 2 = 1 ∧ c % 2 = 1))
def b24 (x : Int) : Bool := decide (-24 ≤ x ∧ x ≤ 24)
theorem b24_iff {x : Int} : b24 x = true ↔ B24 x := by unfold b24; exact decide_eq_true_iff
def rngOk (a b c : Int) : Bool := b24 a && b24 b && b24 c
theorem win {i : Int} : H.m_is_within [.int i, .int (-24), .int 24] s = .ok (.bl (b24 i)) s := by
  unfold H.m_is_within H.b_is_within b24
  by_cases h : -24 ≤ i <;> by_cases g : i ≤ 24
  · simp (decide := true) only [EV, fnM, List.length_cons, List.length_nil, Nat.reduceAdd, Nat.reduceSub, if_true, if_false, ↓reduceIte, List.map_cons, List.map_nil, List.replicate, List.cons_append, List.nil_append, Bool.false_eq_true, Bool.not_true, Bool.not_false, Bool.and_true, Bool.true_and, Bool.and_self, List.all_cons, List.all_nil, List.any_cons, List.any_nil, List.reverse_cons, List.reverse_nil, decide_true, decide_false, Int.reduceAdd, Int.reduceSub, Int.reduceMul, Int.reduceNeg, Option.map_some, PK, is_integer_int, h, g]
  · simp (decide := true) only [EV, fnM, List.length_cons, List.length_nil, Nat.reduceAdd, Nat.reduceSub, if_true, if_false, ↓reduceIte, List.map_cons, List.map_nil, List.replicate, List.cons_append, List.nil_append, Bool.false_eq_true, Bool.not_true, Bool.not_false, Bool.and_true, Bool.true_and, Bool.and_self, List.all_cons, List.all_nil, List.any_cons, List.any_nil, List.reverse_cons, List.reverse_nil, decide_true, decide_false, Int.reduceAdd, Int.reduceSub, Int.reduceMul, Int.reduceNeg, Option.map_some, PK, is_integer_int, h, g]
  · simp (decide := true) only [EV, fnM, List.length_cons, List.length_nil, Nat.reduceAdd, Nat.reduceSub, if_true, if_false, ↓reduceIte, List.map_cons, List.map_nil, List.replicate, List.cons_append, List.nil_append, Bool.false_eq_true, Bool.not_true, Bool.not_false, Bool.and_true, Bool.true_and, Bool.and_self, List.all_cons, List.all_nil, List.any_cons, List.any_nil, List.reverse_cons, List.reverse_nil, decide_true, decide_false, Int.reduceAdd, Int.reduceSub, Int.reduceMul, Int.reduceNeg, Option.map_some, PK, is_integer_int, h, g]
  · simp (decide := true) only [EV, fnM, List.length_cons, List.length_nil, Nat.reduceAdd, Nat.reduceSub, if_true, if_false, ↓reduceIte, List.map_cons, List.map_nil, List.replicate, List.cons_append, List.nil_append, Bool.false_eq_true, Bool.not_true, Bool.not_false, Bool.and_true, Bool.true_and, Bool.and_self, List.all_cons, List.all_nil, List.any_cons, List.any_nil, List.reverse_cons, List.reverse_nil, decide_true, decide_false, Int.reduceAdd, Int.reduceSub, Int.reduceMul, Int.reduceNeg, Option.map_some, PK, is_integer_int, h, g]
theorem wod {d : D} (h : ∀ s, H.m_is_integer [d] s = .ok (.bl false) s) : H.m_is_within [d, .int (-24), .int 24] s = .ok (.bl false) s := by
  unfold H.m_is_within H.b_is_within
  simp (decide := true) only [EV, fnM, List.length_cons, List.length_nil, Nat.reduceAdd, Nat.reduceSub, if_true, if_false, ↓reduceIte, List.map_cons, List.map_nil, List.replicate, List.cons_append, List.nil_append, Bool.false_eq_true, Bool.not_true, Bool.not_false, Bool.and_true, Bool.true_and, Bool.and_self, List.all_cons, List.all_nil, List.any_cons, List.any_nil, List.reverse_cons, List.reverse_nil, decide_true, decide_false, Int.reduceAdd, Int.reduceSub, Int.reduceMul, Int.reduceNeg, Option.map_some, PK, h s]
theorem word3 : m_is_word [wD a b c] s = .ok (.bl (rngOk a b c && oddOk a b c)) s := by
  have w1 := win (s := s) (i := a)
  have w2 := win (s := s) (i := b)
  have w3 := win (s := s) (i := c)
  have m1 := modF_ok (i := a) (j := 2) (by decide)
  have m2 := modF_ok (i := b) (j := 2) (by decide)
  have m3 := modF_ok (i := c) (j := 2) (by decide)
  unfold m_is_word b_is_word rngOk
  cases r1 : b24 a <;> cases r2 : b24 b <;> cases r3 : b24 c
  case true.true.true =>
    unfold oddOk
    by_cases o1 : a % 2 = 1 <;> by_cases o2 : b % 2 = 1 <;> by_cases o3 : c % 2 = 1 <;>
      simp (decide := true) only [EV, fnM, List.length_cons, List.length_nil, Nat.reduceAdd, Nat.reduceSub, if_true, if_false, ↓reduceIte, List.map_cons, List.map_nil, List.replicate, List.cons_append, List.nil_append, Bool.false_eq_true, Bool.not_true, Bool.not_false, Bool.and_true, Bool.true_and, Bool.and_self, List.all_cons, List.all_nil, List.any_cons, List.any_nil, List.reverse_cons, List.reverse_nil, decide_true, decide_false, Int.reduceAdd, Int.reduceSub, Int.reduceMul, Int.reduceNeg, Option.map_some, PK, is_list_tup, ev_lcC, ev_lcN, ev_lstR (show 3 ≤ 20000 by decide), w1, w2, w3, r1, r2, r3, m1, m2, m3, o1, o2, o3]
  all_goals simp (decide := true) only [EV, fnM, List.length_cons, List.length_nil, Nat.reduceAdd, Nat.reduceSub, if_true, if_false, ↓reduceIte, List.map_cons, List.map_nil, List.replicate, List.cons_append, List.nil_append, Bool.false_eq_true, Bool.not_true, Bool.not_false, Bool.and_true, Bool.true_and, Bool.and_self, List.all_cons, List.all_nil, List.any_cons, List.any_nil, List.reverse_cons, List.reverse_nil, decide_true, decide_false, Int.reduceAdd, Int.reduceSub, Int.reduceMul, Int.reduceNeg, Option.map_some, PK, is_list_tup, ev_lcC, ev_lcN, ev_lstR (show 3 ≤ 20000 by decide), w1, w2, w3, r1, r2, r3, Bool.false_and, Bool.and_false]
theorem odd3 {v0 v1 v2 v3 v4 v6 v7 : DL.Slot} : (fBin ltF (fCB lenF (fCons (fLcC (fSeqI (fVar 5)) (DL.gName 7) (fVal (fBin eqF (fBin bandF (fVar 7) (fC (.int 1))) (fC (.int 1)))) (fVar 7) [7]) fNil)) (fC (.int 2))) [v0, v1, v2, v3, v4, .d (wD a b c), v6, v7] s = .ok (.bl (oddOk a b c)) s := by
  unfold oddOk
  by_cases o1 : a % 2 = 1 <;> by_cases o2 : b % 2 = 1 <;> by_cases o3 : c % 2 = 1 <;>
    simp (decide := true) only [EV, fnM, List.length_cons, List.length_nil, Nat.reduceAdd, Nat.reduceSub, if_true, if_false, ↓reduceIte, List.map_cons, List.map_nil, List.replicate, List.cons_append, List.nil_append, Bool.false_eq_true, Bool.not_true, Bool.not_false, Bool.and_true, Bool.true_and, Bool.and_self, List.all_cons, List.all_nil, List.any_cons, List.any_nil, List.reverse_cons, List.reverse_nil, decide_true, decide_false, Int.reduceAdd, Int.reduceSub, Int.reduceMul, Int.reduceNeg, Option.map_some, PK, ev_lcC, ev_lcN, ev_lstR (show 3 ≤ 20000 by decide), band1, o1, o2, o3]
theorem tri (x : Int) : (b24 x = true ∧ (-24 ≤ x) = True ∧ (x ≤ 24) = True) ∨ (b24 x = false ∧ (-24 ≤ x) = False) ∨ (b24 x = false ∧ (-24 ≤ x) = True ∧ (x ≤ 24) = False) := by
  unfold b24
  by_cases h : -24 ≤ x <;> by_cases g : x ≤ 24
  · left; simp [h, g]
  · right; right; simp [h, g]
  · right; left; simp [h]
  · right; left; simp [h]
theorem eqn0 : eqF (.lst []) (.lst []) = some (.bl true) := by
  unfold eqF
  rw [if_pos ⟨by decide +kernel, by decide +kernel⟩]
  rfl
theorem eqn1 {l : List D} {x : Int} {m : Nat} [h : Oe (.lst (.int x :: l)) m] (hm : m ≤ 60) : eqF (.lst (.int x :: l)) (.lst []) = some (.bl false) := by
  have h1 : (D.lst (.int x :: l)).okEq = true := Oe.ok h (by omega)
  have e : D.eq (.lst (.int x :: l)) (.lst []) = false := by
    show PyData.eqv (.list (.int x :: D.pys l)) (.list []) = false
    simp [PyData.eqv, PyData.eqvAll]
  unfold eqF
  rw [if_pos ⟨h1, by decide +kernel⟩, e]
theorem rng3 {v0 v1 v2 v3 v4 v6 v7 : DL.Slot} : (fBin eqF (fLcC (fSeqI (fVar 5)) (DL.gName 7) (fNotT (fVal (fChain leF leF (fUn negF (fC (.int 24))) (fVar 7) (fC (.int 24))))) (fVar 7) [7]) (fLst fNil)) [v0, v1, v2, v3, v4, .d (wD a b c), v6, v7] s = .ok (.bl (rngOk a b c)) s := by
  unfold rngOk
  rcases tri a with ⟨t1, t2, t3⟩ | ⟨t1, t2⟩ | ⟨t1, t2, t3⟩ <;> rcases tri b with ⟨u1, u2, u3⟩ | ⟨u1, u2⟩ | ⟨u1, u2, u3⟩ <;> rcases tri c with ⟨x1, x2, x3⟩ | ⟨x1, x2⟩ | ⟨x1, x2, x3⟩ <;>
    simp (decide := true) only [EV, fnM, List.length_cons, List.length_nil, Nat.reduceAdd, Nat.reduceSub, if_true, if_false, ↓reduceIte, List.map_cons, List.map_nil, List.replicate, List.cons_append, List.nil_append, Bool.false_eq_true, Bool.not_true, Bool.not_false, Bool.and_true, Bool.true_and, Bool.and_self, List.all_cons, List.all_nil, List.any_cons, List.any_nil, List.reverse_cons, List.reverse_nil, decide_true, decide_false, Int.reduceAdd, Int.reduceSub, Int.reduceMul, Int.reduceNeg, Option.map_some, PK, EC, ev_lcC, ev_lcN, ev_lstR (show 3 ≤ 20000 by decide), eqn0, *] <;> exact congrArg (fun o => R.opt o s) (eqn1 (by decide))
end
end Lw
namespace Lw
open PySem PySem.Spec L2 DL DL.Ev
section
variable {s : Sd} {d p d1 d2 d3 : D} {i j k v a b c : Int} {ms : List Int} {n : Nat}
theorem ow_no (h : H.m_is_list [d] = fun s => .ok (.bl false) s) : OddW d := fun s => by
  unfold m_is_word b_is_word
  simp (decide := true) only [EV, fnM, List.length_cons, List.length_nil, Nat.reduceAdd, Nat.reduceSub, if_true, if_false, ↓reduceIte, List.map_cons, List.map_nil, List.replicate, List.cons_append, List.nil_append, Bool.false_eq_true, Bool.not_true, Bool.not_false, Bool.and_true, Bool.true_and, Bool.and_self, List.all_cons, List.all_nil, List.any_cons, List.any_nil, List.reverse_cons, List.reverse_nil, decide_true, decide_false, Int.reduceAdd, Int.reduceSub, Int.reduceMul, Int.reduceNeg, Option.map_some, PK, h]
theorem ow_2 {x y : D} : OddW (.tup [x, y]) := fun s => by
  unfold m_is_word b_is_word
  simp (decide := true) only [EV, fnM, List.length_cons, List.length_nil, Nat.reduceAdd, Nat.reduceSub, if_true, if_false, ↓reduceIte, List.map_cons, List.map_nil, List.replicate, List.cons_append, List.nil_append, Bool.false_eq_true, Bool.not_true, Bool.not_false, Bool.and_true, Bool.true_and, Bool.and_self, List.all_cons, List.all_nil, List.any_cons, List.any_nil, List.reverse_cons, List.reverse_nil, decide_true, decide_false, Int.reduceAdd, Int.reduceSub, Int.reduceMul, Int.reduceNeg, Option.map_some, PK, is_list_tup]
theorem ow_4 {x y z w : D} : OddW (.tup [x, y, z, w]) := fun s => by
  unfold m_is_word b_is_word
  simp (decide := true) only [EV, fnM, List.length_cons, List.length_nil, Nat.reduceAdd, Nat.reduceSub, if_true, if_false, ↓reduceIte, List.map_cons, List.map_nil, List.replicate, List.cons_append, List.nil_append, Bool.false_eq_true, Bool.not_true, Bool.not_false, Bool.and_true, Bool.true_and, Bool.and_self, List.all_cons, List.all_nil, List.any_cons, List.any_nil, List.reverse_cons, List.reverse_nil, decide_true, decide_false, Int.reduceAdd, Int.reduceSub, Int.reduceMul, Int.reduceNeg, Option.map_some, PK, is_list_tup]
theorem ow_1 {x : D} : OddW (.lst [x]) := fun s => by
  unfold m_is_word b_is_word
  simp (decide := true) only [EV, fnM, List.length_cons, List.length_nil, Nat.reduceAdd, Nat.reduceSub, if_true, if_false, ↓reduceIte, List.map_cons, List.map_nil, List.replicate, List.cons_append, List.nil_append, Bool.false_eq_true, Bool.not_true, Bool.not_false, Bool.and_true, Bool.true_and, Bool.and_self, List.all_cons, List.all_nil, List.any_cons, List.any_nil, List.reverse_cons, List.reverse_nil, decide_true, decide_false, Int.reduceAdd, Int.reduceSub, Int.reduceMul, Int.reduceNeg, Option.map_some, PK, is_list_lst]
theorem ow_0 : OddW (.tup []) := fun s => by
  unfold m_is_word b_is_word
  simp (decide := true) only [EV, fnM, List.length_cons, List.length_nil, Nat.reduceAdd, Nat.reduceSub, if_true, if_false, ↓reduceIte, List.map_cons, List.map_nil, List.replicate, List.cons_append, List.nil_append, Bool.false_eq_true, Bool.not_true, Bool.not_false, Bool.and_true, Bool.true_and, Bool.and_self, List.all_cons, List.all_nil, List.any_cons, List.any_nil, List.reverse_cons, List.reverse_nil, decide_true, decide_false, Int.reduceAdd, Int.reduceSub, Int.reduceMul, Int.reduceNeg, Option.map_some, PK, is_list_tup]
def Win (d : D) (b : Bool) : Prop := ∀ s, H.m_is_within [d, .int (-24), .int 24] s = .ok (.bl b) s
theorem win_i (i : Int) : Win (.int i) (b24 i) := fun s => win
theorem ow3 {b1 b2 b3 : Bool} (h1 : Win d1 b1) (h2 : Win d2 b2) (h3 : Win d3 b3) (h : (b1 && b2 && b3) = false) : OddW (.tup [d1, d2, d3]) := fun s => by
  unfold m_is_word b_is_word
  cases b1 <;> cases b2 <;> cases b3 <;> first | (exact absurd h (by decide)) | simp (decide := true) only [EV, fnM, List.length_cons, List.length_nil, Nat.reduceAdd, Nat.reduceSub, if_true, if_false, ↓reduceIte, List.map_cons, List.map_nil, List.replicate, List.cons_append, List.nil_append, Bool.false_eq_true, Bool.not_true, Bool.not_false, Bool.and_true, Bool.true_and, Bool.and_self, List.all_cons, List.all_nil, List.any_cons, List.any_nil, List.reverse_cons, List.reverse_nil, decide_true, decide_false, Int.reduceAdd, Int.reduceSub, Int.reduceMul, Int.reduceNeg, Option.map_some, PK, is_list_tup, ev_lcC, ev_lcN, ev_lstR (show 3 ≤ 20000 by decide), h1 s, h2 s, h3 s]
theorem ii1 : H.m_is_integer [.non] s = .ok (.bl false) s := by
  unfold H.m_is_integer H.b_is_integer
  simp (decide := true) only [EV, fnM, List.length_cons, List.length_nil, Nat.reduceAdd, Nat.reduceSub, if_true, if_false, ↓reduceIte, List.map_cons, List.map_nil, List.replicate, List.cons_append, List.nil_append, Bool.false_eq_true, Bool.not_true, Bool.not_false, Bool.and_true, Bool.true_and, Bool.and_self, List.all_cons, List.all_nil, List.any_cons, List.any_nil, List.reverse_cons, List.reverse_nil, decide_true, decide_false, Int.reduceAdd, Int.reduceSub, Int.reduceMul, Int.reduceNeg, Option.map_some, PK, D.isa, D.ty, isB]
theorem ii2 {x : Str} : H.m_is_integer [.str x] s = .ok (.bl false) s := by
  unfold H.m_is_integer H.b_is_integer
  simp (decide := true) only [EV, fnM, List.length_cons, List.length_nil, Nat.reduceAdd, Nat.reduceSub, if_true, if_false, ↓reduceIte, List.map_cons, List.map_nil, List.replicate, List.cons_append, List.nil_append, Bool.false_eq_true, Bool.not_true, Bool.not_false, Bool.and_true, Bool.true_and, Bool.and_self, List.all_cons, List.all_nil, List.any_cons, List.any_nil, List.reverse_cons, List.reverse_nil, decide_true, decide_false, Int.reduceAdd, Int.reduceSub, Int.reduceMul, Int.reduceNeg, Option.map_some, PK, D.isa, D.ty, isB]
theorem ii3 {x : Bool} : H.m_is_integer [.bl x] s = .ok (.bl false) s := by
  unfold H.m_is_integer H.b_is_integer
  simp (decide := true) only [EV, fnM, List.length_cons, List.length_nil, Nat.reduceAdd, Nat.reduceSub, if_true, if_false, ↓reduceIte, List.map_cons, List.map_nil, List.replicate, List.cons_append, List.nil_append, Bool.false_eq_true, Bool.not_true, Bool.not_false, Bool.and_true, Bool.true_and, Bool.and_self, List.all_cons, List.all_nil, List.any_cons, List.any_nil, List.reverse_cons, List.reverse_nil, decide_true, decide_false, Int.reduceAdd, Int.reduceSub, Int.reduceMul, Int.reduceNeg, Option.map_some, PK, D.isa, D.ty, isB]
  rfl
theorem bad1 : Win .non false := fun s => wod fun _ => ii1
theorem bad2 {x : Bool} : Win (.bl x) false := fun s => wod fun _ => ii3
theorem bad3 {x : Str} : Win (.str x) false := fun s => wod fun _ => ii2
theorem bad4 {x : List D} : Win (.tup x) false := fun s => wod fun _ => is_integer_tup
/-- the word with another thing at a spot -/
def at3 (w : Int) (i j k : Int) (d : D) : D := if w = 0 then .tup [d, .int j, .int k] else if w = 1 then .tup [.int i, d, .int k] else .tup [.int i, .int j, d]
theorem ow_at {w : Int} (h : Win d false) : OddW (at3 w i j k d) := by
  unfold at3
  split
  · exact ow3 h (win_i j) (win_i k) (by simp)
  · split
    · exact ow3 (win_i i) h (win_i k) (by simp)
    · exact ow3 (win_i i) (win_i j) h (by simp)
def oddL (w i j k : Int) : List D := [.non, .int 5, .str "000", .tup [.int i, .int j], .tup [.int i, .int j, .int k, .int 0], .dct [(.inl 0, .int 1), (.inl 1, .int 2), (.inl 2, .int 3)], .bl true, at3 w i j k .non, at3 w i j k (.bl true), at3 w i j k (.str "2"), at3 w i j k (.tup [.int 1, .int 2]), .lst [.lst [.int i, .int j, .int k]], .tup []]
theorem nlD {l : List (Key × D)} : H.m_is_list [.dct l] = fun s => .ok (.bl false) s := rfl
theorem oddL_ok {w : Int} (h : d ∈ oddL w i j k) : OddW d := by
  simp only [oddL, List.mem_cons, List.not_mem_nil, or_false] at h
  rcases h with rfl | rfl | rfl | rfl | rfl | rfl | rfl | rfl | rfl | rfl | rfl | rfl | rfl
  · exact ow_no rfl
  · exact ow_no rfl
  · exact ow_no rfl
  · exact ow_2
  · exact ow_4
  · exact ow_no nlD
  · exact ow_no rfl
  · exact ow_at bad1
  · exact ow_at bad2
  · exact ow_at bad3
  · exact ow_at bad4
  · exact ow_1
  · exact ow_0
/-- it can be shown -/
def Shw (d : D) : Prop := ∃ t, reprDF [d] = some (.str t)
theorem shw_rk {d : D} {n m : Nat} [h : Rk d n m] (h1 : n ≤ 20000) (h2 : m ≤ 60) (g : ∀ l, d ≠ .dct l) : Shw d := by
  refine ⟨d.txt, ?_⟩
  have e : reprDF [d] = reprF [d] := by
    unfold reprDF
    split
    · rename_i e
      simp only [List.cons.injEq, and_true] at e
      exact absurd e (g _)
    · rfl
  rw [e, ev_repr h1 h2]
theorem bI {x : Int} (h : x.natAbs < 2 ^ 70) : Rk (.int x) 1 0 := rk_int (Nat.lt_of_lt_of_le h (Nat.pow_le_pow_right (by decide) (by decide)))
theorem b24I {x : Int} (h : B24 x) : Rk (.int x) 1 0 := bI (Nat.lt_of_lt_of_le (show x.natAbs < 2 ^ 5 by have : (2 : Nat) ^ 5 = 32 := rfl; omega) (Nat.pow_le_pow_right (by decide) (by decide)))
theorem rkS {x : Str} (h : x = "000" ∨ x = "2") : Rk (.str x) 4 0 := by
  rcases h with rfl | rfl <;> exact ⟨by decide +kernel, by decide +kernel, by decide +kernel⟩
theorem at3_nd {w : Int} {d : D} : ∀ l, at3 w i j k d ≠ .dct l := fun l => by
  unfold at3
  split
  · nofun
  · split <;> nofun
theorem rk_at {w : Int} {d : D} {m : Nat} (hw : Wd i j k) [Rk d m 0] : Rk (at3 w i j k d) (m + 3) 1 := by
  have h1 := b24I hw.bi
  have h2 := b24I hw.bj
  have h3 := b24I hw.bk
  unfold at3
  split
  · have g : Rk (.tup [d, .int j, .int k]) (m + (1 + (1 + 0)) + 1) (0 + (0 + (0 + 0)) + 1) := rk_tup
    exact g
  · split
    · have g : Rk (.tup [.int i, d, .int k]) _ _ := rk_tup
      exact ⟨g.r, Nat.le_trans g.n (by omega), g.t⟩
    · have g : Rk (.tup [.int i, .int j, d]) _ _ := rk_tup
      exact ⟨g.r, Nat.le_trans g.n (by omega), g.t⟩
end
end Lw
namespace Lw
open PySem PySem.Spec L2 DL DL.Ev
section
variable {s : Sd} {d p d1 d2 d3 : D} {i j k v a b c : Int} {ms : List Int} {n : Nat}
theorem p20 : powF (.int 10) (.int 20) = some (.int 100000000000000000000) := by
  show (if CPowA 10 20 then some (D.int ((10 : Int) ^ (20 : Int).toNat)) else none) = _
  rw [if_pos (by decide)]
  rfl
theorem tail_ok {v0 v1 v2 v3 v4 v6 v7 : DL.Slot} : (fRet (fTup (fCons (fVar 5) (fCons (fAndV (fBin ltF (fCB lenF (fCons (fLcC (fSeqI (fVar 5)) (DL.gName 7) (fVal (fBin eqF (fBin bandF (fVar 7) (fC (.int 1))) (fC (.int 1)))) (fVar 7) [7]) fNil)) (fC (.int 2))) (fBin eqF (fLcC (fSeqI (fVar 5)) (DL.gName 7) (fNotT (fVal (fChain leF leF (fUn negF (fC (.int 24))) (fVar 7) (fC (.int 24))))) (fVar 7) [7]) (fLst fNil))) fNil)))) [v0, v1, v2, v3, v4, .d (wD a b c), v6, v7] s = .rt (.tup [wD a b c, .bl (rngOk a b c && oddOk a b c)]) s := by
  have o := odd3 (s := s) (a := a) (b := b) (c := c) (v0 := v0) (v1 := v1) (v2 := v2) (v3 := v3) (v4 := v4) (v6 := v6) (v7 := v7)
  have r := rng3 (s := s) (a := a) (b := b) (c := c) (v0 := v0) (v1 := v1) (v2 := v2) (v3 := v3) (v4 := v4) (v6 := v6) (v7 := v7)
  generalize (fBin ltF (fCB lenF (fCons (fLcC (fSeqI (fVar 5)) (DL.gName 7) (fVal (fBin eqF (fBin bandF (fVar 7) (fC (.int 1))) (fC (.int 1)))) (fVar 7) [7]) fNil)) (fC (.int 2))) = A at o ⊢
  generalize (fBin eqF (fLcC (fSeqI (fVar 5)) (DL.gName 7) (fNotT (fVal (fChain leF leF (fUn negF (fC (.int 24))) (fVar 7) (fC (.int 24))))) (fVar 7) [7]) (fLst fNil)) = B at r ⊢
  cases ho : oddOk a b c
  · rw [ho] at o
    simp (decide := true) only [EV, fnM, List.length_cons, List.length_nil, Nat.reduceAdd, Nat.reduceSub, if_true, if_false, ↓reduceIte, List.map_cons, List.map_nil, List.replicate, List.cons_append, List.nil_append, Bool.false_eq_true, Bool.not_true, Bool.not_false, Bool.and_true, Bool.true_and, Bool.and_self, List.all_cons, List.all_nil, List.any_cons, List.any_nil, List.reverse_cons, List.reverse_nil, decide_true, decide_false, Int.reduceAdd, Int.reduceSub, Int.reduceMul, Int.reduceNeg, Option.map_some, PK, o, Bool.and_false]
  · rw [ho] at o
    simp (decide := true) only [EV, fnM, List.length_cons, List.length_nil, Nat.reduceAdd, Nat.reduceSub, if_true, if_false, ↓reduceIte, List.map_cons, List.map_nil, List.replicate, List.cons_append, List.nil_append, Bool.false_eq_true, Bool.not_true, Bool.not_false, Bool.and_true, Bool.true_and, Bool.and_self, List.all_cons, List.all_nil, List.any_cons, List.any_nil, List.reverse_cons, List.reverse_nil, decide_true, decide_false, Int.reduceAdd, Int.reduceSub, Int.reduceMul, Int.reduceNeg, Option.map_some, PK, o, r, Bool.and_true]
theorem oddL0 : ∀ {w : Int}, w = 0 ∨ w = 1 ∨ w = 2 → ∃ q : D → D, (∀ d, q d = at3 w i j k d) := fun _ => ⟨_, fun _ => rfl⟩
theorem at0 {d : D} : at3 0 i j k d = .tup [d, .int j, .int k] := rfl
theorem at1 {d : D} : at3 1 i j k d = .tup [.int i, d, .int k] := rfl
theorem at2 {d : D} : at3 2 i j k d = .tup [.int i, .int j, d] := rfl
theorem addT {xs ys : List D} (h : xs.length + ys.length ≤ 100) : addF (.tup xs) (.tup ys) = some (.tup (xs ++ ys)) := by
  show (if xs.length + ys.length ≤ sizeLine then some (D.tup (xs ++ ys)) else none) = _
  rw [if_pos (by rw [sizeLine_eq]; omega)]
theorem addL {xs ys : List D} (h : xs.length + ys.length ≤ 100) : addF (.lst xs) (.lst ys) = some (.lst (xs ++ ys)) := by
  show (if xs.length + ys.length ≤ sizeLine then some (D.lst (xs ++ ys)) else none) = _
  rw [if_pos (by rw [sizeLine_eq]; omega)]
theorem shwD : Shw (.dct [(.inl 0, .int 1), (.inl 1, .int 2), (.inl 2, .int 3)]) := by
  have h : (intsKv [(.inl 0, .int 1), (.inl 1, .int 2), (.inl 2, .int 3)]).isSome = true ∧ (D.dct [(.inl 0, .int 1), (.inl 1, .int 2), (.inl 2, .int 3)]).py.showable = true ∧ (D.dct [(.inl 0, .int 1), (.inl 1, .int 2), (.inl 2, .int 3)]).py.shown.length ≤ 1000 ∧ (D.dct [(.inl 0, .int 1), (.inl 1, .int 2), (.inl 2, .int 3)]).py.depth ≤ 60 := by decide +kernel
  refine ⟨(D.dct [(.inl 0, .int 1), (.inl 1, .int 2), (.inl 2, .int 3)]).py.shown, ?_⟩
  simp only [reprDF]
  rw [if_pos h]
theorem oddL_shw {w : Int} (hw : Wd i j k) (h : d ∈ oddL w i j k) : Shw d := by
  have h1 := b24I hw.bi
  have h2 := b24I hw.bj
  have h3 := b24I hw.bk
  simp only [oddL, List.mem_cons, List.not_mem_nil, or_false] at h
  rcases h with rfl | rfl | rfl | rfl | rfl | rfl | rfl | rfl | rfl | rfl | rfl | rfl | rfl
  · exact shw_rk (by decide) (by decide) nofun
  · have := bI (x := 5) (by decide)
    exact shw_rk (by decide) (by decide) nofun
  · have := rkS (.inl rfl)
    exact shw_rk (by decide) (by decide) nofun
  · exact shw_rk (by decide) (by decide) nofun
  · have := bI (x := 0) (by decide)
    exact shw_rk (by decide) (by decide) nofun
  · exact shwD
  · exact shw_rk (by decide) (by decide) nofun
  · have := rk_at (w := w) (d := .non) hw
    exact shw_rk (by decide) (by decide) at3_nd
  · have := rk_at (w := w) (d := .bl true) hw
    exact shw_rk (by decide) (by decide) at3_nd
  · have := rkS (.inr rfl)
    have := rk_at (w := w) (d := .str "2") hw
    exact shw_rk (by decide) (by decide) at3_nd
  · have e : Shw (at3 w i j k (.tup [.int 1, .int 2])) := by
      have := bI (x := 1) (by decide)
      have := bI (x := 2) (by decide)
      unfold at3
      split
      · exact shw_rk (by decide) (by decide) nofun
      · split
        · exact shw_rk (by decide) (by decide) nofun
        · exact shw_rk (by decide) (by decide) nofun
    exact e
  · exact shw_rk (by decide) (by decide) nofun
  · exact shw_rk (by decide) (by decide) nofun
theorem sl0 {x y z : D} : slF (.tup [x, y, z]) none (some 0) = some (.tup []) := rfl
theorem sl1 {x y z : D} : slF (.tup [x, y, z]) none (some 1) = some (.tup [x]) := rfl
theorem sl2 {x y z : D} : slF (.tup [x, y, z]) none (some 2) = some (.tup [x, y]) := rfl
theorem su1 {x y z : D} : slF (.tup [x, y, z]) (some 1) none = some (.tup [y, z]) := rfl
theorem su2 {x y z : D} : slF (.tup [x, y, z]) (some 2) none = some (.tup [z]) := rfl
theorem su3 {x y z : D} : slF (.tup [x, y, z]) (some 3) none = some (.tup []) := rfl
theorem i01 : (0 : Int) + 1 = 1 := rfl
theorem i11 : (1 : Int) + 1 = 2 := rfl
theorem i21 : (2 : Int) + 1 = 3 := rfl
theorem bent_ok (hw : Wd i j k) (hs : StOk n s) (hn : n + 5 < 2 ^ 31) : ∃ val due s', StOk (n + 3) s' ∧ m__law_bent [.drum ms, wD i j k] s = .ok (.tup [val, .bl due]) s' ∧ Shw val ∧
    ((due = true ∧ ∃ a b c, Wd a b c ∧ (val = wD a b c ∨ val = .lst [.int a, .int b, .int c])) ∨ (due = false ∧ OddW val)) := by
  obtain ⟨_, s1, e1, hs1, w, rfl, w0, w1⟩ := rch (ms := ms) (k := 3) hs (by omega) (by decide) (by decide)
  obtain ⟨_, s2, e2, hs2, y, rfl, y0, y1⟩ := rch (ms := ms) (k := 6) hs1 (by omega) (by decide) (by decide)
  have hww : w = 0 ∨ w = 1 ∨ w = 2 := by omega
  have hi := hw.bi
  have hj := hw.bj
  have hk := hw.bk
  have tl (v0 v1 v2 v3 v4 v6 v7 : DL.Slot) (s : Sd) (a b c : Int) := tail_ok (v0 := v0) (v1 := v1) (v2 := v2) (v3 := v3) (v4 := v4) (v6 := v6) (v7 := v7) (s := s) (a := a) (b := b) (c := c)
  by_cases hy : y < 3
  · obtain ⟨t, ht, hti⟩ : ∃ t : Int, (t = i ∧ w = 0 ∨ t = j ∧ w = 1 ∨ t = k ∧ w = 2) ∧ B24 t := by
      rcases hww with h | h | h
      · exact ⟨i, .inl ⟨rfl, h⟩, hi⟩
      · exact ⟨j, .inr (.inl ⟨rfl, h⟩), hj⟩
      · exact ⟨k, .inr (.inr ⟨rfl, h⟩), hk⟩
    obtain ⟨x, s3, e3, hs3, hx⟩ := pck rch (ms := ms) (ds := [.int 25, .int (-25), .int 24, .int (-24), .int 23, .int (-23), .int 1, .int (-1), .int (t + 1), .int (t - 1), .int 26, .int 100000000000000000000]) hs2 (by omega)
    obtain ⟨z, rfl, hz⟩ : ∃ z : Int, x = .int z ∧ z.natAbs < 2 ^ 70 := by
      simp only [List.mem_cons, List.not_mem_nil, or_false] at hx
      rcases hx with h | h | h | h | h | h | h | h | h | h | h | h <;> subst h <;> exact ⟨_, rfl, by omega⟩
    have fin (a b c : Int) (ra : a.natAbs < 2 ^ 70) (rb : b.natAbs < 2 ^ 70) (rc : c.natAbs < 2 ^ 70) : Shw (wD a b c) ∧ ((rngOk a b c && oddOk a b c) = true ∧ (∃ a' b' c', Wd a' b' c' ∧ (wD a b c = wD a' b' c' ∨ wD a b c = .lst [.int a', .int b', .int c'])) ∨ (rngOk a b c && oddOk a b c) = false ∧ OddW (wD a b c)) := by
      have g1 := bI ra
      have g2 := bI rb
      have g3 := bI rc
      refine ⟨shw_rk (by decide) (by decide) nofun, ?_⟩
      cases hb : (rngOk a b c && oddOk a b c)
      · refine .inr ⟨rfl, fun s => ?_⟩
        rw [word3, hb]
      · refine .inl ⟨rfl, a, b, c, ?_, .inl rfl⟩
        rw [Bool.and_eq_true] at hb
        obtain ⟨h1, h2⟩ := hb
        unfold rngOk at h1
        unfold oddOk at h2
        rw [Bool.and_eq_true, Bool.and_eq_true, b24_iff, b24_iff, b24_iff] at h1
        have h3 := of_decide_eq_true h2
        exact ⟨h1.1.1, h1.1.2, h1.2, by unfold Ev2; omega⟩
    have b70 (x : Int) (hx : B24 x) : x.natAbs < 2 ^ 70 := by omega
    unfold m__law_bent b__law_bent
    generalize (fRet (fTup (fCons (fVar 5) (fCons (fAndV (fBin ltF (fCB lenF (fCons (fLcC (fSeqI (fVar 5)) (DL.gName 7) (fVal (fBin eqF (fBin bandF (fVar 7) (fC (.int 1))) (fC (.int 1)))) (fVar 7) [7]) fNil)) (fC (.int 2))) (fBin eqF (fLcC (fSeqI (fVar 5)) (DL.gName 7) (fNotT (fVal (fChain leF leF (fUn negF (fC (.int 24))) (fVar 7) (fC (.int 24))))) (fVar 7) [7]) (fLst fNil))) fNil)))) = T at tl ⊢
    rcases ht with ⟨rfl, rfl⟩ | ⟨rfl, rfl⟩ | ⟨rfl, rfl⟩
    · obtain ⟨f1, f2⟩ := fin z j k hz (b70 j hj) (b70 k hk)
      refine ⟨wD z j k, _, s3, hs3.up (by omega), ?_, f1, f2⟩
      simp (decide := true) only [EV, fnM, List.length_cons, List.length_nil, Nat.reduceAdd, Nat.reduceSub, if_true, if_false, ↓reduceIte, List.map_cons, List.map_nil, List.replicate, List.cons_append, List.nil_append, Bool.false_eq_true, Bool.not_true, Bool.not_false, Bool.and_true, Bool.true_and, Bool.and_self, List.all_cons, List.all_nil, List.any_cons, List.any_nil, List.reverse_cons, List.reverse_nil, decide_true, decide_false, Int.reduceAdd, Int.reduceSub, Int.reduceMul, Int.reduceNeg, Option.map_some, PK, PK, m__law_pick, e1, e2, hy, p20, e3, addT, sl0, sl1, sl2, i01, i11, i21, su1, su2, su3, tl]
    · obtain ⟨f1, f2⟩ := fin i z k (b70 i hi) hz (b70 k hk)
      refine ⟨wD i z k, _, s3, hs3.up (by omega), ?_, f1, f2⟩
      simp (decide := true) only [EV, fnM, List.length_cons, List.length_nil, Nat.reduceAdd, Nat.reduceSub, if_true, if_false, ↓reduceIte, List.map_cons, List.map_nil, List.replicate, List.cons_append, List.nil_append, Bool.false_eq_true, Bool.not_true, Bool.not_false, Bool.and_true, Bool.true_and, Bool.and_self, List.all_cons, List.all_nil, List.any_cons, List.any_nil, List.reverse_cons, List.reverse_nil, decide_true, decide_false, Int.reduceAdd, Int.reduceSub, Int.reduceMul, Int.reduceNeg, Option.map_some, PK, PK, m__law_pick, e1, e2, hy, p20, e3, addT, sl0, sl1, sl2, i01, i11, i21, su1, su2, su3, tl]
    · obtain ⟨f1, f2⟩ := fin i j z (b70 i hi) (b70 j hj) hz
      refine ⟨wD i j z, _, s3, hs3.up (by omega), ?_, f1, f2⟩
      simp (decide := true) only [EV, fnM, List.length_cons, List.length_nil, Nat.reduceAdd, Nat.reduceSub, if_true, if_false, ↓reduceIte, List.map_cons, List.map_nil, List.replicate, List.cons_append, List.nil_append, Bool.false_eq_true, Bool.not_true, Bool.not_false, Bool.and_true, Bool.true_and, Bool.and_self, List.all_cons, List.all_nil, List.any_cons, List.any_nil, List.reverse_cons, List.reverse_nil, decide_true, decide_false, Int.reduceAdd, Int.reduceSub, Int.reduceMul, Int.reduceNeg, Option.map_some, PK, PK, m__law_pick, e1, e2, hy, p20, e3, addT, sl0, sl1, sl2, i01, i11, i21, su1, su2, su3, tl]
  · have LL : Shw (.lst [.int i, .int j, .int k]) := by
      have g1 := bI (show i.natAbs < 2 ^ 70 by omega)
      have g2 := bI (show j.natAbs < 2 ^ 70 by omega)
      have g3 := bI (show k.natAbs < 2 ^ 70 by omega)
      exact shw_rk (by decide) (by decide) nofun
    clear tl
    by_cases h3 : y = 3
    · refine ⟨.lst [.int i, .int j, .int k], true, s2, hs2.up (by omega), ?_, LL, .inl ⟨rfl, i, j, k, hw, .inr rfl⟩⟩
      unfold m__law_bent b__law_bent
      rcases hww with rfl | rfl | rfl <;> simp (decide := true) only [EV, fnM, List.length_cons, List.length_nil, Nat.reduceAdd, Nat.reduceSub, if_true, if_false, ↓reduceIte, List.map_cons, List.map_nil, List.replicate, List.cons_append, List.nil_append, Bool.false_eq_true, Bool.not_true, Bool.not_false, Bool.and_true, Bool.true_and, Bool.and_self, List.all_cons, List.all_nil, List.any_cons, List.any_nil, List.reverse_cons, List.reverse_nil, decide_true, decide_false, Int.reduceAdd, Int.reduceSub, Int.reduceMul, Int.reduceNeg, Option.map_some, PK, PK, m__law_pick, e1, e2, hy, h3, addT, sl0, sl1, sl2, i01, i11, i21, su1, su2, su3, addL]
    · obtain ⟨x, s3, e3, hs3, hx⟩ := pck rch (ms := ms) (ds := oddL w i j k) hs2 (by omega) (by simp [oddL]) (by simp [oddL])
      refine ⟨x, false, s3, hs3.up (by omega), ?_, oddL_shw hw hx, .inr ⟨rfl, oddL_ok hx⟩⟩
      unfold oddL at e3
      unfold m__law_bent b__law_bent
      rcases hww with rfl | rfl | rfl
      · simp only [at0] at e3
        simp (decide := true) only [EV, fnM, List.length_cons, List.length_nil, Nat.reduceAdd, Nat.reduceSub, if_true, if_false, ↓reduceIte, List.map_cons, List.map_nil, List.replicate, List.cons_append, List.nil_append, Bool.false_eq_true, Bool.not_true, Bool.not_false, Bool.and_true, Bool.true_and, Bool.and_self, List.all_cons, List.all_nil, List.any_cons, List.any_nil, List.reverse_cons, List.reverse_nil, decide_true, decide_false, Int.reduceAdd, Int.reduceSub, Int.reduceMul, Int.reduceNeg, Option.map_some, PK, PK, m__law_pick, e1, e2, hy, h3, addT, sl0, sl1, sl2, i01, i11, i21, su1, su2, su3, addL, e3]
      · simp only [at1] at e3
        simp (decide := true) only [EV, fnM, List.length_cons, List.length_nil, Nat.reduceAdd, Nat.reduceSub, if_true, if_false, ↓reduceIte, List.map_cons, List.map_nil, List.replicate, List.cons_append, List.nil_append, Bool.false_eq_true, Bool.not_true, Bool.not_false, Bool.and_true, Bool.true_and, Bool.and_self, List.all_cons, List.all_nil, List.any_cons, List.any_nil, List.reverse_cons, List.reverse_nil, decide_true, decide_false, Int.reduceAdd, Int.reduceSub, Int.reduceMul, Int.reduceNeg, Option.map_some, PK, PK, m__law_pick, e1, e2, hy, h3, addT, sl0, sl1, sl2, i01, i11, i21, su1, su2, su3, addL, e3]
      · simp only [at2] at e3
        simp (decide := true) only [EV, fnM, List.length_cons, List.length_nil, Nat.reduceAdd, Nat.reduceSub, if_true, if_false, ↓reduceIte, List.map_cons, List.map_nil, List.replicate, List.cons_append, List.nil_append, Bool.false_eq_true, Bool.not_true, Bool.not_false, Bool.and_true, Bool.true_and, Bool.and_self, List.all_cons, List.all_nil, List.any_cons, List.any_nil, List.reverse_cons, List.reverse_nil, decide_true, decide_false, Int.reduceAdd, Int.reduceSub, Int.reduceMul, Int.reduceNeg, Option.map_some, PK, PK, m__law_pick, e1, e2, hy, h3, addT, sl0, sl1, sl2, i01, i11, i21, su1, su2, su3, addL, e3]
end
end Lw
namespace Lw
open PySem PySem.Spec L2 DL DL.Ev
noncomputable def lapB : FS := (fSeq (fSet 3 (fCall m__law_word (fCons (fVar 1) (fCons (fCall m__law_pick (fCons (fVar 1) (fCons (fLst (fCons (fC (.int 2)) (fCons (fC (.int 4)) (fCons (fC (.int 24)) (fCons (fC (.int 24)) (fCons (fC (.int 12)) fNil)))))) fNil))) fNil))))
  (fSeq (fIf (fNotT (fVal (fCall m__law_word_right (fCons (fVar 1) (fCons (fVar 3) fNil))))) (fRet (fC (.bl false))) fNext)
  (fSeq (fAsg (fCall m__law_bent (fCons (fVar 1) (fCons (fVar 3) fNil))) (DL.gTup 2 (DL.gCons (DL.gName 7) (DL.gCons (DL.gName 4) DL.gNil))))
  (fSeq (fSet 5 (fCB reprDF (fCons (fVar 7) fNil)))
  (fSeq (fIf (fOrT (fVal (fBin neF (fCB reprDF (fCons (fCall m_is_word (fCons (fVar 7) fNil)) fNil)) (fCB reprDF (fCons (fVar 4) fNil)))) (fVal (fBin neF (fCB reprDF (fCons (fVar 7) fNil)) (fVar 5)))) (fRet (fC (.bl false))) fNext)
  (fIf (fOrT (fAndT (fVal (fVar 4)) (fNotT (fVal (fCall m__law_word_right (fCons (fVar 1) (fCons (fCB tupleF (fCons (fVar 7) fNil)) fNil)))))) (fAndT (fNotT (fVal (fVar 4))) (fVal (fBin neF (fLam m__law_heard (fCall m_made_of (fCons (fVar 7) fNil))) (fTup (fCons (fC (.str "word")) (fCons (fC (.str "word")) fNil))))))) (fRet (fC (.bl false))) fNext))))))
def lamA (b : Bool) (r : R D) : R D := if b = true then r.calm else .bad
theorem ev_lam {m : Lf → Lf} {fb : FE} {ρ : SEnv} {s : Sd} : fLam m fb ρ s = lamA (noOwn ρ) (m (fb ρ) s) := rfl
theorem ev_lamT {r : R D} : lamA true r = r.calm := rfl
theorem hk_w {p : D} {s : Sd} : heardK 5 1 ["BadWord"] b__law_heard (.er ⟨"BadWord", [("part", p)]⟩ s) = .ok (.tup [.str "word", p]) s := by
  show (if ("BadWord" : Str) ∈ (["BadWord"] : List Str) then (b__law_heard ((List.replicate 5 Slot.no).set 1 (.d (.ob "BadWord" [("part", p)]))) s).fin else .bad) = _
  rw [if_pos (by decide)]
  unfold b__law_heard
  simp (decide := true) only [EV, fnM, List.length_cons, List.length_nil, Nat.reduceAdd, Nat.reduceSub, if_true, if_false, ↓reduceIte, List.map_cons, List.map_nil, List.replicate, List.cons_append, List.nil_append, Bool.false_eq_true, Bool.not_true, Bool.not_false, Bool.and_true, Bool.true_and, Bool.and_self, List.all_cons, List.all_nil, List.any_cons, List.any_nil, List.reverse_cons, List.reverse_nil, decide_true, decide_false, Int.reduceAdd, Int.reduceSub, Int.reduceMul, Int.reduceNeg, Option.map_some, PK, EE, ev_forC, ev_forN, List.set]
theorem nww : neF (.tup [.str "word", .str "word"]) (.tup [.str "word", .str "word"]) = some (.bl false) := by
  have e : D.eq (.tup [.str "word", .str "word"]) (.tup [.str "word", .str "word"]) = true := by decide +kernel
  unfold neF
  rw [if_pos ⟨by decide +kernel, by decide +kernel⟩, e]
  rfl
theorem rdB {b : Bool} {s : Sd} : ∃ t, reprDF [.bl b] = some (.str t) := by
  cases b <;> exact ⟨_, rfl⟩
theorem lap_all {ms : List Int} {w0 : D} {x3 x4 x5 x7 : DL.Slot} {s : Sd} {n : Nat} (hs : StOk n s) (hn : n + 30 < 2 ^ 31) :
    ∃ y3 y4 y5 y7 s', StOk (n + 14) s' ∧ lapB [.no, .d (.drum ms), .d w0, x3, x4, x5, .no, x7] s = .nx [.no, .d (.drum ms), .d w0, y3, y4, y5, .no, y7] s' := by
  obtain ⟨w3, s1, e1, hs1, hw3⟩ := pck rch (ms := ms) (ds := [.int 2, .int 4, .int 24, .int 24, .int 12]) hs (by omega)
  obtain ⟨m, rfl, m0, m1, m2⟩ : ∃ m : Int, w3 = .int m ∧ 2 ≤ m ∧ m ≤ 24 ∧ m % 2 = 0 := by
    simp only [List.mem_cons, List.not_mem_nil, or_false] at hw3
    rcases hw3 with h | h | h | h | h <;> subst h <;> exact ⟨_, rfl, by decide, by decide, by decide⟩
  obtain ⟨_, s2, e2, hs2, i, j, k, hw, rfl⟩ := word_ok (ms := ms) m0 m1 m2 hs1 (by omega)
  obtain ⟨s3, hs3, e3⟩ := right_ok (ms := ms) hw hs2 (by omega)
  obtain ⟨val, due, s4, hs4, e4, ⟨t, ht⟩, hv⟩ := bent_ok (ms := ms) hw hs3 (by omega)
  rcases hv with ⟨rfl, a, b, c, hw2, hval⟩ | ⟨rfl, hodd⟩
  · obtain ⟨tt, rt⟩ := rdB (b := true) (s := s)
    obtain ⟨s5, hs5, e5⟩ := right_ok (ms := ms) hw2 hs4 (by omega)
    have iw := is_word_ok (s := s4) hw2 hval
    have tu : tupleF [val] = some (wD a b c) := by rcases hval with rfl | rfl <;> rfl
    refine ⟨.d (wD i j k), .d (.bl true), .d (.str t), .d val, s5, hs5.up (by omega), ?_⟩
    unfold lapB
    simp (decide := true) only [EV, fnM, List.length_cons, List.length_nil, Nat.reduceAdd, Nat.reduceSub, if_true, if_false, ↓reduceIte, List.map_cons, List.map_nil, List.replicate, List.cons_append, List.nil_append, Bool.false_eq_true, Bool.not_true, Bool.not_false, Bool.and_true, Bool.true_and, Bool.and_self, List.all_cons, List.all_nil, List.any_cons, List.any_nil, List.reverse_cons, List.reverse_nil, decide_true, decide_false, Int.reduceAdd, Int.reduceSub, Int.reduceMul, Int.reduceNeg, Option.map_some, PK, PK, EE, m__law_pick, e1, e2, e3, e4, ht, iw, rt, eqS, tu, e5]
  · obtain ⟨tt, rt⟩ := rdB (b := false) (s := s)
    have mo := made_of_er (s := s4) hodd
    refine ⟨.d (wD i j k), .d (.bl false), .d (.str t), .d val, s4, hs4.up (by omega), ?_⟩
    unfold lapB
    simp (decide := true) only [EV, fnM, List.length_cons, List.length_nil, Nat.reduceAdd, Nat.reduceSub, if_true, if_false, ↓reduceIte, List.map_cons, List.map_nil, List.replicate, List.cons_append, List.nil_append, Bool.false_eq_true, Bool.not_true, Bool.not_false, Bool.and_true, Bool.true_and, Bool.and_self, List.all_cons, List.all_nil, List.any_cons, List.any_nil, List.reverse_cons, List.reverse_nil, decide_true, decide_false, Int.reduceAdd, Int.reduceSub, Int.reduceMul, Int.reduceNeg, Option.map_some, PK, PK, EE, m__law_pick, e1, e2, e3, e4, ht, hodd s4, rt, eqS, ev_lam, noOwn, m__law_heard, heardM, mo, hk_w, ev_lamT, nww]
theorem top_ok {ms : List Int} : ∀ (ds : List D) (x2 x3 x4 x5 x7 : DL.Slot) (n : Nat) (s : Sd), StOk n s → n + 14 * ds.length < 2 ^ 30 → ∃ y2 y3 y4 y5 y7 s', forF (DL.gName 2) lapB ds [.no, .d (.drum ms), x2, x3, x4, x5, .no, x7] s = .nx [.no, .d (.drum ms), y2, y3, y4, y5, .no, y7] s'
  | [], _, _, _, _, _, n, s, hs, _ => ⟨_, _, _, _, _, s, rfl⟩
  | d :: ds, x2, x3, x4, x5, x7, n, s, hs, hn => by
    simp only [List.length_cons] at hn
    obtain ⟨y3, y4, y5, y7, s1, hs1, e⟩ := lap_all (ms := ms) (w0 := d) (x3 := x3) (x4 := x4) (x5 := x5) (x7 := x7) hs (by omega)
    obtain ⟨z2, z3, z4, z5, z7, s', e'⟩ := top_ok ds (.d d) y3 y4 y5 y7 (n + 14) s1 hs1 (by omega)
    refine ⟨z2, z3, z4, z5, z7, s', ?_⟩
    rw [ev_forC]
    simp (decide := true) only [EV, fnM, List.length_cons, List.length_nil, Nat.reduceAdd, Nat.reduceSub, if_true, if_false, ↓reduceIte, List.map_cons, List.map_nil, List.replicate, List.cons_append, List.nil_append, Bool.false_eq_true, Bool.not_true, Bool.not_false, Bool.and_true, Bool.true_and, Bool.and_self, List.all_cons, List.all_nil, List.any_cons, List.any_nil, List.reverse_cons, List.reverse_nil, decide_true, decide_false, Int.reduceAdd, Int.reduceSub, Int.reduceMul, Int.reduceNeg, Option.map_some, PK, e]
    exact e'
theorem r0 : ∀ ns : List Int, ns.length ≤ 63 → ∃ (ms : List Int) (s : Sd), f0_law (Slot.d (.scr ns) :: List.replicate (8 - 1) Slot.no) (0, 0) = .ok (.lst [.lst (ms.map D.int), .int 0, .int 0]) s := fun ns h => by
  obtain ⟨ms, e⟩ := sack_ok 60 h (0, 0)
  refine ⟨ms, (0, 0), ?_⟩
  unfold f0_law m__law_quill
  simp (decide := true) only [EV, fnM, List.length_cons, List.length_nil, Nat.reduceAdd, Nat.reduceSub, if_true, if_false, ↓reduceIte, List.map_cons, List.map_nil, List.replicate, List.cons_append, List.nil_append, Bool.false_eq_true, Bool.not_true, Bool.not_false, Bool.and_true, Bool.true_and, Bool.and_self, List.all_cons, List.all_nil, List.any_cons, List.any_nil, List.reverse_cons, List.reverse_nil, decide_true, decide_false, Int.reduceAdd, Int.reduceSub, Int.reduceMul, Int.reduceNeg, Option.map_some, PK, e]
theorem made24 {s : Sd} : m_made_of [wD 0 (-24) 0] s = .ok (.tup [wD 0 0 0, wD 0 24 0]) s := by
  have hw : Wd 0 (-24) 0 := ⟨by decide, by decide, by decide, by unfold Ev2; decide⟩
  obtain ⟨b, e, hb⟩ := in_first (i := 0) (j := -24) (k := 0)
  have bf : b = false := by
    cases b with
    | false => rfl
    | true => exact absurd (hb.mp rfl) (by unfold IsF; decide)
  subst bf
  unfold firsts at e
  refine made_of_ok hw (.inl rfl) ?_
  have al := alone_ok (s := s) (at_ := 1) (v := -24) (by decide) (by decide)
  have p1 : put3 1 (aP (-24)) = wD 0 0 0 := rfl
  have p2 : put3 1 (aR (-24)) = wD 0 24 0 := rfl
  rw [p1, p2] at al
  simp only [Int.cast_ofNat_Int] at al
  have en : enumD [.int 0, .int (-24), .int 0] = [.tup [.int 0, .int 0], .tup [.int 1, .int (-24)], .tup [.int 2, .int 0]] := rfl
  unfold m_made_in b_made_in
  simp (decide := true) only [EV, fnM, List.length_cons, List.length_nil, Nat.reduceAdd, Nat.reduceSub, if_true, if_false, ↓reduceIte, List.map_cons, List.map_nil, List.replicate, List.cons_append, List.nil_append, Bool.false_eq_true, Bool.not_true, Bool.not_false, Bool.and_true, Bool.true_and, Bool.and_self, List.all_cons, List.all_nil, List.any_cons, List.any_nil, List.reverse_cons, List.reverse_nil, decide_true, decide_false, Int.reduceAdd, Int.reduceSub, Int.reduceMul, Int.reduceNeg, Option.map_some, PK, e, en, ev_lcC, ev_lcN, ev_lstR (show 3 ≤ 20000 by decide), al]
theorem first_of {i j k : Int} (hw : Wd i j k) (h : IsF i j k) {s : Sd} : m_made_of [wD i j k] s = .ok .non s := by
  obtain ⟨b, e, hb⟩ := in_first (i := i) (j := j) (k := k)
  have bf : b = true := hb.mpr h
  subst bf
  exact made_of_ok hw (.inl rfl) (made_first e).1
theorem r1 : ∀ ms : List Int, ∃ s, b_law (Slot.no :: Slot.d (.drum ms) :: List.replicate (8 - 2) Slot.no) (0, 0) = .rt (.bl true) s := fun ms => by
  obtain ⟨y2, y3, y4, y5, y7, s', e⟩ := top_ok (ms := ms) (rgD 0 6) .no .no .no .no .no 0 (0, 0) ⟨by decide, by decide⟩ (by rw [rgD_length]; decide)
  refine ⟨s', ?_⟩
  have rg : DL.rng1 (.int 6) = some (rgD 0 6) := rfl
  have w0 : Wd 0 0 0 := ⟨by decide, by decide, by decide, by unfold Ev2; decide⟩
  have w1 : Wd 1 0 0 := ⟨by decide, by decide, by decide, by unfold Ev2; decide⟩
  have w2 : Wd 0 1 0 := ⟨by decide, by decide, by decide, by unfold Ev2; decide⟩
  have w3 : Wd 0 0 1 := ⟨by decide, by decide, by decide, by unfold Ev2; decide⟩
  have f0 := first_of (s := s') w0 (by unfold IsF; decide)
  have f1 := first_of (s := s') w1 (by unfold IsF; decide)
  have f2 := first_of (s := s') w2 (by unfold IsF; decide)
  have f3 := first_of (s := s') w3 (by unfold IsF; decide)
  have m24 := made24 (s := s')
  have iw := word3 (s := s') (a := 1) (b := 0) (c := -1)
  have o1 : (rngOk 1 0 (-1) && oddOk 1 0 (-1)) = false := by decide
  rw [o1] at iw
  have q : eqF (.tup [wD 0 0 0, wD 0 24 0]) (.tup [wD 0 0 0, wD 0 24 0]) = some (.bl true) := by
    have e : D.eq (.tup [wD 0 0 0, wD 0 24 0]) (.tup [wD 0 0 0, wD 0 24 0]) = true := by decide +kernel
    unfold eqF
    rw [if_pos ⟨by decide +kernel, by decide +kernel⟩, e]
  unfold b_law
  unfold lapB at e
  simp (decide := true) only [EV, fnM, List.length_cons, List.length_nil, Nat.reduceAdd, Nat.reduceSub, if_true, if_false, ↓reduceIte, List.map_cons, List.map_nil, List.replicate, List.cons_append, List.nil_append, Bool.false_eq_true, Bool.not_true, Bool.not_false, Bool.and_true, Bool.true_and, Bool.and_self, List.all_cons, List.all_nil, List.any_cons, List.any_nil, List.reverse_cons, List.reverse_nil, decide_true, decide_false, Int.reduceAdd, Int.reduceSub, Int.reduceMul, Int.reduceNeg, Option.map_some, PK, EE, rg, e, ev_lcC, ev_lcN, ev_lstR (show 4 ≤ 20000 by decide), f0, f1, f2, f3, eqn0, m24, q, iw]
end Lw
open PySem PySem.W PyProof.Rows
set_option maxRecDepth 100000 in
set_option maxHeartbeats 0 in
theorem PySem.Challenge.cw_typedcurve_k39_words_and_what_they_are_m_holds : PySem.Challenge.rw_typedcurve_k39_words_and_what_they_are_m.Holds := by
  w_on; o_law; k_head; (case hw => w_witness2)
  k_fill
  refine Lw.walk (l := PySem.Challenge.rw_typedcurve_k39_words_and_what_they_are_m) rfl rfl (by decide +kernel) (fun w h Y => PySem.W.km_in_of Y) ?F
  case F =>
    intro w mg fa h KX G hmg
    refine' Lw.all_mk Lw.r0 Lw.r1 KX G hmg ?n_is_integer ?l_is_integer ?c_is_integer ?k_is_integer ?n_is_within ?l_is_within ?c_is_within ?k_is_within ?n_is_list ?l_is_list ?c_is_list ?k_is_list ?n_is_word ?l_is_word ?c_is_word ?k_is_word ?n_put_at ?l_put_at ?c_put_at ?k_put_at ?n_alone_from ?l_alone_from ?c_alone_from ?k_alone_from ?n_made_in ?l_made_in ?c_made_in ?k_made_in ?n_need_word ?l_need_word ?c_need_word ?k_need_word ?n_made_of ?l_made_of ?c_made_of ?k_made_of ?n__law_quill ?l__law_quill ?c__law_quill ?k__law_quill ?n__law_scratch ?l__law_scratch ?c__law_scratch ?k__law_scratch ?n__law_pick ?l__law_pick ?c__law_pick ?k__law_pick ?n__law_word ?l__law_word ?c__law_word ?k__law_word ?n__law_heard ?l__law_heard ?c__law_heard ?k__law_heard ?n__law_bent ?l__law_bent ?c__law_bent ?k__law_bent ?n__law_made ?l__law_made ?c__law_made ?k__law_made ?n__law_word_right ?l__law_word_right ?c__law_word_right ?k__law_word_right ?n_law ?l_law ?c_law ?k_law ?b_abs ?b_all ?b_bool ?b_enumerate ?b_int ?b_isinstance ?b_len ?b_list ?b_range ?b_repr ?b_sorted ?b_tuple ?b_zip ?m_FIRST_WORDS ?l_FIRST_WORDS_1 ?l_FIRST_WORDS_2 ?l_FIRST_WORDS_6 ?l_FIRST_WORDS_10 ?l_FIRST_WORDS_14 ?m_MOST_IN_WORD ?n_B ?sp_B ?rd_B ?at_B ?ex_B ?hd_B ?ty_B ?cg_0 ?ct_0 ?n_BadWord ?lo_BadWord ?rv_BadWord ?sa_BadWord ?ex_BadWord ?ty_BadWord ?kp_BadWord ?ga_BadWord ?gg_BadWord ?hd_BadWord ?hi_BadWord ?ti_BadWord ?cc_BadWord ?mr_BadWord ?su_BadWord ?l_BadWord ?c_BadWord ?k_BadWord ?no_BadWord_part ?is_BadWord_BadWord ?e_law ?v_law ?w_law ?nt_law
    (case n_is_integer => k_is)
    (case l_is_integer => k_is)
    (case c_is_integer => k_is)
    (case k_is_integer => k_is)
    (case n_is_within => k_is)
    (case l_is_within => k_is)
    (case c_is_within => k_is)
    (case k_is_within => k_is)
    (case n_is_list => k_is)
    (case l_is_list => k_is)
    (case c_is_list => k_is)
    (case k_is_list => k_is)
    (case n_is_word => k_is)
    (case l_is_word => k_is)
    (case c_is_word => k_is)
    (case k_is_word => k_is)
    (case n_put_at => k_is)
    (case l_put_at => k_is)
    (case c_put_at => k_is)
    (case k_put_at => k_is)
    (case n_alone_from => k_is)
    (case l_alone_from => k_is)
    (case c_alone_from => k_is)
    (case k_alone_from => k_is)
    (case n_made_in => k_is)
    (case l_made_in => k_is)
    (case c_made_in => k_is)
    (case k_made_in => k_is)
    (case n_need_word => k_is)
    (case l_need_word => k_is)
    (case c_need_word => k_is)
    (case k_need_word => k_is)
    (case n_made_of => k_is)
    (case l_made_of => k_is)
    (case c_made_of => k_is)
    (case k_made_of => k_is)
    (case n__law_quill => k_is)
    (case l__law_quill => k_is)
    (case c__law_quill => k_is)
    (case k__law_quill => k_is)
    (case n__law_scratch => k_is)
    (case l__law_scratch => k_is)
    (case c__law_scratch => k_is)
    (case k__law_scratch => k_is)
    (case n__law_pick => k_is)
    (case l__law_pick => k_is)
    (case c__law_pick => k_is)
    (case k__law_pick => k_is)
    (case n__law_word => k_is)
    (case l__law_word => k_is)
    (case c__law_word => k_is)
    (case k__law_word => k_is)
    (case n__law_heard => k_is)
    (case l__law_heard => k_is)
    (case c__law_heard => k_is)
    (case k__law_heard => k_is)
    (case n__law_bent => k_is)
    (case l__law_bent => k_is)
    (case c__law_bent => k_is)
    (case k__law_bent => k_is)
    (case n__law_made => k_is)
    (case l__law_made => k_is)
    (case c__law_made => k_is)
    (case k__law_made => k_is)
    (case n__law_word_right => k_is)
    (case l__law_word_right => k_is)
    (case c__law_word_right => k_is)
    (case k__law_word_right => k_is)
    (case n_law => k_is)
    (case l_law => k_is)
    (case c_law => k_is)
    (case k_law => k_is)
    (case b_abs => k_is)
    (case b_all => k_is)
    (case b_bool => k_is)
    (case b_enumerate => k_is)
    (case b_int => k_is)
    (case b_isinstance => k_is)
    (case b_len => k_is)
    (case b_list => k_is)
    (case b_range => k_is)
    (case b_repr => k_is)
    (case b_sorted => k_is)
    (case b_tuple => k_is)
    (case b_zip => k_is)
    (case m_FIRST_WORDS => k_is)
    (case l_FIRST_WORDS_1 => k_is)
    (case l_FIRST_WORDS_2 => k_is)
    (case l_FIRST_WORDS_6 => k_is)
    (case l_FIRST_WORDS_10 => k_is)
    (case l_FIRST_WORDS_14 => k_is)
    (case m_MOST_IN_WORD => k_is)
    (case n_B => k_is)
    (case sp_B => k_is)
    (case rd_B => k_is)
    (case at_B => k_is)
    (case ex_B => k_is)
    (case hd_B => k_is)
    (case ty_B => k_is)
    (case cg_0 => k_is)
    (case ct_0 => k_is)
    (case n_BadWord => k_is)
    (case lo_BadWord => k_is)
    (case rv_BadWord => rfl)
    (case sa_BadWord => k_is)
    (case ex_BadWord => k_is)
    (case ty_BadWord => k_is)
    (case kp_BadWord => k_is)
    (case ga_BadWord => k_is)
    (case gg_BadWord => k_is)
    (case hd_BadWord => k_is)
    (case hi_BadWord => k_is)
    (case ti_BadWord => k_is)
    (case cc_BadWord => k_is)
    (case mr_BadWord => k_is)
    (case su_BadWord => k_is)
    (case l_BadWord => k_is)
    (case c_BadWord => k_is)
    (case k_BadWord => k_is)
    (case no_BadWord_part => k_is)
    (case is_BadWord_BadWord => k_is)
    (case e_law => rfl)
    (case v_law => k_is)
    (case w_law => rfl)
    (case nt_law => (first | kernel_rfl | rfl | decide))
#print axioms PySem.Challenge.cw_typedcurve_k39_words_and_what_they_are_m_holds
