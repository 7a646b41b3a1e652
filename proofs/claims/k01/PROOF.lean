import PyProof.Rows.All
import Wide.All
import OpenK.AllK
import Wide.FinOn
import HandS.ForMost
import HandS.Defaults
import HandS.IsInst
import HandS.TupAny
import HandS.TupMul
import HandS.Exc
import HandS.Zip
import HandS.Conv
import HandS.Evl
import PyProof.ReprRoads
import HandS.Style
import HandS.Flow
import PyProof.P3Eq
import HandS.RaiseMore
import PyProof.Rows.IntBool
import KE.KEqDict
import PyProof.NeKinds
import PyProof.Rows.RegStrFacts
import PyProof.StrOps2
import KE.KRevSl
import KE.KStrOpen
import PyProof.Rows.ReprOcc
import HandS.Ends
import HandS.Head0
import HandS.Head1
import HandS.Head2
import HandS.HeadEnd
import HandS.HeadHook1
import HandS.HeadHook2
import PySem.Challenge.RW_fewtrips_k01_words_names_kinds_and_what
set_option Elab.async false
set_option linter.all false
set_option maxRecDepth 100000
set_option maxHeartbeats 2000000
namespace Fw
open PySem PySem.Spec PyProof.Rows L2

/-- a promise kept wherever no repr is under way -/
structure FnG (P : Program) (w : World) (K : PySem.W.Frag) (mg : Str → Option Value) (base : Heap) (CX : CXT) (k : Nat) (f : Addr) (fd : FuncData) (ps : List Str) (sp : Sp) : Prop where
  cnt : ∀ vs H Q E, sp vs H Q E → vs.length = ps.length
  go : ∀ (A : Around) (fr : List Env) (s : Shared) (H : Hp) (ar : Args) (us : List Value) (vs : List V) (Q : VK) (E : XK), A.guards = some [] → Room k A → Env0 P w K mg base A fr s H →
    BindsTo s fd ar (ps.zip us) → Vals vs us → sp vs H Q E → codeAny (model P w) A (.call (.ref f) ar) (CR CX fr P w H s Q E) s

section
variable {P : Program} {w : World} {K : PySem.W.Frag} {mg : Str → Option Value} {base : Heap} {CX : CXT} {k : Nat} {f : Addr} {fd : FuncData} {ps : List Str} {sp : Sp}
theorem FnG.up {j : Nat} (F : FnG P w K mg base CX j f fd ps sp) (h : j ≤ k) : FnG P w K mg base CX k f fd ps sp :=
  ⟨F.cnt, fun A fr s H ar us vs Q E g r => F.go A fr s H ar us vs Q E g (r.mono h)⟩
theorem FnG.weak {sp' : Sp} (F : FnG P w K mg base CX k f fd ps sp) (h : ∀ vs H Q E, sp' vs H Q E → sp vs H Q E) : FnG P w K mg base CX k f fd ps sp' :=
  ⟨fun vs H Q E q => F.cnt vs H Q E (h vs H Q E q), fun A fr s H ar us vs Q E g r e b v q => F.go A fr s H ar us vs Q E g r e b v (h vs H Q E q)⟩

/-- by the body -/
theorem FnG.of_body {x : Str} {qual : Str} {params : Arguments} {body : List Stmt} {scope : Scope} {dvs : List V} {kws : List (Str × V)} {N : List Str} (F : FunD K x qual params body scope dvs kws f fd) (S : FnScope N ps scope)
    (cnt : ∀ vs H Q E, sp vs H Q E → vs.length = ps.length)
    (hb : ∀ (cd : Value) (A : Around) (fr : List Env) (s : Shared) (H : Hp) (vs : List V) (Q : VK) (E : XK), (A.deeper (envOfC qual scope s.heap.objs.size f cd)).guards = some [] → Room k (A.deeper (envOfC qual scope s.heap.objs.size f cd)) → sp vs H Q E →
      ∃ t, PSs (cxOf CX P w K mg base N qual scope f cd A fr s H E) body t ∧ t { nx := fun _ H' => Q .non H', rt := Q } (start N vs) H) : FnG P w K mg base CX (k + 1) f fd ps sp := by
  obtain ⟨oc, od, dV, kV, doc, pm, an, cd, ct, osl, rfl, lk, hcd, _, _⟩ := F.ex
  refine ⟨cnt, fun A fr s H ar us vs Q E g r e b rv q => ?_⟩
  have KX : K.In s.heap := e.mod.kin.keeps fun c o z => (e.bs c o z).1
  have lim : s.heap.NoLimit := e.mod.nolimit.keeps fun c o z => (e.bs c o z).1
  refine Att.call_fn KX lim lk hcd r.depth b ?_ (fun s1 x => ?_) S.co S.gen S.kind
  · rw [List.all_eq_true]
    rintro ⟨n, v⟩ hy
    rcases S.par n (List.of_mem_zip hy).1 with z | z
    · simp [z]
    · simp [z]
  · obtain ⟨t, ht, hq⟩ := hb cd A fr s H vs Q E g (r.deeper _) q
    have I : Inv (cxOf CX P w K mg base N qual scope f cd A fr s H E) [] (start N vs) H s1 := inv_start S r.hd e (cnt vs H Q E q) rv x
    refine wpAny_mono (ht.run [] s1 (start N vs) H _ I hq) (fun fl s' hs => ?_) fun _ _ z => z
    cases fl with
    | ret u => exact let ⟨v, _, H', J, rr, z⟩ := hs; ⟨v, H', J.os, J.bare, J.base, J.hok, rr, z⟩
    | next => exact let ⟨_, H', J, z⟩ := hs; ⟨V.non, H', J.os, J.bare, J.base, J.hok, rfl, z⟩
    | brk => exact let ⟨_, _, _, z⟩ := hs; False.elim z
    | cont => exact let ⟨_, _, _, z⟩ := hs; False.elim z
end

/-! calls -/
section
variable {X : Cx} {CX : CXT} {k : Nat} {f : Addr} {fd : FuncData} {ps : List Str} {sp : Sp} {E : XK} {x : Str} {p pos : Pos} {e : Expr} {es : List Expr} {t tk : TA} {kws : List Keyword} {ks : List Str}
theorem goes {pins : List (Addr × Obj)} {σ : L2.St} {H : Hp} {s : Shared} {Q : VK} {us ws : List Value} {vs : List V} {kw : List (Str × Value)} (F : FnG X.prog X.w X.K X.mg X.base CX k f fd ps sp) (g : X.A.guards = some []) (r : Room k X.A) (b : BindsTo s fd ⟨us, kw⟩ (ps.zip ws))
    (hx : Passes CX X E) (I : Inv X pins σ H s) (rv : Vals vs ws) (h : sp vs H Q E) : wpAny (model X.prog X.w) X.A (call (.ref f) us kw) (EP X pins σ Q) X.xe s := by
  refine wpAny_call (codeAny_mono (F.go X.A X.stack s H ⟨us, kw⟩ ws vs Q E g r I.env0 b rv h) fun res s' z => ?_)
  match res, z with
  | .error er, z => exact hx pins σ H s er s' I z
  | .ok (.ret u), z => exact I.after z
end

/-- a def st of the module, by its name, that keeps sp -/
structure Dfn (P : Program) (w : World) (K : PySem.W.Frag) (mg : Str → Option Value) (base : Heap) (CX : CXT) (k : Nat) (x : Str) (st : Stmt) (ps : List Str) (sp : Sp) : Prop where
  ex : ∃ (f : Addr) (fd : FuncData), mg x = some (.ref f) ∧ PySem.W.keepIn K (.ref f) = true ∧ FnG P w K mg base CX k f fd ps sp ∧
    (∃ (kV doc pm : Value) (an : Option Addr) (cd ct : Value), fd = PySem.W.fnOf x x (defArgs st) (defBody st) (defScope st) .none kV doc pm an cd ct) ∧ ∀ (s : Shared) (us : List Value), us.length = ps.length → BindsTo s fd ⟨us, []⟩ (ps.zip us)
/-- where a def of the text stands -/
structure Src (K : PySem.W.Frag) (mg : Str → Option Value) (x : Str) (st : Stmt) : Prop where
  ex : ∃ (f : Addr) (fd : FuncData), mg x = some (.ref f) ∧ FunD K x x (defArgs st) (defBody st) (defScope st) [] [] f fd
section
variable {P : Program} {w : World} {K : PySem.W.Frag} {mg : Str → Option Value} {base : Heap} {CX : CXT} {k : Nat} {ps : List Str} {sp : Sp} {x : Str} {st : Stmt}
theorem Dfn.up {j : Nat} (F : Dfn P w K mg base CX j x st ps sp) (h : j ≤ k) : Dfn P w K mg base CX k x st ps sp :=
  let ⟨f, fd, a, b, c, d, e⟩ := F.ex; ⟨f, fd, a, b, c.up h, d, e⟩
theorem Dfn.weak {sp' : Sp} (F : Dfn P w K mg base CX k x st ps sp) (h : ∀ vs H Q E, sp' vs H Q E → sp vs H Q E) : Dfn P w K mg base CX k x st ps sp' :=
  let ⟨f, fd, a, b, c, d, e⟩ := F.ex; ⟨f, fd, a, b, c.weak h, d, e⟩
theorem Src.ok {N : List Str} (F : Src K mg x st) (S : FnScope N ps (defScope st)) (cnt : ∀ vs H Q E, sp vs H Q E → vs.length = ps.length)
    (hbd : ∀ (kV doc pm : Value) (an : Option Addr) (cd ct : Value) (us : List Value), us.length = ps.length → bindArgs (PySem.W.fnOf x x (defArgs st) (defBody st) (defScope st) .none kV doc pm an cd ct) ⟨us, []⟩ = pure (ps.zip us))
    (hb : ∀ (f : Addr) (cd : Value) (A : Around) (fr : List Env) (s : Shared) (vs : List V) (H : Hp) (Q : VK) (E : XK), (A.deeper (envOfC x (defScope st) s.heap.objs.size f cd)).guards = some [] → Room k (A.deeper (envOfC x (defScope st) s.heap.objs.size f cd)) → sp vs H Q E →
      ∃ t, PSs (cxOf CX P w K mg base N x (defScope st) f cd A fr s H E).nox (defBody st) t ∧ t { nx := fun _ H' => Q .non H', rt := Q } (start N vs) H) : Dfn P w K mg base CX (k + 1) x st ps sp := by
  obtain ⟨f, fd, a, F⟩ := F.ex
  have hbs := FunD.bindsA (ps := ps) F hbd
  obtain ⟨oc, od, dV, kV, doc, pm, an, cd, ct, osl, e1, lk, hcd, hD, hK⟩ := F.ex
  have e2 : dV = .none := by
    rcases hD with ⟨_, z⟩ | ⟨z, _⟩
    · exact z
    · exact absurd rfl z
  subst e2
  refine ⟨f, fd, a, F.kp, FnG.of_body F S cnt (fun cd A fr s H vs Q E g r q => ?_), ⟨kV, doc, pm, an, cd, ct, e1⟩, fun s us hl => hbs s us hl⟩
  obtain ⟨t, h1, h2⟩ := hb f cd A fr s vs H Q E g r q
  exact ⟨t, h1.nox, h2⟩
end
section
variable {X : Cx} {CX : CXT} {k : Nat} {st : Stmt} {ps ks : List Str} {sp : Sp} {E : XK} {x : Str} {p pos : Pos} {e : Expr} {es : List Expr} {t tk : TA} {kws : List Keyword}
def tGo (sp : Sp) (E : XK) (t : TA) : TE := fun σ H Q => t σ H fun vs H1 => sp vs H1 Q E
/-- x(e, ..) -/
theorem pe_go (F : Dfn X.prog X.w X.K X.mg X.base CX k x st ps sp) (g : X.A.guards = some []) (r : Room k X.A) (hx : Passes CX X E) (ha : PA X (e :: es) t) (hg : Gl X x := by rfl)
    (h1 : (x == ("__debug__" : Str)) = false := by decide) (h2 : starEach (e :: es) X.env = (false, eval e X.env) :: starEach es X.env := by rfl) (h3 : (backTo pos (starEach es X.env)).any (·.1) = false := by rfl) :
    PE X (.Call (.Name x p) (e :: es) [] pos) (tGo sp E t) := by
  obtain ⟨f, fd, hm, hk, G, _, hb⟩ := F.ex
  refine ⟨fun pins s σ H Q I h => wpAny_Call_Name_kw (ld_glob I hg hm ?_ h1)⟩
  refine PySem.W.callWith_K (h₀ := X.base) I.ok.mod.kin hk (thn (ha.run pos pins s σ H _ I h) fun us s1 ⟨vs, H1, J, rv, q⟩ => ⟨J.kIn, ?_⟩) h2 h3
  exact goes G g r (hb s1 us (rv.length.symm.trans (G.cnt _ _ _ _ q))) hx J rv q
/-- x() -/
theorem pe_go0 (F : Dfn X.prog X.w X.K X.mg X.base CX k x st ps sp) (g : X.A.guards = some []) (r : Room k X.A) (hx : Passes CX X E) (hg : Gl X x := by rfl)
    (h1 : (x == ("__debug__" : Str)) = false := by decide) : PE X (.Call (.Name x p) [] [] pos) (tGo sp E tNil) := by
  obtain ⟨f, fd, hm, hk, G, _, hb⟩ := F.ex
  refine ⟨fun pins s σ H Q I h => wpAny_Call_Name_kw (ld_glob I hg hm ?_ h1)⟩
  exact PySem.W.callWith_K0 I.kIn hk (goes (us := []) (ws := []) (vs := []) G g r (hb s [] (G.cnt _ _ _ _ h)) hx I .nil h)
def tGoK (sp : Sp) (gV : List V → List V) (n : Nat) (E : XK) (t : TA) : TE := fun σ H Q => t σ H fun vs H1 => vs.length = n ∧ sp (gV vs) H1 Q E
/-- x(a=e, ..): keywords alone; gs puts them in the parameters' order -/
theorem pe_goK {gs : List Value → List Value} {gV : List V → List V} (F : Dfn X.prog X.w X.K X.mg X.base CX k x st ps sp) (g : X.A.guards = some []) (r : Room k X.A) (hx : Passes CX X E) (ha : PK X kws t)
    (hbk : ∀ (kV doc pm : Value) (an : Option Addr) (cd ct : Value) (us : List Value), us.length = ks.length → bindArgs (PySem.W.fnOf x x (defArgs st) (defBody st) (defScope st) .none kV doc pm an cd ct) ⟨[], ks.zip us⟩ = pure (ps.zip (gs us)))
    (hgs : ∀ vs us, Vals vs us → vs.length = ks.length → Vals (gV vs) (gs us)) (hg : Gl X x := by rfl)
    (hall : (backToKw pos (keywordEach kws X.env)).all (·.1.isSome) = true := by rfl) (hks : (backToKw pos (keywordEach kws X.env)).filterMap (·.1) = ks := by rfl)
    (h1 : (x == ("__debug__" : Str)) = false := by decide) (h3 : ((backTo pos (starEach [] X.env)).any (·.1) || (backToKw pos (keywordEach kws X.env)).any (·.1.isNone)) = false := by rfl) :
    PE X (.Call (.Name x p) [] kws pos) (tGoK sp gV ks.length E t) := by
  obtain ⟨f, fd, hm, hk, G, ⟨kV, doc, pm, an, cd, ct, efd⟩, _⟩ := F.ex
  refine ⟨fun pins s σ H Q I h => wpAny_Call_Name_kw (ld_glob I hg hm ?_ h1)⟩
  refine PySem.W.callWith_KW0 (h₀ := X.base) I.ok.mod.kin hk hall (thn (ha.run pos pins s σ H _ I h) fun us s1 ⟨vs, H1, J, rv, hl, q⟩ => ⟨J.kIn, ?_⟩) h3
  rw [hks]
  exact goes G g r (by rw [efd]; exact .of_eq (hbk kV doc pm an cd ct us (rv.length.symm.trans hl))) hx J (hgs vs us rv hl) q
end
end Fw

set_option Elab.async false
set_option linter.all false
set_option maxRecDepth 100000
set_option maxHeartbeats 2000000
namespace Fw
open PySem PySem.Spec PyProof.Rows L2

/-! ### the meaning of a piece of syntax as a reading -/
section
variable {X : Cx} {e : Expr} {es : List Expr} {st : Stmt} {sts : List Stmt} {σ : L2.St} {H : Hp}
def wE (X : Cx) (e : Expr) : TE := fun σ H Q => ∀ (pins : List (Addr × Obj)) (s : Shared), Inv X pins σ H s → wpAny (model X.prog X.w) X.A (eval e X.env) (EP X pins σ Q) X.xe s
def wT (X : Cx) (e : Expr) : TT := fun σ H Q => ∀ (pins : List (Addr × Obj)) (s : Shared), Inv X pins σ H s → wpAny (model X.prog X.w) X.A (isTrue e X.env (eval e X.env)) (TP X pins σ Q) X.xe s
def wW (X : Cx) (e : Expr) : TT := fun σ H Q => ∀ (wh : Sem Value) (pins : List (Addr × Obj)) (s : Shared), Inv X pins σ H s → wpAny (model X.prog X.w) X.A (isTrue e X.env wh) (TP X pins σ Q) X.xe s
def wA (X : Cx) (es : List Expr) : TA := fun σ H Q => ∀ (pos : Pos) (pins : List (Addr × Obj)) (s : Shared), Inv X pins σ H s → wpAny (model X.prog X.w) X.A (spliced (backTo pos (starEach es X.env))) (AP X pins σ Q) X.xe s
def wS (X : Cx) (st : Stmt) : TS := fun D σ H => ∀ (pins : List (Addr × Obj)) (s : Shared), Inv X pins σ H s → wpAny (model X.prog X.w) X.A (exec st X.env) (SP X pins D) X.xe s
def wB (X : Cx) (sts : List Stmt) : TS := fun D σ H => ∀ (pins : List (Addr × Obj)) (s : Shared), Inv X pins σ H s → wpAny (model X.prog X.w) X.A (execs sts X.env) (SP X pins D) X.xe s
theorem pw : PE X e (wE X e) := ⟨fun pins s _ _ _ I h => h pins s I⟩
theorem tw : PT X e (wT X e) := ⟨fun pins s _ _ _ I h => h pins s I⟩
theorem ww : PW X e (wW X e) := ⟨fun wh pins s _ _ _ I h => h wh pins s I⟩
theorem aw : PA X es (wA X es) := ⟨fun pos pins s _ _ _ I h => h pos pins s I⟩
theorem sw : PS X st (wS X st) := ⟨fun pins s _ _ _ I h => h pins s I⟩
theorem bw : PSs X sts (wB X sts) := ⟨fun pins s _ _ _ I h => h pins s I⟩
theorem toE {t : TE} {Q : VK} (h : PE X e t) (q : t σ H Q) : wE X e σ H Q := fun pins s I => h.run pins s σ H Q I q
theorem toT {t : TT} {Q : Bool → Hp → Prop} (h : PT X e t) (q : t σ H Q) : wT X e σ H Q := fun pins s I => h.run pins s σ H Q I q
theorem toW {t : TT} {Q : Bool → Hp → Prop} (h : PW X e t) (q : t σ H Q) : wW X e σ H Q := fun wh pins s I => h.run wh pins s σ H Q I q
theorem toA {t : TA} {Q : List V → Hp → Prop} (h : PA X es t) (q : t σ H Q) : wA X es σ H Q := fun pos pins s I => h.run pos pins s σ H Q I q
theorem toS {t : TS} {D : Ends} (h : PS X st t) (q : t D σ H) : wS X st D σ H := fun pins s I => h.run pins s σ H D I q
theorem toB {t : TS} {D : Ends} (h : PSs X sts t) (q : t D σ H) : wB X sts D σ H := fun pins s I => h.run pins s σ H D I q
end

/-! ### data in the heap -/
def keyD : Key → PyData
  | .inl i => .int i
  | .inr x => .str x
mutual
/-- v is the datum d; none of its objects is one of M -/
inductive Dt (K : PySem.W.Frag) (M : Addr → Prop) (H : Hp) : V → PyData → Prop
  | non : Dt K M H .non .none
  | bl (b : Bool) : Dt K M H (.bl b) (.bool b)
  | int (i : Int) : Dt K M H (.int i) (.int i)
  | str (x : Str) : Dt K M H (.str x) (.str x)
  | lst {a : Addr} {xs : List V} {ds : List PyData} : ¬ M a → H a = some (.lst xs) → DtA K M H xs ds → Dt K M H (.ref a) (.list ds)
  | tup {a : Addr} {xs : List V} {ds : List PyData} : ¬ M a → H a = some (.tup xs) → DtA K M H xs ds → Dt K M H (.ref a) (.tuple ds)
  | wtp {a : Addr} {xs : List V} {ds : List PyData} : SqT K (fun _ => none) a xs → DtA K M H xs ds → Dt K M H (.ref a) (.tuple ds)
  | dic {a : Addr} {kvs : List (Key × V)} {ds : List PyData} : ¬ M a → H a = some (.dK kvs) → DtA K M H (kvs.map (·.2)) ds → Dt K M H (.ref a) (.dict ((kvs.map fun p => keyD p.1).zip ds))
inductive DtA (K : PySem.W.Frag) (M : Addr → Prop) (H : Hp) : List V → List PyData → Prop
  | nil : DtA K M H [] []
  | cons {v : V} {vs : List V} {d : PyData} {ds : List PyData} : Dt K M H v d → DtA K M H vs ds → DtA K M H (v :: vs) (d :: ds)
end
/-- what is not of M stays -/
def Ex (M : Addr → Prop) (H H' : Hp) : Prop := ∀ b o, ¬ M b → H b = some o → H' b = some o
section
variable {K : PySem.W.Frag} {M : Addr → Prop} {H H1 H2 : Hp}
theorem Ex.rfl' : Ex M H H := fun _ _ _ h => h
theorem Ex.trans (a : Ex M H H1) (b : Ex M H1 H2) : Ex M H H2 := fun c o n h => b c o n (a c o n h)
theorem Ex.of (h : Same H H1) : Ex M H H1 := fun b o _ e => h b o e
mutual
theorem Dt.mono (e : Ex M H H1) : ∀ {v : V} {d : PyData}, Dt K M H v d → Dt K M H1 v d
  | _, _, .non => .non
  | _, _, .bl b => .bl b
  | _, _, .int b => .int b
  | _, _, .str b => .str b
  | _, _, .lst n h1 h2 => .lst n (e _ _ n h1) (DtA.mono e h2)
  | _, _, .tup n h1 h2 => .tup n (e _ _ n h1) (DtA.mono e h2)
  | _, _, .wtp h1 h2 => .wtp h1 (DtA.mono e h2)
  | _, _, .dic n h1 h2 => .dic n (e _ _ n h1) (DtA.mono e h2)
theorem DtA.mono (e : Ex M H H1) : ∀ {vs : List V} {ds : List PyData}, DtA K M H vs ds → DtA K M H1 vs ds
  | _, _, .nil => .nil
  | _, _, .cons h1 h2 => .cons (Dt.mono e h1) (DtA.mono e h2)
end
theorem Dt.isT {v : V} {ds : List PyData} (h : Dt K M H v (.tuple ds)) : ∃ (a : Addr) (xs : List V), v = .ref a ∧ SqT K H a xs ∧ DtA K M H xs ds ∧ ∀ H1, Ex M H H1 → SqT K H1 a xs := by
  cases h with
  | tup n h1 h2 => exact ⟨_, _, rfl, SqT.of h1, h2, fun H1 e => SqT.of (e _ _ n h1)⟩
  | wtp h1 h2 =>
    have q : ∀ H1 : Hp, SqT K H1 _ _ := fun H1 => by
      rcases h1 with (h1 | ⟨o, h1⟩) | h1
      · cases h1
      · cases h1
      · exact .inr h1
    exact ⟨_, _, rfl, q H, h2, fun H1 _ => q H1⟩
theorem DtA.len : ∀ {vs : List V} {ds : List PyData}, DtA K M H vs ds → vs.length = ds.length
  | _, _, .nil => rfl
  | _, _, .cons _ h => congrArg (· + 1) h.len
theorem DtA.app : ∀ {vs us : List V} {ds es : List PyData}, DtA K M H vs ds → DtA K M H us es → DtA K M H (vs ++ us) (ds ++ es)
  | _, _, _, _, .nil, h => h
  | _, _, _, _, .cons a b, h => .cons a (b.app h)
theorem DtA.take : ∀ {vs : List V} {ds : List PyData} (n : Nat), DtA K M H vs ds → DtA K M H (vs.take n) (ds.take n)
  | _, _, 0, _ => .nil
  | _, _, _ + 1, .nil => .nil
  | _, _, n + 1, .cons a b => .cons a (b.take n)
theorem DtA.drop : ∀ {vs : List V} {ds : List PyData} (n : Nat), DtA K M H vs ds → DtA K M H (vs.drop n) (ds.drop n)
  | _, _, 0, h => h
  | _, _, _ + 1, .nil => .nil
  | _, _, n + 1, .cons _ b => b.drop n
theorem DtA.get : ∀ {vs : List V} {ds : List PyData} {i : Nat} {d : PyData}, DtA K M H vs ds → ds[i]? = some d → ∃ v, vs[i]? = some v ∧ Dt K M H v d
  | _, _, _, _, .nil, e => by simp at e
  | _, _, 0, _, .cons a _, e => by simp at e; subst e; exact ⟨_, rfl, a⟩
  | _, _, i + 1, _, .cons _ b, e => by
    obtain ⟨v, h1, h2⟩ := b.get (i := i) (by simpa using e)
    exact ⟨v, by simpa using h1, h2⟩
theorem DtA.getV : ∀ {vs : List V} {ds : List PyData} {i : Nat} {v : V}, DtA K M H vs ds → vs[i]? = some v → ∃ d, ds[i]? = some d ∧ Dt K M H v d
  | _, _, _, _, .nil, e => by simp at e
  | _, _, 0, _, .cons a _, e => by simp at e; subst e; exact ⟨_, rfl, a⟩
  | _, _, i + 1, _, .cons _ b, e => by
    obtain ⟨v, h1, h2⟩ := b.getV (i := i) (by simpa using e)
    exact ⟨v, by simpa using h1, h2⟩
theorem DtA.rev : ∀ {vs : List V} {ds : List PyData}, DtA K M H vs ds → DtA K M H vs.reverse ds.reverse
  | _, _, .nil => .nil
  | _, _, .cons a b => by
    rw [List.reverse_cons, List.reverse_cons]
    exact b.rev.app (.cons a .nil)
theorem DtA.rep {vs : List V} {ds : List PyData} (h : DtA K M H vs ds) : ∀ n : Nat, DtA K M H (List.replicate n vs).flatten (List.replicate n ds).flatten
  | 0 => .nil
  | n + 1 => by
    rw [List.replicate_succ, List.replicate_succ, List.flatten_cons, List.flatten_cons]
    exact h.app (h.rep n)
end

/-! ### values and slots -/
inductive Vl where
  | d (x : PyData)
  | v (x : V)
def Vt (K : PySem.W.Frag) (M : Addr → Prop) (H : Hp) (v : V) : Vl → Prop
  | .d x => Dt K M H v x
  | .v u => v = u
abbrev Rho := List (Option Vl)
structure En (K : PySem.W.Frag) (M : Addr → Prop) (H : Hp) (σ : L2.St) (ρ : Rho) : Prop where
  len : σ.length = ρ.length
  at_ : ∀ (i : Nat) (x : Vl), ρ[i]? = some (some x) → ∃ v, σ[i]? = some (some v) ∧ Vt K M H v x
section
variable {K : PySem.W.Frag} {M : Addr → Prop} {H H1 : Hp} {σ : L2.St} {ρ : Rho} {v : V} {x : Vl}
theorem Vt.mono (e : Ex M H H1) (h : Vt K M H v x) : Vt K M H1 v x := by
  cases x with
  | d y => exact Dt.mono e h
  | v y => exact h
theorem En.mono (e : Ex M H H1) (h : En K M H σ ρ) : En K M H1 σ ρ := ⟨h.len, fun i x q => let ⟨v, a, b⟩ := h.at_ i x q; ⟨v, a, b.mono e⟩⟩
theorem En.set (h : En K M H σ ρ) (i : Nat) (hv : Vt K M H v x) : En K M H (σ.set i (some v)) (ρ.set i (some x)) := by
  refine ⟨by simp [h.len], fun j y q => ?_⟩
  by_cases e : i = j
  · subst e
    have hl : i < ρ.length := by
      by_cases hl : i < ρ.length
      · exact hl
      · rw [List.getElem?_eq_none (by simp; omega)] at q; cases q
    rw [List.getElem?_set_self hl] at q
    cases q
    exact ⟨v, List.getElem?_set_self (by rw [h.len]; exact hl), hv⟩
  · rw [List.getElem?_set_ne e] at q
    obtain ⟨u, a, b⟩ := h.at_ j y q
    exact ⟨u, by rw [List.getElem?_set_ne e]; exact a, b⟩
def wipR (ρ : Rho) : List Nat → Rho
  | [] => ρ
  | i :: l => (wipR ρ l).set i none
theorem En.wip (h : En K M H σ ρ) : ∀ l : List Nat, En K M H (wipe σ l) (wipR ρ l)
  | [] => h
  | i :: l => by
    have q := h.wip l
    refine ⟨by simp [wipe, wipR, q.len], fun j y z => ?_⟩
    unfold wipR at z
    by_cases e : i = j
    · subst e
      by_cases hl : i < (wipR ρ l).length
      · rw [List.getElem?_set_self hl] at z; cases z
      · rw [List.getElem?_eq_none (by simp; omega)] at z; cases z
    · rw [List.getElem?_set_ne e] at z
      obtain ⟨u, a, b⟩ := q.at_ j y z
      exact ⟨u, by unfold wipe; rw [List.getElem?_set_ne e]; exact a, b⟩
/-- less is known -/
theorem En.less {ρ' : Rho} (h : En K M H σ ρ) (hl : ρ'.length = ρ.length) (hs : ∀ (i : Nat) x, ρ'[i]? = some (some x) → ρ[i]? = some (some x)) : En K M H σ ρ' :=
  ⟨h.len.trans hl.symm, fun i x q => h.at_ i x (hs i x q)⟩
theorem En.start {N : List Str} {vs : List V} {xs : List Vl} (hl : vs.length = xs.length) (h : ∀ (i : Nat) x, xs[i]? = some x → ∃ v, vs[i]? = some v ∧ Vt K M H v x) :
    En K M H (L2.start N vs) (xs.map some ++ List.replicate (N.length - xs.length) none) := by
  refine ⟨by simp [L2.start, hl], fun i x q => ?_⟩
  unfold L2.start
  by_cases hi : i < xs.length
  · rw [List.getElem?_append_left (by simpa using hi), List.getElem?_map] at q
    cases e : xs[i]? with
    | none => rw [e] at q; cases q
    | some y =>
      rw [e] at q; cases q
      obtain ⟨v, a, b⟩ := h i _ e
      exact ⟨v, by rw [List.getElem?_append_left (by simpa [hl] using hi), List.getElem?_map, a]; rfl, b⟩
  · rw [List.getElem?_append_right (by simpa using hi), List.getElem?_replicate] at q
    split at q <;> cases q
end

/-! ### the world of a body: data lies apart from M; C may change, and J tells of C -/
structure Wd (S : Type) where
  M : Addr → Prop
  C : Addr → Prop
  J : S → Hp → Prop
  sub : ∀ {b : Addr}, C b → M b
  keep : ∀ {s : S} {H H' : Hp}, J s H → (∀ b o, C b → H b = some o → H' b = some o) → J s H'
def Wd.At {S : Type} (W : Wd S) (s : S) (H : Hp) : Prop := W.J s H ∧ ∀ b, W.M b → H b ≠ none
section
variable {S : Type} {X : Cx} {W : Wd S}
theorem Wd.At.new {s : S} {H : Hp} {p : Addr} (j : W.At s H) (h : H p = none) : ¬ W.M p := fun m => j.2 p m h
theorem same_new {H : Hp} {p : Addr} {o : HO} (h : H p = none) : Same H (upd H p o) := fun b u e => by
  rw [upd_ne (ne_of_none e h)]
  exact e
theorem Wd.At.same {s : S} {H H' : Hp} (j : W.At s H) (e : Same H H') : W.At s H' := ⟨W.keep j.1 fun b o _ q => e b o q, fun b m z => by
  cases q : H b with
  | none => exact j.2 b m q
  | some o => rw [e b o q] at z; cases z⟩
theorem Wd.up (W : Wd S) {H H' : Hp} (e : Ex W.C H H') : Ex W.M H H' := fun b o n q => e b o (fun c => n (W.sub c)) q
theorem Wd.dm (W : Wd S) {K : PySem.W.Frag} {H H' : Hp} {v : V} {d : PyData} (e : Ex W.C H H') (h : Dt K W.M H v d) : Dt K W.M H' v d := Dt.mono (W.up e) h
theorem Wd.vm (W : Wd S) {K : PySem.W.Frag} {H H' : Hp} {v : V} {d : Vl} (e : Ex W.C H H') (h : Vt K W.M H v d) : Vt K W.M H' v d := Vt.mono (W.up e) h
theorem Wd.em (W : Wd S) {K : PySem.W.Frag} {H H' : Hp} {σ : L2.St} {ρ : Rho} (e : Ex W.C H H') (h : En K W.M H σ ρ) : En K W.M H' σ ρ := En.mono (W.up e) h
/-- what is wanted behind an expression, seen from a heap -/
def Kn (X : Cx) (W : Wd S) (H : Hp) (Φ : Vl → S → Prop) (Q : VK) : Prop := ∀ v H2 x s', Ex W.C H H2 → W.At s' H2 → Vt X.K W.M H2 v x → Φ x s' → Q v H2
def KnA (X : Cx) (W : Wd S) (H : Hp) (Φ : List Vl → S → Prop) (Q : List V → Hp → Prop) : Prop := ∀ vs H2 xs s', Ex W.C H H2 → W.At s' H2 → Paired (Vt X.K W.M H2) vs xs → Φ xs s' → Q vs H2
def KnT (W : Wd S) (H : Hp) (Φ : Bool → S → Prop) (Q : Bool → Hp → Prop) : Prop := ∀ b H2 s', Ex W.C H H2 → W.At s' H2 → Φ b s' → Q b H2
structure dE (X : Cx) (W : Wd S) (ρ : Rho) (s : S) (e : Expr) (Φ : Vl → S → Prop) : Prop where
  go : ∀ σ H Q, En X.K W.M H σ ρ → W.At s H → Kn X W H Φ Q → wE X e σ H Q
structure dA (X : Cx) (W : Wd S) (ρ : Rho) (s : S) (es : List Expr) (Φ : List Vl → S → Prop) : Prop where
  go : ∀ σ H Q, En X.K W.M H σ ρ → W.At s H → KnA X W H Φ Q → wA X es σ H Q
structure dT (X : Cx) (W : Wd S) (ρ : Rho) (s : S) (e : Expr) (Φ : Bool → S → Prop) : Prop where
  go : ∀ σ H Q, En X.K W.M H σ ρ → W.At s H → KnT W H Φ Q → wT X e σ H Q
structure dW (X : Cx) (W : Wd S) (ρ : Rho) (s : S) (e : Expr) (Φ : Bool → S → Prop) : Prop where
  go : ∀ σ H Q, En X.K W.M H σ ρ → W.At s H → KnT W H Φ Q → wW X e σ H Q
/-- ends of a block -/
structure DE (S : Type) where
  nx : Rho → S → Prop
  rt : Vl → S → Prop
  bk : Rho → S → Prop := fun _ _ => False
  ct : Rho → S → Prop := fun _ _ => False
structure KnS (X : Cx) (W : Wd S) (H : Hp) (Φ : DE S) (D : Ends) : Prop where
  nx : ∀ σ H2 ρ s', Ex W.C H H2 → W.At s' H2 → En X.K W.M H2 σ ρ → Φ.nx ρ s' → D.nx σ H2
  rt : ∀ v H2 x s', Ex W.C H H2 → W.At s' H2 → Vt X.K W.M H2 v x → Φ.rt x s' → D.rt v H2
  bk : ∀ σ H2 ρ s', Ex W.C H H2 → W.At s' H2 → En X.K W.M H2 σ ρ → Φ.bk ρ s' → D.bk σ H2
  ct : ∀ σ H2 ρ s', Ex W.C H H2 → W.At s' H2 → En X.K W.M H2 σ ρ → Φ.ct ρ s' → D.ct σ H2
structure dS (X : Cx) (W : Wd S) (ρ : Rho) (s : S) (st : Stmt) (Φ : DE S) : Prop where
  go : ∀ σ H D, En X.K W.M H σ ρ → W.At s H → KnS X W H Φ D → wS X st D σ H
structure dB (X : Cx) (W : Wd S) (ρ : Rho) (s : S) (sts : List Stmt) (Φ : DE S) : Prop where
  go : ∀ σ H D, En X.K W.M H σ ρ → W.At s H → KnS X W H Φ D → wB X sts D σ H
theorem Kn.ex {H H1 : Hp} {Φ : Vl → S → Prop} {Q : VK} (k : Kn X W H Φ Q) (e : Ex W.C H H1) : Kn X W H1 Φ Q := fun v H2 x s' a b c d => k v H2 x s' (e.trans a) b c d
theorem KnA.ex {H H1 : Hp} {Φ : List Vl → S → Prop} {Q : List V → Hp → Prop} (k : KnA X W H Φ Q) (e : Ex W.C H H1) : KnA X W H1 Φ Q := fun v H2 x s' a b c d => k v H2 x s' (e.trans a) b c d
theorem KnT.ex {H H1 : Hp} {Φ : Bool → S → Prop} {Q : Bool → Hp → Prop} (k : KnT W H Φ Q) (e : Ex W.C H H1) : KnT W H1 Φ Q := fun v H2 s' a b c => k v H2 s' (e.trans a) b c
theorem KnS.ex {H H1 : Hp} {Φ : DE S} {D : Ends} (k : KnS X W H Φ D) (e : Ex W.C H H1) : KnS X W H1 Φ D :=
  ⟨fun a b c d e1 => k.nx a b c d (e.trans e1), fun a b c d e1 => k.rt a b c d (e.trans e1), fun a b c d e1 => k.bk a b c d (e.trans e1), fun a b c d e1 => k.ct a b c d (e.trans e1)⟩
end
end Fw

set_option Elab.async false
set_option linter.all false
set_option maxRecDepth 100000
set_option maxHeartbeats 2000000
namespace Fw
open PySem PySem.Spec PyProof.Rows L2
section
variable {S : Type} {X : Cx} {W : Wd S} {ρ : Rho} {s : S} {Φ : Vl → S → Prop} {a b c e : Expr} {es : List Expr} {pos : Pos} {x : Str}

/-! ### names and constants -/
theorem de_var {vl : Vl} (h : Φ vl s) (hρ : ρ[X.N.idxOf x]? = some (some vl) := by rfl) (hN : X.N[X.N.idxOf x]? = some x := by rfl) (hv : Vis X.env.scope x := by first | exact Or.inl rfl | exact Or.inr (Or.inl rfl) | exact Or.inr (Or.inr rfl))
    (h1 : (x == ("__debug__" : Str)) = false := by decide) (h2 : (x == ("__classdict__" : Str)) = false := by decide) : dE X W ρ s (.Name x pos) Φ := .mk fun σ H Q en j kn => by
  obtain ⟨v, q1, q2⟩ := en.at_ _ _ hρ
  exact toE (pe_var hN hv h1 h2) ⟨v, q1, kn v H vl s Ex.rfl' j q2 h⟩
theorem de_glob {v : V} {u : Value} {d : PyData} (hm : X.mg x = some u) (r : RelV v u) (hd : ∀ H, Dt X.K W.M H v d) (h : Φ (.d d) s) (hg : Gl X x := by rfl) (h1 : (x == ("__debug__" : Str)) = false := by decide) : dE X W ρ s (.Name x pos) Φ := .mk
  fun σ H Q en j kn => toE (pe_glob hg hm r h1) (kn v H (.d d) s Ex.rfl' j (hd H) h)
theorem de_globS {z : Str} (hm : ∃ t, X.mg x = some (.str z t)) (h : Φ (.d (.str z)) s) (hg : Gl X x := by rfl) (h1 : (x == ("__debug__" : Str)) = false := by decide) : dE X W ρ s (.Name x pos) Φ :=
  let ⟨t, q⟩ := hm; de_glob q (v := .str z) ⟨t, rfl⟩ (fun _ => .str z) h hg h1
theorem de_globI {z : Int} (hm : ∃ t, X.mg x = some (.int z t)) (h : Φ (.d (.int z)) s) (hg : Gl X x := by rfl) (h1 : (x == ("__debug__" : Str)) = false := by decide) : dE X W ρ s (.Name x pos) Φ :=
  let ⟨t, q⟩ := hm; de_glob q (v := .int z) ⟨t, rfl⟩ (fun _ => .int z) h hg h1
theorem de_int {i : Int} {k : Nat} (h : Φ (.d (.int i)) s) : dE X W ρ s (.Constant (.int i) k pos) Φ := .mk fun σ H Q en j kn => toE pe_int (kn _ H (.d (.int i)) s Ex.rfl' j (.int i) h)
theorem de_bool {i : Bool} {k : Nat} (h : Φ (.d (.bool i)) s) : dE X W ρ s (.Constant (.bool i) k pos) Φ := .mk fun σ H Q en j kn => toE pe_bl (kn _ H (.d (.bool i)) s Ex.rfl' j (.bl i) h)
theorem de_none {k : Nat} (h : Φ (.d .none) s) : dE X W ρ s (.Constant .none k pos) Φ := .mk fun σ H Q en j kn => toE pe_non (kn _ H (.d .none) s Ex.rfl' j .non h)
theorem de_str {i : Str} {k : Nat} (h : Φ (.d (.str i)) s) : dE X W ρ s (.Constant (.str i) k pos) Φ := .mk fun σ H Q en j kn => toE pe_str (kn _ H (.d (.str i)) s Ex.rfl' j (.str i) h)
theorem de_imp {Ψ : Vl → S → Prop} (h : dE X W ρ s e Ψ) (i : ∀ x s', Ψ x s' → Φ x s') : dE X W ρ s e Φ := .mk fun σ H Q en j kn => h.go σ H Q en j fun v H2 x s' e1 j1 v1 p => kn v H2 x s' e1 j1 v1 (i x s' p)

/-! ### operators on data -/
/-- the result of an operation on data: F tells it -/
def rD (K : PySem.W.Frag) (F : PyData → PyData → Option PyData) : R2 := fun x y H Q => ∃ (M : Addr → Prop) (d e z : PyData), (∀ b, M b → H b ≠ none) ∧ Dt K M H x d ∧ Dt K M H y e ∧ F d e = some z ∧ ∀ v H', Same H H' → Dt K M H' v z → Q v H'
def Op2 (F : PyData → PyData → Option PyData) (x y : Vl) (Ψ : Vl → Prop) : Prop := ∃ d e z, x = .d d ∧ y = .d e ∧ F d e = some z ∧ Ψ (.d z)
/-- two operands, an operation -/
theorem two {F : PyData → PyData → Option PyData} {σ : L2.St} {H : Hp} {Q : VK} (h : dE X W ρ s a fun x s1 => dE X W ρ s1 b fun y s2 => Op2 F x y fun z => Φ z s2) (en : En X.K W.M H σ ρ) (j : W.At s H) (kn : Kn X W H Φ Q) :
    tOp (rD X.K F) (wE X a) (wE X b) σ H Q := by
  refine h.go σ H _ en j fun v H1 x s1 e1 j1 v1 hb => ?_
  refine hb.go σ H1 _ (W.em e1 en) j1 fun u H2 y s2 e2 j2 v2 ⟨d, e, z, hx, hy, hz, hp⟩ => ?_
  subst hx hy
  exact ⟨W.M, d, e, z, j2.2, W.dm e2 v1, v2, hz, fun v' H3 sm dt => kn v' H3 (.d z) s2 ((e1.trans e2).trans (Ex.of sm)) (j2.same sm) dt hp⟩
theorem de_bin {F : PyData → PyData → Option PyData} {op : Operator} (hop : OpR X (binaryOp op) (rD X.K F)) (h : dE X W ρ s a fun x s1 => dE X W ρ s1 b fun y s2 => Op2 F x y fun z => Φ z s2) : dE X W ρ s (.BinOp a op b pos) Φ := .mk
  fun σ H Q en j kn => toE (pe_op hop pw pw) (two h en j kn)
theorem de_cmp {F : PyData → PyData → Option PyData} {op : CmpOp} (hop : OpR X (compareOp op) (rD X.K F)) (h : dE X W ρ s a fun x s1 => dE X W ρ s1 b fun y s2 => Op2 F x y fun z => Φ z s2)
    (hm : behindInMarks op b = false := by first | exact nomark _ | rfl) : dE X W ρ s (.Compare a [op] [b] pos) Φ := .mk
  fun σ H Q en j kn => toE (pe_cmpR hop pw pw hm) (two h en j kn)
def IsB (z : Vl) (Ψ : Bool → Prop) : Prop := ∃ c, z = .d (.bool c) ∧ Ψ c
theorem bool_of {K : PySem.W.Frag} {M : Addr → Prop} {H : Hp} {v : V} {c : Bool} (h : Dt K M H v (.bool c)) : v = .bl c := by cases h; rfl
theorem dt_cmp {Ψ : Bool → S → Prop} {F : PyData → PyData → Option PyData} {op : CmpOp} (hop : OpR X (compareOp op) (rD X.K F)) (h : dE X W ρ s a fun x s1 => dE X W ρ s1 b fun y s2 => Op2 F x y fun z => IsB z fun c => Ψ c s2)
    (hm : behindInMarks op b = false := by first | exact nomark _ | rfl) : dT X W ρ s (.Compare a [op] [b] pos) Ψ := .mk fun σ H Q en j kn =>
  toT (pt_cmpR hop pw pw hm) (two h en j fun v H2 x s' e1 j1 v1 ⟨c, hx, hp⟩ => by subst hx; exact ⟨c, bool_of v1, kn c H2 s' e1 j1 hp⟩)
/-- a < b < c -/
theorem three {F G : PyData → PyData → Option PyData} {σ : L2.St} {H : Hp} {Q : VK} (h : dE X W ρ s a fun x s1 => dE X W ρ s1 b fun y s2 => Op2 F x y fun z => IsB z fun k => (k = false → Φ (.d (.bool false)) s2) ∧ (k = true → dE X W ρ s2 c fun z s3 => Op2 G y z fun z => Φ z s3))
    (en : En X.K W.M H σ ρ) (j : W.At s H) (kn : Kn X W H Φ Q) : tChain (rD X.K F) (rD X.K G) (wE X a) (wE X b) (wE X c) σ H Q := by
  refine h.go σ H _ en j fun v H1 x s1 e1 j1 v1 hb => ?_
  refine hb.go σ H1 _ (W.em e1 en) j1 fun u H2 y s2 e2 j2 v2 ⟨d, e, z, hx, hy, hz, k, hk, p0, p1⟩ => ?_
  subst hx hy
  cases hk
  refine ⟨W.M, d, e, _, j2.2, W.dm e2 v1, v2, hz, fun v' H3 sm dt => ⟨k, bool_of dt, ?_⟩⟩
  have e3 : Ex W.C H H3 := (e1.trans e2).trans (Ex.of sm)
  cases k with
  | false => exact kn _ H3 (.d (.bool false)) s2 e3 (j2.same sm) (.bl false) (p0 rfl)
  | true =>
    refine (p1 rfl).go σ H3 _ (W.em e3 en) (j2.same sm) fun t H4 y s4 e4 j4 v4 ⟨d', e', z', hx', hy', hz', hp'⟩ => ?_
    cases hx'
    subst hy'
    exact ⟨W.M, e, e', z', j4.2, W.dm ((Ex.of sm).trans e4) v2, v4, hz', fun v5 H5 sm5 dt5 => kn v5 H5 (.d z') s4 ((e3.trans e4).trans (Ex.of sm5)) (j4.same sm5) dt5 hp'⟩
theorem de_chain {F G : PyData → PyData → Option PyData} {op op' : CmpOp} (ho : OpR X (compareOp op) (rD X.K F)) (ho' : OpR X (compareOp op') (rD X.K G))
    (h : dE X W ρ s a fun x s1 => dE X W ρ s1 b fun y s2 => Op2 F x y fun z => IsB z fun k => (k = false → Φ (.d (.bool false)) s2) ∧ (k = true → dE X W ρ s2 c fun z s3 => Op2 G y z fun z => Φ z s3))
    (hm : lastMarks [op, op'] [b, c] = false := by with_unfolding_all rfl) : dE X W ρ s (.Compare a [op, op'] [b, c] pos) Φ := .mk fun σ H Q en j kn => toE (pe_chain ho ho' pw pw pw hm) (three h en j kn)
theorem dt_chain {Ψ : Bool → S → Prop} {F G : PyData → PyData → Option PyData} {op op' : CmpOp} (ho : OpR X (compareOp op) (rD X.K F)) (ho' : OpR X (compareOp op') (rD X.K G))
    (h : dE X W ρ s a fun x s1 => dE X W ρ s1 b fun y s2 => Op2 F x y fun z => IsB z fun k => (k = false → Ψ false s2) ∧ (k = true → dE X W ρ s2 c fun z s3 => Op2 G y z fun z => IsB z fun k => Ψ k s3))
    (hm : lastMarks [op, op'] [b, c] = false := by with_unfolding_all rfl) : dT X W ρ s (.Compare a [op, op'] [b, c] pos) Ψ := .mk fun σ H Q en j kn =>
  toT (pt_chain ho ho' pw pw pw hm) (three (Φ := fun z s' => IsB z fun k => Ψ k s') (by
    refine de_imp h fun x s1 hb => de_imp hb fun y s2 hp => ?_
    obtain ⟨d, e, z, hx, hy, hz, k, hk, p0, p1⟩ := hp
    exact ⟨d, e, z, hx, hy, hz, k, hk, fun q => ⟨false, rfl, p0 q⟩, p1⟩) en j fun v H2 x s' e1 j1 v1 ⟨c, hx, hp⟩ => by subst hx; exact ⟨c, bool_of v1, kn c H2 s' e1 j1 hp⟩)

/-! ### and, or, not, if -/
theorem de_one {op : BoolOp} (h : dE X W ρ s a Φ) : dE X W ρ s (.BoolOp op [a] pos) Φ := .mk fun σ H Q en j kn => toE (pe_one pw) (h.go σ H Q en j kn)
theorem de_and (h : dE X W ρ s a fun x s1 => IsB x fun c => (c = true → dE X W ρ s1 (.BoolOp .And (b :: es) pos) Φ) ∧ (c = false → Φ (.d (.bool false)) s1)) : dE X W ρ s (.BoolOp .And (a :: b :: es) pos) Φ := .mk fun σ H Q en j kn =>
  toE (pe_and pw pw) (h.go σ H _ en j fun v H1 x s1 e1 j1 v1 ⟨c, hx, p1, p0⟩ => by
    subst hx
    refine ⟨c, bool_of v1, ?_⟩
    cases c with
    | true => exact (p1 rfl).go σ H1 Q (W.em e1 en) j1 (kn.ex e1)
    | false => exact kn _ H1 (.d (.bool false)) s1 e1 j1 (.bl false) (p0 rfl))
theorem de_or (h : dE X W ρ s a fun x s1 => IsB x fun c => (c = false → dE X W ρ s1 (.BoolOp .Or (b :: es) pos) Φ) ∧ (c = true → Φ (.d (.bool true)) s1)) : dE X W ρ s (.BoolOp .Or (a :: b :: es) pos) Φ := .mk fun σ H Q en j kn =>
  toE (pe_or pw pw) (h.go σ H _ en j fun v H1 x s1 e1 j1 v1 ⟨c, hx, p1, p0⟩ => by
    subst hx
    refine ⟨c, bool_of v1, ?_⟩
    cases c with
    | false => exact (p1 rfl).go σ H1 Q (W.em e1 en) j1 (kn.ex e1)
    | true => exact kn _ H1 (.d (.bool true)) s1 e1 j1 (.bl true) (p0 rfl))
theorem de_not (h : dE X W ρ s a fun x s1 => IsB x fun c => Φ (.d (.bool (!c))) s1) : dE X W ρ s (.UnaryOp .Not a pos) Φ := .mk fun σ H Q en j kn =>
  toE (pe_not pw) (h.go σ H _ en j fun v H1 x s1 e1 j1 v1 ⟨c, hx, p⟩ => by subst hx; exact ⟨c, bool_of v1, kn _ H1 (.d (.bool (!c))) s1 e1 j1 (.bl _) p⟩)
theorem de_neg (h : dE X W ρ s a fun x s1 => ∃ i, x = .d (.int i) ∧ Φ (.d (.int (-i))) s1) : dE X W ρ s (.UnaryOp .USub a pos) Φ := .mk fun σ H Q en j kn =>
  toE (pe_un un_neg pw) (h.go σ H _ en j fun v H1 x s1 e1 j1 v1 ⟨i, hx, p⟩ => by subst hx; cases v1; exact ⟨i, rfl, kn _ H1 (.d (.int (-i))) s1 e1 j1 (.int _) p⟩)
variable {Ψ : Bool → S → Prop}
theorem dt_w (h : dW X W ρ s e Ψ) : dT X W ρ s e Ψ := .mk fun σ H Q en j kn => toT ww.pt (h.go σ H Q en j kn)
theorem dw_and1 (h : dT X W ρ s a Ψ) : dW X W ρ s (.BoolOp .And [a] pos) Ψ := .mk fun σ H Q en j kn => toW (pw_and1 tw) (h.go σ H Q en j kn)
theorem dw_or1 (h : dT X W ρ s a Ψ) : dW X W ρ s (.BoolOp .Or [a] pos) Ψ := .mk fun σ H Q en j kn => toW (pw_or1 tw) (h.go σ H Q en j kn)
theorem dw_and (h : dT X W ρ s a fun c s1 => (c = true → dW X W ρ s1 (.BoolOp .And (b :: es) pos) Ψ) ∧ (c = false → Ψ false s1)) : dW X W ρ s (.BoolOp .And (a :: b :: es) pos) Ψ := .mk fun σ H Q en j kn =>
  toW (pw_and tw ww) (h.go σ H _ en j fun c H1 s1 e1 j1 ⟨p1, p0⟩ => by
    cases c with
    | true => exact (p1 rfl).go σ H1 Q (W.em e1 en) j1 (kn.ex e1)
    | false => exact kn false H1 s1 e1 j1 (p0 rfl))
theorem dw_or (h : dT X W ρ s a fun c s1 => (c = false → dW X W ρ s1 (.BoolOp .Or (b :: es) pos) Ψ) ∧ (c = true → Ψ true s1)) : dW X W ρ s (.BoolOp .Or (a :: b :: es) pos) Ψ := .mk fun σ H Q en j kn =>
  toW (pw_or tw ww) (h.go σ H _ en j fun c H1 s1 e1 j1 ⟨p1, p0⟩ => by
    cases c with
    | false => exact (p1 rfl).go σ H1 Q (W.em e1 en) j1 (kn.ex e1)
    | true => exact kn true H1 s1 e1 j1 (p0 rfl))
theorem dt_not (h : dT X W ρ s a fun c s1 => Ψ (!c) s1) : dT X W ρ s (.UnaryOp .Not a pos) Ψ := .mk fun σ H Q en j kn => toT (pt_not tw) (h.go σ H _ en j fun c H1 s1 e1 j1 p => kn (!c) H1 s1 e1 j1 p)
theorem dt_val (h : dE X W ρ s e fun x s1 => IsB x fun c => Ψ c s1) (he : ∀ wh, isTrue e X.env wh = (do let v ← wh; standAt e.pos; holding [v] (truthy v)) := by intro _; rfl) : dT X W ρ s e Ψ := .mk fun σ H Q en j kn =>
  toT (pt_val pw he) (h.go σ H _ en j fun v H1 x s1 e1 j1 v1 ⟨c, hx, p⟩ => by subst hx; exact ⟨c, bool_of v1, kn c H1 s1 e1 j1 p⟩)
theorem de_if (h : dT X W ρ s c fun k s1 => (k = true → dE X W ρ s1 a Φ) ∧ (k = false → dE X W ρ s1 b Φ)) : dE X W ρ s (.IfExp c a b pos) Φ := .mk fun σ H Q en j kn =>
  toE (pe_ifExp tw pw pw) (h.go σ H _ en j fun k H1 s1 e1 j1 ⟨p1, p0⟩ => by
    cases k with
    | true => exact (p1 rfl).go σ H1 Q (W.em e1 en) j1 (kn.ex e1)
    | false => exact (p0 rfl).go σ H1 Q (W.em e1 en) j1 (kn.ex e1))

/-! ### argument lists, displays -/
variable {Ω : List Vl → S → Prop}
theorem da_nil (h : Ω [] s) : dA X W ρ s [] Ω := .mk fun σ H Q en j kn => toA pa_nil (kn [] H [] s Ex.rfl' j .nil h)
theorem Paired.up {K : PySem.W.Frag} {M : Addr → Prop} {H H1 : Hp} (e : Ex M H H1) : ∀ {vs : List V} {xs : List Vl}, Paired (Vt K M H) vs xs → Paired (Vt K M H1) vs xs
  | _, _, .nil => .nil
  | _, _, .cons a b => .cons (a.mono e) (Paired.up e b)
theorem da_cons (h : dE X W ρ s e fun x s1 => dA X W ρ s1 es fun xs s2 => Ω (x :: xs) s2) (hs : starEach (e :: es) X.env = (false, eval e X.env) :: starEach es X.env := by rfl) : dA X W ρ s (e :: es) Ω := .mk fun σ H Q en j kn =>
  toA (pa_cons pw aw hs) (h.go σ H _ en j fun v H1 x s1 e1 j1 v1 hr => hr.go σ H1 _ (W.em e1 en) j1 fun vs H2 xs s2 e2 j2 v2 p => kn (v :: vs) H2 (x :: xs) s2 (e1.trans e2) j2 (.cons (W.vm e2 v1) v2) p)
/-- all of them data -/
def allD : List Vl → Option (List PyData)
  | [] => some []
  | .d x :: l => (allD l).map (x :: ·)
  | .v _ :: _ => none
theorem allD_ok {K : PySem.W.Frag} {M : Addr → Prop} {H : Hp} : ∀ {vs : List V} {xs : List Vl} {ds : List PyData}, allD xs = some ds → Paired (Vt K M H) vs xs → DtA K M H vs ds
  | _, _, _, h, .nil => by cases h; exact .nil
  | _, .d y :: l, ds, h, .cons a b => by
    obtain ⟨es, h1, h2⟩ := Option.map_eq_some_iff.mp (show (allD l).map (y :: ·) = some ds from h)
    subst h2
    exact .cons a (allD_ok h1 b)
  | _, .v y :: l, ds, h, .cons a b => by cases h
def AllD (xs : List Vl) (Ψ : List PyData → Prop) : Prop := ∃ ds, allD xs = some ds ∧ Ψ ds
theorem de_tup {k : Nat} (h : dA X W ρ s es fun xs s1 => AllD xs fun ds => ds.length ≤ sizeLine ∧ Φ (.d (.tuple ds)) s1) : dE X W ρ s (.Tuple es k pos) Φ := .mk fun σ H Q en j kn =>
  toE (pe_tup aw) (h.go σ H _ en j fun vs H1 xs s1 e1 j1 v1 ⟨ds, hx, hl, p⟩ => by
    have q := allD_ok hx v1
    refine ⟨by rw [q.len]; exact hl, fun a ha => kn _ _ (.d (.tuple ds)) s1 (e1.trans (Ex.of (same_new ha))) (j1.same (same_new ha)) ?_ p⟩
    exact .tup (j1.new ha) upd_same (q.mono (Ex.of (same_new ha))))
theorem de_lst (h : dA X W ρ s es fun xs s1 => AllD xs fun ds => ds.length ≤ sizeLine ∧ Φ (.d (.list ds)) s1) : dE X W ρ s (.List es pos) Φ := .mk fun σ H Q en j kn =>
  toE (pe_lst aw) (h.go σ H _ en j fun vs H1 xs s1 e1 j1 v1 ⟨ds, hx, hl, p⟩ => by
    have q := allD_ok hx v1
    refine ⟨by rw [q.len]; exact hl, fun a ha => kn _ _ (.d (.list ds)) s1 (e1.trans (Ex.of (same_new ha))) (j1.same (same_new ha)) ?_ p⟩
    exact .lst (j1.new ha) upd_same (q.mono (Ex.of (same_new ha))))

/-! ### subscripts, slices -/
theorem de_ix {F : PyData → PyData → Option PyData} (hop : IxR X (rD X.K F)) (h : dE X W ρ s a fun x s1 => dE X W ρ s1 b fun y s2 => Op2 F x y fun z => Φ z s2) (hs : PlainIx b := by intro _ _; rfl) : dE X W ρ s (.Subscript a b pos) Φ := .mk
  fun σ H Q en j kn => toE (pe_ix hop pw pw hs) (two h en j kn)
/-- a slice's part -/
def dO (X : Cx) (W : Wd S) (ρ : Rho) (s : S) : Option Expr → (Option Int → S → Prop) → Prop
  | none, Ψ => Ψ none s
  | some e, Ψ => dE X W ρ s e fun x s1 => ∃ i, x = .d (.int i) ∧ Ψ (some i) s1
def wO (X : Cx) : Option Expr → TO
  | none => tNoPart
  | some e => tPart (wE X e)
theorem ow : ∀ (o : Option Expr), PO X o (wO X o)
  | none => po_none
  | some _ => po_some pw
theorem dO_run {o : Option Expr} {Ψ : Option Int → S → Prop} {σ : L2.St} {H : Hp} {Q : Option Int → Hp → Prop} (h : dO X W ρ s o Ψ) (en : En X.K W.M H σ ρ) (j : W.At s H) (kn : ∀ i H1 s1, Ex W.C H H1 → W.At s1 H1 → Ψ i s1 → Q i H1) : wO X o σ H Q := by
  cases o with
  | none => exact kn none H s Ex.rfl' j h
  | some e =>
    exact h.go σ H _ en j fun v H1 x s1 e1 j1 v1 ⟨i, hx, p⟩ => by
      subst hx
      cases v1
      exact ⟨i, rfl, kn (some i) H1 s1 e1 j1 p⟩
def rDs (K : PySem.W.Frag) (F : PyData → Option Int → Option Int → Option PyData) : V → Option Int → Option Int → Hp → VK → Prop := fun x lo hi H Q => ∃ (M : Addr → Prop) (d z : PyData), (∀ b, M b → H b ≠ none) ∧ Dt K M H x d ∧ F d lo hi = some z ∧ ∀ v H', Same H H' → Dt K M H' v z → Q v H'
theorem de_slice {F : PyData → Option Int → Option Int → Option PyData} {lo hi : Option Expr} {p2 : Pos} (hr : SlR X (rDs X.K F)) (h : dE X W ρ s e fun x s1 => dO X W ρ s1 lo fun l s2 => dO X W ρ s2 hi fun u s3 => ∃ d z, x = .d d ∧ F d l u = some z ∧ Φ (.d z) s3) :
    dE X W ρ s (.Subscript e (.Slice lo hi none p2) pos) Φ := .mk fun σ H Q en j kn =>
  toE (pe_slice hr pw (ow lo) (ow hi)) (h.go σ H _ en j fun v H1 x s1 e1 j1 v1 h1 => dO_run h1 (W.em e1 en) j1 fun l H2 s2 e2 j2 h2 => dO_run h2 (W.em (e1.trans e2) en) j2 fun u H3 s3 e3 j3 ⟨d, z, hx, hz, p⟩ => by
    subst hx
    exact ⟨W.M, d, z, j3.2, W.dm (e2.trans e3) v1, hz, fun v' H4 sm dt => kn v' H4 (.d z) s3 (((e1.trans e2).trans e3).trans (Ex.of sm)) (j3.same sm) dt p⟩)

/-! ### built-in calls, methods -/
def rDc (K : PySem.W.Frag) (F : List PyData → Option PyData) : List V → Hp → VK → Prop := fun vs H Q => ∃ (M : Addr → Prop) (ds : List PyData) (z : PyData), (∀ b, M b → H b ≠ none) ∧ DtA K M H vs ds ∧ F ds = some z ∧ ∀ v H', Same H H' → Dt K M H' v z → Q v H'
theorem de_callB {F : List PyData → Option PyData} {id : String} {p : Pos} (hc : CallR X (.builtin id) (rDc X.K F)) (hm : X.mg x = none) (h : dA X W ρ s (e :: es) fun xs s1 => AllD xs fun ds => ∃ z, F ds = some z ∧ Φ (.d z) s1)
    (hv : bootBuiltins x = some (.builtin id) := by decide +kernel) (hg : Gl X x := by rfl) (hn : x ≠ "__name__" := by decide) (hdb : (x == ("__debug__" : Str)) = false := by decide)
    (he : starEach (e :: es) X.env = (false, eval e X.env) :: starEach es X.env := by rfl) (hpl : (backTo pos (starEach es X.env)).any (·.1) = false := by rfl) : dE X W ρ s (.Call (.Name x p) (e :: es) [] pos) Φ := .mk fun σ H Q en j kn =>
  toE (pe_callB hc hg hm hv aw hn hdb he hpl) (h.go σ H _ en j fun vs H1 xs s1 e1 j1 v1 ⟨ds, hx, z, hz, p⟩ =>
    ⟨W.M, ds, z, j1.2, allD_ok hx v1, hz, fun v' H4 sm dt => kn v' H4 (.d z) s1 (e1.trans (Ex.of sm)) (j1.same sm) dt p⟩)
theorem de_callTy {F : List PyData → Option PyData} {id : String} {p : Pos} (hc : CallR X (.type id) (rDc X.K F)) (hm : X.mg x = none) (h : dA X W ρ s (e :: es) fun xs s1 => AllD xs fun ds => ∃ z, F ds = some z ∧ Φ (.d z) s1)
    (hv : bootBuiltins x = some (.type id) := by decide +kernel) (hg : Gl X x := by rfl) (hn : x ≠ "__name__" := by decide) (hdb : (x == ("__debug__" : Str)) = false := by decide)
    (he : starEach (e :: es) X.env = (false, eval e X.env) :: starEach es X.env := by rfl) (hpl : (backTo pos (starEach es X.env)).any (·.1) = false := by rfl) : dE X W ρ s (.Call (.Name x p) (e :: es) [] pos) Φ := .mk fun σ H Q en j kn =>
  toE (pe_callTy hc hg hm hv aw hn hdb he hpl) (h.go σ H _ en j fun vs H1 xs s1 e1 j1 v1 ⟨ds, hx, z, hz, p⟩ =>
    ⟨W.M, ds, z, j1.2, allD_ok hx v1, hz, fun v' H4 sm dt => kn v' H4 (.d z) s1 (e1.trans (Ex.of sm)) (j1.same sm) dt p⟩)
end
end Fw

set_option Elab.async false
set_option linter.all false
set_option maxRecDepth 100000
set_option maxHeartbeats 2000000
namespace Fw
open PySem PySem.Spec PyProof.Rows L2

/-! ### what is walked -/
mutual
theorem Dt.less {K : PySem.W.Frag} {M M' : Addr → Prop} {H : Hp} (h : ∀ b, M b → M' b) : ∀ {v : V} {d : PyData}, Dt K M' H v d → Dt K M H v d
  | _, _, .non => .non
  | _, _, .bl b => .bl b
  | _, _, .int b => .int b
  | _, _, .str b => .str b
  | _, _, .lst n h1 h2 => .lst (fun z => n (h _ z)) h1 (DtA.less h h2)
  | _, _, .tup n h1 h2 => .tup (fun z => n (h _ z)) h1 (DtA.less h h2)
  | _, _, .wtp h1 h2 => .wtp h1 (DtA.less h h2)
  | _, _, .dic n h1 h2 => .dic (fun z => n (h _ z)) h1 (DtA.less h h2)
theorem DtA.less {K : PySem.W.Frag} {M M' : Addr → Prop} {H : Hp} (h : ∀ b, M b → M' b) : ∀ {vs : List V} {ds : List PyData}, DtA K M' H vs ds → DtA K M H vs ds
  | _, _, .nil => .nil
  | _, _, .cons h1 h2 => .cons (Dt.less h h1) (DtA.less h h2)
end
mutual
/-- an object that was not there ahead is none of theirs -/
theorem Dt.more {K : PySem.W.Frag} {M M' : Addr → Prop} {H : Hp} (h : ∀ b, M' b → ¬ M b → H b = none) : ∀ {v : V} {d : PyData}, Dt K M H v d → Dt K M' H v d
  | _, _, .non => .non
  | _, _, .bl b => .bl b
  | _, _, .int b => .int b
  | _, _, .str b => .str b
  | _, _, .lst n h1 h2 => .lst (fun z => by have q := h _ z n; rw [h1] at q; cases q) h1 (DtA.more h h2)
  | _, _, .tup n h1 h2 => .tup (fun z => by have q := h _ z n; rw [h1] at q; cases q) h1 (DtA.more h h2)
  | _, _, .wtp h1 h2 => .wtp h1 (DtA.more h h2)
  | _, _, .dic n h1 h2 => .dic (fun z => by have q := h _ z n; rw [h1] at q; cases q) h1 (DtA.more h h2)
theorem DtA.more {K : PySem.W.Frag} {M M' : Addr → Prop} {H : Hp} (h : ∀ b, M' b → ¬ M b → H b = none) : ∀ {vs : List V} {ds : List PyData}, DtA K M H vs ds → DtA K M' H vs ds
  | _, _, .nil => .nil
  | _, _, .cons h1 h2 => .cons (Dt.more h h1) (DtA.more h h2)
end
/-- the iterator J yields the data ds, wherever what is not of C stands as in H0 -/
structure ItD (K : PySem.W.Frag) (C M : Addr → Prop) (H0 : Hp) (J : It) (ds : List PyData) : Prop where
  go : ∀ i H, Ex C H0 H → i < ds.length → J.go i H
  yl : ∀ (M' : Addr → Prop) i H x H', (∀ b, M b → M' b) → (∀ b, M' b → ¬ M b → H0 b = none) → Ex C H0 H → (∀ b, M' b → H b ≠ none) → J.yld i H x H' → i < ds.length → Same H H' ∧ ∃ d, ds[i]? = some d ∧ Dt K M' H' x d
  st : ∀ i H, Ex C H0 H → ds.length ≤ i → J.stop i H
def wI (X : Cx) (tg e : Expr) : TI := fun σ H R => ∀ (pins : List (Addr × Obj)) (s : Shared), Inv X pins σ H s → wpAny (model X.prog X.w) X.A (eval e X.env) (fun v s1 => wpAny (model X.prog X.w) X.A (pyIter v) (PIE X pins σ tg R) X.xe s1) X.xe s
theorem iw {X : Cx} {tg e : Expr} : PI X tg e (wI X tg e) := ⟨fun pins s _ _ _ I h => h pins s I⟩
theorem toI {X : Cx} {tg e : Expr} {t : TI} {σ : L2.St} {H : Hp} {R : It → Hp → Prop} (h : PI X tg e t) (q : t σ H R) : wI X tg e σ H R := fun pins s I => h.run pins s σ H R I q
def signs (z : Str) : List PyData := z.cps.toList.map fun c => .str ⟨#[c]⟩
/-- the items of a datum -/
def itemsD : Vl → Option (List PyData)
  | .d (.list ds) => some ds
  | .d (.tuple ds) => some ds
  | .d (.str z) => some (signs z)
  | _ => none
section
variable {S : Type} {X : Cx} {W : Wd S} {ρ : Rho} {s : S} {Φ : Vl → S → Prop} {a b c e tg elt : Expr} {es ifs : List Expr} {pos py : Pos} {x y : Str} {Λ : List PyData → S → Prop}
structure dI (X : Cx) (W : Wd S) (ρ : Rho) (s : S) (tg e : Expr) (Λ : List PyData → S → Prop) : Prop where
  go : ∀ σ H R, En X.K W.M H σ ρ → W.At s H →
  (∀ J H1 ds s1, Ex W.C H H1 → W.At s1 H1 → ItD X.K W.C W.M H1 J ds → Λ ds s1 → R J H1) → wI X tg e σ H R
theorem itd_list {H : Hp} {l : Addr} {xs : List V} {ds : List PyData} (n : ¬ W.M l) (h : H l = some (.lst xs)) (hd : DtA X.K W.M H xs ds) : ItD X.K W.C W.M H (Itl X.K l) ds where
  go := fun i H1 e1 hi => by
    obtain ⟨v, q, _⟩ := hd.get (List.getElem?_eq_getElem hi)
    exact ⟨xs, v, SqL.of (e1 l _ (fun c => n (W.sub c)) h), q⟩
  yl := fun M' i H1 v H2 m1 m2 e1 _ y hi => by
    obtain ⟨rfl, q⟩ := y
    have q1 := q xs (SqL.of (e1 l _ (fun c => n (W.sub c)) h))
    obtain ⟨d, h1, h2⟩ := hd.getV q1
    exact ⟨fun _ _ z => z, d, h1, Dt.mono (fun b o nb z => e1 b o (fun c => nb (m1 b (W.sub c))) z) (h2.more m2)⟩
  st := fun i H1 e1 hi => ⟨xs, SqL.of (e1 l _ (fun c => n (W.sub c)) h), by rw [hd.len]; exact hi⟩
theorem itd_tup {H : Hp} {l : Addr} {xs : List V} {ds : List PyData} (h : ∀ H1, Ex W.M H H1 → SqT X.K H1 l xs) (hd : DtA X.K W.M H xs ds) : ItD X.K W.C W.M H (Itt X.K l) ds where
  go := fun i H1 e1 hi => by
    obtain ⟨v, q, _⟩ := hd.get (List.getElem?_eq_getElem hi)
    exact ⟨xs, v, h H1 (W.up e1), q⟩
  yl := fun M' i H1 v H2 m1 m2 e1 _ y hi => by
    obtain ⟨rfl, q⟩ := y
    obtain ⟨d, h1, h2⟩ := hd.getV (q xs (h _ (W.up e1)))
    exact ⟨fun _ _ z => z, d, h1, Dt.mono (fun b o nb z => e1 b o (fun c => nb (m1 b (W.sub c))) z) (h2.more m2)⟩
  st := fun i H1 e1 hi => ⟨xs, h H1 (W.up e1), by rw [hd.len]; exact hi⟩
theorem itd_str {H : Hp} {z : Str} : ItD X.K W.C W.M H (Its z) (signs z) where
  go := fun i H1 _ hi => show i < z.cps.size by simpa [signs] using hi
  yl := fun M' i H1 v H2 _ _ _ _ y hi => by
    obtain ⟨rfl, c, q, rfl⟩ := y
    refine ⟨fun _ _ z => z, .str ⟨#[c]⟩, ?_, .str _⟩
    have q' : z.cps.toList[i]? = some c := by rw [Array.getElem?_toList]; exact q
    unfold signs
    rw [List.getElem?_map, q']
    rfl
  st := fun i H1 _ hi => show z.cps.size ≤ i by simpa [signs] using hi
def intsD (n : Nat) : List PyData := (List.range n).map fun (i : Nat) => PyData.int (i : Int)
theorem itd_rng {H : Hp} {n : Nat} : ItD X.K W.C W.M H (Itr 0 n) (intsD n) where
  go := fun i H1 _ hi => show i < n by simpa [intsD] using hi
  yl := fun M' i H1 v H2 _ _ _ _ y hi => by
    obtain ⟨rfl, rfl⟩ := y
    refine ⟨fun _ _ z => z, .int (0 + (i : Int)), ?_, .int _⟩
    have hi' : i < n := by simpa [intsD] using hi
    unfold intsD
    rw [List.getElem?_map, List.getElem?_range hi', Int.zero_add]
    rfl
  st := fun i H1 _ hi => show n ≤ i by simpa [intsD] using hi
/-- over a list, a tuple, a text -/
theorem di_any (h : dE X W ρ s e fun x s1 => ∃ ds, itemsD x = some ds ∧ Λ ds s1) : dI X W ρ s tg e Λ := .mk fun σ H R en j kn pins sh I => by
  refine thn (h.go σ H (fun v H1 => ∃ x s1 ds, Ex W.C H H1 ∧ W.At s1 H1 ∧ Vt X.K W.M H1 v x ∧ itemsD x = some ds ∧ Λ ds s1) en j (fun v H1 x s1 e1 j1 v1 ⟨ds, hi, p⟩ => ⟨x, s1, ds, e1, j1, v1, hi, p⟩) pins sh I) fun v s2 ⟨u, H1, J, r, x, s1, ds, e1, j1, v1, hi, p⟩ => ?_
  cases x with
  | v y => cases hi
  | d y =>
    cases y with
    | list l =>
      cases hi
      cases (show Dt X.K W.M H1 u (.list ds) from v1) with
      | lst n h1 h2 =>
        cases r
        obtain ⟨its, _, q, _⟩ := J.list (SqL.of h1)
        exact wpAny_pyIter_list q.isList (pi_one (tk := s2.toks) J _ (turn_list _ _) ⟨_, Heap.get?_push_size _ rfl, rfl, rfl⟩ (kn _ H1 _ s1 e1 j1 (itd_list n h1 h2) p))
    | tuple l =>
      cases hi
      obtain ⟨l', xs, rfl, h1, h2, h3⟩ := (show Dt X.K W.M H1 u (.tuple ds) from v1).isT
      cases r
      obtain ⟨its, _, q, _⟩ := J.tuple h1
      exact wpAny_pyIter_tuple q (pi_one (tk := s2.toks) J _ (turn_tuple _ _) ⟨_, Heap.get?_push_size _ rfl, rfl, rfl⟩ (kn _ H1 _ s1 e1 j1 (itd_tup h3 h2) p))
    | str z =>
      cases hi
      cases (show Dt X.K W.M H1 u (.str z) from v1)
      obtain ⟨t, rfl⟩ := r
      cases ha : z.cps.all (· < 128)
      · exact wpAny_pyIter_wide ha (pi_one (tk := s2.toks) J _ (turn_str _ z t _ (.inr rfl)) ⟨_, Heap.get?_push_size _ rfl, rfl, rfl⟩ (kn _ H1 _ s1 e1 j1 itd_str p))
      · exact wpAny_pyIter_ascii ha (pi_one (tk := s2.toks) J _ (turn_str _ z t _ (.inl rfl)) ⟨_, Heap.get?_push_size _ rfl, rfl, rfl⟩ (kn _ H1 _ s1 e1 j1 itd_str p))
    | none => cases hi
    | bool _ => cases hi
    | int _ => cases hi
    | dict _ => cases hi
theorem di_range {p : Pos} (hm : X.mg "range" = none) (h : dE X W ρ s e fun x s1 => ∃ n : Int, x = .d (.int n) ∧ (-(2 ^ 62) ≤ n ∧ n < 2 ^ 62) ∧ Λ (intsD n.toNat) s1) (hg : Gl X "range" := by rfl) (hs : starEach [e] X.env = [(false, eval e X.env)] := by rfl) :
    dI X W ρ s tg (.Call (.Name "range" p) [e] [] pos) Λ := .mk fun σ H R en j kn =>
  toI (pi_range1 hg hm (pa_cons pw pa_nil hs) hs) (h.go σ H _ en j fun v H1 x s1 e1 j1 v1 ⟨n, hx, hb, q⟩ => by
    subst hx
    cases v1
    exact ⟨n, rfl, hb.1, hb.2, kn _ H1 _ s1 e1 j1 itd_rng q⟩)

/-! ### targets -/
def dG (X : Cx) (W : Wd S) (ρ : Rho) (s : S) (tg : Expr) (x : Vl) (Ψ : Rho → S → Prop) : Prop := ∀ σ H v (Q : L2.St → Hp → Prop), En X.K W.M H σ ρ → W.At s H → Vt X.K W.M H v x → (∀ σ' ρ' s', W.At s' H → En X.K W.M H σ' ρ' → Ψ ρ' s' → Q σ' H) →
  ∀ (pins : List (Addr × Obj)) (sh : Shared) (u : Value), Inv X pins σ H sh → RelV v u → wpAny (model X.prog X.w) X.A (assign tg X.env u) (fun _ s' => ∃ σ' H', Inv X pins σ' H' s' ∧ Q σ' H') X.xe sh

/-! ### statements -/
variable {Δ : DE S} {st : Stmt} {sts body : List Stmt}
theorem db_nil (h : Δ.nx ρ s) : dB X W ρ s [] Δ := .mk fun σ H D en j kn => toB pss_nil (kn.nx σ H ρ s Ex.rfl' j en h)
theorem db_cons (h : dS X W ρ s st { Δ with nx := fun ρ1 s1 => dB X W ρ1 s1 sts Δ }) : dB X W ρ s (st :: sts) Δ := .mk fun σ H D en j kn =>
  toB (pss_cons sw bw) (h.go σ H _ en j ⟨fun σ1 H1 ρ1 s1 e1 j1 en1 hb => hb.go σ1 H1 D en1 j1 (kn.ex e1), kn.rt, kn.bk, kn.ct⟩)
theorem ds_ret (h : dE X W ρ s e fun x s1 => Δ.rt x s1) : dS X W ρ s (.Return (some e) pos) Δ := .mk fun σ H D en j kn =>
  toS (ps_ret pw) (h.go σ H _ en j fun v H1 x s1 e1 j1 v1 p => kn.rt v H1 x s1 e1 j1 v1 p)
theorem ds_expr (h : dE X W ρ s e fun _ s1 => Δ.nx ρ s1) (hs : swapsWith e none pos.line X.env = pure false := by rfl) : dS X W ρ s (.Expr e pos) Δ := .mk fun σ H D en j kn =>
  toS (ps_expr pw hs) (h.go σ H _ en j fun v H1 x s1 e1 j1 v1 p => kn.nx σ H1 ρ s1 e1 j1 (W.em e1 en) p)
theorem ds_set {pos' : Pos} (h : dE X W ρ s e fun v s1 => Δ.nx (ρ.set (X.N.idxOf x) (some v)) s1) (nd : X.N.Nodup) (hN : X.N[X.N.idxOf x]? = some x := by rfl) (hx : Loc X.env.scope x := by first | exact .inl rfl | exact .inr rfl)
    (hs : swapsWith e (some (.Name x pos')) pos.line X.env = pure false := by rfl) (hf : X.fn x = true ∨ X.env.scope.names.lookup x = some .local := by first | exact .inl rfl | exact .inr rfl) : dS X W ρ s (.Assign [.Name x pos'] e pos) Δ := .mk fun σ H D en j kn =>
  toS (ps_set nd hN hx pw hs hf) (h.go σ H _ en j fun v H1 vl s1 e1 j1 v1 p => kn.nx _ H1 _ s1 e1 j1 ((W.em e1 en).set _ v1) p)
theorem ds_par {a b : Expr} {px py' pt pt2 : Pos} {kt k2 : Nat} (h : dE X W ρ s a fun v s1 => dE X W ρ s1 b fun u s2 => Δ.nx ((ρ.set (X.N.idxOf x) (some v)).set (X.N.idxOf y) (some u)) s2) (nd : X.N.Nodup)
    (hc : X.calm = true := by rfl) (hi : X.N[X.N.idxOf x]? = some x := by rfl) (hj : X.N[X.N.idxOf y]? = some y := by rfl) (hij : X.N.idxOf x ≠ X.N.idxOf y := by decide) (hx : X.env.scope.names.lookup x = some .local := by rfl) (hy : X.env.scope.names.lookup y = some .local := by rfl)
    (hw : swappedStores [.Tuple [.Name x px, .Name y py'] kt pt] (.Tuple [a, b] k2 pt2) X.env = pure (some [x, y]) := by rfl) (hs : swapsWithSole [.Tuple [.Name x px, .Name y py'] kt pt] (.Tuple [a, b] k2 pt2) pos.line X.env = pure false := by rfl)
    (h1 : starEach [a, b] X.env = (false, eval a X.env) :: starEach [b] X.env := by rfl) (h2 : starEach [b] X.env = (false, eval b X.env) :: starEach [] X.env := by rfl) :
    dS X W ρ s (.Assign [.Tuple [.Name x px, .Name y py'] kt pt] (.Tuple [a, b] k2 pt2) pos) Δ := .mk fun σ H D en j kn =>
  toS (ps_par hc nd hi hj hij hx hy (pa_cons pw (pa_cons pw pa_nil h2) h1) hw hs) (h.go σ H _ en j fun v H1 vl s1 e1 j1 v1 hb => hb.go σ H1 _ (W.em e1 en) j1 fun u H2 ul s2 e2 j2 v2 p =>
    ⟨v, u, rfl, kn.nx _ H2 _ s2 (e1.trans e2) j2 (((W.em (e1.trans e2) en).set _ (W.vm e2 v1)).set _ v2) p⟩)
theorem ds_if {b1 b2 : List Stmt} (h : dT X W ρ s c fun k s1 => (k = true → dB X W ρ s1 b1 Δ) ∧ (k = false → dB X W ρ s1 b2 Δ)) : dS X W ρ s (.If c b1 b2 pos) Δ := .mk fun σ H D en j kn =>
  toS (ps_if tw bw bw) (h.go σ H _ en j fun k H1 s1 e1 j1 ⟨p1, p0⟩ => by
    cases k with
    | true => exact (p1 rfl).go σ H1 D (W.em e1 en) j1 (kn.ex e1)
    | false => exact (p0 rfl).go σ H1 D (W.em e1 en) j1 (kn.ex e1))
/-- for y in ..: Iv by the turn, the slots, the state -/
theorem ds_for (h : dI X W ρ s (.Name y py) e fun ds s1 => ∃ Iv : Nat → Rho → S → Prop, Iv 0 ρ s1 ∧
      (∀ k d ρ1 s2, ds[k]? = some d → Iv k ρ1 s2 → dB X W (ρ1.set (X.N.idxOf y) (some (.d d))) s2 body { nx := Iv (k + 1), rt := Δ.rt, bk := Δ.nx, ct := Iv (k + 1) }) ∧ ∀ ρ1 s2, Iv ds.length ρ1 s2 → Δ.nx ρ1 s2)
    (hp : PassesOwn (model X.prog X.w) X.A X.env X.xe) (nd : X.N.Nodup) (hc : X.calm = true := by rfl) (hN : X.N[X.N.idxOf y]? = some y := by rfl) (hx : Loc X.env.scope y := by first | exact .inl rfl | exact .inr rfl)
    (hf : X.fn y = true ∨ X.env.scope.names.lookup y = some .local := by first | exact .inl rfl | exact .inr rfl) (hs : ∀ x, foldedSetIterable e X.env x = pure x := by intro _; rfl) : dS X W ρ s (.For (.Name y py) e body [] pos) Δ := .mk fun σ H D en j kn =>
  toS (ps_for hp hc iw (pg_name nd hN hx hf) bw hs) (h.go σ H _ en j fun J H1 ds s1 e1 j1 it ⟨Iv, h0, hb, hd⟩ => by
    refine ⟨fun i m σ2 H2 => m = ds.length - i ∧ i ≤ ds.length ∧ Ex W.C H1 H2 ∧ ∃ ρ2 s2, W.At s2 H2 ∧ En X.K W.M H2 σ2 ρ2 ∧ Iv i ρ2 s2, ⟨ds.length, rfl, Nat.zero_le _, Ex.rfl', ρ, s1, j1, W.em e1 en, h0⟩, ?_⟩
    rintro i m σ2 H2 ⟨rfl, hi, e2, ρ2, s2, j2, en2, iv⟩
    by_cases hl : i < ds.length
    · refine .inr ⟨it.go i H2 e2 hl, fun σ3 H3 => Ex W.C H1 H3 ∧ ∃ ρ2 s2, W.At s2 H3 ∧ En X.K W.M H3 σ3 ρ2 ∧ Iv (i + 1) ρ2 s2, fun σ3 H3 ⟨q1, q2⟩ => ⟨ds.length - (i + 1), by omega, rfl, hl, q1, q2⟩, fun v H3 yl => ?_⟩
      obtain ⟨sm, d, q1, q2⟩ := it.yl W.M i H2 v H3 (fun _ m => m) (fun _ m n => absurd m n) e2 j2.2 yl hl
      have e3 := e2.trans (Ex.of sm)
      refine (hb i d ρ2 s2 q1 iv).go (σ2.set (X.N.idxOf y) (some v)) H3 _ ((W.em (Ex.of sm) en2).set _ (x := .d d) q2) (j2.same sm) ⟨fun σ4 H4 ρ4 s4 e4 j4 en4 p => ⟨e3.trans e4, ρ4, s4, j4, en4, p⟩, fun v4 H4 x4 s4 e4 j4 v4' p => kn.rt v4 H4 x4 s4 (e1.trans (e3.trans e4)) j4 v4' p,
        fun σ4 H4 ρ4 s4 e4 j4 en4 p => kn.nx σ4 H4 ρ4 s4 (e1.trans (e3.trans e4)) j4 en4 p, fun σ4 H4 ρ4 s4 e4 j4 en4 p => ⟨e3.trans e4, ρ4, s4, j4, en4, p⟩⟩
    · have ei : i = ds.length := by omega
      subst ei
      exact .inl ⟨it.st _ H2 e2 (Nat.le_refl _), kn.nx σ2 H2 ρ2 s2 (e1.trans e2) j2 en2 (hd ρ2 s2 iv)⟩)

/-! ### list comprehensions -/
/-- the context of a block -/
structure Bk where
  s : Shared
  H : Hp
  C : Addr
  cl : List (Str × Addr)
  fp : List Addr
abbrev bx (X : Cx) (scope : Scope) (b : Bk) : Cx := X.blk b.s b.H scope (compEnvC scope b.cl b.C X.env) b.fp
/-- the same world, with one object more that data lies apart from -/
def Wd.plus (W : Wd S) (D : Addr) : Wd S where
  M := fun b => W.M b ∨ b = D
  C := W.C
  J := W.J
  sub := fun c => .inl (W.sub c)
  keep := W.keep
def wTs (X : Cx) : List Expr → TT
  | [] => tYes
  | [c] => wT X c
  | _ => fun _ _ _ => False
def dTs (X : Cx) (W : Wd S) (ρ : Rho) (s : S) : List Expr → (Bool → S → Prop) → Prop
  | [], Ψ => Ψ true s
  | [c], Ψ => dT X W ρ s c Ψ
  | _, _ => False
theorem wipe_one (σ : L2.St) (i : Nat) (v : V) : wipe ((wipe σ [i]).set i (some v)) [i] = wipe σ [i] := by
  simp [wipe]
/-- [elt for y in e if ..]: Iv by the turn, what is made so far, the state -/
theorem lcOf {scope : Scope} {i : Nat} (hN : X.N[i]? = some y) (nd : X.N.Nodup) (hc : X.calm = true) (ok : BlkOk X.N X.env.scope scope [(y, i)])
    (hl : ∀ b : Bk, PG (bx X scope b) (.Name y py) (gName i)) (hif : ifs.length ≤ 1) (hs : ∀ x, foldedSetIterable e X.env x = pure x)
    (h : dI X W ρ s (.Name y py) e fun ds s1 => ds.length < sizeLine ∧ ∃ Iv : Nat → List PyData → S → Prop, Iv 0 [] s1 ∧
      (∀ D k d acc s2, ds[k]? = some d → Iv k acc s2 → ∀ b : Bk, dTs (bx X scope b) (W.plus D) ((wipR ρ [i]).set i (some (.d d))) s2 ifs fun t s3 =>
        (t = true → ∀ b : Bk, dE (bx X scope b) (W.plus D) ((wipR ρ [i]).set i (some (.d d))) s3 elt fun x s4 => ∃ z, x = .d z ∧ Iv (k + 1) (acc ++ [z]) s4) ∧ (t = false → Iv (k + 1) acc s3)) ∧
      ∀ acc s2, Iv ds.length acc s2 → Φ (.d (.list acc)) s2) : ∃ wi tt te, PI X (.Name y py) e wi ∧ (∀ b : Bk, PTs (bx X scope b) ifs tt) ∧ (∀ b : Bk, PE (bx X scope b) elt te) ∧
        ∀ σ H Q, En X.K W.M H σ ρ → W.At s H → Kn X W H Φ Q → tLc wi (gName i) tt te [i] σ H Q := by
  refine ⟨wI X (.Name y py) e, fun σ H Q => ∀ b : Bk, wTs (bx X scope b) ifs σ H Q, fun σ H Q => ∀ b : Bk, wE (bx X scope b) elt σ H Q, iw, fun b => ?_, fun b => ⟨fun pins s' _ _ _ I q => q b pins s' I⟩, ?_⟩
  · match ifs, hif with
    | [], _ => exact ⟨fun pins s' σ H Q I q => pts_nil.run pins s' σ H Q I (q b)⟩
    | [_], _ => exact ⟨fun pins s' σ H Q I q => (pts_one tw).run pins s' σ H Q I (q b)⟩
  · intro σ H Q en j kn
    refine h.go σ H _ en j fun J H1 ds s1 e1 j1 it ⟨hz, Iv, h0, hb, hd⟩ D hD => ?_
    have nD : ¬ W.M D := j1.new hD
    have sD : ∀ {H2 : Hp} {o : HO}, Ex W.C H1 H2 → Ex W.C H1 (upd H2 D o) := fun {H2 o} q a u n z => by
      rw [upd_ne (ne_of_none z hD)]
      exact q a u n z
    refine ⟨fun k m H2 => m = ds.length - k ∧ k ≤ ds.length ∧ Ex W.C H1 H2 ∧ ∃ acc accV s2, (W.plus D).At s2 H2 ∧ H2 D = some (.lst accV) ∧ DtA X.K (W.plus D).M H2 accV acc ∧ acc.length ≤ k ∧ Iv k acc s2, ⟨ds.length, rfl, Nat.zero_le _, sD Ex.rfl', [], [], s1, ⟨W.keep j1.1 fun a o _ q => by rw [upd_ne (ne_of_none q hD)]; exact q, fun a m => ?_⟩, upd_same, .nil, Nat.le_refl _, h0⟩, ?_⟩
    · rcases m with m | m
      · intro z
        by_cases q : a = D
        · exact nD (q ▸ m)
        · rw [upd_ne q] at z
          exact j1.2 a m z
      · subst m
        intro z
        rw [upd_same] at z
        cases z
    rintro k m H2 ⟨rfl, hk, e2, acc, accV, s2, j2, hD2, dA2, hacc, iv⟩
    by_cases hl' : k < ds.length
    · refine .inr ⟨it.go k H2 e2 hl', fun H3 => Ex W.C H1 H3 ∧ ∃ acc accV s2, (W.plus D).At s2 H3 ∧ H3 D = some (.lst accV) ∧ DtA X.K (W.plus D).M H3 accV acc ∧ acc.length ≤ k + 1 ∧ Iv (k + 1) acc s2, fun H3 ⟨q1, q2⟩ => ⟨ds.length - (k + 1), by omega, rfl, hl', q1, q2⟩, fun v H3 yl => ?_⟩
      have m2 : ∀ a, (W.plus D).M a → ¬ W.M a → H1 a = none := fun a m n => by
        rcases m with m | m
        · exact absurd m n
        · rw [m]; exact hD
      obtain ⟨sm, d, q1, q2⟩ := it.yl (W.plus D).M k H2 v H3 (fun _ m => .inl m) m2 e2 j2.2 yl hl'
      refine ⟨wipe_one σ i v, fun b => ?_⟩
      have j3 : (W.plus D).At s2 H3 := j2.same sm
      have e3 : Ex W.C H1 H3 := e2.trans (Ex.of sm)
      have en1 : En X.K (W.plus D).M H1 σ ρ := ⟨en.len, fun n x q => by
        obtain ⟨u, z1, z2⟩ := (W.em e1 en).at_ n x q
        refine ⟨u, z1, ?_⟩
        cases x with
        | d w => exact Dt.more m2 z2
        | v w => exact z2⟩
      have en3 : En X.K (W.plus D).M H3 ((wipe σ [i]).set i (some v)) ((wipR ρ [i]).set i (some (.d d))) := (((W.plus D).em e3 en1).wip [i]).set i (x := .d d) q2
      have hD3 : H3 D = some (.lst accV) := sm D _ hD2
      have hlen : accV.length = acc.length := dA2.len
      have key : ∀ t H4 s4, Ex W.C H3 H4 → (W.plus D).At s4 H4 → ((t = true → ∀ b : Bk, dE (bx X scope b) (W.plus D) ((wipR ρ [i]).set i (some (.d d))) s4 elt fun x s5 => ∃ z, x = .d z ∧ Iv (k + 1) (acc ++ [z]) s5) ∧ (t = false → Iv (k + 1) acc s4)) →
          if t = true then (∀ b : Bk, wE (bx X scope b) elt ((wipe σ [i]).set i (some v)) H4 fun y H5 => ∃ acc', H5 D = some (.lst acc') ∧ acc'.length < sizeLine ∧ (fun H3 => Ex W.C H1 H3 ∧ ∃ acc accV s2, (W.plus D).At s2 H3 ∧ H3 D = some (.lst accV) ∧ DtA X.K (W.plus D).M H3 accV acc ∧ acc.length ≤ k + 1 ∧ Iv (k + 1) acc s2) (upd H5 D (.lst (acc' ++ [y])))) else (fun H3 => Ex W.C H1 H3 ∧ ∃ acc accV s2, (W.plus D).At s2 H3 ∧ H3 D = some (.lst accV) ∧ DtA X.K (W.plus D).M H3 accV acc ∧ acc.length ≤ k + 1 ∧ Iv (k + 1) acc s2) H4 := by
        intro t H4 s4 e4 j4 ⟨p1, p0⟩
        have nC : ¬ W.C D := fun c => nD (W.sub c)
        have hD4 : H4 D = some (.lst accV) := e4 D _ nC hD3
        cases t with
        | false =>
          rw [if_neg Bool.false_ne_true]
          exact ⟨e3.trans e4, acc, accV, s4, j4, hD4, dA2.mono (fun a o n z => e4 a o (fun c => n (.inl (W.sub c))) (sm a o z)), by omega, p0 rfl⟩
        | true =>
          rw [if_pos rfl]
          intro b
          refine (p1 rfl b).go _ H4 _ ((W.plus D).em e4 en3) j4 fun u H5 x s5 e5 j5 v5 ⟨z, hx, hp⟩ => ?_
          subst hx
          have hD5 : H5 D = some (.lst accV) := e5 D _ nC hD4
          refine ⟨accV, hD5, by omega, sD (e3.trans (Ex.trans e4 e5)), acc ++ [z], accV ++ [u], s5, ⟨W.keep j5.1 fun a o c q => ?_, fun a m => ?_⟩, upd_same, ?_, by simp; omega, hp⟩
          · rw [upd_ne (show a ≠ D from fun w => nC (w ▸ c))]
            exact q
          · by_cases w : a = D
            · rw [w, upd_same]
              exact fun z => nomatch z
            · rw [upd_ne w]
              exact j5.2 a m
          · have q5 : Ex (W.plus D).M H5 (upd H5 D (.lst (accV ++ [u]))) := fun a o n z => by
              rw [upd_ne (fun w => n (.inr w))]
              exact z
            exact (DtA.app (dA2.mono (fun a o n z => e5 a o (fun c => n (.inl (W.sub c))) (e4 a o (fun c => n (.inl (W.sub c))) (sm a o z)))) (.cons v5 .nil)).mono q5
      match ifs, hif with
      | [], _ => exact key true H3 s2 Ex.rfl' j3 (hb D k d acc s2 q1 iv b)
      | [c], _ => exact (show dT _ _ _ _ _ _ from hb D k d acc s2 q1 iv b).go _ H3 _ en3 j3 fun t H4 s4 e4 j4 p => key t H4 s4 e4 j4 p
    · have ei : k = ds.length := by omega
      subst ei
      refine .inl ⟨it.st _ H2 e2 (Nat.le_refl _), kn _ H2 (.d (.list acc)) s2 (e1.trans e2) ⟨j2.1, fun a m => j2.2 a (.inl m)⟩ (.lst nD hD2 (dA2.less fun a m => .inl m)) (hd acc s2 iv)⟩
/-- what a comprehension's source and turn must show -/
def Lc (X : Cx) (W : Wd S) (ρ : Rho) (s : S) (scope : Scope) (i : Nat) (tg e elt : Expr) (ifs : List Expr) (Φ : Vl → S → Prop) : Prop := dI X W ρ s tg e fun ds s1 => ds.length < sizeLine ∧ ∃ Iv : Nat → List PyData → S → Prop, Iv 0 [] s1 ∧
      (∀ D k d acc s2, ds[k]? = some d → Iv k acc s2 → ∀ b : Bk, dTs (bx X scope b) (W.plus D) ((wipR ρ [i]).set i (some (.d d))) s2 ifs fun t s3 =>
        (t = true → ∀ b : Bk, dE (bx X scope b) (W.plus D) ((wipR ρ [i]).set i (some (.d d))) s3 elt fun x s4 => ∃ z, x = .d z ∧ Iv (k + 1) (acc ++ [z]) s4) ∧ (t = false → Iv (k + 1) acc s3)) ∧
      ∀ acc s2, Iv ds.length acc s2 → Φ (.d (.list acc)) s2
theorem de_lc {scope : Scope} (h : Lc X W ρ s scope (X.N.idxOf y) (.Name y py) e elt ifs Φ) (nd : X.N.Nodup) (ok : BlkOk X.N X.env.scope scope [(y, X.N.idxOf y)]) (hN : X.N[X.N.idxOf y]? = some y := by rfl) (hc : X.calm = true := by rfl)
    (hl : ∀ b : Bk, Loc (bx X scope b).env.scope y := by intro _; first | exact .inl rfl | exact .inr rfl) (hf : ∀ b : Bk, (bx X scope b).fn y = true ∨ (bx X scope b).env.scope.names.lookup y = some .local := by intro _; first | exact .inl rfl | exact .inr rfl)
    (hif : ifs.length ≤ 1 := by decide) (hs : ∀ x, foldedSetIterable e X.env x = pure x := by intro _; rfl) : dE X W ρ s (.ListComp elt [⟨.Name y py, e, ifs, 0⟩] scope pos) Φ := .mk fun σ H Q en j kn => by
  obtain ⟨wi, tt, te, h1, h2, h3, h4⟩ := lcOf (py := py) hN nd hc ok (fun b => pg_name nd hN (hl b) (hf b)) hif hs h
  exact toE (pe_lc (own := [(y, X.N.idxOf y)]) hc nd h1 ok (fun a1 a2 a3 a4 a5 => pg_name nd hN (hl ⟨a1, a2, a3, a4, a5⟩) (hf ⟨a1, a2, a3, a4, a5⟩)) (fun a1 a2 a3 a4 a5 => h2 ⟨a1, a2, a3, a4, a5⟩) (fun a1 a2 a3 a4 a5 => h3 ⟨a1, a2, a3, a4, a5⟩) hs) (h4 σ H Q en j kn)
theorem ds_setLc {scope : Scope} {pos' spos : Pos} (h : Lc X W ρ s scope (X.N.idxOf y) (.Name y py) e elt ifs fun v s1 => Δ.nx (ρ.set (X.N.idxOf x) (some v)) s1) (nd : X.N.Nodup) (ok : BlkOk X.N X.env.scope scope [(y, X.N.idxOf y)])
    (hsw : swapsWith (.ListComp elt [⟨.Name y py, e, ifs, 0⟩] scope pos) (some (.Name x pos')) spos.line X.env = pure true) (hx : X.N[X.N.idxOf x]? = some x := by rfl) (hxl : X.env.scope.names.lookup x = some .local := by rfl)
    (hN : X.N[X.N.idxOf y]? = some y := by rfl) (hc : X.calm = true := by rfl)
    (hl : ∀ b : Bk, Loc (bx X scope b).env.scope y := by intro _; first | exact .inl rfl | exact .inr rfl) (hf : ∀ b : Bk, (bx X scope b).fn y = true ∨ (bx X scope b).env.scope.names.lookup y = some .local := by intro _; first | exact .inl rfl | exact .inr rfl)
    (hif : ifs.length ≤ 1 := by decide) (hs : ∀ x, foldedSetIterable e X.env x = pure x := by intro _; rfl) : dS X W ρ s (.Assign [.Name x pos'] (.ListComp elt [⟨.Name y py, e, ifs, 0⟩] scope pos) spos) Δ := .mk fun σ H D en j kn => by
  obtain ⟨wi, tt, te, h1, h2, h3, h4⟩ := lcOf (W := W) (ρ := ρ) (s := s) (Φ := fun v s1 => Δ.nx (ρ.set (X.N.idxOf x) (some v)) s1) (py := py) hN nd hc ok (fun b => pg_name nd hN (hl b) (hf b)) hif hs h
  exact toS (ps_setLc (own := [(y, X.N.idxOf y)]) hc nd hx hxl hsw h1 ok (fun a1 a2 a3 a4 a5 => pg_name nd hN (hl ⟨a1, a2, a3, a4, a5⟩) (hf ⟨a1, a2, a3, a4, a5⟩)) (fun a1 a2 a3 a4 a5 => h2 ⟨a1, a2, a3, a4, a5⟩) (fun a1 a2 a3 a4 a5 => h3 ⟨a1, a2, a3, a4, a5⟩) hs)
    (h4 σ H _ en j fun v H1 vl s1 e1 j1 v1 p => kn.nx _ H1 _ s1 e1 j1 ((W.em e1 en).set _ v1) p)
end
end Fw

set_option Elab.async false
set_option linter.all false
set_option maxRecDepth 100000
set_option maxHeartbeats 2000000
namespace Fw
open PySem PySem.Spec PyProof.Rows L2

/-! ### data read off the machine's heap -/
section
variable {X : Cx} {pins : List (Addr × Obj)} {σ : L2.St} {H : Hp} {sh : Shared} {M : Addr → Prop}
theorem keyD_reads {w : World} {P : Program} : ∀ {es : List DictEntry} {vs : List (Key × Value)}, Pairs (mixKind P w) es vs → ReadsAll sh.heap (es.map (·.key)) (vs.map fun p => keyD p.1) []
  | [], _, h => by cases h; exact .nil
  | e :: es, _, h => by
    cases h with
    | cons h1 h2 h3 =>
      have q := keyD_reads h3
      rcases keyIs_shape (show keyIs _ _ = true from h1) with ⟨i, t, e1, e2⟩ | ⟨x, t, e1, e2⟩
      · have z := ReadsAll.cons (Reads.int (h := sh.heap) i t) q
        simp only [List.map_cons, e1, e2, keyD]
        exact z
      · have z := ReadsAll.cons (Reads.str (h := sh.heap) x t) q
        simp only [List.map_cons, e1, e2, keyD]
        exact z
theorem vals_pairs {w : World} {P : Program} : ∀ {es : List DictEntry} {vs : List (Key × Value)} {kvs : List (Key × V)}, Pairs (mixKind P w) es vs → KV kvs vs → Vals (kvs.map (·.2)) (es.map (·.val)) ∧ (kvs.map fun p => keyD p.1) = vs.map fun p => keyD p.1
  | [], _, _, h, k => by cases h; cases k; exact ⟨.nil, rfl⟩
  | e :: es, _, _, h, k => by
    cases h with
    | cons h1 h2 h3 =>
      cases k with
      | cons k1 k2 =>
        obtain ⟨q1, q2⟩ := vals_pairs h3 k2
        simp only [List.map_cons, h2, k1.1, q2]
        exact ⟨.cons k1.2 q1, trivial⟩
mutual
theorem Dt.reads (I : Inv X pins σ H sh) (hS : H sysModules = none) : ∀ {v : V} {d : PyData} {u : Value}, Dt X.K M H v d → RelV v u → ∃ as, Reads sh.heap u d as ∧ sysModules ∉ as
  | _, _, _, .non, r => by cases r; exact ⟨[], .none, by simp⟩
  | _, _, _, .bl b, r => by cases r; exact ⟨[], .bool b, by simp⟩
  | _, _, _, .int b, r => by obtain ⟨t, rfl⟩ := r; exact ⟨[], .int b t, by simp⟩
  | _, _, _, .str b, r => by obtain ⟨t, rfl⟩ := r; exact ⟨[], .str b t, by simp⟩
  | _, _, _, .lst n h1 h2, r => by
    cases r
    obtain ⟨its, rv, ⟨o, n, ho, hc, _, hd⟩, _⟩ := I.list (SqL.of h1)
    obtain ⟨as, q1, q2⟩ := DtA.reads I hS h2 rv
    refine ⟨_, .list ho hc hd q1, fun z => ?_⟩
    rcases List.mem_cons.mp z with z | z
    · rw [z, h1] at hS; cases hS
    · exact q2 z
  | _, _, _, .tup n h1 h2, r => by
    cases r
    obtain ⟨its, rv, ⟨o, ho, hc, n, hd⟩, _⟩ := I.tuple (SqT.of h1)
    obtain ⟨as, q1, q2⟩ := DtA.reads I hS h2 rv
    exact ⟨_, .tuple ho hc hd q1, q2⟩
  | _, _, _, @Dt.wtp _ _ _ a xs ds h1 h2, r => by
    cases r
    have h3 : SqT X.K H a xs := by
      rcases h1 with (h1 | ⟨o, h1⟩) | h1
      · cases h1
      · cases h1
      · exact .inr h1
    obtain ⟨its, rv, ⟨o, ho, hc, n, hd⟩, _⟩ := I.tuple h3
    obtain ⟨as, q1, q2⟩ := DtA.reads I hS h2 rv
    exact ⟨_, .tuple ho hc hd q1, q2⟩
  | _, _, _, @Dt.dic _ _ _ a kvs ds n h1 h2, r => by
    cases r
    obtain ⟨_, hne, vs, kv, o, es, ep, ho, ex, hdat, _, prs, _⟩ := (show ObjOk X.prog X.w H sh.heap a (.dK kvs) from I.hok a _ h1)
    obtain ⟨rv, ek⟩ := vals_pairs prs kv
    obtain ⟨as, q1, q2⟩ := DtA.reads I hS h2 rv
    have hl : ds.length = kvs.length := by rw [← h2.len, List.length_map]
    have l1 : (((kvs.map fun p => keyD p.1).zip ds).map (·.1)) = vs.map fun p => keyD p.1 := by
      rw [← ek]
      exact List.map_fst_zip (by simp [hl])
    have l2 : (((kvs.map fun p => keyD p.1).zip ds).map (·.2)) = ds := List.map_snd_zip (by simp [hl])
    refine ⟨_, .dict (as := []) ho ex.1 hdat (by rw [l1]; exact keyD_reads prs) (by rw [l2]; exact q1), fun z => ?_⟩
    rcases List.mem_append.mp z with z | z
    · have z' : sysModules = a := by simpa using z
      rw [z', h1] at hS; cases hS
    · exact q2 z
theorem DtA.reads (I : Inv X pins σ H sh) (hS : H sysModules = none) : ∀ {vs : List V} {ds : List PyData} {us : List Value}, DtA X.K M H vs ds → Vals vs us → ∃ as, ReadsAll sh.heap us ds as ∧ sysModules ∉ as
  | _, _, _, .nil, r => by cases r; exact ⟨[], .nil, by simp⟩
  | _, _, _, .cons h1 h2, r => by
    cases r with
    | cons r1 r2 =>
      obtain ⟨as, q1, q2⟩ := Dt.reads I hS h1 r1
      obtain ⟨bs, q3, q4⟩ := DtA.reads I hS h2 r2
      exact ⟨_, .cons q1 q3, fun z => (List.mem_append.mp z).elim q2 q4⟩
end
end

/-! ### what the rules ask of the place -/
structure Rm (X : Cx) : Prop where
  g : X.A.guards = some []
  u : X.A.units + 190 < cLine
  b : X.base.get? sysModules ≠ none
  c : X.calm = true
theorem Rm.of {X : Cx} {k : Nat} (g : X.A.guards = some []) (r : Room k X.A) (b : X.base.get? sysModules ≠ none) (c : X.calm = true) : Rm X := ⟨g, by have := r.un; omega, b, c⟩
theorem Rm.sys {X : Cx} (R : Rm X) {pins : List (Addr × Obj)} {σ : L2.St} {H : Hp} {sh : Shared} (I : Inv X pins σ H sh) : H sysModules = none := by
  cases e : X.base.get? sysModules with
  | none => exact absurd e R.b
  | some o => exact (I.bs _ _ e).2
section
variable {X : Cx}
/-- a result that is no object -/
theorem plain {K : PySem.W.Frag} {M : Addr → Prop} {H : Hp} {z : PyData} {Q : VK} {v : V} (hq : ∀ v H', Same H H' → Dt K M H' v z → Q v H') (h : Dt K M H v z) : Q v H := hq v H (fun _ _ e => e) h
theorem fresh {K : PySem.W.Frag} {M : Addr → Prop} {H : Hp} {z : PyData} {Q : VK} {p : Addr} {o : HO} (hq : ∀ v H', Same H H' → Dt K M H' v z → Q v H') (hp : H p = none) (h : Dt K M (upd H p o) (.ref p) z) : Q (.ref p) (upd H p o) := hq _ _ (same_new hp) h
/-! ### arithmetic -/
def b2 (b : Bool) : Int := if b = true then 1 else 0
/-- z, if n is no more than the line -/
def lim (n : Nat) (z : PyData) : Option PyData := if n ≤ sizeLine then some z else none
theorem lim_some {n : Nat} {z w : PyData} (h : lim n z = some w) : n ≤ sizeLine ∧ z = w := by
  unfold lim at h
  split at h
  · exact ⟨by assumption, Option.some.inj h⟩
  · cases h
theorem lim_ok {n : Nat} {z : PyData} (h : n ≤ 1000000) : lim n z = some z := if_pos (Nat.le_trans h (by decide))
def addD : PyData → PyData → Option PyData
  | .int i, .int j => some (.int (i + j))
  | .int i, .bool j => some (.int (i + b2 j))
  | .bool i, .int j => some (.int (b2 i + j))
  | .str a, .str b => lim (a.length + b.length) (.str (a ++ b))
  | .list a, .list b => lim (a.length + b.length) (.list (a ++ b))
  | .tuple a, .tuple b => lim (a.length + b.length) (.tuple (a ++ b))
  | _, _ => none
theorem op_addD : OpR X (binaryOp .Add) (rD X.K addD) := by
  intro pins s σ H x y v u Q I rx ry ⟨M, d, e, z, hm, h1, h2, hz, hq⟩
  match d, e, hz, h1, h2 with
  | .int i, .int j, hz, .int _, .int _ => cases hz; exact op_add pins s σ H _ _ v u Q I rx ry ⟨i, j, rfl, rfl, plain hq (.int _)⟩
  | .int i, .bool j, hz, .int _, .bl _ => cases hz; exact op_add_ib pins s σ H _ _ v u Q I rx ry ⟨i, j, rfl, rfl, plain hq (.int _)⟩
  | .bool i, .int j, hz, .bl _, .int _ =>
    cases hz
    cases rx
    obtain ⟨t, rfl⟩ := ry
    exact PySem.IntBool.add_bool_int ⟨.int _, H, I.tok _, ⟨_, rfl⟩, plain hq (.int _)⟩
  | .str i, .str j, hz, .str _, .str _ =>
    obtain ⟨hl, rfl⟩ := lim_some hz
    exact op_add_str pins s σ H _ _ v u Q I rx ry ⟨i, j, rfl, rfl, hl, plain hq (.str _)⟩
  | .list i, .list j, hz, .lst n1 a1 b1, .lst n2 a2 b2 =>
    obtain ⟨hl, rfl⟩ := lim_some hz
    exact op_cat pins s σ H _ _ v u Q I rx ry ⟨_, _, _, _, rfl, rfl, a1, a2, by rw [b1.len, b2.len]; exact hl, fun p hp => fresh hq hp (.lst (fun m => hm p m hp) upd_same ((b1.app b2).mono (Ex.of (same_new hp))))⟩
  | .tuple i, .tuple j, hz, h1, h2 =>
    obtain ⟨hl, rfl⟩ := lim_some hz
    obtain ⟨a1, xs, rfl, q1, b1, _⟩ := h1.isT
    obtain ⟨a2, ys, rfl, q2, b2, _⟩ := h2.isT
    refine op_catA pins s σ H _ _ v u Q I rx ry ⟨a1, a2, xs, ys, rfl, rfl, q1, q2, by rw [b1.len, b2.len]; exact hl, fun e => ?_, fun _ e => ?_, fun _ _ p hp => fresh hq hp (.tup (fun m => hm p m hp) upd_same ((b1.app b2).mono (Ex.of (same_new hp))))⟩
    · subst e
      cases b1
      exact plain hq h2
    · subst e
      cases b2
      rw [List.append_nil] at hq
      exact plain hq h1
def subD : PyData → PyData → Option PyData
  | .int i, .int j => some (.int (i - j))
  | .int i, .bool j => some (.int (i - b2 j))
  | .bool i, .int j => some (.int (b2 i - j))
  | _, _ => none
theorem op_subD : OpR X (binaryOp .Sub) (rD X.K subD) := by
  intro pins s σ H x y v u Q I rx ry ⟨M, d, e, z, hm, h1, h2, hz, hq⟩
  match d, e, hz, h1, h2 with
  | .int i, .int j, hz, .int _, .int _ => cases hz; exact op_sub pins s σ H _ _ v u Q I rx ry ⟨i, j, rfl, rfl, plain hq (.int _)⟩
  | .int i, .bool j, hz, .int _, .bl _ =>
    cases hz
    cases ry
    obtain ⟨t, rfl⟩ := rx
    exact PySem.IntBool.sub_int_bool ⟨.int _, H, I.tok _, ⟨_, rfl⟩, plain hq (.int _)⟩
  | .bool i, .int j, hz, .bl _, .int _ =>
    cases hz
    cases rx
    obtain ⟨t, rfl⟩ := ry
    exact PySem.IntBool.sub_bool_int ⟨.int _, H, I.tok _, ⟨_, rfl⟩, plain hq (.int _)⟩
/-! ### comparisons -/
theorem op_intsD {op : CmpOp} {p : Int → Int → Bool} (ho : OpR X (compareOp op) (rI0 fun i j => .bl (p i j))) : OpR X (compareOp op) (rD X.K fun d e => match d, e with | .int i, .int j => some (.bool (p i j)) | _, _ => none) := by
  intro pins s σ H x y v u Q I rx ry ⟨M, d, e, z, hm, h1, h2, hz, hq⟩
  match d, e, hz, h1, h2 with
  | .int i, .int j, hz, .int _, .int _ => cases hz; exact ho pins s σ H _ _ v u Q I rx ry ⟨i, j, rfl, rfl, plain hq (.bl _)⟩
def ltD : PyData → PyData → Option PyData
  | .int i, .int j => some (.bool (decide (i < j)))
  | .str i, .str j => some (.bool (decide (i.cps.toList < j.cps.toList)))
  | _, _ => none
theorem op_ltD : OpR X (compareOp .Lt) (rD X.K ltD) := by
  intro pins s σ H x y v u Q I rx ry ⟨M, d, e, z, hm, h1, h2, hz, hq⟩
  match d, e, hz, h1, h2 with
  | .int i, .int j, hz, .int _, .int _ => cases hz; exact op_lt pins s σ H _ _ v u Q I rx ry ⟨i, j, rfl, rfl, plain hq (.bl _)⟩
  | .str i, .str j, hz, .str _, .str _ => cases hz; exact op_lt_str pins s σ H _ _ v u Q I rx ry ⟨i, j, rfl, rfl, plain hq (.bl _)⟩
def gtD : PyData → PyData → Option PyData
  | .int i, .int j => some (.bool (decide (j < i)))
  | .str i, .str j => some (.bool (decide (j.cps.toList < i.cps.toList)))
  | _, _ => none
theorem op_gtD : OpR X (compareOp .Gt) (rD X.K gtD) := by
  intro pins s σ H x y v u Q I rx ry ⟨M, d, e, z, hm, h1, h2, hz, hq⟩
  match d, e, hz, h1, h2 with
  | .int i, .int j, hz, .int _, .int _ => cases hz; exact op_gt pins s σ H _ _ v u Q I rx ry ⟨i, j, rfl, rfl, plain hq (.bl _)⟩
  | .str i, .str j, hz, .str _, .str _ => cases hz; exact op_gt_str pins s σ H _ _ v u Q I rx ry ⟨i, j, rfl, rfl, plain hq (.bl _)⟩
def leD : PyData → PyData → Option PyData
  | .int i, .int j => some (.bool (decide (i ≤ j)))
  | _, _ => none
theorem op_leD : OpR X (compareOp .LtE) (rD X.K leD) := by
  intro pins s σ H x y v u Q I rx ry ⟨M, d, e, z, hm, h1, h2, hz, hq⟩
  match d, e, hz, h1, h2 with
  | .int i, .int j, hz, .int _, .int _ => cases hz; exact op_le pins s σ H _ _ v u Q I rx ry ⟨i, j, rfl, rfl, plain hq (.bl _)⟩
def geD : PyData → PyData → Option PyData
  | .int i, .int j => some (.bool (decide (j ≤ i)))
  | _, _ => none
theorem op_geD : OpR X (compareOp .GtE) (rD X.K geD) := by
  intro pins s σ H x y v u Q I rx ry ⟨M, d, e, z, hm, h1, h2, hz, hq⟩
  match d, e, hz, h1, h2 with
  | .int i, .int j, hz, .int _, .int _ => cases hz; exact op_ge pins s σ H _ _ v u Q I rx ry ⟨i, j, rfl, rfl, plain hq (.bl _)⟩
/-! ### == -/
def flatD : PyData → Bool
  | .none | .bool _ | .int _ | .str _ => true
  | _ => false
theorem rc_flat {A : Around} {s : Shared} {K : PySem.W.Frag} {M : Addr → Prop} {H : Hp} {x y : V} {d e : PyData} {u v : Value} (h1 : Dt K M H x d) (h2 : Dt K M H y e) (f1 : flatD d = true) (f2 : flatD e = true) (rx : L2.RelV x v) (ry : L2.RelV y u) : SeqAt.RcAt A s v u (PyData.eqv d e) := by
  cases h1 with
  | non =>
    cases rx
    cases h2 with
    | non => cases ry; simpa [PyData.eqv] using SeqAt.RcAt.none_none
    | bl b => cases ry; simpa [PyData.eqv] using SeqAt.RcAt.none_bool b
    | int b => obtain ⟨t, rfl⟩ := ry; simpa [PyData.eqv] using SeqAt.RcAt.none_int b t
    | str b => obtain ⟨t, rfl⟩ := ry; simpa [PyData.eqv] using SeqAt.RcAt.none_str b t
    | _ => cases f2
  | bl a =>
    cases rx
    cases h2 with
    | non => cases ry; simpa [PyData.eqv] using SeqAt.RcAt.bool_none a
    | bl b => cases ry; simpa [PyData.eqv] using SeqAt.RcAt.bool_bool a b
    | int b => obtain ⟨t, rfl⟩ := ry; simpa [PyData.eqv] using SeqAt.RcAt.bool_int a b t
    | str b => obtain ⟨t, rfl⟩ := ry; simpa [PyData.eqv] using SeqAt.RcAt.bool_str a b t
    | _ => cases f2
  | int a =>
    obtain ⟨t1, rfl⟩ := rx
    cases h2 with
    | non => cases ry; simpa [PyData.eqv] using SeqAt.RcAt.int_none a t1
    | bl b => cases ry; simpa [PyData.eqv] using SeqAt.RcAt.int_bool a t1 b
    | int b => obtain ⟨t, rfl⟩ := ry; simpa [PyData.eqv] using SeqAt.RcAt.int_int a t1 b t
    | str b => obtain ⟨t, rfl⟩ := ry; simpa [PyData.eqv] using SeqAt.RcAt.int_str a t1 b t
    | _ => cases f2
  | str a =>
    obtain ⟨t1, rfl⟩ := rx
    cases h2 with
    | non => cases ry; simpa [PyData.eqv] using SeqAt.RcAt.str_none a t1
    | bl b => cases ry; simpa [PyData.eqv] using SeqAt.RcAt.str_bool a t1 b
    | int b => obtain ⟨t, rfl⟩ := ry; simpa [PyData.eqv] using SeqAt.RcAt.str_int a t1 b t
    | str b => obtain ⟨t, rfl⟩ := ry; simpa [PyData.eqv] using SeqAt.RcAt.str_str a t1 b t
    | _ => cases f2
  | _ => cases f1
end
end Fw

set_option Elab.async false
set_option linter.all false
set_option maxRecDepth 100000
set_option maxHeartbeats 2000000
namespace Fw
open PySem PySem.Spec PyProof.Rows
section
variable {A : Around} {s : Shared}
theorem str_eq_dict (b : Str) (u : Tok) (l : Addr) (c : Value) (es : Array DictEntry) (n : Nat) (dd : Option Addr) (sl : Array (Option Value)) :
    Meets (Builtin.«str.__eq__» ⟨[.str b u, .ref l], []⟩) (fun _ R s => s.heap.get? l = some { cls := c, dict := dd, data := .dict es n, slots := sl } ∧ R (.ok (.ret .notImplemented)) s) :=
  .of_wp fun prog w A R s h => by obtain ⟨hp, g, d, tk, os⟩ := s; obtain ⟨hl, h⟩ := h; wp_walk using wpAny_loadPart' hl, wpAny_load hl; exact ⟨_, rfl, h⟩
theorem rc_dict_str {a : Addr} {o : Obj} {es : Array DictEntry} {n : Nat} (x : Str) (u : Tok) (ho : s.heap.get? a = some o) (hc : o.cls = .type "dict") (hd : o.data = .dict es n) (hu : A.units < cLine) : SeqAt.RcAt A s (.ref a) (.str x u) false := fun prog w E Q h => by
  obtain ⟨cls, dd, data, sl⟩ := o
  simp only at hc hd
  subst hc hd
  have ht : s.TypeIs (.ref a) "dict" := ⟨_, ho, rfl⟩
  refine SeqAt.rc_eq_decline_or (k := false) ht (typeIs_str s x u) (by decide) F.sub_str_dict F.slot_dict_eq F.slot_str_eq_refl
    (fun Q' hq => wpAny_call_entry F.slot_dict_eq ht F.entry_dict_eq ?_ (F.args_dict_eq_2 _ _))
    (fun _ hq => call_meets F.slot_str_eq_refl (typeIs_str s x u) F.entry_str_eq (F.args_str_eq_2 _ _) (str_eq_dict x u a _ es n dd sl) ⟨ho, hq⟩)
    (fun _ hq => wpAny_of_eq (rfl : isSame (.ref a) (.str x u) = pure false) hq) (.inr hu) h
  show wpAny _ _ (Builtin.Dict.dictSlotArgs "__eq__" ⟨[.ref a, .str x u], []⟩ >>= _) _ _ s
  refine wpAny_bind ?_
  unfold Builtin.Dict.dictSlotArgs
  refine wpAny_bind (wpAny_notOrdered_dict ht ?_)
  show wpAny _ _ (pure (Value.ref a, Value.str x u)) _ _ s
  refine wpAny_pure ?_
  refine wpAny_bind (wpAny_isInstance (typeIs_str s x u) F.sub_str_dict ?_)
  simp only [Bool.not_false, if_true]
  refine wpAny_bind (wpAny_rule ?_)
  exact wpAny_pure ⟨_, rfl, hq⟩
end
end Fw
namespace Fw
open PySem PySem.Spec PyProof.Rows L2
def okEq : PyData → PyData → Bool
  | .dict _, .str _ => true
  | .dict _, _ => false
  | _, .dict _ => false
  | d, e => flatD d || flatD e
/-- == where one of both is flat -/
theorem rc_half {X : Cx} {pins : List (Addr × Obj)} {σ : L2.St} {sh : Shared} {A : Around} {M : Addr → Prop} {H : Hp} {x y : V} {d e : PyData} {u v : Value} (I : Inv X pins σ H sh) (hu : A.units < cLine) (h1 : Dt X.K M H x d) (h2 : Dt X.K M H y e) (f : okEq d e = true) (rx : L2.RelV x v) (ry : L2.RelV y u) : SeqAt.RcAt A sh v u (PyData.eqv d e) := by
  have ls : ∀ {v : V} {l : List PyData} {u : Value}, Dt X.K M H v (.list l) → L2.RelV v u → ∃ a its, u = .ref a ∧ sh.heap.IsList a its := fun {v l u} h r => by
    cases h with
    | lst n a1 b1 =>
      cases r
      obtain ⟨its, _, q, _⟩ := I.list (SqL.of a1)
      exact ⟨_, _, rfl, q.isList⟩
  have tp : ∀ {v : V} {l : List PyData} {u : Value}, Dt X.K M H v (.tuple l) → L2.RelV v u → ∃ a its, u = .ref a ∧ sh.heap.IsTuple a its := fun {v l u} h r => by
    obtain ⟨a, xs, rfl, a1, _, _⟩ := h.isT
    cases r
    obtain ⟨its, _, q, _⟩ := I.tuple a1
    exact ⟨_, _, rfl, q⟩
  cases d with
  | none => cases e with
    | list l => cases h1; cases rx; obtain ⟨a, its, rfl, q⟩ := ls h2 ry; simpa [PyData.eqv] using SeqAt.RcAt.none_list q hu
    | tuple l => cases h1; cases rx; obtain ⟨a, its, rfl, q⟩ := tp h2 ry; simpa [PyData.eqv] using SeqAt.RcAt.none_tuple q hu
    | dict l => exact absurd (show false = true from f) Bool.false_ne_true
    | _ => exact rc_flat h1 h2 rfl rfl rx ry
  | bool b => cases e with
    | list l => cases h1; cases rx; obtain ⟨a, its, rfl, q⟩ := ls h2 ry; simpa [PyData.eqv] using SeqAt.RcAt.bool_list b q hu
    | tuple l => cases h1; cases rx; obtain ⟨a, its, rfl, q⟩ := tp h2 ry; simpa [PyData.eqv] using SeqAt.RcAt.bool_tuple b q hu
    | dict l => exact absurd (show false = true from f) Bool.false_ne_true
    | _ => exact rc_flat h1 h2 rfl rfl rx ry
  | int b => cases e with
    | list l => cases h1; obtain ⟨t, rfl⟩ := rx; obtain ⟨a, its, rfl, q⟩ := ls h2 ry; simpa [PyData.eqv] using SeqAt.RcAt.int_list b t q hu
    | tuple l => cases h1; obtain ⟨t, rfl⟩ := rx; obtain ⟨a, its, rfl, q⟩ := tp h2 ry; simpa [PyData.eqv] using SeqAt.RcAt.int_tuple b t q hu
    | dict l => exact absurd (show false = true from f) Bool.false_ne_true
    | _ => exact rc_flat h1 h2 rfl rfl rx ry
  | str b => cases e with
    | list l => cases h1; obtain ⟨t, rfl⟩ := rx; obtain ⟨a, its, rfl, q⟩ := ls h2 ry; simpa [PyData.eqv] using SeqAt.RcAt.str_list b t q hu
    | tuple l => cases h1; obtain ⟨t, rfl⟩ := rx; obtain ⟨a, its, rfl, q⟩ := tp h2 ry; simpa [PyData.eqv] using SeqAt.RcAt.str_tuple b t q hu
    | dict l => exact absurd (show false = true from f) Bool.false_ne_true
    | _ => exact rc_flat h1 h2 rfl rfl rx ry
  | list l =>
    obtain ⟨a, its, rfl, q⟩ := ls h1 rx
    cases e with
    | none => cases h2; cases ry; simpa [PyData.eqv] using SeqAt.RcAt.list_none q hu
    | bool b => cases h2; cases ry; simpa [PyData.eqv] using SeqAt.RcAt.list_bool b q hu
    | int b => cases h2; obtain ⟨t, rfl⟩ := ry; simpa [PyData.eqv] using SeqAt.RcAt.list_int b t q hu
    | str b => cases h2; obtain ⟨t, rfl⟩ := ry; simpa [PyData.eqv] using SeqAt.RcAt.list_str b t q hu
    | _ => exact absurd (show false = true from f) Bool.false_ne_true
  | tuple l =>
    obtain ⟨a, its, rfl, q⟩ := tp h1 rx
    cases e with
    | none => cases h2; cases ry; simpa [PyData.eqv] using SeqAt.RcAt.tuple_none q hu
    | bool b => cases h2; cases ry; simpa [PyData.eqv] using SeqAt.RcAt.tuple_bool b q hu
    | int b => cases h2; obtain ⟨t, rfl⟩ := ry; simpa [PyData.eqv] using SeqAt.RcAt.tuple_int b t q hu
    | str b => cases h2; obtain ⟨t, rfl⟩ := ry; simpa [PyData.eqv] using SeqAt.RcAt.tuple_str b t q hu
    | _ => exact absurd (show false = true from f) Bool.false_ne_true
  | dict l => cases e with
    | str b =>
      cases h2
      obtain ⟨t, rfl⟩ := ry
      cases h1 with
      | @dic a kvs ds n a1 b1 =>
        cases rx
        obtain ⟨_, _, vs, _, o, es, ep, ho, ex, hdat, _⟩ := (show ObjOk X.prog X.w H sh.heap a (.dK kvs) from I.hok a _ a1)
        simpa [PyData.eqv] using rc_dict_str b t ho ex.1 hdat hu
    | _ => exact absurd (show false = true from f) Bool.false_ne_true
def nilE : PyData → Bool
  | .list [] => true
  | .tuple [] => true
  | _ => false
def sameSeq : PyData → PyData → Bool
  | .list _, .list _ => true
  | .tuple _, .tuple _ => true
  | _, _ => false
/-- two lists, two tuples, the right one empty -/
theorem rc_nil {X : Cx} {pins : List (Addr × Obj)} {σ : L2.St} {sh : Shared} {A : Around} {M : Addr → Prop} {H : Hp} {x y : V} {d e : PyData} {u v : Value} (I : Inv X pins σ H sh) (hu : A.units < cLine) (h1 : Dt X.K M H x d) (h2 : Dt X.K M H y e) (f : sameSeq d e = true) (g : nilE e = true) (rx : L2.RelV x v) (ry : L2.RelV y u) :
    SeqAt.RcAt A sh v u (nilE d) ∧ SeqAt.RcNeAt A sh v u (!nilE d) := by
  cases e with
  | list l2 =>
    cases l2 with
    | cons _ _ => exact absurd (show false = true from g) Bool.false_ne_true
    | nil =>
      cases d with
      | list l1 =>
        cases h1 with
        | lst n1 a1 b1 =>
          cases h2 with
          | lst n2 a2 b2 =>
            cases b2
            cases rx
            cases ry
            obtain ⟨its, r1, q1, _⟩ := I.list (SqL.of a1)
            obtain ⟨its2, r2, q2, _⟩ := I.list (SqL.of a2)
            cases r2
            cases b1 with
            | nil =>
              cases r1
              have z1 := SeqAt.RcAt.lists (A := A) (e := fun _ => true) q1.isList q2.isList rfl hu (fun j h _ => absurd h (Nat.not_lt_zero j))
              have z2 := SeqAt.RcNeAt.lists (A := A) (e := fun _ => true) q1.isList q2.isList rfl hu (fun j h _ => absurd h (Nat.not_lt_zero j))
              exact ⟨z1, z2⟩
            | cons c1 c2 =>
              cases r1
              exact ⟨SeqAt.RcAt.lists_lengths q1.isList q2.isList (by simp) hu, SeqAt.RcNeAt.lists_lengths q1.isList q2.isList (by simp) hu⟩
      | _ => exact absurd (show false = true from f) Bool.false_ne_true
  | tuple l2 =>
    cases l2 with
    | cons _ _ => exact absurd (show false = true from g) Bool.false_ne_true
    | nil =>
      cases d with
      | tuple l1 =>
        obtain ⟨a, xs, rfl, q1, b1, _⟩ := h1.isT
        obtain ⟨b, ys, rfl, q2, b2, _⟩ := h2.isT
        cases b2
        cases rx
        cases ry
        obtain ⟨its, r1, p1, _⟩ := I.tuple q1
        obtain ⟨its2, r2, p2, _⟩ := I.tuple q2
        cases r2
        have z1 := SeqAt.RcAt.tuples (A := A) (e := fun _ => true) (show sh.heap.IsTuple a its.toArray from p1) (show sh.heap.IsTuple b _ from p2) hu (fun j _ h => absurd h (Nat.not_lt_zero j))
        have z2 := SeqAt.RcNeAt.tuples (A := A) (e := fun _ => true) (show sh.heap.IsTuple a its.toArray from p1) (show sh.heap.IsTuple b _ from p2) hu (fun j _ h => absurd h (Nat.not_lt_zero j))
        cases b1 with
        | nil => cases r1; exact ⟨z1, z2⟩
        | cons c1 c2 =>
          cases r1
          refine ⟨?_, ?_⟩
          · show SeqAt.RcAt A sh _ _ false
            simpa using z1
          · show SeqAt.RcNeAt A sh _ _ true
            simpa using z2
      | _ => exact absurd (show false = true from f) Bool.false_ne_true
  | _ => exact absurd (show false = true from g) Bool.false_ne_true
end Fw

set_option Elab.async false
set_option linter.all false
set_option maxRecDepth 100000
set_option maxHeartbeats 2000000
namespace Fw
open PySem PySem.Spec PyProof.Rows L2
section
variable {X : Cx}
/-- where one of both is flat, or such data as the library's == takes -/
def eqB (d e : PyData) : Option Bool := if okEq d e then some (PyData.eqv d e) else if sameSeq d e && nilE e then some (nilE d) else if SeqAt.shaped d && SeqAt.shaped e then some (PyData.eqv d e) else none
def eqD (d e : PyData) : Option PyData := (eqB d e).map .bool
theorem op_eqDD (R : Rm X) : OpR X (compareOp .Eq) (rD X.K eqD) := by
  intro pins s σ H x y v u Q I rx ry ⟨M, d, e, z, hm, h1, h2, hz, hq⟩
  unfold eqD eqB at hz
  split at hz
  · rename_i hf
    cases hz
    exact rc_half I (by have := R.u; omega) h1 h2 hf rx ry X.prog X.w X.xe _ ⟨.bl _, H, I, rfl, plain hq (.bl _)⟩
  · split at hz
    · rename_i hf
      obtain ⟨f1, f2⟩ := Bool.and_eq_true_iff.mp hf
      cases hz
      exact (rc_nil I (by have := R.u; omega) h1 h2 f1 f2 rx ry).1 X.prog X.w X.xe _ ⟨.bl _, H, I, rfl, plain hq (.bl _)⟩
    split at hz
    · rename_i hf
      obtain ⟨f1, f2⟩ := Bool.and_eq_true_iff.mp hf
      cases hz
      obtain ⟨as, r1, _⟩ := Dt.reads I (R.sys I) h1 rx
      obtain ⟨bs, r2, _⟩ := Dt.reads I (R.sys I) h2 ry
      exact SeqAt.compareEq_shaped r1 r2 f1 f2 (by have := R.u; omega) ⟨.bl _, H, I, rfl, plain hq (.bl _)⟩
    · cases hz
/-- the same kind of flat values, or none of them an int or a bool -/
def scD : PyData → PyData → Bool
  | .bool _, .int _ => false
  | .int _, .bool _ => false
  | d, e => flatD d && flatD e
def neB (d e : PyData) : Option Bool := if scD d e then some (PyData.eqv d e) else if sameSeq d e && nilE e then some (nilE d) else if SeqAt.shaped d && SeqAt.shaped e then some (PyData.eqv d e) else none
def neDD (d e : PyData) : Option PyData := (neB d e).map fun b => .bool (!b)
theorem sc_eq {K : PySem.W.Frag} {M : Addr → Prop} {H : Hp} {x y : V} {d e : PyData} (h1 : Dt K M H x d) (h2 : Dt K M H y e) (f : scD d e = true) : scal x y = true ∧ decide (x = y) = PyData.eqv d e := by
  cases h1 with
  | non => cases h2 <;> first | exact absurd (show false = true from f) Bool.false_ne_true | exact ⟨rfl, by simp [PyData.eqv]⟩
  | bl a => cases h2 <;> first | exact absurd (show false = true from f) Bool.false_ne_true | (refine ⟨rfl, ?_⟩; first | (simp only [PyData.eqv, dec_bl]; done) | (simp [PyData.eqv]; done))
  | int a => cases h2 <;> first | exact absurd (show false = true from f) Bool.false_ne_true | (refine ⟨rfl, ?_⟩; first | (simp only [PyData.eqv, dec_int]; done) | (simp [PyData.eqv]; done))
  | str a => cases h2 <;> first | exact absurd (show false = true from f) Bool.false_ne_true | (refine ⟨rfl, ?_⟩; first | (simp only [PyData.eqv, dec_str]; done) | (simp [PyData.eqv]; done))
  | _ => cases h2 <;> exact absurd (show false = true from f) Bool.false_ne_true
theorem op_neDD (R : Rm X) : OpR X (compareOp .NotEq) (rD X.K neDD) := by
  intro pins s σ H x y v u Q I rx ry ⟨M, d, e, z, hm, h1, h2, hz, hq⟩
  unfold neDD neB at hz
  split at hz
  · rename_i hf
    obtain ⟨f1, f2⟩ := sc_eq h1 h2 hf
    cases hz
    exact op_ne pins s σ H x y v u Q I rx ry ⟨f1, by rw [f2]; exact plain hq (.bl _)⟩
  · split at hz
    · rename_i hf
      obtain ⟨f1, f2⟩ := Bool.and_eq_true_iff.mp hf
      cases hz
      exact (rc_nil I (by have := R.u; omega) h1 h2 f1 f2 rx ry).2 X.prog X.w X.xe _ ⟨.bl _, H, I, rfl, plain hq (.bl _)⟩
    split at hz
    · rename_i hf
      obtain ⟨f1, f2⟩ := Bool.and_eq_true_iff.mp hf
      cases hz
      obtain ⟨as, r1, _⟩ := Dt.reads I (R.sys I) h1 rx
      obtain ⟨bs, r2, _⟩ := Dt.reads I (R.sys I) h2 ry
      exact SeqAt.compareNe_shaped r1 r2 f1 f2 (by have := R.u; omega) ⟨.bl _, H, I, rfl, plain hq (.bl _)⟩
    · cases hz

/-! ### in -/
theorem flat_V {K : PySem.W.Frag} {M : Addr → Prop} {H : Hp} {x : V} {d : PyData} (h : Dt K M H x d) (f : flatD d = true) : flatV x = true := by
  cases h <;> first | rfl | exact absurd (show false = true from f) Bool.false_ne_true
theorem eqV_eqv {K : PySem.W.Frag} {M : Addr → Prop} {H : Hp} {x y : V} {d e : PyData} (h1 : Dt K M H x d) (h2 : Dt K M H y e) (f1 : flatD d = true) (f2 : flatD e = true) : eqV x y = PyData.eqv d e := by
  cases h1 <;> first | exact absurd (show false = true from f1) Bool.false_ne_true | (cases h2 <;> first | exact absurd (show false = true from f2) Bool.false_ne_true | simp [eqV, PyData.eqv])
theorem inV_any {K : PySem.W.Frag} {M : Addr → Prop} {H : Hp} {x : V} {d : PyData} (h : Dt K M H x d) (f : flatD d = true) : ∀ {vs : List V} {ds : List PyData}, DtA K M H vs ds → ds.all flatD = true → vs.all flatV = true ∧ inV x vs = ds.any fun e => PyData.eqv e d
  | _, _, .nil, _ => ⟨rfl, rfl⟩
  | _, _, .cons a b, g => by
    obtain ⟨g1, g2⟩ := Bool.and_eq_true_iff.mp (show (flatD _ && List.all _ flatD) = true from g)
    obtain ⟨q1, q2⟩ := inV_any h f b g2
    refine ⟨by simp [flat_V a g1]; simpa using q1, ?_⟩
    unfold inV at q2 ⊢
    rw [List.any_cons, List.any_cons, q2, eqV_eqv a h g1 f]
def seqD : PyData → Option (List PyData)
  | .list ds => some ds
  | .tuple ds => some ds
  | _ => none
def isSt : PyData → Bool
  | .str _ => true
  | _ => false
/-- in a row of data: flat ones, or a list or tuple among texts -/
def inRow (d : PyData) (ds : List PyData) : Option Bool := if flatD d && ds.all flatD then some (ds.any fun e => PyData.eqv e d) else if (seqD d).isSome && ds.all isSt then some false else none
def inB (d e : PyData) : Option Bool := match d, e with
  | .str a, .str z => (match a.cps.toList with
    | [c] => some (decide (c ∈ z.cps.toList))
    | _ => none)
  | d, .list ds => inRow d ds
  | d, .tuple ds => inRow d ds
  | _, _ => none
def inD (d e : PyData) : Option PyData := (inB d e).map .bool
def ninD (d e : PyData) : Option PyData := (inB d e).map fun b => .bool (!b)
theorem one_sign {a : Str} {c : Nat} (h : a.cps.toList = [c]) : a = ⟨#[c]⟩ := by
  obtain ⟨l⟩ := a
  congr
  exact Array.ext' (by simpa using h)
/-- the places in which 'in' looks -/
theorem in_cases {K : PySem.W.Frag} {M : Addr → Prop} {H : Hp} {x y : V} {d e : PyData} {b : Bool} (h1 : Dt K M H x d) (h2 : Dt K M H y e) (hz : inB d e = some b) :
    (∃ c z, x = .str ⟨#[c]⟩ ∧ y = .str z ∧ b = decide (c ∈ z.cps.toList)) ∨ (∃ p xs, y = .ref p ∧ (SqL K H p xs ∨ SqT K H p xs) ∧ ((flatV x = true ∧ xs.all flatV = true ∧ b = inV x xs) ∨ (∃ ds, DtA K M H xs ds ∧ (seqD d).isSome = true ∧ ds.all isSt = true ∧ b = false))) := by
  have seq : ∀ {ds : List PyData} {xs : List V}, DtA K M H xs ds → inRow d ds = some b → (flatV x = true ∧ xs.all flatV = true ∧ b = inV x xs) ∨ (∃ ds, DtA K M H xs ds ∧ (seqD d).isSome = true ∧ ds.all isSt = true ∧ b = false) := fun {ds xs} hd hc => by
    unfold inRow at hc
    split at hc
    · rename_i hf
      obtain ⟨f1, f2⟩ := Bool.and_eq_true_iff.mp hf
      obtain ⟨q1, q2⟩ := inV_any h1 f1 hd f2
      cases hc
      exact .inl ⟨flat_V h1 f1, q1, q2.symm⟩
    · split at hc
      · rename_i hf
        obtain ⟨f1, f2⟩ := Bool.and_eq_true_iff.mp hf
        cases hc
        exact .inr ⟨ds, hd, f1, f2, rfl⟩
      · cases hc
  cases e with
  | list ds =>
    cases h2 with
    | lst n a1 b1 =>
      have hz' : inRow d ds = some b := by
        cases d <;> exact hz
      exact .inr ⟨_, _, rfl, .inl (SqL.of a1), seq b1 hz'⟩
  | tuple ds =>
    obtain ⟨a, xs, rfl, q1, b1, _⟩ := h2.isT
    have hz' : inRow d ds = some b := by
      cases d <;> exact hz
    exact .inr ⟨_, _, rfl, .inr q1, seq b1 hz'⟩
  | str z =>
    cases h2
    cases h1 with
    | str a =>
      refine .inl ?_
      have hz' : (match a.cps.toList with | [c] => some (decide (c ∈ z.cps.toList)) | _ => none) = some b := hz
      split at hz'
      · rename_i c hc
        cases hz'
        exact ⟨c, z, by rw [one_sign hc], rfl, rfl⟩
      · cases hz'
    | _ => cases hz
  | none => cases d <;> cases hz
  | bool _ => cases d <;> cases hz
  | int _ => cases d <;> cases hz
  | dict _ => cases d <;> cases hz
/-- texts beside a list or a tuple -/
theorem eq_texts {pins : List (Addr × Obj)} {σ : L2.St} {H : Hp} {sh : Shared} {A : Around} {M : Addr → Prop} {x : V} {d : PyData} {v : Value} (I : Inv X pins σ H sh) (hu : A.units < cLine) (h1 : Dt X.K M H x d) (f : (seqD d).isSome = true) (rx : L2.RelV x v) :
    ∀ {vs : List V} {ds : List PyData} {us : List Value}, DtA X.K M H vs ds → ds.all isSt = true → Vals vs us → ∀ u ∈ us, SeqAt.EqAt A sh u v false
  | _, _, _, .nil, _, r, u, hm => by cases r; exact absurd hm List.not_mem_nil
  | _, _, _, .cons a b, g, r, u, hm => by
    obtain ⟨g1, g2⟩ := Bool.and_eq_true_iff.mp (show (isSt _ && List.all _ isSt) = true from g)
    cases r with
    | cons r1 r2 =>
      rcases List.mem_cons.mp hm with z | z
      · subst z
        cases a with
        | str y =>
          obtain ⟨t, rfl⟩ := r1
          cases d with
          | list l =>
            cases h1 with
            | lst n a1 b1 =>
              cases rx
              obtain ⟨its, _, q, _⟩ := I.list (SqL.of a1)
              exact SeqAt.EqAt.str_list y t q.isList hu
          | tuple l =>
            obtain ⟨a, xs, rfl, a1, _, _⟩ := h1.isT
            cases rx
            obtain ⟨its, _, q, _⟩ := I.tuple a1
            exact SeqAt.EqAt.str_tuple y t q hu
          | _ => exact absurd (show false = true from f) Bool.false_ne_true
        | _ => exact absurd (show false = true from g1) Bool.false_ne_true
      · exact eq_texts I hu h1 f rx b g2 r2 u z
theorem op_inD (R : Rm X) : OpR X (compareOp .In) (rD X.K inD) := by
  intro pins s σ H x y v u Q I rx ry ⟨M, d, e, z, hm, h1, h2, hz, hq⟩
  obtain ⟨b, hb, rfl⟩ := Option.map_eq_some_iff.mp hz
  rcases in_cases h1 h2 hb with ⟨c, z, rfl, rfl, rfl⟩ | ⟨p, xs, rfl, q1, ⟨q2, q3, rfl⟩ | ⟨ds, q2, q3, q4, rfl⟩⟩
  · exact op_in_sign pins s σ H _ _ v u Q I rx ry ⟨c, z, rfl, rfl, plain hq (.bl _)⟩
  · exact op_in_seq pins s σ H _ _ v u Q I rx ry ⟨p, xs, rfl, q1, q2, q3, plain hq (.bl _)⟩
  · cases ry
    have hu : X.A.in1.units < cLine := by show X.A.units + 1 < cLine; have := R.u; omega
    rcases q1 with q1 | q1
    · obtain ⟨its, rv, p1, _⟩ := I.list q1
      refine SeqAt.in_listAt (fun _ => false) p1.isList (fun y hy => eq_texts I hu h1 q3 rx q2 q4 rv y (by simpa using hy)) ⟨.bl _, H, I, (by show Value.bool _ = Value.bool _; congr 1; simp), plain hq (.bl _)⟩
    · obtain ⟨its, rv, p1, _⟩ := I.tuple q1
      refine SeqAt.in_tupleAt (fun _ => false) p1 (fun y hy => eq_texts I hu h1 q3 rx q2 q4 rv y (by simpa using hy)) ⟨.bl _, H, I, (by show Value.bool _ = Value.bool _; congr 1; simp), plain hq (.bl _)⟩
theorem op_ninD (R : Rm X) : OpR X (compareOp .NotIn) (rD X.K ninD) := by
  intro pins s σ H x y v u Q I rx ry ⟨M, d, e, z, hm, h1, h2, hz, hq⟩
  obtain ⟨b, hb, rfl⟩ := Option.map_eq_some_iff.mp hz
  rcases in_cases h1 h2 hb with ⟨c, z, rfl, rfl, rfl⟩ | ⟨p, xs, rfl, q1, ⟨q2, q3, rfl⟩ | ⟨ds, q2, q3, q4, rfl⟩⟩
  · exact op_notIn_sign pins s σ H _ _ v u Q I rx ry ⟨c, z, rfl, rfl, plain hq (.bl _)⟩
  · exact op_notIn_seq pins s σ H _ _ v u Q I rx ry ⟨p, xs, rfl, q1, q2, q3, plain hq (.bl _)⟩
  · cases ry
    have hu : X.A.in1.units < cLine := by show X.A.units + 1 < cLine; have := R.u; omega
    rcases q1 with q1 | q1
    · obtain ⟨its, rv, p1, _⟩ := I.list q1
      refine SeqAt.notIn_listAt (fun _ => false) p1.isList (fun y hy => eq_texts I hu h1 q3 rx q2 q4 rv y (by simpa using hy)) ⟨.bl _, H, I, (by show Value.bool _ = Value.bool _; congr 1; simp), plain hq (.bl _)⟩
    · obtain ⟨its, rv, p1, _⟩ := I.tuple q1
      refine SeqAt.notIn_tupleAt (fun _ => false) p1 (fun y hy => eq_texts I hu h1 q3 rx q2 q4 rv y (by simpa using hy)) ⟨.bl _, H, I, (by show Value.bool _ = Value.bool _; congr 1; simp), plain hq (.bl _)⟩
/-! ### is None -/
def isNon : PyData → Bool
  | .none => true
  | _ => false
def isD (neg : Bool) (d e : PyData) : Option PyData := if isNon e then some (.bool (neg != isNon d)) else none
theorem non_iff {K : PySem.W.Frag} {M : Addr → Prop} {H : Hp} {x : V} {d : PyData} (h : Dt K M H x d) : decide (x = .non) = isNon d := by
  cases h <;> rfl
theorem op_isD : OpR X (compareOp .Is) (rD X.K (isD false)) := by
  intro pins s σ H x y v u Q I rx ry ⟨M, d, e, z, hm, h1, h2, hz, hq⟩
  unfold isD at hz
  split at hz
  · rename_i he
    cases hz
    have hy : y = .non := of_decide_eq_true ((non_iff h2).trans he)
    refine op_isN pins s σ H _ _ v u Q I rx ry ⟨hy, ?_⟩
    rw [non_iff h1]
    exact plain hq (by rw [show ∀ b, (false != b) = b by decide]; exact .bl _)
  · cases hz
theorem op_isntD : OpR X (compareOp .IsNot) (rD X.K (isD true)) := by
  intro pins s σ H x y v u Q I rx ry ⟨M, d, e, z, hm, h1, h2, hz, hq⟩
  unfold isD at hz
  split at hz
  · rename_i he
    cases hz
    have hy : y = .non := of_decide_eq_true ((non_iff h2).trans he)
    refine op_notN pins s σ H _ _ v u Q I rx ry ⟨hy, ?_⟩
    rw [non_iff h1]
    exact plain hq (by rw [show ∀ b, (true != b) = !b by decide]; exact .bl _)
  · cases hz
/-! ### subscripts, slices -/
def ixD : PyData → PyData → Option PyData
  | .list ds, .int i => atI ds i
  | .tuple ds, .int i => atI ds i
  | .str z, .int i => if z.length ≤ sizeLine then (atI z.cps.toList i).map fun c => .str ⟨#[c]⟩ else none
  | _, _ => none
theorem atI_V {K : PySem.W.Frag} {M : Addr → Prop} {H : Hp} {vs : List V} {ds : List PyData} {i : Int} {d : PyData} (h : DtA K M H vs ds) (e : atI ds i = some d) : ∃ v, atI vs i = some v ∧ Dt K M H v d := by
  unfold atI at e ⊢
  rw [h.len]
  cases q : ixN ds.length i with
  | none => rw [q] at e; cases e
  | some j =>
    rw [q] at e
    obtain ⟨v, q1, q2⟩ := h.get (show ds[j]? = some d from e)
    exact ⟨v, q1, q2⟩
theorem ix_D : IxR X (rD X.K ixD) := by
  intro ve se pins s σ H x y v u Q I rx ry ⟨M, d, e, z, hm, h1, h2, hz, hq⟩ hs
  match d, e, hz, h1, h2 with
  | .list ds, .int i, hz, .lst n a1 b1, .int _ =>
    obtain ⟨w, q1, q2⟩ := atI_V b1 (show atI ds i = some z from hz)
    exact ix_list ve se pins s σ H _ _ v u Q I rx ry ⟨_, _, i, w, rfl, rfl, SqL.of a1, q1, plain hq q2⟩ hs
  | .tuple ds, .int i, hz, h1, .int _ =>
    obtain ⟨a, xs, rfl, a1, b1, _⟩ := h1.isT
    obtain ⟨w, q1, q2⟩ := atI_V b1 (show atI ds i = some z from hz)
    exact ix_tup ve se pins s σ H _ _ v u Q I rx ry ⟨a, xs, i, w, rfl, rfl, a1, q1, plain hq q2⟩ hs
  | .str t, .int i, hz, .str _, .int _ =>
    have hz' : (if t.length ≤ sizeLine then (atI t.cps.toList i).map fun c => PyData.str ⟨#[c]⟩ else none) = some z := hz
    split at hz'
    · rename_i hl
      obtain ⟨c, q1, rfl⟩ := Option.map_eq_some_iff.mp hz'
      exact ix_str ve se pins s σ H _ _ v u Q I rx ry ⟨t, i, c, rfl, rfl, hl, q1, plain hq (.str _)⟩ hs
    · cases hz'
def cutD (ds : List PyData) (lo hi : Option Int) : List PyData := (ds.drop (HT.sIx ds.length 0 lo)).take (HT.sIx ds.length ds.length hi - HT.sIx ds.length 0 lo)
def slD : PyData → Option Int → Option Int → Option PyData
  | .list ds, lo, hi => some (.list (cutD ds lo hi))
  | .tuple ds, lo, hi => some (.tuple (cutD ds lo hi))
  | .str z, lo, hi => lim z.length (.str (cutS z lo hi))
  | _, _, _ => none
theorem cut_DA {K : PySem.W.Frag} {M : Addr → Prop} {H : Hp} {vs : List V} {ds : List PyData} (h : DtA K M H vs ds) (lo hi : Option Int) : DtA K M H (cutV vs lo hi) (cutD ds lo hi) := by
  unfold cutV cutD
  rw [h.len]
  exact (h.drop _).take _
theorem cut_all {ds : List PyData} {lo hi : Option Int} (h : HT.sIx ds.length 0 lo = 0 ∧ HT.sIx ds.length ds.length hi = ds.length) : cutD ds lo hi = ds := by
  unfold cutD
  rw [h.1, h.2]
  simp
theorem sl_D : SlR X (rDs X.K slD) := by
  intro pins s σ H x v vl vu lo hi sl Q I rx hs pl pu ⟨M, d, z, hm, h1, hz, hq⟩
  match d, hz, h1 with
  | .list ds, hz, .lst n a1 b1 =>
    cases hz
    exact sl_list pins s σ H _ v vl vu lo hi sl Q I rx hs pl pu ⟨_, _, rfl, SqL.of a1, fun p hp => fresh hq hp (.lst (fun m => hm p m hp) upd_same ((cut_DA b1 lo hi).mono (Ex.of (same_new hp))))⟩
  | .tuple ds, hz, h1 =>
    cases hz
    obtain ⟨a, xs, rfl, a1, b1, _⟩ := h1.isT
    refine sl_tupA pins s σ H _ v vl vu lo hi sl Q I rx hs pl pu ⟨_, _, rfl, a1, fun hw => ?_, fun _ p hp => fresh hq hp (.tup (fun m => hm p m hp) upd_same ((cut_DA b1 lo hi).mono (Ex.of (same_new hp))))⟩
    rw [b1.len] at hw
    rw [cut_all hw] at hq
    exact plain hq h1
  | .str t, hz, .str _ =>
    obtain ⟨hl, rfl⟩ := lim_some hz
    exact sl_str pins s σ H _ v vl vu lo hi sl Q I rx hs pl pu ⟨t, rfl, hl, plain hq (.str _)⟩
/-! ### built-in calls -/
def lenD : List PyData → Option PyData
  | [.str z] => lim z.length (.int z.length)
  | [.list ds] => some (.int ds.length)
  | [.tuple ds] => some (.int ds.length)
  | _ => none
theorem one_DA {K : PySem.W.Frag} {M : Addr → Prop} {H : Hp} {vs : List V} {d : PyData} (h : DtA K M H vs [d]) : ∃ v, vs = [v] ∧ Dt K M H v d := by
  cases h with
  | cons a b => cases b; exact ⟨_, rfl, a⟩
theorem call_lenDD : CallR X (.builtin "len") (rDc X.K lenD) := by
  intro pins s σ H xs us Q I r ⟨M, ds, z, hm, h1, hz, hq⟩
  match ds, hz, h1 with
  | [.str t], hz, h1 =>
    obtain ⟨hl, rfl⟩ := lim_some hz
    obtain ⟨v, rfl, q⟩ := one_DA h1
    cases q
    exact call_len_str pins s σ H _ us Q I r ⟨t, rfl, hl, plain hq (.int _)⟩
  | [.list l], hz, h1 =>
    cases hz
    obtain ⟨v, rfl, q⟩ := one_DA h1
    cases q with
    | lst n a1 b1 => exact call_len_seq pins s σ H _ us Q I r ⟨_, _, rfl, .inl (SqL.of a1), plain hq (by rw [b1.len]; exact .int _)⟩
  | [.tuple l], hz, h1 =>
    cases hz
    obtain ⟨v, rfl, q⟩ := one_DA h1
    obtain ⟨a, xs, rfl, a1, b1, _⟩ := q.isT
    exact call_len_seq pins s σ H _ us Q I r ⟨_, _, rfl, .inr a1, plain hq (by rw [b1.len]; exact .int _)⟩
def reprD : List PyData → Option PyData
  | [d] => if d.showable && decide (d.depth ≤ 64) then lim d.shown.length (.str d.shown) else none
  | _ => none
theorem call_reprD (R : Rm X) : CallR X (.builtin "repr") (rDc X.K reprD) := by
  intro pins s σ H xs us Q I r ⟨M, ds, z, hm, h1, hz, hq⟩
  match ds, hz, h1 with
  | [d], hz, h1 =>
    obtain ⟨v, rfl, q⟩ := one_DA h1
    have hz' : (if d.showable && decide (d.depth ≤ 64) then lim d.shown.length (.str d.shown) else none) = some z := hz
    split at hz'
    · rename_i hf
      obtain ⟨f1, f2⟩ := Bool.and_eq_true_iff.mp hf
      have f2 := of_decide_eq_true f2
      obtain ⟨hl, rfl⟩ := lim_some hz'
      obtain ⟨u, rfl, ru⟩ := vals1 r
      have big : ∀ a, v = .ref a → wpAny (model X.prog X.w) X.A (call (.builtin "repr") [u]) (EP X pins σ Q) X.xe s := fun a e => by
        subst e
        cases ru
        obtain ⟨as, r1, r2⟩ := Dt.reads I (R.sys I) q rfl
        exact repr_of_reads' r1 f1 (fun _ => r2) R.g (by have := R.u; omega) (fun _ _ e => e) (fun h' t tk k => ⟨.str _, H, I.kept k, ⟨_, rfl⟩, plain hq (.str _)⟩) hl
      cases q with
      | non => cases ru; exact PySem.P.repr_of_none ⟨.str _, H, I.tok _, ⟨_, rfl⟩, plain hq (.str _)⟩
      | bl b => cases ru; exact PySem.P.repr_of_bool ⟨.str _, H, I.tok _, ⟨_, rfl⟩, plain hq (by simp only [PyData.shown]; cases b <;> exact .str _)⟩
      | int i => obtain ⟨t, rfl⟩ := ru; exact PySem.P.repr_of_int (by simpa [PyData.showable] using f1) ⟨.str _, H, I.tok _, ⟨_, rfl⟩, plain hq (.str _)⟩
      | str b => obtain ⟨t, rfl⟩ := ru; exact PySem.P.repr_of_str ⟨.str _, H, I.tok _, ⟨_, rfl⟩, plain hq (.str _)⟩ hl
      | lst => exact big _ rfl
      | tup => exact big _ rfl
      | wtp => exact big _ rfl
      | dic => exact big _ rfl
    · cases hz'
def boolD : PyData → Option Bool
  | .bool b => some b
  | _ => none
def boolsD : List PyData → Option (List Bool)
  | [] => some []
  | d :: ds => (boolD d).bind fun b => (boolsD ds).map (b :: ·)
theorem bools_V {K : PySem.W.Frag} {M : Addr → Prop} {H : Hp} : ∀ {vs : List V} {ds : List PyData} {bs : List Bool}, DtA K M H vs ds → boolsD ds = some bs → vs = bs.map V.bl
  | _, _, _, .nil, h => by cases h; rfl
  | _, _, _, .cons a b, h => by
    obtain ⟨c, h1, h2⟩ := Option.bind_eq_some_iff.mp h
    obtain ⟨cs, h3, rfl⟩ := Option.map_eq_some_iff.mp h2
    rw [bools_V b h3]
    cases a <;> first | cases h1
    rfl
def allB : List PyData → Option PyData
  | [.list ds] => (boolsD ds).map fun bs => .bool (bs.all id)
  | _ => none
def anyB : List PyData → Option PyData
  | [.list ds] => (boolsD ds).map fun bs => .bool (bs.any id)
  | _ => none
theorem call_allD (R : Rm X) : CallR X (.builtin "all") (rDc X.K allB) := by
  intro pins s σ H xs us Q I r ⟨M, ds, z, hm, h1, hz, hq⟩
  match ds, hz, h1 with
  | [.list l], hz, h1 =>
    obtain ⟨bs, e1, rfl⟩ := Option.map_eq_some_iff.mp hz
    obtain ⟨v, rfl, q⟩ := one_DA h1
    cases q with
    | lst n a1 b1 =>
      have e2 := bools_V b1 e1
      subst e2
      exact cr_all R.c pins s σ H _ us Q I r ⟨_, bs, rfl, SqL.of a1, plain hq (.bl _)⟩
theorem call_anyD (R : Rm X) : CallR X (.builtin "any") (rDc X.K anyB) := by
  intro pins s σ H xs us Q I r ⟨M, ds, z, hm, h1, hz, hq⟩
  match ds, hz, h1 with
  | [.list l], hz, h1 =>
    obtain ⟨bs, e1, rfl⟩ := Option.map_eq_some_iff.mp hz
    obtain ⟨v, rfl, q⟩ := one_DA h1
    cases q with
    | lst n a1 b1 =>
      have e2 := bools_V b1 e1
      subst e2
      exact cr_any R.c pins s σ H _ us Q I r ⟨_, bs, rfl, SqL.of a1, plain hq (.bl _)⟩
end
end Fw

set_option Elab.async false
set_option linter.all false
set_option maxRecDepth 100000
set_option maxHeartbeats 2000000
namespace Fw
open PySem PySem.Spec PyProof.Rows L2
/-! ### isinstance of data -/
def tyD : PyData → String
  | .none => "NoneType"
  | .bool _ => "bool"
  | .int _ => "int"
  | .str _ => "str"
  | .list _ => "list"
  | .tuple _ => "tuple"
  | .dict _ => "dict"
theorem Dt.ty {K : PySem.W.Frag} {M : Addr → Prop} {H : Hp} {v : V} {d : PyData} (h : Dt K M H v d) : TyX K H v (.type (tyD d)) := by
  cases h with
  | non => exact .base .non
  | bl b => exact .base (.bl b)
  | int b => exact .base (.int b)
  | str b => exact .base (.str b)
  | lst n h1 h2 => exact .base (.lst h1)
  | tup n h1 h2 => exact .base (.tup h1)
  | wtp h1 h2 =>
    rcases h1 with (h1 | ⟨o, h1⟩) | ⟨o, its, n, h1, h3, _⟩
    · cases h1
    · cases h1
    · exact .kTuple h1 h3
  | dic n h1 h2 => exact .base (.dK h1)
def isStr : PyData → Bool
  | .str _ => true
  | _ => false
def isBl : PyData → Bool
  | .bool _ => true
  | _ => false
def isIn' : PyData → Bool
  | .bool _ => true
  | .int _ => true
  | _ => false
def isTu : PyData → Bool
  | .tuple _ => true
  | _ => false
def isLs : PyData → Bool
  | .list _ => true
  | _ => false
def isDi : PyData → Bool
  | .dict _ => true
  | _ => false
theorem kit_str (d : PyData) : kitB (tyD d) "str" = some (isStr d) := by cases d <;> (simp only [tyD, isStr]; decide +kernel)
theorem kit_bool (d : PyData) : kitB (tyD d) "bool" = some (isBl d) := by cases d <;> (simp only [tyD, isBl]; decide +kernel)
theorem kit_int (d : PyData) : kitB (tyD d) "int" = some (isIn' d) := by cases d <;> (simp only [tyD, isIn']; decide +kernel)
theorem kit_tuple (d : PyData) : kitB (tyD d) "tuple" = some (isTu d) := by cases d <;> (simp only [tyD, isTu]; decide +kernel)
theorem kit_list (d : PyData) : kitB (tyD d) "list" = some (isLs d) := by cases d <;> (simp only [tyD, isLs]; decide +kernel)
theorem kit_dict (d : PyData) : kitB (tyD d) "dict" = some (isDi d) := by cases d <;> (simp only [tyD, isDi]; decide +kernel)
section
variable {S : Type} {X : Cx} {W : Wd S} {ρ : Rho} {s : S} {Φ : Vl → S → Prop} {a b c e : Expr} {es : List Expr} {pos p p2 : Pos} {x : Str} {kws : List Keyword} {Ω : List Vl → S → Prop}
theorem de_isi {t : String} {tn : Str} {f : PyData → Bool} (hk : ∀ d, kitB (tyD d) t = some (f d)) (hm1 : X.mg "isinstance" = none) (hm2 : X.mg tn = none) (h : dE X W ρ s a fun x s1 => ∃ d, x = .d d ∧ Φ (.d (.bool (f d))) s1)
    (hv1 : bootBuiltins tn = some (.type t) := by decide +kernel) (hg1 : Gl X "isinstance" := by rfl) (hg2 : Gl X tn := by rfl) (hn : tn ≠ "__name__" := by decide) (hd : (tn == ("__debug__" : Str)) = false := by decide)
    (h1 : starEach [a, .Name tn p2] X.env = (false, eval a X.env) :: starEach [.Name tn p2] X.env := by rfl) (h2 : (backTo pos (starEach [.Name tn p2] X.env)).any (·.1) = false := by rfl) : dE X W ρ s (.Call (.Name "isinstance" p) [a, .Name tn p2] [] pos) Φ := .mk fun σ H Q en j kn =>
  toE (pe_callB call_isi hg1 hm1 (by decide +kernel) (pa_cons pw (pa_cons (pe_bltn (v := .ty t) hg2 hm2 hv1 rfl hn hd) pa_nil) h1) (by decide) (by decide) h1 h2) (h.go σ H _ en j fun v H1 x s1 e1 j1 v1 ⟨d, hx, q⟩ => by
    subst hx
    exact ⟨v, .ty t, .type (tyD d), .type t, f d, rfl, .ty t, v1.ty, kit_ty (hk d), kn (.bl (f d)) H1 (.d (.bool (f d))) s1 e1 j1 (.bl _) q⟩)
/-! ### keyword values -/
def wK (X : Cx) (kws : List Keyword) : TA := fun σ H Q => ∀ (pos : Pos) (pins : List (Addr × Obj)) (s : Shared), Inv X pins σ H s → wpAny (model X.prog X.w) X.A (evalAll ((backToKw pos (keywordEach kws X.env)).map (·.2))) (AP X pins σ Q) X.xe s
theorem kw : PK X kws (wK X kws) := ⟨fun pos pins s _ _ _ I h => h pos pins s I⟩
structure dK (X : Cx) (W : Wd S) (ρ : Rho) (s : S) (kws : List Keyword) (Φ : List Vl → S → Prop) : Prop where
  go : ∀ σ H Q, En X.K W.M H σ ρ → W.At s H → KnA X W H Φ Q → wK X kws σ H Q
theorem dk_nil (h : Ω [] s) : dK X W ρ s [] Ω := .mk fun σ H Q en j kn pos pins sh I => pk_nil.run pos pins sh σ H Q I (kn [] H [] s Ex.rfl' j .nil h)
theorem dk_cons {nm : Option Str} {kp : Pos} (h : dE X W ρ s e fun x s1 => dK X W ρ s1 kws fun xs s2 => Ω (x :: xs) s2) : dK X W ρ s (⟨nm, e, kp⟩ :: kws) Ω := .mk fun σ H Q en j kn pos pins sh I =>
  (pk_cons pw kw).run pos pins sh σ H Q I (h.go σ H _ en j fun v H1 x s1 e1 j1 v1 hr => hr.go σ H1 _ (W.em e1 en) j1 fun vs H2 xs s2 e2 j2 v2 q => kn (v :: vs) H2 (x :: xs) s2 (e1.trans e2) j2 (.cons (W.vm e2 v1) v2) q)
/-! ### pure defs -/
/-- from data to a datum; nothing that stood is changed -/
def spD (K : PySem.W.Frag) (pre : List PyData → Prop) (f : List PyData → PyData) : Sp := fun vs H Q _ => ∃ (M : Addr → Prop) (ds : List PyData), (∀ b, M b → H b ≠ none) ∧ DtA K M H vs ds ∧ pre ds ∧ ∀ v H', Same H H' → Dt K M H' v (f ds) → Q v H'
/-- the world of a pure def -/
def Wp (M : Addr → Prop) : Wd Unit where
  M := M
  C := fun _ => False
  J := fun _ _ => True
  sub := fun h => h.elim
  keep := fun h _ => h
def rho (N : List Str) (ds : List PyData) : Rho := ds.map (fun d => some (.d d)) ++ List.replicate (N.length - ds.length) none
theorem en_start {K : PySem.W.Frag} {M : Addr → Prop} {H : Hp} {N : List Str} {vs : List V} {ds : List PyData} (h : DtA K M H vs ds) : En K M H (L2.start N vs) (rho N ds) := by
  have q := En.start (K := K) (M := M) (H := H) (N := N) (vs := vs) (xs := ds.map .d) (by simp [h.len]) fun i x e => by
    rw [List.getElem?_map] at e
    obtain ⟨d, e1, rfl⟩ := Option.map_eq_some_iff.mp e
    exact h.get e1
  rw [List.map_map, List.length_map] at q
  exact q
theorem same_ex {H H' : Hp} (e : Ex (fun _ => False) H H') : Same H H' := fun b o q => e b o (fun z => z) q
theorem _root_.Fw.Src.pure {P : Program} {w : World} {K : PySem.W.Frag} {mg : Str → Option Value} {base : Heap} {CX : CXT} {k : Nat} {ps : List Str} {st : Stmt} {N : List Str} {pre : List PyData → Prop} {f : List PyData → PyData} (F : Src K mg x st) (S : FnScope N ps (defScope st)) (hl : ∀ ds, pre ds → ds.length = ps.length)
    (hbd : ∀ (kV doc pm : Value) (an : Option Addr) (cd ct : Value) (us : List Value), us.length = ps.length → bindArgs (PySem.W.fnOf x x (defArgs st) (defBody st) (defScope st) .none kV doc pm an cd ct) ⟨us, []⟩ = pure (ps.zip us))
    (hs : base.get? sysModules ≠ none)
    (hb : ∀ (fa : Addr) (cd : Value) (A : Around) (fr : List Env) (s : Shared) (H : Hp) (E : XK) (M : Addr → Prop) (ds : List PyData), Rm (cxOf CX P w K mg base N x (defScope st) fa cd A fr s H E).nox → Room k (cxOf CX P w K mg base N x (defScope st) fa cd A fr s H E).nox.A → pre ds →
      dB (cxOf CX P w K mg base N x (defScope st) fa cd A fr s H E).nox (Wp M) (rho N ds) () (defBody st) { nx := fun _ _ => f ds = .none, rt := fun y _ => y = .d (f ds) }) : Dfn P w K mg base CX (k + 1) x st ps (spD K pre f) := by
  refine F.ok S (fun vs H Q E h => ?_) hbd fun fa cd A fr s vs H Q E g r h => ?_
  · obtain ⟨M, ds, _, h1, h2, _⟩ := h
    rw [h1.len]
    exact hl ds h2
  · obtain ⟨M, ds, hm, h1, h2, hq⟩ := h
    refine ⟨wB _ (defBody st), bw, (hb fa cd A fr s H E M ds (Rm.of g r hs rfl) r h2).go _ H _ (en_start h1) ⟨trivial, hm⟩ ⟨fun σ H2 ρ s' e1 j1 en z => ?_, fun v H2 y s' e1 j1 v1 z => ?_, fun _ _ _ _ _ _ _ z => z, fun _ _ _ _ _ _ _ z => z⟩⟩
    · refine hq .non H2 (same_ex e1) ?_
      rw [show f ds = .none from z]
      exact .non
    · have z' : y = .d (f ds) := z
      subst z'
      exact hq v H2 (same_ex e1) v1
/-- a call of a pure def -/
theorem de_go {CX : CXT} {k : Nat} {st : Stmt} {ps : List Str} {pre : List PyData → Prop} {f : List PyData → PyData} (F : Dfn X.prog X.w X.K X.mg X.base CX k x st ps (spD X.K pre f)) (R : Rm X) (r : Room k X.A) (hx : Passes CX X E0)
    (h : dA X W ρ s (e :: es) fun xs s1 => AllD xs fun ds => pre ds ∧ Φ (.d (f ds)) s1) (hg : Gl X x := by rfl)
    (h1 : (x == ("__debug__" : Str)) = false := by decide) (h2 : starEach (e :: es) X.env = (false, eval e X.env) :: starEach es X.env := by rfl) (h3 : (backTo pos (starEach es X.env)).any (·.1) = false := by rfl) : dE X W ρ s (.Call (.Name x p) (e :: es) [] pos) Φ := .mk fun σ H Q en j kn =>
  toE (pe_go F R.g r hx aw hg h1 h2 h3) (h.go σ H _ en j fun vs H1 xs s1 e1 j1 v1 ⟨ds, hd, hp, q⟩ =>
    ⟨W.M, ds, j1.2, allD_ok hd v1, hp, fun v H2 sm dt => kn v H2 (.d (f ds)) s1 (e1.trans (Ex.of sm)) (j1.same sm) dt q⟩)
theorem de_go0 {CX : CXT} {k : Nat} {st : Stmt} {ps : List Str} {pre : List PyData → Prop} {f : List PyData → PyData} (F : Dfn X.prog X.w X.K X.mg X.base CX k x st ps (spD X.K pre f)) (R : Rm X) (r : Room k X.A) (hx : Passes CX X E0)
    (h : pre [] ∧ Φ (.d (f [])) s) (hg : Gl X x := by rfl) (h1 : (x == ("__debug__" : Str)) = false := by decide) : dE X W ρ s (.Call (.Name x p) [] [] pos) Φ := .mk fun σ H Q en j kn =>
  toE (pe_go0 F R.g r hx hg h1) ⟨W.M, [], j.2, .nil, h.1, fun v H2 sm dt => kn v H2 (.d (f [])) s (Ex.of sm) (j.same sm) dt h.2⟩
theorem DtA.perm {K : PySem.W.Frag} {M : Addr → Prop} {H : Hp} {vs : List V} {ds : List PyData} (h : DtA K M H vs ds) (js : List Nat) (hj : ∀ i ∈ js, i < ds.length) : DtA K M H (js.map fun i => vs.getD i .non) (js.map fun i => ds.getD i .none) := by
  induction js with
  | nil => exact .nil
  | cons i js ih =>
    have hi := hj i List.mem_cons_self
    obtain ⟨v, q1, q2⟩ := h.get (List.getElem?_eq_getElem hi)
    refine .cons ?_ (ih fun k hk => hj k (List.mem_cons_of_mem _ hk))
    simp only [List.getD_eq_getElem?_getD, q1, List.getElem?_eq_getElem hi, Option.getD_some]
    exact q2
/-- keywords alone, in the order js -/
theorem de_goK {CX : CXT} {k : Nat} {st : Stmt} {ps ks : List Str} {pre : List PyData → Prop} {f : List PyData → PyData} (js : List Nat) (F : Dfn X.prog X.w X.K X.mg X.base CX k x st ps (spD X.K pre f)) (R : Rm X) (r : Room k X.A) (hx : Passes CX X E0)
    (hbk : ∀ (kV doc pm : Value) (an : Option Addr) (cd ct : Value) (us : List Value), us.length = ks.length → bindArgs (PySem.W.fnOf x x (defArgs st) (defBody st) (defScope st) .none kV doc pm an cd ct) ⟨[], ks.zip us⟩ = pure (ps.zip (js.map fun i => us.getD i .none)))
    (hjs : ∀ i ∈ js, i < ks.length) (h : dK X W ρ s kws fun xs s1 => AllD xs fun ds => ds.length = ks.length ∧ pre (js.map fun i => ds.getD i .none) ∧ Φ (.d (f (js.map fun i => ds.getD i .none))) s1) (hg : Gl X x := by rfl)
    (hall : (backToKw pos (keywordEach kws X.env)).all (·.1.isSome) = true := by rfl) (hks : (backToKw pos (keywordEach kws X.env)).filterMap (·.1) = ks := by rfl)
    (h1 : (x == ("__debug__" : Str)) = false := by decide) (h3 : ((backTo pos (starEach [] X.env)).any (·.1) || (backToKw pos (keywordEach kws X.env)).any (·.1.isNone)) = false := by rfl) :
    dE X W ρ s (.Call (.Name x p) [] kws pos) Φ := .mk fun σ H Q en j kn =>
  toE (pe_goK (gs := fun us => js.map fun i => us.getD i .none) (gV := fun vs => js.map fun i => vs.getD i .non) F R.g r hx kw hbk (fun vs us rv hl => by
      clear h hbk
      induction js with
      | nil => exact .nil
      | cons i js ih =>
        have hi : i < vs.length := by rw [hl]; exact hjs i List.mem_cons_self
        obtain ⟨u, q1, q2⟩ := rv.get (List.getElem?_eq_getElem hi)
        refine .cons ?_ (ih fun k hk => hjs k (List.mem_cons_of_mem _ hk))
        simp only [List.getD_eq_getElem?_getD, q1, List.getElem?_eq_getElem hi, Option.getD_some]
        exact q2) hg hall hks h1 h3) (h.go σ H _ en j fun vs H1 xs s1 e1 j1 v1 ⟨ds, hd, hl, hp, q⟩ => by
    have da := allD_ok hd v1
    exact ⟨da.len.trans hl, W.M, _, j1.2, da.perm js fun i hi => by rw [hl]; exact hjs i hi, hp, fun v H2 sm dt => kn v H2 (.d (f _)) s1 (e1.trans (Ex.of sm)) (j1.same sm) dt q⟩)
end
end Fw

set_option Elab.async false
set_option linter.all false
set_option maxRecDepth 100000
set_option maxHeartbeats 2000000
namespace Fw
open PySem PyProof.Rows
mutual
/-- a bound of the length of what repr shows -/
def cost : PyData → Nat
  | .none => 4
  | .bool _ => 5
  | .int i => i.natAbs.log2 + 2
  | .str z => 10 * z.length + 2
  | .list ds => costA ds + 3
  | .tuple ds => costA ds + 3
  | .dict kvs => costK kvs + 3
def costA : List PyData → Nat
  | [] => 0
  | d :: ds => cost d + 2 + costA ds
def costK : List (PyData × PyData) → Nat
  | [] => 0
  | (k, v) :: r => cost k + cost v + 4 + costK r
end
mutual
/-- ints of some size, texts of signs -/
def nice : PyData → Bool
  | .none => true
  | .bool _ => true
  | .int i => decide (i.natAbs < 2 ^ 1000)
  | .str z => z.cps.all (· < 128)
  | .list ds => niceA ds
  | .tuple ds => niceA ds
  | .dict kvs => niceK kvs
def niceA : List PyData → Bool
  | [] => true
  | d :: ds => nice d && niceA ds
def niceK : List (PyData × PyData) → Bool
  | [] => true
  | (k, v) :: r => nice k && nice v && niceK r
end
theorem strlen (a b : Str) : (a ++ b).length = a.length + b.length := strLen_append a b
theorem listText_le (ts : List Str) : (listText ts).length ≤ piled ts + 2 := by
  have e1 : (("]" : String) : Str).length = 1 := rfl
  have e2 : (("[" : String) : Str).length = 1 := rfl
  unfold listText
  rw [strlen, e1]
  cases ts with
  | nil => show (("[" : String) : Str).length + 1 ≤ _; rw [e2]; omega
  | cons t r =>
    have q := textFrom_length_pos r 1 ((("[" : String) : Str) ++ (("" : String) : Str) ++ t) (by decide)
    have q' : (textFrom 0 (("[" : String) : Str) (t :: r)).length = ((("[" : String) : Str) ++ (("" : String) : Str) ++ t).length + piled r := q
    rw [q', strlen, strlen, piled_cons, e2]
    show 1 + 0 + _ + _ + 1 ≤ _
    omega
theorem join_le (ts : List Str) : (Str.join (", " : String) ts).length ≤ piled ts := by
  by_cases h : ts = []
  · subst h; decide +kernel
  · have := join_length_add ts h
    omega
theorem tupleText_le (ts : List Str) : (tupleText ts).length ≤ piled ts + 3 := by
  have e3 : (((if ts.length == 1 then ",)" else ")" : String) : Str)).length ≤ 2 := by split <;> decide +kernel
  have e2 : (("(" : String) : Str).length = 1 := rfl
  have := join_le ts
  unfold tupleText
  rw [strlen, strlen, e2]
  omega
theorem dictText_le (ts : List Str) : (dictText ts).length ≤ piled ts + 3 := by
  have e3 : (("}" : String) : Str).length = 1 := rfl
  have e2 : (("{" : String) : Str).length = 1 := rfl
  have := join_le ts
  unfold dictText
  rw [strlen, strlen, e2, e3]
  omega
theorem log_of {i : Int} (h : i.natAbs < 2 ^ 1000) : i.natAbs.log2 < 1920 := by
  by_cases z : i.natAbs = 0
  · rw [z]; decide
  · have q := (Nat.log2_lt z).mpr h
    omega
mutual
theorem shown_le : ∀ d : PyData, nice d = true → d.shown.length ≤ cost d ∧ d.showable = true
  | .none, _ => by refine ⟨?_, by simp [PyData.showable]⟩; simp only [PyData.shown, cost]; decide +kernel
  | .bool b, _ => by refine ⟨?_, by simp [PyData.showable]⟩; simp only [PyData.shown, cost]; cases b <;> decide +kernel
  | .int i, h => by
    have q := log_of (of_decide_eq_true (by simpa only [nice] using h))
    refine ⟨?_, by simpa [PyData.showable] using q⟩
    simp only [PyData.shown, cost]
    rw [PySem.ofString_length]
    exact PySem.int_text_length_le (k := i.natAbs.log2 + 1) (Nat.succ_pos _) (Nat.lt_succ_self _)
  | .str z, h => by
    refine ⟨?_, by simp [PyData.showable]⟩
    simp only [PyData.shown, cost]
    refine StrLaws.reprText_len z fun c hc => ?_
    have q : z.cps.all (· < 128) = true := by simpa only [nice] using h
    rw [Array.all_eq_true'] at q
    have := of_decide_eq_true (q c (by simpa using hc))
    exact Nat.lt_of_lt_of_le this (by decide)
  | .list ds, h => by
    obtain ⟨q1, q2⟩ := shownA_le ds (by simpa only [nice] using h)
    refine ⟨?_, by simpa [PyData.showable] using q2⟩
    simp only [PyData.shown, cost]
    have := listText_le (PyData.shownAll ds)
    omega
  | .tuple ds, h => by
    obtain ⟨q1, q2⟩ := shownA_le ds (by simpa only [nice] using h)
    refine ⟨?_, by simpa [PyData.showable] using q2⟩
    simp only [PyData.shown, cost]
    have := tupleText_le (PyData.shownAll ds)
    omega
  | .dict kvs, h => by
    obtain ⟨q1, q2⟩ := shownK_le kvs (by simpa only [nice] using h)
    refine ⟨?_, by simpa [PyData.showable] using q2⟩
    simp only [PyData.shown, cost]
    have := dictText_le (PyData.shownKv kvs)
    omega
theorem shownA_le : ∀ ds : List PyData, niceA ds = true → piled (PyData.shownAll ds) ≤ costA ds ∧ PyData.showableAll ds = true
  | [], _ => ⟨by simp [PyData.shownAll, piled, costA], by simp [PyData.showableAll]⟩
  | d :: ds, h => by
    obtain ⟨h1, h2⟩ := Bool.and_eq_true_iff.mp (show (nice d && niceA ds) = true by simpa only [niceA] using h)
    obtain ⟨q1, q2⟩ := shown_le d h1
    obtain ⟨q3, q4⟩ := shownA_le ds h2
    refine ⟨?_, by simp [PyData.showableAll, q2, q4]⟩
    simp only [PyData.shownAll, piled_cons, costA]
    omega
theorem shownK_le : ∀ ds : List (PyData × PyData), niceK ds = true → piled (PyData.shownKv ds) ≤ costK ds ∧ PyData.showableKv ds = true
  | [], _ => ⟨by simp [PyData.shownKv, piled, costK], by simp [PyData.showableKv]⟩
  | (k, v) :: ds, h => by
    obtain ⟨h1, h2⟩ := Bool.and_eq_true_iff.mp (show (nice k && nice v && niceK ds) = true by simpa only [niceK] using h)
    obtain ⟨h0, h1⟩ := Bool.and_eq_true_iff.mp h1
    obtain ⟨q1, q2⟩ := shown_le k h0
    obtain ⟨q5, q6⟩ := shown_le v h1
    obtain ⟨q3, q4⟩ := shownK_le ds h2
    refine ⟨?_, by simp [PyData.showableKv, q2, q4, q6]⟩
    simp only [PyData.shownKv, piled_cons, costK]
    have e2 : ((": " : String) : Str).length = 2 := rfl
    rw [strlen, strlen, e2]
    omega
end
/-- a datum of a size that the rules take -/
structure Nc (n : Nat) (d : PyData) : Prop where
  ok : nice d = true
  sz : cost d ≤ n
  dp : d.depth ≤ 40
theorem Nc.up {n m : Nat} {d : PyData} (h : Nc n d) (hm : n ≤ m) : Nc m d := ⟨h.ok, Nat.le_trans h.sz hm, h.dp⟩
theorem repr_ok {n : Nat} {d : PyData} (h : Nc n d) (hn : n ≤ 1000000 := by decide) : reprD [d] = some (.str d.shown) := by
  obtain ⟨q1, q2⟩ := shown_le d h.ok
  have h1 := h.sz
  have h2 := h.dp
  show (if (d.showable && decide (d.depth ≤ 64)) = true then lim d.shown.length (PyData.str d.shown) else none) = _
  rw [if_pos (by simp [q2]; omega)]
  exact lim_ok (by omega)
end Fw

set_option Elab.async false
set_option linter.all false
set_option maxRecDepth 100000
set_option maxHeartbeats 2000000
namespace Fw
open PySem PySem.Spec PyProof.Rows L2
section
variable {S : Type} {X : Cx} {W : Wd S} {ρ : Rho} {s : S} {Φ : Vl → S → Prop} {a b c e : Expr} {es : List Expr} {pos p p2 : Pos} {x : Str}
theorem de_isiS (m1 : X.mg "isinstance" = none) (m2 : X.mg "str" = none) (h : dE X W ρ s a fun x s1 => ∃ d, x = .d d ∧ Φ (.d (.bool (isStr d))) s1) (g1 : Gl X "isinstance" := by rfl) (g2 : Gl X "str" := by rfl)
    (h1 : starEach [a, .Name "str" p2] X.env = (false, eval a X.env) :: starEach [.Name "str" p2] X.env := by rfl) : dE X W ρ s (.Call (.Name "isinstance" p) [a, .Name "str" p2] [] pos) Φ := de_isi kit_str m1 m2 h (by decide +kernel) g1 g2 (by decide) (by decide) h1 rfl
theorem de_isiI (m1 : X.mg "isinstance" = none) (m2 : X.mg "int" = none) (h : dE X W ρ s a fun x s1 => ∃ d, x = .d d ∧ Φ (.d (.bool (isIn' d))) s1) (g1 : Gl X "isinstance" := by rfl) (g2 : Gl X "int" := by rfl)
    (h1 : starEach [a, .Name "int" p2] X.env = (false, eval a X.env) :: starEach [.Name "int" p2] X.env := by rfl) : dE X W ρ s (.Call (.Name "isinstance" p) [a, .Name "int" p2] [] pos) Φ := de_isi kit_int m1 m2 h (by decide +kernel) g1 g2 (by decide) (by decide) h1 rfl
theorem de_isiB (m1 : X.mg "isinstance" = none) (m2 : X.mg "bool" = none) (h : dE X W ρ s a fun x s1 => ∃ d, x = .d d ∧ Φ (.d (.bool (isBl d))) s1) (g1 : Gl X "isinstance" := by rfl) (g2 : Gl X "bool" := by rfl)
    (h1 : starEach [a, .Name "bool" p2] X.env = (false, eval a X.env) :: starEach [.Name "bool" p2] X.env := by rfl) : dE X W ρ s (.Call (.Name "isinstance" p) [a, .Name "bool" p2] [] pos) Φ := de_isi kit_bool m1 m2 h (by decide +kernel) g1 g2 (by decide) (by decide) h1 rfl
theorem de_isiT (m1 : X.mg "isinstance" = none) (m2 : X.mg "tuple" = none) (h : dE X W ρ s a fun x s1 => ∃ d, x = .d d ∧ Φ (.d (.bool (isTu d))) s1) (g1 : Gl X "isinstance" := by rfl) (g2 : Gl X "tuple" := by rfl)
    (h1 : starEach [a, .Name "tuple" p2] X.env = (false, eval a X.env) :: starEach [.Name "tuple" p2] X.env := by rfl) : dE X W ρ s (.Call (.Name "isinstance" p) [a, .Name "tuple" p2] [] pos) Φ := de_isi kit_tuple m1 m2 h (by decide +kernel) g1 g2 (by decide) (by decide) h1 rfl
theorem de_isiL (m1 : X.mg "isinstance" = none) (m2 : X.mg "list" = none) (h : dE X W ρ s a fun x s1 => ∃ d, x = .d d ∧ Φ (.d (.bool (isLs d))) s1) (g1 : Gl X "isinstance" := by rfl) (g2 : Gl X "list" := by rfl)
    (h1 : starEach [a, .Name "list" p2] X.env = (false, eval a X.env) :: starEach [.Name "list" p2] X.env := by rfl) : dE X W ρ s (.Call (.Name "isinstance" p) [a, .Name "list" p2] [] pos) Φ := de_isi kit_list m1 m2 h (by decide +kernel) g1 g2 (by decide) (by decide) h1 rfl
theorem de_len (m : X.mg "len" = none) (h : dE X W ρ s e fun x s1 => ∃ d z, x = .d d ∧ lenD [d] = some z ∧ Φ (.d z) s1) (g : Gl X "len" := by rfl) (he : starEach [e] X.env = (false, eval e X.env) :: starEach [] X.env := by rfl) :
    dE X W ρ s (.Call (.Name "len" p) [e] [] pos) Φ := de_callB call_lenDD m (da_cons (de_imp h fun y s1 ⟨d, z, hx, hz, q⟩ => da_nil ⟨[d], by subst hx; rfl, z, hz, q⟩) he) (by decide +kernel) g (by decide) (by decide) he rfl
theorem de_repr (R : Rm X) (m : X.mg "repr" = none) (h : dE X W ρ s e fun x s1 => ∃ d z, x = .d d ∧ reprD [d] = some z ∧ Φ (.d z) s1) (g : Gl X "repr" := by rfl) (he : starEach [e] X.env = (false, eval e X.env) :: starEach [] X.env := by rfl) :
    dE X W ρ s (.Call (.Name "repr" p) [e] [] pos) Φ := de_callB (call_reprD R) m (da_cons (de_imp h fun y s1 ⟨d, z, hx, hz, q⟩ => da_nil ⟨[d], by subst hx; rfl, z, hz, q⟩) he) (by decide +kernel) g (by decide) (by decide) he rfl
theorem de_all (R : Rm X) (m : X.mg "all" = none) (h : dE X W ρ s e fun x s1 => ∃ d z, x = .d d ∧ allB [d] = some z ∧ Φ (.d z) s1) (g : Gl X "all" := by rfl) (he : starEach [e] X.env = (false, eval e X.env) :: starEach [] X.env := by rfl) :
    dE X W ρ s (.Call (.Name "all" p) [e] [] pos) Φ := de_callB (call_allD R) m (da_cons (de_imp h fun y s1 ⟨d, z, hx, hz, q⟩ => da_nil ⟨[d], by subst hx; rfl, z, hz, q⟩) he) (by decide +kernel) g (by decide) (by decide) he rfl
theorem de_any (R : Rm X) (m : X.mg "any" = none) (h : dE X W ρ s e fun x s1 => ∃ d z, x = .d d ∧ anyB [d] = some z ∧ Φ (.d z) s1) (g : Gl X "any" := by rfl) (he : starEach [e] X.env = (false, eval e X.env) :: starEach [] X.env := by rfl) :
    dE X W ρ s (.Call (.Name "any" p) [e] [] pos) Φ := de_callB (call_anyD R) m (da_cons (de_imp h fun y s1 ⟨d, z, hx, hz, q⟩ => da_nil ⟨[d], by subst hx; rfl, z, hz, q⟩) he) (by decide +kernel) g (by decide) (by decide) he rfl
theorem eqD_str (a : PyData) (x : Str) : eqD a (.str x) = some (.bool (PyData.eqv a (.str x))) := by cases a <;> rfl
theorem Rm.blk {X : Cx} (R : Rm X) {scope : Scope} {b : Bk} : Rm (bx X scope b) := ⟨R.g, R.u, R.b, R.c⟩
theorem boolsD_map (g : PyData → Bool) : ∀ ds : List PyData, boolsD (ds.map fun d => .bool (g d)) = some (ds.map g)
  | [] => rfl
  | d :: ds => by
    show (some (g d)).bind (fun b => (boolsD (ds.map fun d => .bool (g d))).map (b :: ·)) = _
    rw [boolsD_map g ds]
    rfl
theorem allB_map (g : PyData → Bool) (ds : List PyData) : allB [.list (ds.map fun d => .bool (g d))] = some (.bool (ds.all g)) := by
  show (boolsD (ds.map fun d => .bool (g d))).map _ = _
  rw [boolsD_map]
  simp [List.all_map]
theorem anyB_map (g : PyData → Bool) (ds : List PyData) : anyB [.list (ds.map fun d => .bool (g d))] = some (.bool (ds.any g)) := by
  show (boolsD (ds.map fun d => .bool (g d))).map _ = _
  rw [boolsD_map]
  simp [List.any_map]
/-- the marks of a comparison -/
theorem mkC (op : CmpOp) (b : Expr) (h1 : op ≠ .In := by decide) (h2 : op ≠ .NotIn := by decide) : behindInMarks op b = false := nobehind b h1 h2
variable {scope : Scope} {i : Nat} {tg elt : Expr}
/-- [elt for ..]: each element g of its item, the state as it was -/
theorem Lc.map (g : PyData → PyData) (h : dI X W ρ s tg e fun ds s1 => ds.length < sizeLine ∧ (∀ D d, d ∈ ds → ∀ b : Bk, dE (bx X scope b) (W.plus D) ((wipR ρ [i]).set i (some (.d d))) s1 elt fun x s4 => x = .d (g d) ∧ s4 = s1) ∧ Φ (.d (.list (ds.map g))) s1) :
    Lc X W ρ s scope i tg e elt [] Φ := .mk fun σ H R en j kn => h.go σ H R en j fun J H1 ds s1 e1 j1 it ⟨hl, he, q⟩ => kn J H1 ds s1 e1 j1 it ⟨hl, fun k acc s2 => acc = (ds.take k).map g ∧ s2 = s1, ⟨by simp, rfl⟩, fun D k d acc s2 hd hi b => by
    obtain ⟨rfl, rfl⟩ := hi
    refine ⟨fun _ b => de_imp (he D d (List.mem_of_getElem? hd) b) fun x s4 ⟨hx, hs⟩ => ⟨g d, hx, ?_, hs⟩, fun z => Bool.noConfusion z⟩
    rw [List.take_add_one, hd]
    simp, fun acc s2 ⟨h1, h2⟩ => by subst h1 h2; simpa using q⟩
/-- [elt for .. if c] -/
theorem Lc.filt (f : PyData → Bool) (g : PyData → PyData) (h : dI X W ρ s tg e fun ds s1 => ds.length < sizeLine ∧ (∀ D d, d ∈ ds → ∀ b : Bk, dT (bx X scope b) (W.plus D) ((wipR ρ [i]).set i (some (.d d))) s1 c fun t s4 => t = f d ∧ s4 = s1) ∧
      (∀ D d, d ∈ ds → f d = true → ∀ b : Bk, dE (bx X scope b) (W.plus D) ((wipR ρ [i]).set i (some (.d d))) s1 elt fun x s4 => x = .d (g d) ∧ s4 = s1) ∧ Φ (.d (.list ((ds.filter f).map g))) s1) :
    Lc X W ρ s scope i tg e elt [c] Φ := .mk fun σ H R en j kn => h.go σ H R en j fun J H1 ds s1 e1 j1 it ⟨hl, hc, he, q⟩ => kn J H1 ds s1 e1 j1 it ⟨hl, fun k acc s2 => acc = ((ds.take k).filter f).map g ∧ s2 = s1, ⟨by simp, rfl⟩, fun D k d acc s2 hd hi b => by
    obtain ⟨rfl, rfl⟩ := hi
    refine dT.mk fun σ' H' Q' en' j' kn' => (hc D d (List.mem_of_getElem? hd) b).go σ' H' Q' en' j' fun t H2 s3 e2 j2 ⟨ht, hs⟩ => kn' t H2 s3 e2 j2 ?_
    subst hs
    refine ⟨fun z b => ?_, fun z => ⟨?_, rfl⟩⟩
    · have z' : f d = true := ht.symm.trans z
      refine de_imp (he D d (List.mem_of_getElem? hd) z' b) fun x s4 ⟨hx, hs⟩ => ⟨g d, hx, ?_, hs⟩
      rw [List.take_add_one, hd]
      simp [z']
    · have z' : f d = false := ht.symm.trans z
      rw [List.take_add_one, hd]
      simp [z'], fun acc s2 ⟨h1, h2⟩ => by subst h1 h2; simpa using q⟩
end
end Fw

set_option Elab.async false
set_option linter.all false
set_option maxRecDepth 100000
set_option maxHeartbeats 2000000
namespace Fw
open PySem PySem.Spec PyProof.Rows L2
section
variable {X : Cx}
/-! ### more arithmetic -/
/-- z, if c -/
def onlyB (c : Bool) (z : PyData) : Option PyData := if c then some z else none
theorem onlyB_some {c : Bool} {z w : PyData} (h : onlyB c z = some w) : c = true ∧ z = w := by
  unfold onlyB at h
  split at h
  · exact ⟨by assumption, Option.some.inj h⟩
  · cases h
theorem onlyB_ok {c : Bool} {z : PyData} (h : c = true) : onlyB c z = some z := if_pos h
def modD : PyData → PyData → Option PyData
  | .int i, .int j => onlyB (decide (0 < j)) (.int (i % j))
  | _, _ => none
theorem op_modD : OpR X (binaryOp .Mod) (rD X.K modD) := by
  intro pins s σ H x y v u Q I rx ry ⟨M, d, e, z, hm, h1, h2, hz, hq⟩
  match d, e, hz, h1, h2 with
  | .int i, .int j, hz, .int _, .int _ =>
    obtain ⟨hc, rfl⟩ := onlyB_some hz
    exact op_mod pins s σ H _ _ v u Q I rx ry ⟨i, j, rfl, rfl, of_decide_eq_true hc, plain hq (.int _)⟩
def divD : PyData → PyData → Option PyData
  | .int i, .int j => onlyB (decide (0 < j) && decide (j < 1073741824)) (.int (i / j))
  | _, _ => none
theorem op_divD : OpR X (binaryOp .FloorDiv) (rD X.K divD) := by
  intro pins s σ H x y v u Q I rx ry ⟨M, d, e, z, hm, h1, h2, hz, hq⟩
  match d, e, hz, h1, h2 with
  | .int i, .int j, hz, .int _, .int _ =>
    obtain ⟨hc, rfl⟩ := onlyB_some hz
    obtain ⟨c1, c2⟩ := Bool.and_eq_true_iff.mp hc
    exact op_fdiv pins s σ H _ _ v u Q I rx ry ⟨i, j, rfl, rfl, ⟨of_decide_eq_true c1, of_decide_eq_true c2⟩, plain hq (.int _)⟩
def powD : PyData → PyData → Option PyData
  | .int i, .int j => onlyB (decide (0 ≤ j) && (decide (j ≤ 1000000) && decide (i.natAbs < 18446744073709551616))) (.int (i ^ j.toNat))
  | _, _ => none
theorem op_powD : OpR X (binaryOp .Pow) (rD X.K powD) := by
  intro pins s σ H x y v u Q I rx ry ⟨M, d, e, z, hm, h1, h2, hz, hq⟩
  match d, e, hz, h1, h2 with
  | .int i, .int j, hz, .int _, .int _ =>
    obtain ⟨hc, rfl⟩ := onlyB_some hz
    obtain ⟨c1, c2⟩ := Bool.and_eq_true_iff.mp hc
    obtain ⟨c2, c3⟩ := Bool.and_eq_true_iff.mp c2
    exact op_pow pins s σ H _ _ v u Q I rx ry ⟨i, j, rfl, rfl, ⟨of_decide_eq_true c1, of_decide_eq_true c2, of_decide_eq_true c3⟩, plain hq (.int _)⟩
/-- a text n times -/
def strRep (x : Str) (n : Int) : Str := if x.length = 0 then x else ⟨(List.replicate n.toNat x.cps).foldl (· ++ ·) #[]⟩
def mulOk (i j : Int) : Bool := decide (i.natAbs < 18446744073709551616) || decide (j.natAbs < 18446744073709551616)
def mulD : PyData → PyData → Option PyData
  | .int i, .int j => onlyB (mulOk i j) (.int (i * j))
  | .str x, .int n => onlyB (decide (2 ≤ n) && (decide (n ≤ 100) && decide (x.length ≤ 10000))) (.str (strRep x n))
  | .list xs, .int n => onlyB (decide (0 ≤ n) && (decide (n ≤ 100) && decide (xs.length ≤ 10000))) (.list (List.replicate n.toNat xs).flatten)
  | .tuple xs, .int n => onlyB (decide (2 ≤ n) && (decide (n ≤ 100) && (decide (xs.length ≤ 1000) && decide (0 < xs.length)))) (.tuple (List.replicate n.toNat xs).flatten)
  | _, _ => none
theorem op_mulD : OpR X (binaryOp .Mult) (rD X.K mulD) := by
  intro pins s σ H x y v u Q I rx ry ⟨M, d, e, z, hm, h1, h2, hz, hq⟩
  match d, e, hz, h1, h2 with
  | .int i, .int j, hz, .int _, .int _ =>
    obtain ⟨hc, rfl⟩ := onlyB_some hz
    refine op_mul pins s σ H _ _ v u Q I rx ry ⟨i, j, rfl, rfl, ?_, plain hq (.int _)⟩
    rcases Bool.or_eq_true_iff.mp hc with c | c
    · have c := of_decide_eq_true c
      exact .inl ⟨by omega, by omega⟩
    · have c := of_decide_eq_true c
      exact .inr ⟨by omega, by omega⟩
  | .str x, .int n, hz, .str _, .int _ =>
    obtain ⟨hc, rfl⟩ := onlyB_some hz
    obtain ⟨c1, c2⟩ := Bool.and_eq_true_iff.mp hc
    obtain ⟨c2, c3⟩ := Bool.and_eq_true_iff.mp c2
    have c1 := of_decide_eq_true c1
    have c2 := of_decide_eq_true c2
    have c3 := of_decide_eq_true c3
    obtain ⟨t, rfl⟩ := rx
    obtain ⟨t', rfl⟩ := ry
    have hn1 : ¬ n < 1 := by omega
    have hp : x.length * n.toNat ≤ 1000000 := Nat.le_trans (Nat.mul_le_mul c3 (show n.toNat ≤ 100 by omega)) (by decide)
    refine PySem.P.mul_str (by rw [decide_eq_false (by omega), decide_eq_false (by omega)]; rfl) (fun _ _ q => ?_) (fun _ _ => ?_) ?_
    · have q1 : (2 ^ 63 - 1) / n ≥ (2 ^ 63 - 1) / 100 := by
        refine Int.le_ediv_of_mul_le (by omega) ?_
        have : (2 ^ 63 - 1) / 100 * n ≤ (2 ^ 63 - 1) / 100 * 100 := Int.mul_le_mul_of_nonneg_left c2 (by decide)
        have e : ((2 : Int) ^ 63 - 1) / 100 * 100 ≤ 2 ^ 63 - 1 := by decide
        omega
      have e : ((2 : Int) ^ 63 - 1) / 100 ≥ 10000 := by decide
      omega
    · unfold PySem.Builtin.Str.tooLong
      exact decide_eq_false (by have := sizeLine_eq; omega)
    · rw [if_neg hn1]
      have q := hq
      unfold strRep at q
      by_cases hx : x.length = 0
      · rw [if_pos hx] at q
        rw [if_pos (by simp [hx])]
        exact ⟨.str x, H, I, ⟨_, rfl⟩, plain q (.str _)⟩
      · rw [if_neg hx] at q
        rw [if_neg (by simp [hx]; omega)]
        refine ⟨?_, .str _, H, I.tok _, ⟨_, rfl⟩, plain q (.str _)⟩
        show (Str.length _) ≤ _
        have e : ∀ (k : Nat) (a : Array Nat), ((List.replicate k x.cps).foldl (· ++ ·) a).size = a.size + k * x.cps.size := by
          intro k
          induction k with
          | zero => intro a; simp
          | succ k ih =>
            intro a
            rw [List.replicate_succ, List.foldl_cons, ih, Array.size_append, Nat.succ_mul]
            omega
        have e2 := e n.toNat #[]
        have e3 : Str.length ⟨(List.replicate n.toNat x.cps).foldl (· ++ ·) #[]⟩ = n.toNat * x.cps.size := by
          show Array.size _ = _
          rw [e2]
          simp
        rw [e3]
        have e4 : n.toNat * x.cps.size = x.length * n.toNat := Nat.mul_comm _ _
        rw [e4]
        have := sizeLine_eq
        omega
  | .list xs, .int n, hz, .lst n1 a1 b1, .int _ =>
    obtain ⟨hc, rfl⟩ := onlyB_some hz
    obtain ⟨c1, c2⟩ := Bool.and_eq_true_iff.mp hc
    obtain ⟨c2, c3⟩ := Bool.and_eq_true_iff.mp c2
    have c1 := of_decide_eq_true c1
    have c2 := of_decide_eq_true c2
    have c3 := of_decide_eq_true c3
    refine op_rep pins s σ H _ _ v u Q I rx ry ⟨_, n, _, rfl, rfl, a1, by omega, by omega, ?_, fun p hp => fresh hq hp (.lst (fun m => hm p m hp) upd_same ((b1.rep _).mono (Ex.of (same_new hp))))⟩
    rw [b1.len]
    have hp : xs.length * n.toNat ≤ 1000000 := Nat.le_trans (Nat.mul_le_mul c3 (show n.toNat ≤ 100 by omega)) (by decide)
    have := sizeLine_eq
    omega
  | .tuple xs, .int n, hz, h1, .int _ =>
    obtain ⟨hc, rfl⟩ := onlyB_some hz
    obtain ⟨c1, c2⟩ := Bool.and_eq_true_iff.mp hc
    obtain ⟨c2, c3⟩ := Bool.and_eq_true_iff.mp c2
    obtain ⟨c3, c4⟩ := Bool.and_eq_true_iff.mp c3
    have c1 := of_decide_eq_true c1
    have c2 := of_decide_eq_true c2
    have c3 := of_decide_eq_true c3
    have c4 := of_decide_eq_true c4
    obtain ⟨a, ys, rfl, a1, b1, _⟩ := h1.isT
    refine op_repT pins s σ H _ _ v u Q I rx ry ⟨a, n, ys, rfl, rfl, a1, fun e => ?_, c1, by omega, by rw [b1.len]; exact c3, fun p hp => fresh hq hp (.tup (fun m => hm p m hp) upd_same ((b1.rep _).mono (Ex.of (same_new hp))))⟩
    have := b1.len
    rw [e] at this
    simp at this
    omega
/-! ### str, list, tuple -/
def strC : List PyData → Option PyData
  | [.int i] => onlyB (decide (i.natAbs.log2 < 1920)) (.str (toString i))
  | [.bool b] => some (.str (if b then "True" else "False"))
  | _ => none
theorem call_strC : CallR X (.type "str") (rDc X.K strC) := by
  intro pins s σ H xs us Q I r ⟨M, ds, z, hm, h1, hz, hq⟩
  match ds, hz, h1 with
  | [.int i], hz, h1 =>
    obtain ⟨hl, rfl⟩ := onlyB_some hz
    obtain ⟨v, rfl, q⟩ := one_DA h1
    cases q
    exact call_str_int pins s σ H _ us Q I r ⟨i, rfl, of_decide_eq_true hl, plain hq (.str _)⟩
  | [.bool b], hz, h1 =>
    cases hz
    obtain ⟨v, rfl, q⟩ := one_DA h1
    cases q
    obtain ⟨u, rfl, ru⟩ := vals1 r
    cases ru
    exact PySem.P.str_of_bool ⟨.str _, H, I.tok _, ⟨_, rfl⟩, plain hq (by cases b <;> exact .str _)⟩
def listC : List PyData → Option PyData
  | [.list l] => some (.list l)
  | [.tuple l] => some (.list l)
  | _ => none
theorem call_listC : CallR X (.type "list") (rDc X.K listC) := by
  intro pins s σ H xs us Q I r ⟨M, ds, z, hm, h1, hz, hq⟩
  match ds, hz, h1 with
  | [.list l], hz, h1 =>
    cases hz
    obtain ⟨v, rfl, q⟩ := one_DA h1
    cases q with
    | lst n a1 b1 => exact call_list_of pins s σ H _ us Q I r ⟨_, _, rfl, .inl (SqL.of a1), fun p hp => fresh hq hp (.lst (fun m => hm p m hp) upd_same (b1.mono (Ex.of (same_new hp))))⟩
  | [.tuple l], hz, h1 =>
    cases hz
    obtain ⟨v, rfl, q⟩ := one_DA h1
    obtain ⟨a, ys, rfl, a1, b1, _⟩ := q.isT
    exact call_list_of pins s σ H _ us Q I r ⟨_, _, rfl, .inr a1, fun p hp => fresh hq hp (.lst (fun m => hm p m hp) upd_same (b1.mono (Ex.of (same_new hp))))⟩
def tupleC : List PyData → Option PyData
  | [.list l] => some (.tuple l)
  | [.tuple l] => some (.tuple l)
  | _ => none
theorem call_tupleC : CallR X (.type "tuple") (rDc X.K tupleC) := by
  intro pins s σ H xs us Q I r ⟨M, ds, z, hm, h1, hz, hq⟩
  match ds, hz, h1 with
  | [.list l], hz, h1 =>
    cases hz
    obtain ⟨v, rfl, q⟩ := one_DA h1
    cases q with
    | lst n a1 b1 => exact call_tuple_of pins s σ H _ us Q I r ⟨_, _, rfl, .inl ⟨SqL.of a1, fun p hp => fresh hq hp (.tup (fun m => hm p m hp) upd_same (b1.mono (Ex.of (same_new hp))))⟩⟩
  | [.tuple l], hz, h1 =>
    cases hz
    obtain ⟨v, rfl, q⟩ := one_DA h1
    obtain ⟨a, ys, rfl, a1, b1, _⟩ := q.isT
    exact call_tuple_of pins s σ H _ us Q I r ⟨_, _, rfl, .inr ⟨a1, plain hq q⟩⟩
end
section
variable {S : Type} {X : Cx} {W : Wd S} {ρ : Rho} {s : S} {Φ : Vl → S → Prop} {a b c e o : Expr} {es : List Expr} {pos p p2 apos : Pos} {x : Str}
theorem de_strC (m : X.mg "str" = none) (h : dE X W ρ s e fun x s1 => ∃ d z, x = .d d ∧ strC [d] = some z ∧ Φ (.d z) s1) (g : Gl X "str" := by rfl) (he : starEach [e] X.env = (false, eval e X.env) :: starEach [] X.env := by rfl) :
    dE X W ρ s (.Call (.Name "str" p) [e] [] pos) Φ := de_callTy call_strC m (da_cons (de_imp h fun y s1 ⟨d, z, hx, hz, q⟩ => da_nil ⟨[d], by subst hx; rfl, z, hz, q⟩) he) (by decide +kernel) g (by decide) (by decide) he rfl
theorem de_listC (m : X.mg "list" = none) (h : dE X W ρ s e fun x s1 => ∃ d z, x = .d d ∧ listC [d] = some z ∧ Φ (.d z) s1) (g : Gl X "list" := by rfl) (he : starEach [e] X.env = (false, eval e X.env) :: starEach [] X.env := by rfl) :
    dE X W ρ s (.Call (.Name "list" p) [e] [] pos) Φ := de_callTy call_listC m (da_cons (de_imp h fun y s1 ⟨d, z, hx, hz, q⟩ => da_nil ⟨[d], by subst hx; rfl, z, hz, q⟩) he) (by decide +kernel) g (by decide) (by decide) he rfl
theorem de_tupleC (m : X.mg "tuple" = none) (h : dE X W ρ s e fun x s1 => ∃ d z, x = .d d ∧ tupleC [d] = some z ∧ Φ (.d z) s1) (g : Gl X "tuple" := by rfl) (he : starEach [e] X.env = (false, eval e X.env) :: starEach [] X.env := by rfl) :
    dE X W ρ s (.Call (.Name "tuple" p) [e] [] pos) Φ := de_callTy call_tupleC m (da_cons (de_imp h fun y s1 ⟨d, z, hx, hz, q⟩ => da_nil ⟨[d], by subst hx; rfl, z, hz, q⟩) he) (by decide +kernel) g (by decide) (by decide) he rfl
/-! ### texts -/
theorem de_upper (h : dE X W ρ s o fun x s1 => ∃ z : Str, x = .d (.str z) ∧ z.length ≤ 100000 ∧ Φ (.d (.str (Txt.upper z))) s1) (hb : attributeBase o "upper" X.env (eval o X.env) = eval o X.env := by rfl) (hl : (apos.endLine == pos.line) = true := by rfl) :
    dE X W ρ s (.Call (.Attribute o "upper" apos) [] [] pos) Φ := .mk fun σ H Q en j kn => toE (pe_upper pw hb hl) (h.go σ H _ en j fun v H1 y s1 e1 j1 v1 ⟨z, hx, hz, q⟩ => by
      subst hx
      cases v1
      exact ⟨⟨z, rfl⟩, z, rfl, rfl, by omega, kn _ H1 (.d (.str (Txt.upper z))) s1 e1 j1 (.str _) q⟩)
theorem strs_V {K : PySem.W.Frag} {M : Addr → Prop} {H : Hp} : ∀ {vs : List V} {ys : List Str}, DtA K M H vs (ys.map PyData.str) → vs = ys.map V.str
  | _, [], .nil => rfl
  | _, y :: ys, .cons a b => by
    cases a
    rw [strs_V b]
    rfl
theorem de_join (h : dE X W ρ s o fun x s1 => ∃ z : Str, x = .d (.str z) ∧ dE X W ρ s1 e fun y s2 => ∃ ys : List Str, y = .d (.list (ys.map PyData.str)) ∧ (ys.map (·.length)).sum + ys.length * z.length ≤ 100000 ∧ Φ (.d (.str (Txt.join z ys))) s2)
    (hs : starEach [e] X.env = [(false, eval e X.env)] := by rfl) (hb : attributeBase o "join" X.env (eval o X.env) = eval o X.env := by rfl) (hl : (apos.endLine == pos.line) = true := by rfl) :
    dE X W ρ s (.Call (.Attribute o "join" apos) [e] [] pos) Φ := .mk fun σ H Q en j kn => toE (pe_join pw pw hs hb hl) (h.go σ H _ en j fun v H1 x s1 e1 j1 v1 ⟨z, hx, h2⟩ => by
      subst hx
      cases v1
      refine ⟨⟨z, rfl⟩, h2.go σ H1 _ (W.em e1 en) j1 fun u H2 y s2 e2 j2 v2 ⟨ys, hy, hz, q⟩ => ?_⟩
      subst hy
      cases (show Dt X.K W.M H2 u (.list (ys.map PyData.str)) from v2) with
      | lst n a1 b1 =>
        have e3 := strs_V b1
        subst e3
        exact ⟨z, _, ys, rfl, rfl, .inl (SqL.of a1), by omega, kn _ H2 (.d (.str (Txt.join z ys))) s2 (e1.trans e2) j2 (.str _) q⟩)
/-! ### dicts, [::-1] -/
theorem de_dic0 (h : Φ (.d (.dict [])) s) : dE X W ρ s (.Dict [] [] pos) Φ := .mk fun σ H Q en j kn => toE pe_dnewK fun q hq => kn _ _ (.d (.dict [])) s (Ex.of (same_new hq)) (j.same (same_new hq)) (Dt.dic (kvs := []) (j.new hq) upd_same .nil) h
theorem de_dicC {z : Str} {i : Int} {k1 k2 : Nat} {q1 q2 : Pos} (h : Φ (.d (.dict [(.str z, .int i)])) s) : dE X W ρ s (.Dict [some (.Constant (.str z) k1 q1)] [.Constant (.int i) k2 q2] pos) Φ := .mk fun σ H Q en j kn =>
  toE (pe_disp (pps_cons pe_str pe_int pps_nil) rfl rfl (by simp) (by simp)) fun q hq => ⟨upd_same, [(.inr z, .int i)], rfl, by simp, by
    have e : Same H (upd (upd H q (.dK [])) q (.dK (mergeK [] [((Sum.inr z : Key), V.int i)]))) := fun b o eb => by
      rw [upd_ne (ne_of_none eb hq), upd_ne (ne_of_none eb hq)]
      exact eb
    exact kn _ _ (.d (.dict [(.str z, .int i)])) s (Ex.of e) (j.same e) (Dt.dic (kvs := [(.inr z, .int i)]) (ds := [.int i]) (j.new hq) upd_same (.cons (.int i) .nil)) h⟩
theorem de_revL {k : Nat} {q1 q2 q3 : Pos} (h : dE X W ρ s e fun x s1 => ∃ ds, x = .d (.list ds) ∧ Φ (.d (.list ds.reverse)) s1) : dE X W ρ s (.Subscript e (.Slice none none (some (.UnaryOp .USub (.Constant (.int 1) k q1) q2)) q3) pos) Φ := .mk fun σ H Q en j kn =>
  toE (pe_revL pw) (h.go σ H _ en j fun v H1 x s1 e1 j1 v1 ⟨ds, hx, q⟩ => by
    subst hx
    cases (show Dt X.K W.M H1 v (.list ds) from v1) with
    | lst n a1 b1 => exact ⟨_, _, rfl, SqL.of a1, fun p hp => kn _ _ (.d (.list ds.reverse)) s1 (e1.trans (Ex.of (same_new hp))) (j1.same (same_new hp)) (.lst (j1.new hp) upd_same (b1.rev.mono (Ex.of (same_new hp)))) q⟩)
end
end Fw

set_option Elab.async false
set_option linter.all false
set_option maxRecDepth 100000
set_option maxHeartbeats 2000000
namespace HT
open PySem PySem.Spec PyProof.Rows
section
variable {prog : Program} {w : World} {A : Around} {E : Value → Shared → Prop} {s : Shared}
theorem sliceApplied_rev {sl : Addr} {vl vu vs : Value} {n : Nat} {Q : Int × Int × Nat → Shared → Prop} (hn : 1 ≤ n) (hs : s.heap.IsSliceOf sl vl vu vs) (pl : IsPart vl none) (pu : IsPart vu none) (ps : IsPart vs (some (-1)))
    (h : Q ((n : Int) - 1, -1, n) s) : wpAny (model prog w) A (Builtin.Slice.sliceApplied (.ref sl) (pure (n : Int))) Q E s := by
  obtain ⟨os, hos, hcs, hds⟩ := id hs
  unfold Builtin.Slice.sliceApplied Builtin.Slice.sliceFields
  refine wpAny_bind (wpAny_bind (wpAny_field hos hds (x := vl) rfl (wpAny_bind (wpAny_field hos hds (x := vu) rfl (wpAny_bind (wpAny_field hos hds (x := vs) rfl (wpAny_pure ?_)))))))
  refine wpAny_bind (slicePart_ ps ?_)
  show wpAny _ _ (if ((-1 : Int) == 0) = true then _ else _) _ _ s
  rw [if_neg (by decide)]
  refine wpAny_bind (slicePart_ pl (wpAny_bind (slicePart_ pu (wpAny_bind (wpAny_pure ?_)))))
  have e : Builtin.Slice.slicePlaces ((n : Int) - 1) (-1) (-1) = n := by
    unfold Builtin.Slice.slicePlaces
    rw [if_neg (by decide), if_pos (by omega)]
    have : (-(-1) : Int) = 1 := rfl
    rw [this, Int.ediv_one]
    omega
  show wpAny _ _ (pure ((n : Int) - 1, (-1 : Int), Builtin.Slice.slicePlaces ((n : Int) - 1) (-1) (-1))) _ _ s
  rw [e]
  exact wpAny_pure h
theorem pick_rev (xs : Array Value) : ((List.range xs.size).filterMap fun (m : Nat) => xs[((xs.size : Int) - 1 + (m : Int) * (-1)).toNat]?).toArray = xs.toList.reverse.toArray := by
  congr 1
  apply List.ext_getElem?
  intro i
  have e : ∀ l : List Nat, (∀ m ∈ l, m < xs.size) → l.filterMap (fun (m : Nat) => xs[((xs.size : Int) - 1 + (m : Int) * (-1)).toNat]?) = l.map fun m => xs.toList.reverse.getD m .none := by
    intro l
    induction l with
    | nil => intro _; rfl
    | cons m l ih =>
      intro hm
      have hm0 := hm m List.mem_cons_self
      have e1 : ((xs.size : Int) - 1 + (m : Int) * (-1)).toNat = xs.size - 1 - m := by omega
      have e2 : xs.size - 1 - m < xs.size := by omega
      have e3 : xs[((xs.size : Int) - 1 + (m : Int) * (-1)).toNat]? = some (xs.toList.reverse.getD m .none) := by
        rw [e1, List.getD_eq_getElem?_getD, List.getElem?_reverse (by simpa using hm0), Array.length_toList, Array.getElem?_toList, Array.getElem?_eq_getElem e2]
        rfl
      rw [List.filterMap_cons, e3, List.map_cons, ih fun k hk => hm k (List.mem_cons_of_mem _ hk)]
  rw [e _ fun m hm => List.mem_range.mp hm]
  by_cases hi : i < xs.size
  · rw [List.getElem?_map, List.getElem?_range hi]
    have hi' : i < xs.toList.reverse.length := by simpa using hi
    show some (xs.toList.reverse.getD i .none) = _
    rw [List.getD_eq_getElem?_getD, List.getElem?_eq_getElem hi']
    rfl
  · rw [List.getElem?_eq_none (by simpa using hi), List.getElem?_eq_none (by simpa using hi)]
theorem getItem_tuple_rev {t sl : Addr} {items : Array Value} {vl vu vs : Value} {Q : Value → Shared → Prop} (ht : IsTup s.heap t items) (hn : 1 ≤ items.size) (hs : s.heap.IsSliceOf sl vl vu vs) (pl : IsPart vl none) (pu : IsPart vu none) (ps : IsPart vs (some (-1)))
    (h : Q (.ref s.heap.objs.size) { s with heap := s.heap.push { cls := .type "tuple", data := .seq items.toList.reverse.toArray } })
    (hsz : items.size ≤ sizeLine) : wpAny (model prog w) A (getItem (.ref t) (.ref sl)) Q E s := by
  have htake : sizeOk (.seq items.toList.reverse.toArray) := by
    show items.toList.reverse.toArray.size ≤ sizeLine
    simpa using hsz
  obtain ⟨os, hos, hcs, hds⟩ := id hs
  have hTs : s.TypeIs (.ref sl) "slice" := ⟨os, hos, hcs⟩
  unfold getItem
  try with_reducible refine wpAny_holding ?_
  first | refine wpAny_bind (wpAny_pure ?_) | skip
  refine wpAny_bind (wpAny_sequenceKey ht.typeIs (by decide) ?_)
  refine wpAny_bind (wpAny_callSpecial?_slot (name := Str.ofString "__getitem__") ht.typeIs PyProof.Rows.slot_tuple_getitem
    (wpAny_call_entry PyProof.Rows.slot_tuple_getitem ht.typeIs entry_tuple_getitem ?_ (args_tuple_getitem _ _)))
  show wpAny _ _ (Builtin.Tuple.tupleItemsOf (.ref t) >>= _) _ _ s
  refine wpAny_bind (tupleItemsOf_ ht ?_)
  refine wpAny_bind (wpAny_typeOf hTs ?_)
  rw [if_pos (by decide)]
  refine wpAny_bind (sliceApplied_rev hn hs pl pu ps ?_)
  show wpAny _ _ (if (((items.size : Int) - 1) == 0 && (-1 : Int) == 1 && items.size == items.size) = true then _ else _) _ _ s
  rw [if_neg (by simp), pick_rev]
  first
    | exact wpAny_bind (m := Builtin.Tuple.tupleExact _) (wpAny_newObj_type (wpAny_pure ⟨_, rfl, wpAny_pure h⟩) htake)
    | exact wpAny_bind (m := Builtin.Tuple.tupleExact _) (wpAny_newObj_type (wpAny_bind (wpAny_pure (wpAny_pure ⟨_, rfl, wpAny_pure h⟩))) htake)
    | exact wpAny_bind (wpAny_bind (m := Builtin.Tuple.tupleExact _) (wpAny_newObj_type (wpAny_pure (wpAny_pure ⟨_, rfl, wpAny_pure h⟩)) htake))
    | exact wpAny_bind (wpAny_bind (m := Builtin.Tuple.tupleExact _) (wpAny_newObj_type (wpAny_pure ⟨_, rfl, wpAny_pure h⟩) htake))
end
end HT
namespace Fw
open PySem PySem.Spec PyProof.Rows L2
section
variable {S : Type} {X : Cx} {W : Wd S} {ρ : Rho} {s : S} {Φ : Vl → S → Prop} {Δ : DE S} {a b c e o : Expr} {es : List Expr} {pos p p2 apos : Pos} {x : Str}
/-! ### t[::-1] -/
def tRevT (K : PySem.W.Frag) (te : TE) : TE := fun σ H Q => te σ H fun x H1 => ∃ a xs, x = .ref a ∧ SqT K H1 a xs ∧ 1 ≤ xs.length ∧ ∀ p, H1 p = none → Q (.ref p) (upd H1 p (.tup xs.reverse))
theorem pe_revT {e : Expr} {te : TE} {k : Nat} {p1 p2 p3 pos : Pos} (he : PE X e te) : PE X (.Subscript e (.Slice none none (some (.UnaryOp .USub (.Constant (.int 1) k p1) p2)) p3) pos) (tRevT X.K te) := by
  refine ⟨fun pins s σ H Q I h => ?_⟩
  refine Subscript_ (thn (he.run pins s σ H _ I h) fun v s1 ⟨x, H1, I1, r1, q1⟩ => ?_)
  obtain ⟨a, xs, ex, hx, hpos, q⟩ := q1
  subst ex
  cases r1
  have hst : PO X (some (.UnaryOp .USub (.Constant (.int 1) k p1) p2)) (tPart (tUn (rU fun i => .int (-i)) (tC (.int 1)))) := po_some (pe_un un_neg pe_int)
  refine wpAny_Slice (thn (po_none.run pins s1 σ H1 (fun o H2 => o = none ∧ H2 = H1) I1 ⟨rfl, rfl⟩) fun vl s2 ⟨l, H2, I2, pl, el, e2⟩ => ?_)
  subst el e2
  refine thn (po_none.run pins s2 σ H2 (fun o H3 => o = none ∧ H3 = H2) I2 ⟨rfl, rfl⟩) fun vu s3 ⟨u, H3, I3, pu, eu, e3⟩ => ?_
  subst eu e3
  refine thn (hst.run pins s3 σ H3 (fun o H4 => o = some (-1) ∧ H4 = H3) I3 ⟨1, rfl, -1, rfl, rfl, rfl⟩) fun vs s4 ⟨o, H4, I4, ps, eo, e4⟩ => ?_
  subst eo e4
  have I5 : Inv X pins σ H4 { s4 with heap := s4.heap.push { cls := .type "slice", data := .fields #[vl, vu, vs] } } := I4.kept (t' := s4.toks) fun b ob q => Heap.get?_push_of_some _ q
  obtain ⟨its, r, ht, hz⟩ := I5.tuple hx
  have hlen := r.length
  have hsz : its.toArray.size = xs.length := by rw [List.size_toArray]; exact hlen.symm
  show wpAny (model X.prog X.w) X.A (subscriptTail e (.Slice none none (some (.UnaryOp .USub (.Constant (.int 1) k p1) p2)) p3) (.ref a) (.ref s4.heap.objs.size)) (EP X pins σ Q) X.xe { s4 with heap := s4.heap.push { cls := .type "slice", data := .fields #[vl, vu, vs] } }
  refine tail_any (ops := [.ref a, .ref s4.heap.objs.size]) ht.typeIs (PyProof.Rows.slot_tuple_getitem.lookup) ?_ (by with_unfolding_all rfl)
  refine HT.getItem_tuple_rev ht (by rw [hsz]; exact hpos) (Heap.IsSliceOf.new _ vl vu vs) pl pu ps ?_ (by rw [hsz]; exact hz)
  refine ⟨.ref _, _, I5.laid (t' := s4.toks) (o := .tup xs.reverse) (fun b ob q => Heap.get?_push_of_some _ q) (Nat.le_refl _) ?_, rfl, q _ (I5.hok.fresh (Nat.le_refl _))⟩
  exact ⟨by rw [List.length_reverse]; exact hz, _, r.reverse, IsTup.new _ _⟩
theorem de_revT {k : Nat} {q1 q2 q3 : Pos} (h : dE X W ρ s e fun x s1 => ∃ ds, x = .d (.tuple ds) ∧ 1 ≤ ds.length ∧ Φ (.d (.tuple ds.reverse)) s1) : dE X W ρ s (.Subscript e (.Slice none none (some (.UnaryOp .USub (.Constant (.int 1) k q1) q2)) q3) pos) Φ := .mk fun σ H Q en j kn =>
  toE (pe_revT pw) (h.go σ H _ en j fun v H1 x s1 e1 j1 v1 ⟨ds, hx, hl, q⟩ => by
    subst hx
    obtain ⟨a, xs, rfl, a1, b1, _⟩ := (show Dt X.K W.M H1 v (.tuple ds) from v1).isT
    exact ⟨_, _, rfl, a1, by rw [b1.len]; exact hl, fun p hp => kn _ _ (.d (.tuple ds.reverse)) s1 (e1.trans (Ex.of (same_new hp))) (j1.same (same_new hp)) (.tup (j1.new hp) upd_same (b1.rev.mono (Ex.of (same_new hp)))) q⟩)
/-! ### objects that change: lists by their address -/
/-- a[i] of a list that the state tells -/
theorem de_ixV (h : dE X W ρ s a fun x s1 => dE X W ρ s1 b fun y s2 => ∃ (l : Addr) (i : Int) (vl : Vl), x = .v (.ref l) ∧ y = .d (.int i) ∧ (∀ H, W.J s2 H → ∃ xs v, H l = some (.lst xs) ∧ atI xs i = some v ∧ Vt X.K W.M H v vl) ∧ Φ vl s2) (hs : PlainIx b := by intro _ _; rfl) :
    dE X W ρ s (.Subscript a b pos) Φ := .mk fun σ H Q en j kn => toE (pe_ix ix_list pw pw hs) (h.go σ H _ en j fun v H1 x s1 e1 j1 v1 hb => hb.go σ H1 _ (W.em e1 en) j1 fun u H2 y s2 e2 j2 v2 ⟨l, i, vl, hx, hy, hJ, q⟩ => by
      subst hx hy
      cases (show v = .ref l from v1)
      cases v2
      obtain ⟨xs, w, q1, q2, q3⟩ := hJ H2 j2.1
      exact ⟨l, xs, i, w, rfl, rfl, SqL.of q1, q2, kn w H2 vl s2 (e1.trans e2) j2 q3 q⟩)
/-- a[i] = e -/
theorem ds_setV {q1 : Pos} (h : dE X W ρ s e fun z s0 => dE X W ρ s0 a fun x s1 => dE X W ρ s1 b fun y s2 => ∃ (l : Addr) (i : Int) (s3 : S), x = .v (.ref l) ∧ y = .d (.int i) ∧ W.C l ∧
      (∀ H v, W.J s2 H → Vt X.K W.M H v z → ∃ xs k, H l = some (.lst xs) ∧ ixN xs.length i = some k ∧ W.J s3 (upd H l (.lst (xs.set k v)))) ∧ Δ.nx ρ s3)
    (hs : swapsWithSole [.Subscript a b q1] e pos.line X.env = pure false := by rfl) (hw : swappedStores [.Subscript a b q1] e X.env = pure none := by rfl) (h1 : (assignEach [.Subscript a b q1] X.env).map (·.2) = [assign (.Subscript a b q1) X.env] := by rfl)
    (ha : ∀ v, assign (.Subscript a b q1) X.env v = (do
      let ov ← holding [v] (eval a X.env)
      let iv ← holding [v, ov] (eval b X.env)
      standAt q1
      holding [v, ov, iv] (setItem ov iv v)
      release [v, ov, iv] []) := by intro _; rfl) : dS X W ρ s (.Assign [.Subscript a b q1] e pos) Δ := .mk fun σ H D en j kn =>
  toS (ps_asg pw (pg_sub pw pw set_list ha) hs hw h1) (h.go σ H _ en j fun z H0 vz s0 e0 j0 v0 ho => ho.go σ H0 _ (W.em e0 en) j0 fun v H1 x s1 e1 j1 v1 hb => hb.go σ H1 _ (W.em (e0.trans e1) en) j1 fun u H2 y s2 e2 j2 v2 ⟨l, i, s3, hx, hy, hC, hJ, q⟩ => by
    subst hx hy
    cases (show v = .ref l from v1)
    cases v2
    obtain ⟨xs, k, q1, q2, q3⟩ := hJ H2 z j2.1 (W.vm (e1.trans e2) v0)
    have e3 : Ex W.C H2 (upd H2 l (.lst (xs.set k z))) := fun b o n w => by rw [upd_ne (show b ≠ l from fun t => n (t ▸ hC))]; exact w
    have e4 := ((e0.trans e1).trans e2).trans e3
    exact ⟨l, xs, i, k, rfl, rfl, q1, q2, kn.nx σ _ ρ s3 e4 ⟨q3, fun b m w => by
      by_cases t : b = l
      · rw [t, upd_same] at w; cases w
      · rw [upd_ne t] at w; exact j2.2 b m w⟩ (W.em e4 en) q⟩)
theorem ex_upd {H : Hp} {l : Addr} {o : HO} {C : Addr → Prop} (hC : C l) : Ex C H (upd H l o) := fun b u n w => by rw [upd_ne (show b ≠ l from fun t => n (t ▸ hC))]; exact w
theorem at_upd {H : Hp} {l : Addr} {o : HO} {s3 : S} (j : ∀ b, W.M b → H b ≠ none) (q : W.J s3 (upd H l o)) : W.At s3 (upd H l o) := ⟨q, fun b m w => by
  by_cases t : b = l
  · rw [t, upd_same] at w; cases w
  · rw [upd_ne t] at w; exact j b m w⟩
/-- o.pop() -/
theorem de_popV (h : dE X W ρ s o fun x s1 => ∃ (l : Addr) (vl : Vl) (s2 : S), x = .v (.ref l) ∧ W.C l ∧ (∀ H, W.J s1 H → ∃ xs y, H l = some (.lst xs) ∧ xs[xs.length - 1]? = some y ∧ Vt X.K W.M H y vl ∧ W.J s2 (upd H l (.lst xs.dropLast))) ∧ Φ vl s2)
    (hb : attributeBase o "pop" X.env (eval o X.env) = eval o X.env := by rfl) (hl : (apos.endLine == pos.line) = true := by rfl) : dE X W ρ s (.Call (.Attribute o "pop" apos) [] [] pos) Φ := .mk fun σ H Q en j kn =>
  toE (pe_bm0 PySem.F.plainAttrs_list PySem.F.slot_list_pop PySem.F.type_list_pop mt_pop pw hb hl) (h.go σ H _ en j fun v H1 x s1 e1 j1 v1 ⟨l, vl, s2, hx, hC, hJ, q⟩ => by
    subst hx
    cases (show v = .ref l from v1)
    obtain ⟨xs, y, q1, q2, q3, q4⟩ := hJ H1 j1.1
    have e2 : Ex W.C H1 (upd H1 l (.lst xs.dropLast)) := ex_upd hC
    exact ⟨.inl ⟨rfl, xs, SqL.of q1⟩, l, xs, y, rfl, rfl, q1, q2, kn y _ vl s2 (e1.trans e2) (at_upd j1.2 q4) (W.vm e2 q3) q⟩)
/-- o.append(e) -/
theorem de_appV (h : dE X W ρ s o fun x s1 => ∃ l : Addr, x = .v (.ref l) ∧ (∀ H, W.J s1 H → ∃ xs, H l = some (.lst xs)) ∧ W.C l ∧ dE X W ρ s1 e fun y s2 => ∃ s3, (∀ H v, W.J s2 H → Vt X.K W.M H v y → ∃ xs, H l = some (.lst xs) ∧ xs.length < sizeLine ∧ W.J s3 (upd H l (.lst (xs ++ [v])))) ∧ Φ (.d .none) s3)
    (hb : attributeBase o "append" X.env (eval o X.env) = eval o X.env := by rfl) (hl : (apos.endLine == pos.line) = true := by rfl)
    (hfew : ((backTo pos (starEach [e] X.env)).all (fun x => !x.1) && (backToKw pos (keywordEach [] X.env)).all (fun x => x.1.isSome)
      && decide ([e].length + ([] : List Keyword).length + (if ([] : List Keyword).isEmpty then 0 else 1) < 30)) = true := by rfl)
    (hs : starEach [e] X.env = (false, eval e X.env) :: starEach [] X.env := by rfl) : dE X W ρ s (.Call (.Attribute o "append" apos) [e] [] pos) Φ := .mk fun σ H Q en j kn =>
  toE (pe_bm PySem.F.plainAttrs_list PySem.F.slot_list_append PySem.F.type_list_append mt_append pw (pa_cons pw pa_nil hs) hb hfew hl hs rfl) (h.go σ H _ en j fun v H1 x s1 e1 j1 v1 ⟨l, hx, hJ0, hC, he⟩ => by
    subst hx
    cases (show v = .ref l from v1)
    obtain ⟨xs0, q0⟩ := hJ0 H1 j1.1
    refine ⟨.inl ⟨rfl, xs0, SqL.of q0⟩, he.go σ H1 _ (W.em e1 en) j1 fun u H2 y s2 e2 j2 v2 ⟨s3, hJ, q⟩ => ?_⟩
    obtain ⟨xs, q1, q2, q3⟩ := hJ H2 u j2.1 v2
    have e3 : Ex W.C H2 (upd H2 l (.lst (xs ++ [u]))) := ex_upd hC
    exact ⟨l, xs, u, rfl, rfl, q1, q2, kn .non _ (.d .none) s3 ((e1.trans e2).trans e3) (at_upd j2.2 q3) .non q⟩)
/-- a comparison whose left side is a list that the state tells -/
theorem dt_cmpV {Ψ : Bool → S → Prop} {F : PyData → PyData → Option PyData} {op : CmpOp} (hop : OpR X (compareOp op) (rD X.K F)) (h : dE X W ρ s a fun x s1 => dE X W ρ s1 b fun y s2 => ∃ (u : V) (d e : PyData) (t : Bool), x = .v u ∧ y = .d e ∧ (∀ H, W.J s2 H → Dt X.K (fun _ => False) H u d) ∧ F d e = some (.bool t) ∧ Ψ t s2)
    (hm : behindInMarks op b = false := by first | exact nomark _ | rfl) : dT X W ρ s (.Compare a [op] [b] pos) Ψ := .mk fun σ H Q en j kn =>
  toT (pt_cmpR hop pw pw hm) (h.go σ H _ en j fun v H1 x s1 e1 j1 v1 hb => hb.go σ H1 _ (W.em e1 en) j1 fun u H2 y s2 e2 j2 v2 ⟨u', d, e, t, hx, hy, hJ, hz, q⟩ => by
    subst hx hy
    cases (show v = u' from v1)
    exact ⟨fun _ => False, d, e, .bool t, fun _ m => m.elim, hJ H2 j2.1, Dt.less (fun _ m => m.elim) v2, hz, fun v' H3 sm dt => ⟨t, bool_of dt, kn t H3 s2 ((e1.trans e2).trans (Ex.of sm)) (j2.same sm) q⟩⟩)
/-- the state told otherwise -/
theorem dB_st {s' : S} {b : List Stmt} (h : dB X W ρ s' b Δ) (i : ∀ H, W.J s H → W.J s' H) : dB X W ρ s b Δ := .mk fun σ H D en j kn => h.go σ H D en ⟨i H j.1, j.2⟩ kn
theorem dE_st {s' : S} (h : dE X W ρ s' e Φ) (i : ∀ H, W.J s H → W.J s' H) : dE X W ρ s e Φ := .mk fun σ H D en j kn => h.go σ H D en ⟨i H j.1, j.2⟩ kn
end
end Fw

set_option Elab.async false
set_option linter.all false
set_option maxRecDepth 100000
set_option maxHeartbeats 2000000
namespace Fw
open PySem PySem.Spec PyProof.Rows L2
/-! ### sizes -/
structure Sz (n k : Nat) (d : PyData) : Prop where
  ok : nice d = true
  sz : cost d ≤ n
  dp : d.depth ≤ k
structure SzA (n k : Nat) (ds : List PyData) : Prop where
  ok : niceA ds = true
  sz : costA ds ≤ n
  dp : PyData.depthAll ds ≤ k
section
variable {n m k l : Nat} {d e : PyData} {ds es : List PyData}
theorem Sz.up (h : Sz n k d) (a : n ≤ m) (b : k ≤ l) : Sz m l d := ⟨h.ok, Nat.le_trans h.sz a, Nat.le_trans h.dp b⟩
theorem SzA.up (h : SzA n k ds) (a : n ≤ m) (b : k ≤ l) : SzA m l ds := ⟨h.ok, Nat.le_trans h.sz a, Nat.le_trans h.dp b⟩
theorem Sz.nc (h : Sz n k d) (a : n ≤ m) (b : k ≤ 40) : Nc m d := ⟨h.ok, Nat.le_trans h.sz a, Nat.le_trans h.dp b⟩
theorem SzA.nil : SzA n k [] := ⟨rfl, Nat.zero_le _, Nat.zero_le _⟩
theorem SzA.cons (h : Sz n k d) (g : SzA m k ds) : SzA (n + 2 + m) k (d :: ds) := by
  refine ⟨by simp only [niceA, h.ok, g.ok]; rfl, ?_, ?_⟩
  · have := h.sz; have := g.sz; simp only [costA]; omega
  · have := h.dp; have := g.dp; simp only [PyData.depthAll]; omega
theorem costA_app : ∀ a b : List PyData, costA (a ++ b) = costA a + costA b
  | [], b => by simp [costA]
  | d :: a, b => by rw [List.cons_append, costA, costA, costA_app a b]; omega
theorem niceA_app : ∀ a b : List PyData, niceA (a ++ b) = (niceA a && niceA b)
  | [], b => by simp [niceA]
  | d :: a, b => by rw [List.cons_append, niceA, niceA, niceA_app a b, Bool.and_assoc]
theorem depthA_app : ∀ a b : List PyData, PyData.depthAll (a ++ b) = max (PyData.depthAll a) (PyData.depthAll b)
  | [], b => by simp [PyData.depthAll]
  | d :: a, b => by rw [List.cons_append, PyData.depthAll, PyData.depthAll, depthA_app a b]; omega
theorem SzA.app (h : SzA n k ds) (g : SzA m k es) : SzA (n + m) k (ds ++ es) := by
  refine ⟨by rw [niceA_app, h.ok, g.ok]; rfl, ?_, ?_⟩
  · have := h.sz; have := g.sz; rw [costA_app]; omega
  · have := h.dp; have := g.dp; rw [depthA_app]; omega
theorem SzA.take (h : SzA n k ds) (i : Nat) : SzA n k (ds.take i) := by
  have e : ds.take i ++ ds.drop i = ds := List.take_append_drop i ds
  have h1 := h.ok; have h2 := h.sz; have h3 := h.dp
  rw [← e] at h1 h2 h3
  rw [niceA_app] at h1; rw [costA_app] at h2; rw [depthA_app] at h3
  exact ⟨(Bool.and_eq_true_iff.mp h1).1, by omega, by omega⟩
theorem SzA.drop (h : SzA n k ds) (i : Nat) : SzA n k (ds.drop i) := by
  have e : ds.take i ++ ds.drop i = ds := List.take_append_drop i ds
  have h1 := h.ok; have h2 := h.sz; have h3 := h.dp
  rw [← e] at h1 h2 h3
  rw [niceA_app] at h1; rw [costA_app] at h2; rw [depthA_app] at h3
  exact ⟨(Bool.and_eq_true_iff.mp h1).2, by omega, by omega⟩
theorem SzA.cut (h : SzA n k ds) (lo hi : Option Int) : SzA n k (cutD ds lo hi) := (h.drop _).take _
theorem costA_rev : ∀ a : List PyData, costA a.reverse = costA a ∧ niceA a.reverse = niceA a ∧ PyData.depthAll a.reverse = PyData.depthAll a
  | [] => ⟨rfl, rfl, rfl⟩
  | d :: a => by
    obtain ⟨h1, h2, h3⟩ := costA_rev a
    rw [List.reverse_cons, costA_app, niceA_app, depthA_app, h1, h2, h3]
    refine ⟨?_, ?_, ?_⟩
    · simp only [costA]; omega
    · rw [niceA, niceA, niceA, Bool.and_true, Bool.and_comm]
    · simp only [PyData.depthAll]; omega
theorem SzA.rev (h : SzA n k ds) : SzA n k ds.reverse := by
  obtain ⟨h1, h2, h3⟩ := costA_rev ds
  exact ⟨by rw [h2]; exact h.ok, by rw [h1]; exact h.sz, by rw [h3]; exact h.dp⟩
theorem SzA.rep (h : SzA n k ds) : ∀ i : Nat, SzA (i * n) k (List.replicate i ds).flatten
  | 0 => by rw [Nat.zero_mul]; exact .nil
  | i + 1 => by
    rw [List.replicate_succ, List.flatten_cons]
    exact (h.app (h.rep i)).up (by rw [Nat.succ_mul]; omega) (Nat.le_refl _)
theorem SzA.mem : ∀ {ds : List PyData}, SzA n k ds → d ∈ ds → Sz n k d
  | [], _, h => absurd h List.not_mem_nil
  | e :: ds, g, h => by
    have h1 := g.ok; have h2 := g.sz; have h3 := g.dp
    simp only [niceA, costA, PyData.depthAll] at h1 h2 h3
    obtain ⟨g1, g2⟩ := Bool.and_eq_true_iff.mp h1
    rcases List.mem_cons.mp h with z | z
    · subst z; exact ⟨g1, by omega, by omega⟩
    · exact SzA.mem (ds := ds) ⟨g2, by omega, by omega⟩ z
theorem SzA.len : ∀ {ds : List PyData} {n : Nat}, SzA n k ds → 2 * ds.length ≤ n
  | [], _, _ => Nat.zero_le _
  | e :: ds, n, g => by
    have h1 := g.ok; have h2 := g.sz; have h3 := g.dp
    simp only [niceA, costA, PyData.depthAll] at h1 h2 h3
    have q := SzA.len (show SzA (n - 2) k ds from ⟨(Bool.and_eq_true_iff.mp h1).2, by omega, by omega⟩)
    rw [List.length_cons]
    omega
theorem SzA.of : ∀ {ds : List PyData}, (∀ d ∈ ds, Sz n k d) → SzA (ds.length * (n + 2)) k ds
  | [], _ => .nil
  | d :: ds, h => by
    have q := SzA.cons (h d List.mem_cons_self) (SzA.of fun e he => h e (List.mem_cons_of_mem _ he))
    refine q.up ?_ (Nat.le_refl _)
    rw [List.length_cons, Nat.succ_mul]
    omega
theorem Sz.tup (h : SzA n k ds) : Sz (n + 3) (k + 1) (.tuple ds) := by
  refine ⟨by simp only [nice]; exact h.ok, ?_, ?_⟩
  · have := h.sz; simp only [cost]; omega
  · have := h.dp; simp only [PyData.depth]; omega
theorem Sz.lst (h : SzA n k ds) : Sz (n + 3) (k + 1) (.list ds) := by
  refine ⟨by simp only [nice]; exact h.ok, ?_, ?_⟩
  · have := h.sz; simp only [cost]; omega
  · have := h.dp; simp only [PyData.depth]; omega
theorem Sz.tupE (h : Sz n (k + 1) (.tuple ds)) : SzA n k ds := by
  have h1 := h.ok; have h2 := h.sz; have h3 := h.dp
  simp only [nice, cost, PyData.depth] at h1 h2 h3
  exact ⟨h1, by omega, by omega⟩
theorem Sz.tup0 (h : Sz n 0 (.tuple ds)) : False := by
  have h3 := h.dp
  simp only [PyData.depth] at h3
  omega
theorem Sz.non : Sz 4 0 .none := ⟨rfl, Nat.le_of_ble_eq_true rfl, Nat.le_of_ble_eq_true rfl⟩
theorem Sz.bl (b : Bool) : Sz 5 0 (.bool b) := ⟨rfl, Nat.le_of_ble_eq_true rfl, Nat.le_of_ble_eq_true rfl⟩
theorem log_le {i : Int} (h : i.natAbs < 2 ^ k) : i.natAbs.log2 ≤ k := by
  by_cases z : i.natAbs = 0
  · rw [z]
    have : Nat.log2 0 = 0 := by decide
    omega
  · exact Nat.le_of_lt ((Nat.log2_lt z).mpr h)
theorem Sz.int {i : Int} (h : i.natAbs < 2 ^ k) (hk : k ≤ 1000 := by decide) : Sz (k + 2) 0 (.int i) :=
  ⟨by simp only [nice]; exact decide_eq_true (Nat.lt_of_lt_of_le h (Nat.pow_le_pow_right (by decide) hk)), by simp only [cost]; have := log_le h; omega, by simp only [PyData.depth]; omega⟩
def okS (z : Str) : Prop := z.cps.all (· < 128) = true
theorem Sz.str {z : Str} (h : okS z) (hl : z.length ≤ l) : Sz (10 * l + 2) 0 (.str z) := ⟨by simp only [nice]; exact h, by simp only [cost]; omega, by simp only [PyData.depth]; omega⟩
theorem Sz.strE {z : Str} (h : Sz n k (.str z)) : okS z ∧ 10 * z.length + 2 ≤ n := by
  have h1 := h.ok; have h2 := h.sz
  simp only [nice, cost] at h1 h2
  exact ⟨h1, h2⟩
theorem Sz.intE {i : Int} (h : Sz n k (.int i)) : i.natAbs < 2 ^ 1000 := by
  have h1 := h.ok
  simp only [nice] at h1
  exact of_decide_eq_true h1
theorem okS_app {a b : Str} (h : okS a) (g : okS b) : okS (a ++ b) := by
  unfold okS at *
  show (Array.all (a.cps ++ b.cps) (· < 128)) = true
  rw [Array.all_append, h, g]
  rfl
end

/-! ### a deck: objects that a def changes, by a state that counts -/
structure Deck where
  D : Type
  adr : D → Addr
  C : D → Addr → Prop
  J : D → Nat → Hp → Prop
  keep : ∀ {t : D} {n : Nat} {H H' : Hp}, J t n H → (∀ b o, C t b → H b = some o → H' b = some o) → J t n H'
  more : ∀ {t : D} {n m : Nat} {H : Hp}, J t n H → n ≤ m → J t m H
abbrev deckLim : Nat := 1099511627776
def Wk (T : Deck) (M : Addr → Prop) (t : T.D) (sub : ∀ b, T.C t b → M b) : Wd Nat where
  M := M
  C := T.C t
  J := T.J t
  sub := fun {b} h => sub b h
  keep := T.keep
structure IsK (T : Deck) (W : Wd Nat) (t : T.D) : Prop where
  C : W.C = T.C t
  J : W.J = T.J t
theorem IsK.own {T : Deck} {M : Addr → Prop} {t : T.D} {sub : ∀ b, T.C t b → M b} : IsK T (Wk T M t sub) t := ⟨rfl, rfl⟩
theorem IsK.plus {T : Deck} {W : Wd Nat} {t : T.D} (h : IsK T W t) (D : Addr) : IsK T (W.plus D) t := ⟨h.C, h.J⟩
def spK (T : Deck) (K : PySem.W.Frag) (pre : List PyData → Prop) (post : List PyData → PyData → Prop) (c : Nat) : Sp := fun vs H Q _ =>
  ∃ (M : Addr → Prop) (t : T.D) (n : Nat) (us : List V) (ds : List PyData), (∀ b, M b → H b ≠ none) ∧ (∀ b, T.C t b → M b) ∧ T.J t n H ∧ vs = .ref (T.adr t) :: us ∧ DtA K M H us ds ∧ pre ds ∧ n + c ≤ deckLim ∧
    ∀ v H' z, Ex (T.C t) H H' → T.J t (n + c) H' → (∀ b, M b → H' b ≠ none) → Dt K M H' v z → post ds z → Q v H'
def rhoD (N : List Str) (a : Addr) (ds : List PyData) : Rho := (some (Vl.v (.ref a)) :: ds.map (fun d => some (.d d))) ++ List.replicate (N.length - (ds.length + 1)) none
theorem en_startD {K : PySem.W.Frag} {M : Addr → Prop} {H : Hp} {N : List Str} {vs : List V} {ds : List PyData} {a : Addr} (h : DtA K M H vs ds) : En K M H (L2.start N (.ref a :: vs)) (rhoD N a ds) := by
  have q := En.start (K := K) (M := M) (H := H) (N := N) (vs := .ref a :: vs) (xs := .v (.ref a) :: ds.map .d) (by simp [h.len]) fun i x e => by
    cases i with
    | zero => cases e; exact ⟨.ref a, rfl, rfl⟩
    | succ i =>
      rw [List.getElem?_cons_succ, List.getElem?_map] at e
      obtain ⟨d, e1, rfl⟩ := Option.map_eq_some_iff.mp e
      obtain ⟨v, q1, q2⟩ := h.get e1
      exact ⟨v, by rw [List.getElem?_cons_succ]; exact q1, q2⟩
  rw [List.map_cons, List.map_map, List.length_cons, List.length_map] at q
  exact q
section
variable {P : Program} {w : World} {K : PySem.W.Frag} {mg : Str → Option Value} {base : Heap} {CX : CXT} {k : Nat} {ps : List Str} {st : Stmt} {N : List Str} {x : Str} {T : Deck}
theorem Src.deck {pre : List PyData → Prop} {post : List PyData → PyData → Prop} {c : Nat} (F : Src K mg x st) (S : FnScope N ps (defScope st)) (hl : ∀ ds, pre ds → ds.length + 1 = ps.length)
    (hbd : ∀ (kV doc pm : Value) (an : Option Addr) (cd ct : Value) (us : List Value), us.length = ps.length → bindArgs (PySem.W.fnOf x x (defArgs st) (defBody st) (defScope st) .none kV doc pm an cd ct) ⟨us, []⟩ = Pure.pure (ps.zip us))
    (hs : base.get? sysModules ≠ none)
    (hb : ∀ (fa : Addr) (cd : Value) (A : Around) (fr : List Env) (s : Shared) (H : Hp) (E : XK) (M : Addr → Prop) (t : T.D) (sub : ∀ b, T.C t b → M b) (n : Nat) (ds : List PyData), Rm (cxOf CX P w K mg base N x (defScope st) fa cd A fr s H E).nox → Room k (cxOf CX P w K mg base N x (defScope st) fa cd A fr s H E).nox.A → pre ds → n + c ≤ deckLim →
      dB (cxOf CX P w K mg base N x (defScope st) fa cd A fr s H E).nox (Wk T M t sub) (rhoD N (T.adr t) ds) n (defBody st) { nx := fun _ n' => post ds .none ∧ n' ≤ n + c, rt := fun y n' => ∃ z, y = .d z ∧ post ds z ∧ n' ≤ n + c }) : Dfn P w K mg base CX (k + 1) x st ps (spK T K pre post c) := by
  refine F.ok S (fun vs H Q E h => ?_) hbd fun fa cd A fr s vs H Q E g r h => ?_
  · obtain ⟨M, t, n, us, ds, _, _, _, rfl, h1, h2, _⟩ := h
    rw [List.length_cons, h1.len]
    exact hl ds h2
  · obtain ⟨M, t, n, us, ds, hm, hc, hj, rfl, h1, h2, h3, hq⟩ := h
    refine ⟨wB _ (defBody st), bw, (hb fa cd A fr s H E M t hc n ds (Rm.of g r hs rfl) r h2 h3).go _ H _ (en_startD h1) ⟨hj, hm⟩ ⟨fun σ H2 ρ s' e1 j1 en z => ?_, fun v H2 y s' e1 j1 v1 z => ?_, fun _ _ _ _ _ _ _ z => z, fun _ _ _ _ _ _ _ z => z⟩⟩
    · exact hq .non H2 .none e1 (T.more j1.1 z.2) j1.2 .non z.1
    · obtain ⟨u, hy, hp, hle⟩ := z
      subst hy
      exact hq v H2 u e1 (T.more j1.1 hle) j1.2 v1 hp
end
section
variable {T : Deck} {X : Cx} {W : Wd Nat} {ρ : Rho} {s : Nat} {Φ : Vl → Nat → Prop} {e : Expr} {es : List Expr} {pos p : Pos} {x : Str} {t : T.D}
theorem de_goD {CX : CXT} {k c : Nat} {st : Stmt} {ps : List Str} {pre : List PyData → Prop} {post : List PyData → PyData → Prop} (F : Dfn X.prog X.w X.K X.mg X.base CX k x st ps (spK T X.K pre post c)) (R : Rm X) (r : Room k X.A) (hx : Passes CX X E0) (hK : IsK T W t)
    (h : dA X W ρ s (e :: es) fun xs s1 => ∃ ys ds, xs = .v (.ref (T.adr t)) :: ys ∧ allD ys = some ds ∧ pre ds ∧ s1 + c ≤ deckLim ∧ ∀ z, post ds z → Φ (.d z) (s1 + c)) (hg : Gl X x := by rfl)
    (h1 : (x == ("__debug__" : Str)) = false := by decide) (h2 : starEach (e :: es) X.env = (false, eval e X.env) :: starEach es X.env := by rfl) (h3 : (backTo pos (starEach es X.env)).any (·.1) = false := by rfl) : dE X W ρ s (.Call (.Name x p) (e :: es) [] pos) Φ := .mk fun σ H Q en j kn =>
  toE (pe_go F R.g r hx aw hg h1 h2 h3) (h.go σ H _ en j fun vs H1 xs s1 e1 j1 v1 ⟨ys, ds, hd, ha, hp, hc, q⟩ => by
    subst hd
    cases v1 with
    | @cons v _ us _ v1 v2 =>
      have v1' : v = .ref (T.adr t) := v1
      subst v1'
      refine ⟨W.M, t, s1, us, ds, j1.2, fun b hb => W.sub (by rw [hK.C]; exact hb), by rw [← hK.J]; exact j1.1, rfl, allD_ok ha v2, hp, hc, fun v H2 z e2 j2 m2 d2 hz => ?_⟩
      exact kn v H2 (.d z) (s1 + c) (e1.trans (by rw [hK.C]; exact e2)) ⟨by rw [hK.J]; exact j2, m2⟩ d2 (q z hz))
end
end Fw

set_option Elab.async false
set_option linter.all false
set_option maxRecDepth 100000
set_option maxHeartbeats 2000000
namespace Fw
open PySem PySem.Spec PyProof.Rows L2
/-! ### texts of plain signs, of a length -/
structure As (n : Nat) (z : Str) : Prop where
  ok : okS z
  len : z.length ≤ n
section
variable {n m : Nat} {a b z : Str}
theorem okS_of (h : z.cps.all (· < 128) = true) : okS z := h
theorem okS_iff : okS z ↔ ∀ c ∈ z.cps.toList, c < 128 := by
  unfold okS
  rw [Array.all_eq_true']
  exact ⟨fun h c hc => of_decide_eq_true (h c (by simpa using hc)), fun h c hc => decide_eq_true (h c (by simpa using hc))⟩
theorem As.up (h : As n z) (k : n ≤ m) : As m z := ⟨h.ok, Nat.le_trans h.len k⟩
theorem As.app (h : As n a) (g : As m b) : As (n + m) (a ++ b) := ⟨okS_app h.ok g.ok, by rw [strlen]; have := h.len; have := g.len; omega⟩
theorem As.sz (h : As n z) : Sz (10 * n + 2) 0 (.str z) := Sz.str h.ok h.len
theorem As.cut (h : As n z) (lo hi : Option Int) : As n (cutS z lo hi) := by
  refine ⟨okS_iff.mpr fun c hc => okS_iff.mp h.ok c ?_, ?_⟩
  · have hc : c ∈ ((z.cps.toList.drop (HT.sIx z.length 0 lo)).take (HT.sIx z.length z.length hi - HT.sIx z.length 0 lo)) := by simpa [cutS] using hc
    exact List.mem_of_mem_drop (List.mem_of_mem_take hc)
  · have e : (cutS z lo hi).length ≤ z.length := by
      unfold cutS
      show (List.toArray _).size ≤ _
      rw [List.size_toArray, List.length_take, List.length_drop]
      have : z.cps.toList.length = z.length := by simp [Str.length]
      omega
    exact Nat.le_trans e h.len
theorem as_one {c : Nat} (h : c < 128) : As 1 ⟨#[c]⟩ := ⟨okS_iff.mpr fun d hd => by
  have : d = c := by simpa using hd
  omega, Nat.le_refl _⟩
theorem As.mem (h : As n z) {d : PyData} (hd : d ∈ Fw.signs z) : ∃ y, d = .str y ∧ As 1 y := by
  obtain ⟨c, hc, rfl⟩ := List.mem_map.mp hd
  exact ⟨_, rfl, as_one (okS_iff.mp h.ok c hc)⟩
theorem as_upperL : ∀ l : List Nat, (∀ c ∈ l, c < 128) → As l.length (Txt.upper ⟨l.toArray⟩)
  | [], _ => by
    have e : Txt.upper ⟨([] : List Nat).toArray⟩ = Str.empty := by decide +kernel
    rw [e]
    exact ⟨okS_of (by decide +kernel), Nat.le_refl _⟩
  | c :: l, h => by
    have e : (⟨(c :: l).toArray⟩ : Str) = ⟨#[c]⟩ ++ ⟨l.toArray⟩ := PySem.Str.ext' (by rw [PySem.Str.cps_append]; simp)
    rw [e, PySem.W.KOpn.upper_app, PySem.W.KOpn.upper_one (h c List.mem_cons_self)]
    have q := (as_one (c := if 97 ≤ c ∧ c ≤ 122 then c - 32 else c) (by have := h c List.mem_cons_self; split <;> omega)).app (as_upperL l fun d hd => h d (List.mem_cons_of_mem _ hd))
    exact q.up (by rw [List.length_cons]; omega)
theorem As.upper (h : As n z) : As n (Txt.upper z) := by
  have q := as_upperL z.cps.toList (okS_iff.mp h.ok)
  have e : (⟨z.cps.toList.toArray⟩ : Str) = z := PySem.Str.ext' (by simp)
  rw [e] at q
  refine q.up (Nat.le_trans ?_ h.len)
  simp [Str.length]
theorem as_join : ∀ ys : List Str, (∀ y ∈ ys, As n y) → As (ys.length * n) (Txt.join ("" : Str) ys) := by
  intro ys
  rw [TL.join_eq]
  induction ys with
  | nil => intro _; exact ⟨okS_of (by decide +kernel), Nat.zero_le _⟩
  | cons y ys ih =>
    intro h
    cases ys with
    | nil => exact (h y List.mem_cons_self).up (by simp)
    | cons x ys =>
      have q := ih fun z hz => h z (List.mem_cons_of_mem _ hz)
      have e : Str.join ("" : Str) (y :: x :: ys) = y ++ ("" : Str) ++ Str.join ("" : Str) (x :: ys) := rfl
      rw [e]
      have e0 : As 0 ("" : Str) := ⟨okS_of (by decide +kernel), Nat.le_of_ble_eq_true rfl⟩
      refine (((h y List.mem_cons_self).app e0).app q).up ?_
      rw [List.length_cons (a := y), Nat.succ_mul]
      omega
theorem as_two (h : As n z) : As (2 * n) (strRep z 2) := by
  unfold strRep
  split
  · exact h.up (by omega)
  · have e : (⟨(List.replicate (2 : Int).toNat z.cps).foldl (· ++ ·) #[]⟩ : Str) = z ++ z := PySem.Str.ext' (by
      rw [PySem.Str.cps_append]
      show (#[] ++ z.cps) ++ z.cps = _
      simp)
    rw [e]
    exact (h.app h).up (by omega)
theorem as_int {i : Int} {k : Nat} (h : i.natAbs < 2 ^ k) (hk : 0 < k) : As (k + 1) (Str.ofString (toString i)) := ⟨okS_iff.mpr fun c hc => by
  by_cases hb : c < 128
  · exact hb
  · exact absurd hc (int_text_free' c ⟨by omega, .inr (by omega)⟩ i), by
  rw [PySem.ofString_length]
  exact PySem.int_text_length_le hk (by
    by_cases z : i.natAbs = 0
    · rw [z]
      have : Nat.log2 0 = 0 := by decide
      omega
    · exact (Nat.log2_lt z).mpr h)⟩
theorem as_bool (b : Bool) : As 5 (Str.ofString (if b then "True" else "False")) := by
  cases b <;> exact ⟨okS_of (by decide +kernel), by decide +kernel⟩
theorem lim_as {w : PyData} (h : As n a) (g : As m b) (k : n + m ≤ 1000000 := by decide) : lim (a.length + b.length) w = some w := lim_ok (by have := h.len; have := g.len; omega)
theorem lim_as1 {w : PyData} (h : As n a) (k : n ≤ 1000000 := by decide) : lim a.length w = some w := lim_ok (by have := h.len; omega)
/-- by a look at all of a written row -/
def asB (n : Nat) : PyData → Bool
  | .str z => z.cps.all (· < 128) && decide (z.length ≤ n)
  | _ => false
theorem asB_of {d : PyData} (h : asB n d = true) : ∃ y, d = .str y ∧ As n y := by
  cases d with
  | str z =>
    obtain ⟨h1, h2⟩ := Bool.and_eq_true_iff.mp (show (z.cps.all (· < 128) && decide (z.length ≤ n)) = true from h)
    exact ⟨z, rfl, h1, of_decide_eq_true h2⟩
  | _ => exact Bool.noConfusion (show false = true from h)
theorem asB_mem {l : List PyData} {d : PyData} (h : l.all (asB n) = true) (hd : d ∈ l) : ∃ y, d = .str y ∧ As n y := asB_of (List.all_eq_true.mp h d hd)
def inB' (lo hi : Int) : PyData → Bool
  | .int i => decide (lo ≤ i) && decide (i ≤ hi)
  | _ => false
theorem inB_mem {lo hi : Int} {l : List PyData} {d : PyData} (h : l.all (inB' lo hi) = true) (hd : d ∈ l) : ∃ i, d = .int i ∧ lo ≤ i ∧ i ≤ hi := by
  have h := List.all_eq_true.mp h d hd
  cases d with
  | int i =>
    obtain ⟨h1, h2⟩ := Bool.and_eq_true_iff.mp (show (decide (lo ≤ i) && decide (i ≤ hi)) = true from h)
    exact ⟨i, rfl, of_decide_eq_true h1, of_decide_eq_true h2⟩
  | _ => exact Bool.noConfusion (show false = true from h)
theorem sum_as : ∀ ys : List Str, (∀ y ∈ ys, As n y) → (ys.map (·.length)).sum ≤ ys.length * n
  | [], _ => Nat.zero_le _
  | y :: ys, h => by
    have q := sum_as ys fun z hz => h z (List.mem_cons_of_mem _ hz)
    have q2 := (h y List.mem_cons_self).len
    rw [List.map_cons, List.sum_cons, List.length_cons, Nat.succ_mul]
    omega
end
section
variable {S : Type} {X : Cx} {W : Wd S} {ρ : Rho} {s : S} {e : Expr}
theorem dO_none {Ψ : Option Int → S → Prop} (h : Ψ none s) : dO X W ρ s none Ψ := h
theorem dO_some {Ψ : Option Int → S → Prop} (h : dE X W ρ s e fun x s1 => ∃ i : Int, x = .d (.int i) ∧ Ψ (some i) s1) : dO X W ρ s (some e) Ψ := h
end
end Fw

set_option Elab.async false
set_option linter.all false
set_option maxRecDepth 100000
set_option maxHeartbeats 2000000
namespace Fw
open PySem PySem.Spec PyProof.Rows L2
section
variable {X : Cx} {W : Wd Nat} {ρ : Rho} {s : Nat} {Φ : Vl → Nat → Prop} {e tg elt : Expr} {scope : Scope} {i : Nat}
/-- [elt for ..]: each turn costs c, each element keeps p -/
theorem Lc.deck (p : PyData → Prop) (c : Nat) (h : dI X W ρ s tg e fun ds s1 => ds.length < sizeLine ∧
      (∀ D k d, ds[k]? = some d → ∀ b : Bk, dE (bx X scope b) (W.plus D) ((wipR ρ [i]).set i (some (.d d))) (s1 + k * c) elt fun x s4 => ∃ z, x = .d z ∧ p z ∧ s4 = s1 + k * c + c) ∧
      ∀ acc : List PyData, acc.length = ds.length → (∀ z ∈ acc, p z) → Φ (.d (.list acc)) (s1 + ds.length * c)) : Lc X W ρ s scope i tg e elt [] Φ := .mk fun σ H R en j kn => h.go σ H R en j fun J H1 ds s1 e1 j1 it ⟨hl, he, q⟩ =>
    kn J H1 ds s1 e1 j1 it ⟨hl, fun k acc s2 => acc.length = k ∧ (∀ z ∈ acc, p z) ∧ s2 = s1 + k * c, ⟨rfl, by simp, by simp⟩, fun D k d acc s2 hd hi b => by
      obtain ⟨h1, h2, rfl⟩ := hi
      refine ⟨fun _ b => de_imp (he D k d hd b) fun x s4 ⟨z, hx, hz, hs⟩ => ⟨z, hx, by simp [h1], fun y hy => ?_, by rw [hs, Nat.succ_mul]; omega⟩, fun z => Bool.noConfusion z⟩
      rcases List.mem_append.mp hy with w | w
      · exact h2 y w
      · have : y = z := by simpa using w
        rw [this]; exact hz, fun acc s2 ⟨h1, h2, h3⟩ => by subst h3; exact q acc h1 h2⟩
end
section
variable {S : Type} {X : Cx} {W : Wd S} {ρ : Rho} {s : S} {Φ : Vl → S → Prop} {Δ : DE S} {a b c e tg elt : Expr} {ifs : List Expr} {pos py px : Pos} {x y : Str}
/-- a target of any form: τ tells the slots behind it -/
theorem lcG {scope : Scope} {own : List (Str × Nat)} {g : TG} (τ : Rho → PyData → Rho) (okd : PyData → Prop)
    (hG : ∀ (M : Addr → Prop) (H : Hp) (σ : L2.St) (v : V) (d : PyData), okd d → En X.K M H (wipe σ (own.map (·.2))) (wipR ρ (own.map (·.2))) → Dt X.K M H v d → ∀ Q : L2.St → Hp → Prop, (∀ σ2, En X.K M H σ2 (τ (wipR ρ (own.map (·.2))) d) → wipe σ2 (own.map (·.2)) = wipe σ (own.map (·.2)) → Q σ2 H) → g v (wipe σ (own.map (·.2))) H Q)
    (h : dI X W ρ s tg e fun ds s1 => ds.length < sizeLine ∧ (∀ d ∈ ds, okd d) ∧ ∃ Iv : Nat → List PyData → S → Prop, Iv 0 [] s1 ∧
      (∀ D k d acc s2, ds[k]? = some d → Iv k acc s2 → ∀ b : Bk, dE (bx X scope b) (W.plus D) (τ (wipR ρ (own.map (·.2))) d) s2 elt fun x s4 => ∃ z, x = .d z ∧ Iv (k + 1) (acc ++ [z]) s4) ∧
      ∀ acc s2, Iv ds.length acc s2 → Φ (.d (.list acc)) s2) (σ : L2.St) (H : Hp) (Q : VK) (en : En X.K W.M H σ ρ) (j : W.At s H) (kn : Kn X W H Φ Q) :
    tLc (wI X tg e) g tYes (fun σ H Q => ∀ b : Bk, wE (bx X scope b) elt σ H Q) (own.map (·.2)) σ H Q := by
  refine h.go σ H _ en j fun J H1 ds s1 e1 j1 it ⟨hz, hok, Iv, h0, hb, hd⟩ D hD => ?_
  have nD : ¬ W.M D := j1.new hD
  have sD : ∀ {H2 : Hp} {o : HO}, Ex W.C H1 H2 → Ex W.C H1 (upd H2 D o) := fun {H2 o} q a u n z => by
    rw [upd_ne (ne_of_none z hD)]
    exact q a u n z
  refine ⟨fun k m H2 => m = ds.length - k ∧ k ≤ ds.length ∧ Ex W.C H1 H2 ∧ ∃ acc accV s2, (W.plus D).At s2 H2 ∧ H2 D = some (.lst accV) ∧ DtA X.K (W.plus D).M H2 accV acc ∧ acc.length ≤ k ∧ Iv k acc s2, ⟨ds.length, rfl, Nat.zero_le _, sD Ex.rfl', [], [], s1, ⟨W.keep j1.1 fun a o _ q => by rw [upd_ne (ne_of_none q hD)]; exact q, fun a m => ?_⟩, upd_same, .nil, Nat.le_refl _, h0⟩, ?_⟩
  · rcases m with m | m
    · intro z
      by_cases q : a = D
      · exact nD (q ▸ m)
      · rw [upd_ne q] at z
        exact j1.2 a m z
    · subst m
      intro z
      rw [upd_same] at z
      cases z
  rintro k m H2 ⟨rfl, hk, e2, acc, accV, s2, j2, hD2, dA2, hacc, iv⟩
  by_cases hl' : k < ds.length
  · refine .inr ⟨it.go k H2 e2 hl', fun H3 => Ex W.C H1 H3 ∧ ∃ acc accV s2, (W.plus D).At s2 H3 ∧ H3 D = some (.lst accV) ∧ DtA X.K (W.plus D).M H3 accV acc ∧ acc.length ≤ k + 1 ∧ Iv (k + 1) acc s2, fun H3 ⟨q1, q2⟩ => ⟨ds.length - (k + 1), by omega, rfl, hl', q1, q2⟩, fun v H3 yl => ?_⟩
    have m2 : ∀ a, (W.plus D).M a → ¬ W.M a → H1 a = none := fun a m n => by
      rcases m with m | m
      · exact absurd m n
      · rw [m]; exact hD
    obtain ⟨sm, d, q1, q2⟩ := it.yl (W.plus D).M k H2 v H3 (fun _ m => .inl m) m2 e2 j2.2 yl hl'
    have j3 : (W.plus D).At s2 H3 := j2.same sm
    have e3 : Ex W.C H1 H3 := e2.trans (Ex.of sm)
    have en1 : En X.K (W.plus D).M H1 σ ρ := ⟨en.len, fun n x q => by
      obtain ⟨u, z1, z2⟩ := (W.em e1 en).at_ n x q
      refine ⟨u, z1, ?_⟩
      cases x with
      | d w => exact Dt.more m2 z2
      | v w => exact z2⟩
    refine hG (W.plus D).M H3 σ v d (hok d (List.mem_of_getElem? q1)) (((W.plus D).em e3 en1).wip _) q2 _ fun σ2 en3 hw => ⟨hw, ?_⟩
    refine fun (b : Bk) => ?_
    have hD3 : H3 D = some (.lst accV) := sm D _ hD2
    have nC : ¬ W.C D := fun c => nD (W.sub c)
    have hlen : accV.length = acc.length := dA2.len
    refine (hb D k d acc s2 q1 iv b).go _ H3 _ en3 j3 fun u H5 x s5 e5 j5 v5 ⟨z, hx, hp⟩ => ?_
    subst hx
    have hD5 : H5 D = some (.lst accV) := e5 D _ nC hD3
    refine ⟨accV, hD5, by omega, sD (e3.trans e5), acc ++ [z], accV ++ [u], s5, ⟨W.keep j5.1 fun a o c q => ?_, fun a m => ?_⟩, upd_same, ?_, by simp; omega, hp⟩
    · rw [upd_ne (show a ≠ D from fun w => nC (w ▸ c))]
      exact q
    · by_cases w : a = D
      · rw [w, upd_same]
        exact fun z => nomatch z
      · rw [upd_ne w]
        exact j5.2 a m
    · have q5 : Ex (W.plus D).M H5 (upd H5 D (.lst (accV ++ [u]))) := fun a o n z => by
        rw [upd_ne (fun w => n (.inr w))]
        exact z
      exact (DtA.app (dA2.mono (fun a o n z => e5 a o (fun c => n (.inl (W.sub c))) (sm a o z))) (.cons v5 .nil)).mono q5
  · have ei : k = ds.length := by omega
    subst ei
    refine .inl ⟨it.st _ H2 e2 (Nat.le_refl _), kn _ H2 (.d (.list acc)) s2 (e1.trans e2) ⟨j2.1, fun a m => j2.2 a (.inl m)⟩ (.lst nD hD2 (dA2.less fun a m => .inl m)) (hd acc s2 iv)⟩
def isPr : PyData → Prop
  | .tuple [_, _] => True
  | _ => False
def prA : PyData → PyData
  | .tuple (a :: _) => a
  | _ => .none
def prB : PyData → PyData
  | .tuple (_ :: b :: _) => b
  | _ => .none
theorem wipe_two (σ : L2.St) (i j : Nat) (u v : V) (hij : i ≠ j) : wipe (((wipe σ [i, j]).set i (some u)).set j (some v)) [i, j] = wipe σ [i, j] := by
  apply List.ext_getElem?
  intro n
  simp only [wipe, List.getElem?_set, List.length_set]
  split
  · rfl
  · split
    · rfl
    · rfl
/-- [elt for x, y in e] -/
theorem de_lcP {scope : Scope} {kt : Nat} {pt : Pos} (h : dI X W ρ s (.Tuple [.Name x px, .Name y py] kt pt) e fun ds s1 => ds.length < sizeLine ∧ (∀ d ∈ ds, isPr d) ∧ ∃ Iv : Nat → List PyData → S → Prop, Iv 0 [] s1 ∧
      (∀ D k d acc s2, ds[k]? = some d → Iv k acc s2 → ∀ b : Bk, dE (bx X scope b) (W.plus D) (((wipR ρ [X.N.idxOf x, X.N.idxOf y]).set (X.N.idxOf x) (some (.d (prA d)))).set (X.N.idxOf y) (some (.d (prB d)))) s2 elt fun x s4 => ∃ z, x = .d z ∧ Iv (k + 1) (acc ++ [z]) s4) ∧
      ∀ acc s2, Iv ds.length acc s2 → Φ (.d (.list acc)) s2) (nd : X.N.Nodup) (ok : BlkOk X.N X.env.scope scope [(x, X.N.idxOf x), (y, X.N.idxOf y)]) (hij : X.N.idxOf x ≠ X.N.idxOf y) (hN1 : X.N[X.N.idxOf x]? = some x := by rfl) (hN2 : X.N[X.N.idxOf y]? = some y := by rfl) (hc : X.calm = true := by rfl)
    (hl1 : ∀ b : Bk, Loc (bx X scope b).env.scope x := by intro _; first | exact .inl rfl | exact .inr rfl) (hf1 : ∀ b : Bk, (bx X scope b).fn x = true ∨ (bx X scope b).env.scope.names.lookup x = some .local := by intro _; first | exact .inl rfl | exact .inr rfl)
    (hl2 : ∀ b : Bk, Loc (bx X scope b).env.scope y := by intro _; first | exact .inl rfl | exact .inr rfl) (hf2 : ∀ b : Bk, (bx X scope b).fn y = true ∨ (bx X scope b).env.scope.names.lookup y = some .local := by intro _; first | exact .inl rfl | exact .inr rfl)
    (hs : ∀ x, foldedSetIterable e X.env x = pure x := by intro _; rfl) (ha : ∀ b : Bk, (assignEach [.Name x px, .Name y py] (bx X scope b).env).map (·.2) = [assign (.Name x px) (bx X scope b).env, assign (.Name y py) (bx X scope b).env] := by intro _; rfl)
    (ha2 : ∀ b : Bk, (assignEach [.Name y py] (bx X scope b).env).map (·.2) = [assign (.Name y py) (bx X scope b).env] := by intro _; rfl)
    (hn : ∀ b : Bk, (assignEach [.Name x px, .Name y py] (bx X scope b).env).length = 2 := by intro _; rfl) (hst : ∀ b : Bk, (assignEach [.Name x px, .Name y py] (bx X scope b).env).findIdx? (·.1) = none := by intro _; rfl) :
    dE X W ρ s (.ListComp elt [⟨.Tuple [.Name x px, .Name y py] kt pt, e, [], 0⟩] scope pos) Φ := .mk fun σ H Q en j kn => by
  refine toE (pe_lc (own := [(x, X.N.idxOf x), (y, X.N.idxOf y)]) (g := gTup X.K 2 (gCons (gName (X.N.idxOf x)) (gCons (gName (X.N.idxOf y)) gNil))) (te := fun σ H Q => ∀ b : Bk, wE (bx X scope b) elt σ H Q) hc nd iw ok (fun a1 a2 a3 a4 a5 => ?_) (fun a1 a2 a3 a4 a5 => pts_nil) (fun a1 a2 a3 a4 a5 => ⟨fun pins s' _ _ _ I q => q ⟨a1, a2, a3, a4, a5⟩ pins s' I⟩) hs) ?_
  · have hcb : (bx X scope ⟨a1, a2, a3, a4, a5⟩).calm = true := hc
    exact pg_tup (X := bx X scope ⟨a1, a2, a3, a4, a5⟩) hcb (pgs_cons (pg_name nd hN1 (hl1 ⟨a1, a2, a3, a4, a5⟩) (hf1 ⟨a1, a2, a3, a4, a5⟩)) (pgs_cons (pg_name nd hN2 (hl2 ⟨a1, a2, a3, a4, a5⟩) (hf2 ⟨a1, a2, a3, a4, a5⟩)) pgs_nil (ha2 ⟨a1, a2, a3, a4, a5⟩)) (ha ⟨a1, a2, a3, a4, a5⟩)) (hn ⟨a1, a2, a3, a4, a5⟩) (hst ⟨a1, a2, a3, a4, a5⟩)
  · refine lcG (own := [(x, X.N.idxOf x), (y, X.N.idxOf y)]) (fun ρ d => (ρ.set (X.N.idxOf x) (some (.d (prA d)))).set (X.N.idxOf y) (some (.d (prB d)))) isPr ?_ h σ H Q en j kn
    intro M H σ v d hd en hv Q hQ
    cases d with
    | tuple ds =>
      match ds, hd with
      | [d1, d2], _ =>
        obtain ⟨l, xs, rfl, q1, q2, _⟩ := hv.isT
        cases q2 with
        | cons c1 c2 =>
          cases c2 with
          | cons c2 c3 =>
            cases c3
            refine ⟨l, _, rfl, q1, rfl, _, _, rfl, _, _, rfl, rfl, hQ _ ((en.set _ (x := .d d1) c1).set _ (x := .d d2) c2) (wipe_two σ _ _ _ _ hij)⟩
    | _ => exact hd.elim
end
end Fw

set_option Elab.async false
set_option linter.all false
set_option maxRecDepth 100000
set_option maxHeartbeats 2000000
namespace Fw
open PySem PySem.Spec PyProof.Rows L2
/-! ### the end: a law whose promise holds where no repr is under way -/
theorem lawG {P : Program} {w : World} {K : PySem.W.Frag} {mg mb : Str → Option Value} {k : Nat} {fa a : Addr} {x : Str} {sp : Sp} {s1 : Shared} {vs : List Value} {ns : List Int}
    (KX : K.In s1.heap) (hns : s1.heap.Ns mainGlobals mg) (hbn : s1.heap.Ns builtinsNs mb) (hbb : ∀ x : Str, x ≠ "__name__" → mb x = bootBuiltins x) (hlim : s1.heap.NoLimit) (hgen : s1.gens = #[])
    (hobj : s1.heap.get? a = some { cls := .type "list", data := .seq vs.toArray }) (hi : IntsAre vs ns) (hl : ns.length ≤ sizeLine) (hr : Room k callerA) (hg : callerA.guards = some [])
    (F : ∀ base : Heap, K.In base → base.Ns mainGlobals mg → ∃ fd, (∀ (s : Shared) (u : Value), BindsTo s fd ⟨[u], []⟩ [(x, u)]) ∧ FnG P w K mg base CX0 k fa fd [x] sp)
    (hsp : ∀ H : Hp, SqL K H a (ns.map V.int) → sp [.ref a] H (fun v _ => v = .bl true) fun _ _ _ => False) :
    codeAny (model P w) callerA (.call (.ref fa) ⟨[.ref a], []⟩) (fun r s' => r = .ok (.ret (.bool true)) ∧ OldK s1.heap s'.heap ∧ s'.os = s1.os ∧ AllBare s'.gens) s1 := by
  have rel := vals_ints hi
  have lenV := hi.length
  have go : ∀ T : Hp, Only T → SqL K T a (ns.map V.int) → HOk P w T s1.heap → (∀ b, T b ≠ none → b = a) → (T a ≠ none → K.lookup a = none) →
      codeAny (model P w) callerA (.call (.ref fa) ⟨[.ref a], []⟩) (fun r s' => r = .ok (.ret (.bool true)) ∧ OldK s1.heap s'.heap ∧ s'.os = s1.os ∧ AllBare s'.gens) s1 := fun T hO hS hok hA hK => by
    have noD : ∀ {b : Addr} {o : Obj} {es : Array DictEntry} {ep : Nat}, s1.heap.get? b = some o → o.data = .dict es ep → T b = none := fun {b o es ep} e d => Classical.byContradiction fun z => by
      have eb : b = a := hA b z
      rw [eb, hobj] at e
      cases e
      cases (show Data.seq vs.toArray _ = Data.dict es ep from d)
    have keepNs : ∀ {b : Addr} {m : Str → Option Value}, s1.heap.Ns b m → (hidT s1.heap T).Ns b m := fun {b m} ⟨o, es, ep, e, d, r⟩ => ⟨o, es, ep, hidT_get e (noD e d), d, r⟩
    have keepK : K.In (hidT s1.heap T) := fun b o e => hidT_get (KX b o e) (Classical.byContradiction fun z => by
      have eb : b = a := hA b z
      rw [eb] at z e
      rw [hK z] at e
      cases e)
    have hM : Mod K mg (hidT s1.heap T) := ⟨keepK, keepNs hns, ⟨mb, keepNs hbn, hbb⟩, let ⟨mc, l1, l2⟩ := hlim; ⟨mc, keepNs l1, l2⟩⟩
    have en : Env0 P w K mg (hidT s1.heap T) callerA [] s1 T := ⟨rfl, hM, fun b o e => of_hidT e, Nat.le_of_eq (hidT_size _ _), trivial, fun b z => absurd z List.not_mem_nil, hok, .of_eq hgen⟩
    obtain ⟨fd, hbind, FG⟩ := F _ keepK (keepNs hns)
    refine codeAny_mono (FG.go callerA [] s1 T ⟨[.ref a], []⟩ [.ref a] [.ref a] _ _ hg hr en (hbind s1 (.ref a)) (.cons rfl .nil) (hsp T hS)) fun res s2 z => ?_
    match res, z with
    | .error er, z => exact (show False from z).elim
    | .ok (.ret u), z =>
      obtain ⟨v, T2, z1, z2, un, hok2, z3, z4⟩ := z
      have z5 : v = .bl true := z4
      subst z5
      obtain rfl : u = Value.bool true := z3
      refine ⟨rfl, OldK.of_keep fun b o e => ?_, z1, z2⟩
      rcases hO b with q | ⟨ob, xs, q⟩
      · exact un.keep b o e q (fun z => absurd z List.not_mem_nil) (by simp)
      · obtain ⟨e1, _⟩ := hok b _ q
        obtain ⟨e2, _⟩ := hok2 b _ (un.frzs b ob _ q)
        rw [e] at e1
        cases e1
        exact e2
  cases hk : K.lookup a with
  | some o =>
    have e := (KX a o hk).symm.trans hobj
    cases e
    exact go (fun _ => none) (fun _ => .inl rfl) (.inr ⟨_, vs.toArray, _, hk, rfl, rfl, rfl, by rw [List.size_toArray, lenV]; exact hl, by simpa using rel⟩) (fun b u z => nomatch z) (fun b z => absurd rfl z) fun z => absurd rfl z
  | none =>
    have at_ : ∀ b : Addr, b ≠ a → (if b = a then some (HO.frz { cls := .type "list", data := .seq vs.toArray } (.lst (ns.map V.int))) else none) = none := fun b n => if_neg n
    refine go (fun b => if b = a then some (.frz { cls := .type "list", data := .seq vs.toArray } (.lst (ns.map V.int))) else none) (fun b => ?_) (.inl (.inr ⟨{ cls := .type "list", data := .seq vs.toArray }, if_pos rfl⟩)) (fun b u z => ?_) (fun b z => ?_) fun _ => hk
    · by_cases n : b = a
      · exact .inr ⟨_, _, if_pos n⟩
      · exact .inl (at_ b n)
    · by_cases n : b = a
      · subst n
        cases (if_pos rfl).symm.trans z
        exact ⟨hobj, by rw [List.length_map]; exact hl, vs, _, rel, hobj⟩
      · cases (at_ b n).symm.trans z
    · exact Classical.byContradiction fun n => z (at_ b n)
/-- the goal that head_any leaves -/
theorem walkG {l : PySem.W.OpenLaw} {n k : Nat} {q : Program} {loose : List Str} {XP : (Str → Option Value) → Heap → Prop} {YP : World → Heap → Prop} {d : DefRec} {x : Str}
    (hn : l.most = some n) (hn2 : n ≤ sizeLine) (hdf : d.params.defaults = []) (hr : Room k callerA) (hg : callerA.guards = some [])
    (F : ∀ (w : World) (mg : Str → Option Value) (fa : Addr) (h : Heap), YP w h → h.Ns mainGlobals mg → mg d.name = some (.ref fa) →
      ∃ (K : PySem.W.Frag) (sp : Sp), K.In h ∧
        (∀ (H : Hp) (a : Addr) (ns : List Int), SqL K H a (ns.map V.int) → sp [.ref a] H (fun v _ => v = .bl true) fun _ _ _ => False) ∧
        ∀ base : Heap, K.In base → base.Ns mainGlobals mg → ∃ fd, (∀ (s : Shared) (u : Value), BindsTo s fd ⟨[u], []⟩ [(x, u)]) ∧ FnG l.prog w K mg base CX0 k fa fd [x] sp) :
    PySem.W.WalkO q loose XP YP l.row.toRowW d [] (fun f vs => PySem.call f vs) :=
  Att.attach_call hn hdf fun w s0 s1 mg mb fa o pm cd doc a vs ns G Y ho hd hcd hmg hobj hints hlen hgen => by
    obtain ⟨K, sp, KX, hsp, hF⟩ := F w mg fa _ Y G.T.g hmg
    exact lawG KX G.T.g G.T.b G.T.builtins G.T.nolimit hgen hobj hints (Nat.le_trans hlen hn2) hr hg hF fun H hS => hsp H a ns hS
/-! ### a Hook that holds the modules' table too -/
abbrev AlS : Type := Bool × He.AlD
def frS (n : Nat) (g : Addr → Option Obj) : PySem.W.Frag := He.frG g (sysModules :: He.asD g n)
def obsS (n : Nat) (fa : List He.Fa) (fn : List He.DefD) (g : Addr → Option Obj) : AlS := (((frS n g).lookup sysModules).isSome, He.obsD fa fn (frS n g))
def hookS (n : Nat) (fa : List He.Fa) (fn : List He.DefD) : PySem.W.Hook where
  α := AlS
  obs := fun s => obsS n fa fn s.heap.get?
  val := fun _ => (true, He.valD fn)
  says := fun _ h => ∃ K : PySem.W.Frag, K.In h ∧ (K.lookup sysModules).isSome = true ∧ He.SaysD fa fn K
  of := fun _ _ e => ⟨_, He.frG_in, congrArg (fun z : AlS => z.1) e, congrArg (fun z : AlS => z.2) e⟩
  keeps := fun _ _ _ ⟨K, hK, c⟩ k => ⟨K, PySem.W.Frag.In.keeps hK k, c⟩
theorem obsS_eq {n : Nat} {fa : List He.Fa} {fn : List He.DefD} {g : Addr → Option Obj} {s : Shared} (h : ∀ a, g a = s.heap.get? a) : obsS n fa fn g = (hookS n fa fn).obs s := by
  have e : g = s.heap.get? := funext h
  subst e
  rfl
theorem sys_in {K : PySem.W.Frag} {h : Heap} (X : K.In h) (c : (K.lookup sysModules).isSome = true) : h.get? sysModules ≠ none := by
  obtain ⟨o, e⟩ := Option.isSome_iff_exists.mp c
  rw [X _ _ e]
  exact fun z => nomatch z
/-- a def by the head's fact -/
theorem src_of {K : PySem.W.Frag} {h : Heap} {mg : Str → Option Value} {x : Str} {st : Stmt} (X : K.In h) (G : h.Ns mainGlobals mg) (g : (He.Fa.glo x).ok K = true) (f : ∃ fd, FunD K x x (defArgs st) (defBody st) (defScope st) [] [] (He.fAd K (x, none)) fd) : Src K mg x st :=
  let ⟨fd, F⟩ := f; ⟨He.fAd K (x, none), fd, He.glo_ok X G g, F⟩
end Fw

set_option Elab.async false
set_option linter.all false
set_option maxRecDepth 100000
set_option maxHeartbeats 4000000
namespace K1
open PySem PySem.Spec PyProof.Rows L2 Fw
local macro_rules | `(tactic| walk_at "fE") => `(tactic| first
  | ((with_reducible show dE _ _ _ _ (Expr.Name _ _) _); first | refine de_var ?_ | refine de_globS (by assumption) ?_ | refine de_globI (by assumption) ?_)
  | ((with_reducible show dE _ _ _ _ (Expr.Constant _ _ _) _); first | refine de_str ?_ | refine de_int ?_ | refine de_bool ?_ | refine de_none ?_)
  | ((with_reducible show dE _ _ _ _ (Expr.BoolOp _ _ _) _); first | refine de_one ?_ | refine de_and ?_ | refine de_or ?_)
  | ((with_reducible show dE _ _ _ _ (Expr.UnaryOp _ _ _) _); first | refine de_not ?_ | refine de_neg ?_)
  | ((with_reducible show dE _ _ _ _ (Expr.Compare _ _ _ _) _); first | refine de_cmp (op_eqDD (by assumption)) ?_ | refine de_cmp (op_neDD (by assumption)) ?_ | refine de_cmp op_ltD ?_ | refine de_cmp op_leD ?_ | refine de_cmp op_gtD ?_ | refine de_cmp op_geD ?_ | refine de_cmp (op_inD (by first | assumption | exact Rm.blk (by assumption))) ?_ | refine de_cmp (op_ninD (by first | assumption | exact Rm.blk (by assumption))) ?_ | refine de_cmp op_isD ?_ | refine de_cmp op_isntD ?_ | refine de_chain op_leD op_leD ?_ | refine de_chain op_leD op_ltD ?_)
  | ((with_reducible show dE _ _ _ _ (Expr.BinOp _ _ _ _) _); first | refine de_bin op_addD ?_ | refine de_bin op_subD ?_)
  | ((with_reducible show dE _ _ _ _ (Expr.Tuple _ _ _) _); refine de_tup ?_)
  | ((with_reducible show dE _ _ _ _ (Expr.List _ _) _); refine de_lst ?_)
  | ((with_reducible show dE _ _ _ _ (Expr.IfExp _ _ _ _) _); refine de_if ?_)
  | ((with_reducible show dE _ _ _ _ (Expr.Subscript _ _ _) _); first | refine de_slice sl_D ?_ | refine de_ix ix_D ?_)
  | ((with_reducible show dE _ _ _ _ (Expr.Call _ _ _ _) _); first | refine de_isiS (by assumption) (by assumption) ?_ | refine de_isiI (by assumption) (by assumption) ?_ | refine de_isiB (by assumption) (by assumption) ?_ | refine de_isiT (by assumption) (by assumption) ?_ | refine de_len (by assumption) ?_ | refine de_repr (by assumption) (by assumption) ?_ | refine de_all (by assumption) (by assumption) ?_))
local macro_rules | `(tactic| walk_at "fT") => `(tactic| first
  | ((with_reducible show dT _ _ _ _ (Expr.UnaryOp .Not _ _) _); refine dt_not ?_)
  | ((with_reducible show dT _ _ _ _ (Expr.BoolOp _ _ _) _); first | refine dt_w (dw_and ?_) | refine dt_w (dw_or ?_))
  | ((with_reducible show dW _ _ _ _ (Expr.BoolOp _ _ _) _); first | refine dw_and1 ?_ | refine dw_or1 ?_ | refine dw_and ?_ | refine dw_or ?_)
  | ((with_reducible show dT _ _ _ _ (Expr.Compare _ _ _ _) _); first | refine dt_cmp (op_eqDD (by assumption)) ?_ | refine dt_cmp (op_neDD (by assumption)) ?_ | refine dt_cmp op_ltD ?_ | refine dt_cmp op_leD ?_ | refine dt_cmp op_gtD ?_ | refine dt_cmp op_geD ?_ | refine dt_cmp (op_inD (by first | assumption | exact Rm.blk (by assumption))) ?_ | refine dt_cmp (op_ninD (by first | assumption | exact Rm.blk (by assumption))) ?_ | refine dt_cmp op_isD ?_ | refine dt_cmp op_isntD ?_ | refine dt_chain op_leD op_leD ?_ | refine dt_chain op_leD op_ltD ?_)
  | ((with_reducible show dT _ _ _ _ _ _); refine dt_val ?_))
local macro_rules | `(tactic| walk_at "fs") => `(tactic| first
  | walk_at "fE" | walk_at "fT" | ((with_reducible show dA _ _ _ _ (_ :: _) _); refine da_cons ?_) | ((with_reducible show dA _ _ _ _ [] _); refine da_nil ?_)
  | ((with_reducible show dS _ _ _ _ _ _); first | refine ds_ret ?_ | refine ds_if ?_) | ((with_reducible show dB _ _ _ _ [] _); refine db_nil ?_; dsimp only) | ((with_reducible show dB _ _ _ _ _ _); refine db_cons ?_))
local macro_rules | `(tactic| walk_at "fx") => `(tactic| (intro hc; exfalso; first | exact Bool.noConfusion (show true = false from hc) | exact Bool.noConfusion (show false = true from hc)))
local macro_rules | `(tactic| walk_at "fm") => `(tactic| first
  | ((with_reducible show Op2 _ _ _ _); first | refine ⟨_, _, _, rfl, rfl, lim_ok (by omega), ?_⟩ | refine ⟨_, _, _, rfl, rfl, rfl, ?_⟩)
  | ((with_reducible show IsB _ _); refine ⟨_, rfl, ?_⟩)
  | ((with_reducible show AllD _ _); refine ⟨_, rfl, ?_⟩)
  | ((with_reducible show ∃ d, _ = Vl.d d ∧ _); refine ⟨_, rfl, ?_⟩)
  | ((with_reducible show ∃ d z, _ = Vl.d d ∧ lenD _ = some z ∧ _); first | refine ⟨_, _, rfl, lim_ok (by omega), ?_⟩ | refine ⟨_, _, rfl, rfl, ?_⟩)
  | ((with_reducible show ∃ ds, itemsD _ = some ds ∧ _); refine ⟨_, rfl, ?_⟩)
  | ((with_reducible show (_ = true → _) ∧ (_ = false → _)); first | (refine ⟨?_, (by walk_at "fx")⟩; intro _) | (refine ⟨(by walk_at "fx"), ?_⟩; intro _))
  | ((with_reducible show (_ = false → _) ∧ (_ = true → _)); first | (refine ⟨?_, (by walk_at "fx")⟩; intro _) | (refine ⟨(by walk_at "fx"), ?_⟩; intro _)))
local macro_rules | `(tactic| walk_at "fr") => `(tactic| repeat (first | walk_at "fs" | walk_at "fm"))
def top (i : Nat) : Stmt := PySem.Challenge.pw_fewtrips_k01_words_names_kinds_and_what.main.body.getD i (.Pass ⟨0, 0, 0, 0⟩)
abbrev s_is_integer : Stmt := top 6
abbrev s_has_letters : Stmt := top 7
abbrev s_is_word : Stmt := top 8
section
variable {P : Program} {w : World} {K : PySem.W.Frag} {mg : Str → Option Value} {base : Heap}
theorem sc_is_integer : FnScope ["thing"] ["thing"] (defScope s_is_integer) := ⟨rfl, rfl, rfl, by decide +kernel, rfl, by decide +kernel, by decide +kernel⟩
def isInt (d : PyData) : Bool := isIn' d && !isBl d
theorem ok_is_integer (F : Src K mg "is_integer" s_is_integer) (hs : base.get? sysModules ≠ none) (m1 : mg "isinstance" = none) (m2 : mg "int" = none) (m3 : mg "bool" = none) :
    Dfn P w K mg base CX0 1 "is_integer" s_is_integer ["thing"] (spD K (fun ds => ds.length = 1) fun ds => .bool (isInt (ds.getD 0 .none))) := by
  refine F.pure sc_is_integer (fun ds h => h) (fun _ _ _ _ _ _ us hl => match us, hl with | [_], _ => rfl) hs fun fa cd A fr s H E M ds R r hp => ?_
  match ds, hp with
  | [d], _ =>
    cases d <;> (walk_at "fr"; rfl)
abbrev LT : Str := "abcdefghijklmnopqrstuvwxyz"
/-- one to n letters -/
def letr (n : Int) : PyData → Bool
  | .str z => decide (1 ≤ (z.length : Int)) && decide ((z.length : Int) ≤ n) && z.cps.toList.all fun c => decide (c ∈ LT.cps.toList)
  | _ => false
theorem nc_str {n : Nat} {z : Str} (h : Nc n (.str z)) : 10 * z.length + 2 ≤ n := by
  have := h.sz
  simpa only [cost] using this
/-- a sign that is a letter -/
def sgn (d : PyData) : Bool := match inB d (.str LT) with
  | some b => b
  | none => false
theorem signs_all (z : Str) : (Fw.signs z).all sgn = z.cps.toList.all fun c => decide (c ∈ LT.cps.toList) := by
  unfold Fw.signs
  rw [List.all_map]
  rfl
theorem sc_has_letters : FnScope ["thing", "longest", "letter"] ["thing", "longest"] (defScope s_has_letters) := ⟨rfl, rfl, rfl, by decide +kernel, rfl, by decide +kernel, by decide +kernel⟩
theorem ok_has_letters (F : Src K mg "has_letters" s_has_letters) (hs : base.get? sysModules ≠ none) (m1 : mg "isinstance" = none) (m2 : mg "str" = none) (m3 : mg "len" = none) (m4 : mg "all" = none) (m5 : ∃ t, mg "LETTERS" = some (.str LT t)) :
    Dfn P w K mg base CX0 1 "has_letters" s_has_letters ["thing", "longest"] (spD K (fun ds => ∃ d n, ds = [d, .int n] ∧ Nc 100000 d) fun ds => .bool (letr (match ds.getD 1 .none with | .int n => n | _ => 0) (ds.getD 0 .none))) := by
  refine F.pure sc_has_letters (fun ds ⟨d, n, h, _⟩ => by rw [h]; rfl) (fun _ _ _ _ _ _ us hl => match us, hl with | [_, _], _ => rfl) hs fun fa cd A fr s H E M ds R r hp => ?_
  obtain ⟨d, n, rfl, hd⟩ := hp
  cases d
  case str z =>
    have hz := nc_str hd
    walk_at "fr"
    refine ⟨fun h1 => ?_, fun h1 => ?_⟩
    · walk_at "fr"
      show Vl.d (PyData.bool false) = Vl.d (PyData.bool (decide (1 ≤ (z.length : Int)) && decide ((z.length : Int) ≤ n) && _))
      rw [h1]
      rfl
    · walk_at "fr"
      refine ⟨fun h2 => ?_, fun h2 => ?_⟩
      · walk_at "fr"
        show Vl.d (PyData.bool false) = Vl.d (PyData.bool (decide (1 ≤ (z.length : Int)) && decide ((z.length : Int) ≤ n) && _))
        rw [show decide ((z.length : Int) ≤ n) = false by simpa using h2]
        simp
      · walk_at "fr"
        refine de_lc (Lc.map (fun d => .bool (sgn d)) ?_) sc_has_letters.nd (blkOk_by (by rfl))
        refine di_any ?_
        walk_at "fr"
        refine ⟨?_, ?_, ?_⟩
        · simp only [Fw.signs, List.length_map]
          have e : z.cps.toList.length = z.length := by simp [Str.length]
          rw [e, sizeLine_eq]
          omega
        · intro D d hd b
          obtain ⟨c, hc, rfl⟩ := List.mem_map.mp hd
          walk_at "fr"
          exact ⟨rfl, rfl⟩
        · refine ⟨_, _, rfl, allB_map sgn _, ?_⟩
          show Vl.d (PyData.bool _) = Vl.d (PyData.bool (decide (1 ≤ (z.length : Int)) && decide ((z.length : Int) ≤ n) && _))
          rw [h1, show decide ((z.length : Int) ≤ n) = true by simpa using h2, signs_all]
          rfl
  all_goals (walk_at "fr"; rfl)
end
end K1

set_option Elab.async false
set_option linter.all false
set_option maxRecDepth 100000
set_option maxHeartbeats 4000000
namespace K1
open PySem PySem.Spec PyProof.Rows L2 Fw
local macro_rules | `(tactic| walk_at "fE") => `(tactic| first
  | ((with_reducible show dE _ _ _ _ (Expr.Name _ _) _); first | refine de_var ?_ | refine de_globS (by assumption) ?_ | refine de_globI (by assumption) ?_)
  | ((with_reducible show dE _ _ _ _ (Expr.Constant _ _ _) _); first | refine de_str ?_ | refine de_int ?_ | refine de_bool ?_ | refine de_none ?_)
  | ((with_reducible show dE _ _ _ _ (Expr.BoolOp _ _ _) _); first | refine de_one ?_ | refine de_and ?_ | refine de_or ?_)
  | ((with_reducible show dE _ _ _ _ (Expr.UnaryOp _ _ _) _); first | refine de_not ?_ | refine de_neg ?_)
  | ((with_reducible show dE _ _ _ _ (Expr.Compare _ _ _ _) _); first | refine de_cmp (op_eqDD (by first | assumption | exact Rm.blk (by assumption))) ?_ | refine de_cmp (op_neDD (by first | assumption | exact Rm.blk (by assumption))) ?_ | refine de_cmp op_ltD ?_ | refine de_cmp op_leD ?_ | refine de_cmp op_gtD ?_ | refine de_cmp op_geD ?_ | refine de_cmp (op_inD (by first | assumption | exact Rm.blk (by assumption))) ?_ | refine de_cmp (op_ninD (by first | assumption | exact Rm.blk (by assumption))) ?_ | refine de_cmp op_isD ?_ | refine de_cmp op_isntD ?_ | refine de_chain op_leD op_leD ?_ | refine de_chain op_leD op_ltD ?_)
  | ((with_reducible show dE _ _ _ _ (Expr.BinOp _ _ _ _) _); first | refine de_bin op_addD ?_ | refine de_bin op_subD ?_)
  | ((with_reducible show dE _ _ _ _ (Expr.Tuple _ _ _) _); refine de_tup ?_)
  | ((with_reducible show dE _ _ _ _ (Expr.List _ _) _); refine de_lst ?_)
  | ((with_reducible show dE _ _ _ _ (Expr.IfExp _ _ _ _) _); refine de_if ?_)
  | ((with_reducible show dE _ _ _ _ (Expr.Subscript _ _ _) _); first | refine de_slice sl_D ?_ | refine de_ix ix_D ?_)
  | ((with_reducible show dE _ _ _ _ (Expr.Call _ _ _ _) _); first | refine de_isiS (by assumption) (by assumption) ?_ | refine de_isiI (by assumption) (by assumption) ?_ | refine de_isiB (by assumption) (by assumption) ?_ | refine de_isiT (by assumption) (by assumption) ?_ | refine de_len (by assumption) ?_ | refine de_repr (by first | assumption | exact Rm.blk (by assumption)) (by assumption) ?_ | refine de_all (by first | assumption | exact Rm.blk (by assumption)) (by assumption) ?_ | refine de_go (by assumption) (by first | assumption | exact Rm.blk (by assumption)) (by first | assumption | exact Room.mono (by assumption) (by decide)) pass0 ?_ | refine de_go0 (by assumption) (by first | assumption | exact Rm.blk (by assumption)) (by first | assumption | exact Room.mono (by assumption) (by decide)) pass0 ?_))
local macro_rules | `(tactic| walk_at "fT") => `(tactic| first
  | ((with_reducible show dT _ _ _ _ (Expr.UnaryOp .Not _ _) _); refine dt_not ?_)
  | ((with_reducible show dT _ _ _ _ (Expr.BoolOp _ _ _) _); first | refine dt_w (dw_and ?_) | refine dt_w (dw_or ?_))
  | ((with_reducible show dW _ _ _ _ (Expr.BoolOp _ _ _) _); first | refine dw_and1 ?_ | refine dw_or1 ?_ | refine dw_and ?_ | refine dw_or ?_)
  | ((with_reducible show dT _ _ _ _ (Expr.Compare _ _ _ _) _); first | refine dt_cmp (op_eqDD (by first | assumption | exact Rm.blk (by assumption))) ?_ | refine dt_cmp (op_neDD (by first | assumption | exact Rm.blk (by assumption))) ?_ | refine dt_cmp op_ltD ?_ | refine dt_cmp op_leD ?_ | refine dt_cmp op_gtD ?_ | refine dt_cmp op_geD ?_ | refine dt_cmp (op_inD (by first | assumption | exact Rm.blk (by assumption))) ?_ | refine dt_cmp (op_ninD (by first | assumption | exact Rm.blk (by assumption))) ?_ | refine dt_cmp op_isD ?_ | refine dt_cmp op_isntD ?_ | refine dt_chain op_leD op_leD ?_ | refine dt_chain op_leD op_ltD ?_)
  | ((with_reducible show dT _ _ _ _ _ _); refine dt_val ?_))
local macro_rules | `(tactic| walk_at "fs") => `(tactic| first
  | walk_at "fE" | walk_at "fT" | ((with_reducible show dA _ _ _ _ (_ :: _) _); refine da_cons ?_) | ((with_reducible show dA _ _ _ _ [] _); refine da_nil ?_)
  | ((with_reducible show dS _ _ _ _ _ _); first | refine ds_ret ?_ | refine ds_if ?_) | ((with_reducible show dB _ _ _ _ [] _); refine db_nil ?_; dsimp only) | ((with_reducible show dB _ _ _ _ _ _); refine db_cons ?_))
local macro_rules | `(tactic| walk_at "fx") => `(tactic| (intro hc; exfalso; first | exact Bool.noConfusion (show true = false from hc) | exact Bool.noConfusion (show false = true from hc)))
local macro_rules | `(tactic| walk_at "fm") => `(tactic| first
  | ((with_reducible show Op2 _ _ _ _); first | refine ⟨_, _, _, rfl, rfl, eqD_str _ _, ?_⟩ | refine ⟨_, _, _, rfl, rfl, lim_ok (by omega), ?_⟩ | refine ⟨_, _, _, rfl, rfl, rfl, ?_⟩)
  | ((with_reducible show IsB _ _); refine ⟨_, rfl, ?_⟩)
  | ((with_reducible show AllD _ _); refine ⟨_, rfl, ?_⟩)
  | ((with_reducible show _ ≤ sizeLine ∧ _); refine ⟨Nat.le_of_ble_eq_true rfl, ?_⟩)
  | ((with_reducible show ∃ d, _ = Vl.d d ∧ _); refine ⟨_, rfl, ?_⟩)
  | ((with_reducible show ∃ d z, _ = Vl.d d ∧ lenD _ = some z ∧ _); first | refine ⟨_, _, rfl, lim_ok (by omega), ?_⟩ | refine ⟨_, _, rfl, rfl, ?_⟩)
  | ((with_reducible show ∃ ds, itemsD _ = some ds ∧ _); refine ⟨_, rfl, ?_⟩)
  | ((with_reducible show (_ = true → _) ∧ (_ = false → _)); first | (refine ⟨?_, (by walk_at "fx")⟩; intro hj; clear hj) | (refine ⟨(by walk_at "fx"), ?_⟩; intro hj; clear hj))
  | ((with_reducible show (_ = false → _) ∧ (_ = true → _)); first | (refine ⟨?_, (by walk_at "fx")⟩; intro hj; clear hj) | (refine ⟨(by walk_at "fx"), ?_⟩; intro hj; clear hj)))
local macro_rules | `(tactic| walk_at "fr") => `(tactic| repeat (first | walk_at "fs" | walk_at "fm"))

section
variable {P : Program} {w : World} {K : PySem.W.Frag} {mg : Str → Option Value} {base : Heap}
abbrev s_is_name : Stmt := top 9
abbrev s_is_kind : Stmt := top 10
abbrev s_fits : Stmt := top 11
abbrev s_first_value : Stmt := top 12
def not3 (d : PyData) : Bool := !(([.str "near", .str "yes", .str "no"] : List PyData).any fun e => PyData.eqv e d)
def isWord (d : PyData) : Bool := letr 8 d && not3 d
def one (N : Nat) (ds : List PyData) : Prop := ∃ d, ds = [d] ∧ Nc N d
theorem one_len {N : Nat} (ds : List PyData) (h : one N ds) : ds.length = 1 := by obtain ⟨d, rfl, _⟩ := h; rfl
abbrev pHas : List PyData → Prop := fun ds => ∃ d n, ds = [d, .int n] ∧ Nc 100000 d
abbrev fHas : List PyData → PyData := fun ds => .bool (letr (match ds.getD 1 .none with | .int n => n | _ => 0) (ds.getD 0 .none))
theorem sc_is_word : FnScope ["thing"] ["thing"] (defScope s_is_word) := ⟨rfl, rfl, rfl, by decide +kernel, rfl, by decide +kernel, by decide +kernel⟩
theorem ok_is_word (F : Src K mg "is_word" s_is_word) (hs : base.get? sysModules ≠ none) (G : Dfn P w K mg base CX0 1 "has_letters" s_has_letters ["thing", "longest"] (spD K pHas fHas)) (m1 : ∃ t, mg "LONGEST_WORD" = some (.int 8 t)) (m2 : ∃ t, mg "NEAR" = some (.str "near" t)) :
    Dfn P w K mg base CX0 2 "is_word" s_is_word ["thing"] (spD K (one 100000) fun ds => .bool (isWord (ds.getD 0 .none))) := by
  refine F.pure sc_is_word one_len (fun _ _ _ _ _ _ us hl => match us, hl with | [_], _ => rfl) hs fun fa cd A fr s H E M ds R r hp => ?_
  obtain ⟨d, rfl, hd⟩ := hp
  walk_at "fr"
  refine ⟨⟨d, _, rfl, hd⟩, ?_⟩
  walk_at "fr"
  refine ⟨fun h1 => ?_, fun h1 => ?_⟩
  · cases d
    case str z =>
      walk_at "fr"
      show Vl.d (PyData.bool _) = Vl.d (PyData.bool (letr 8 (.str z) && not3 (.str z)))
      rw [show letr 8 (.str z) = true from h1]
      rfl
    all_goals exact Bool.noConfusion (show false = true from h1)
  · show Vl.d (PyData.bool _) = Vl.d (PyData.bool (letr 8 d && not3 d))
    rw [show letr 8 d = false from h1]
    rfl
theorem sc_is_name : FnScope ["thing"] ["thing"] (defScope s_is_name) := ⟨rfl, rfl, rfl, by decide +kernel, rfl, by decide +kernel, by decide +kernel⟩
theorem ok_is_name (F : Src K mg "is_name" s_is_name) (hs : base.get? sysModules ≠ none) (G : Dfn P w K mg base CX0 1 "has_letters" s_has_letters ["thing", "longest"] (spD K pHas fHas)) (m1 : ∃ t, mg "LONGEST_NAME" = some (.int 12 t)) :
    Dfn P w K mg base CX0 2 "is_name" s_is_name ["thing"] (spD K (one 100000) fun ds => .bool (letr 12 (ds.getD 0 .none))) := by
  refine F.pure sc_is_name one_len (fun _ _ _ _ _ _ us hl => match us, hl with | [_], _ => rfl) hs fun fa cd A fr s H E M ds R r hp => ?_
  obtain ⟨d, rfl, hd⟩ := hp
  walk_at "fr"
  exact ⟨⟨d, _, rfl, hd⟩, rfl⟩
/-- the second part of a kind -/
def rng3 : PyData → Bool
  | .int i => decide (0 ≤ i) && decide (i ≤ 3)
  | _ => false
def kind2 (a b : PyData) : Bool := PyData.eqv a (.str "names") && (isInt b && rng3 b)
def kindL : List PyData → Bool
  | a :: b :: l => l.isEmpty && kind2 a b
  | _ => false
def isKind : PyData → Bool
  | .str z => ([.str "nothing", .str "truth", .str "name"] : List PyData).any fun e => PyData.eqv e (.str z)
  | .tuple ds => kindL ds
  | _ => false
theorem kindL_no {ds : List PyData} (h : ds.length ≠ 2) : kindL ds = false := by
  match ds, h with
  | [], _ => rfl
  | [_], _ => rfl
  | [_, _], h => exact absurd rfl h
  | _ :: _ :: _ :: _, _ => rfl
theorem sc_is_kind : FnScope ["thing"] ["thing"] (defScope s_is_kind) := ⟨rfl, rfl, rfl, by decide +kernel, rfl, by decide +kernel, by decide +kernel⟩
theorem ok_is_kind (F : Src K mg "is_kind" s_is_kind) (hs : base.get? sysModules ≠ none) (G : Dfn P w K mg base CX0 1 "is_integer" s_is_integer ["thing"] (spD K (fun ds => ds.length = 1) fun ds => .bool (isInt (ds.getD 0 .none))))
    (m1 : mg "isinstance" = none) (m2 : mg "str" = none) (m3 : mg "tuple" = none) (m4 : mg "len" = none) (m5 : ∃ t, mg "MOST_NAMES" = some (.int 3 t)) :
    Dfn P w K mg base CX0 2 "is_kind" s_is_kind ["thing"] (spD K (one 100000) fun ds => .bool (isKind (ds.getD 0 .none))) := by
  refine F.pure sc_is_kind one_len (fun _ _ _ _ _ _ us hl => match us, hl with | [_], _ => rfl) hs fun fa cd A fr s H E M ds R r hp => ?_
  obtain ⟨d, rfl, hd⟩ := hp
  cases d
  case str z =>
    walk_at "fr"
    rfl
  case tuple ds =>
    walk_at "fr"
    refine ⟨fun h1 => ?_, fun h1 => ?_⟩
    · have h2 : ds.length ≠ 2 := fun e => by rw [e] at h1; exact Bool.noConfusion h1
      walk_at "fr"
      show Vl.d (PyData.bool false) = Vl.d (PyData.bool (kindL ds))
      rw [kindL_no h2]
    · have h2 : ds.length = 2 := by
        have : (ds.length : Int) = 2 := by simpa [PyData.eqv] using h1
        omega
      match ds, h2, hd with
      | [a, b], _, hd =>
        walk_at "fr"
        refine ⟨fun h3 => ?_, fun h3 => ?_⟩
        · walk_at "fr"
          refine ⟨rfl, ?_⟩
          walk_at "fr"
          refine ⟨fun h4 => ?_, fun h4 => ?_⟩
          · cases b with
            | int i =>
              walk_at "fr"
              refine ⟨fun h5 => ?_, fun h5 => ?_⟩
              · show Vl.d (PyData.bool false) = Vl.d (PyData.bool (PyData.eqv a (.str "names") && (true && (decide (0 ≤ i) && decide (i ≤ 3)))))
                rw [show decide ((0 : Int) ≤ i) = false from h5]
                simp
              · walk_at "fr"
                show Vl.d (PyData.bool (decide (i ≤ 3))) = Vl.d (PyData.bool (PyData.eqv a (.str "names") && (true && (decide (0 ≤ i) && decide (i ≤ 3)))))
                rw [show decide ((0 : Int) ≤ i) = true from h5, show PyData.eqv a (.str "names") = true from h3]
                simp
            | _ => exact Bool.noConfusion (show false = true from h4)
          · show Vl.d (PyData.bool false) = Vl.d (PyData.bool (PyData.eqv a (.str "names") && (isInt b && rng3 b)))
            rw [show isInt b = false from h4]
            simp
        · show Vl.d (PyData.bool false) = Vl.d (PyData.bool (PyData.eqv a (.str "names") && (isInt b && rng3 b)))
          rw [show PyData.eqv a (.str "names") = false from h3]
          simp
  all_goals (walk_at "fr"; rfl)
/-! ### fits, first_value -/
/-- the kinds -/
inductive Kd where
  | nothing | truth | name | names (k : Nat)
def Kd.d : Kd → PyData
  | .nothing => .str "nothing"
  | .truth => .str "truth"
  | .name => .str "name"
  | .names k => .tuple [.str "names", .int (k : Int)]
def isNn (d : PyData) : Bool := isNon d
def fitsB : Kd → PyData → Bool
  | .nothing, d => isNon d
  | .truth, d => isBl d
  | .name, d => letr 12 d
  | .names k, .tuple ds => decide ((ds.length : Int) ≤ (k : Int)) && ds.all (letr 12)
  | .names _, _ => false
abbrev pFit : List PyData → Prop := fun ds => ∃ (k : Kd) (d : PyData), ds = [k.d, d] ∧ Nc 100000 d
def kdOf : PyData → Kd
  | .str z => if z = "nothing" then .nothing else if z = "truth" then .truth else .name
  | .tuple [_, .int k] => .names k.toNat
  | _ => .nothing
theorem kdOf_d (k : Kd) : kdOf k.d = k := by
  cases k with
  | nothing => rfl
  | truth => rfl
  | name => rfl
  | names k => show Kd.names ((k : Int).toNat) = _; rw [Int.toNat_natCast]
abbrev fFit : List PyData → PyData := fun ds => .bool (fitsB (kdOf (ds.getD 0 .none)) (ds.getD 1 .none))
theorem costA_mem {d : PyData} : ∀ {ds : List PyData}, d ∈ ds → cost d ≤ costA ds
  | [], h => absurd h List.not_mem_nil
  | e :: ds, h => by
    simp only [costA]
    rcases List.mem_cons.mp h with z | z
    · subst z; omega
    · have := costA_mem z; omega
theorem niceA_mem {d : PyData} : ∀ {ds : List PyData}, niceA ds = true → d ∈ ds → nice d = true
  | [], _, h => absurd h List.not_mem_nil
  | e :: ds, g, h => by
    obtain ⟨g1, g2⟩ := Bool.and_eq_true_iff.mp (show (nice e && niceA ds) = true by simpa only [niceA] using g)
    rcases List.mem_cons.mp h with z | z
    · subst z; exact g1
    · exact niceA_mem g2 z
theorem depthA_mem {d : PyData} : ∀ {ds : List PyData}, d ∈ ds → d.depth ≤ PyData.depthAll ds
  | [], h => absurd h List.not_mem_nil
  | e :: ds, h => by
    simp only [PyData.depthAll]
    rcases List.mem_cons.mp h with z | z
    · subst z; omega
    · have := depthA_mem z; omega
theorem _root_.Fw.Nc.tup {n : Nat} {ds : List PyData} (h : Nc n (.tuple ds)) {d : PyData} (hd : d ∈ ds) : Nc n d := by
  have h1 := h.sz
  have h2 := h.dp
  have h3 := h.ok
  simp only [cost, PyData.depth, nice] at h1 h2 h3
  exact ⟨niceA_mem h3 hd, by have := costA_mem hd; omega, by have := depthA_mem hd; omega⟩
theorem costA_len : ∀ ds : List PyData, ds.length ≤ costA ds
  | [] => Nat.zero_le _
  | e :: ds => by
    have := costA_len ds
    simp only [costA, List.length_cons]
    omega
theorem _root_.Fw.Nc.tlen {n : Nat} {ds : List PyData} (h : Nc n (.tuple ds)) : ds.length ≤ n := by
  have h1 := h.sz
  have := costA_len ds
  simp only [cost] at h1
  omega
theorem sc_fits : FnScope ["kind", "thing", "name"] ["kind", "thing"] (defScope s_fits) := ⟨rfl, rfl, rfl, by decide +kernel, rfl, by decide +kernel, by decide +kernel⟩
theorem ok_fits (F : Src K mg "fits" s_fits) (hs : base.get? sysModules ≠ none) (G : Dfn P w K mg base CX0 2 "is_name" s_is_name ["thing"] (spD K (one 100000) fun ds => .bool (letr 12 (ds.getD 0 .none))))
    (m1 : mg "isinstance" = none) (m2 : mg "bool" = none) (m3 : mg "tuple" = none) (m4 : mg "len" = none) (m5 : mg "all" = none) :
    Dfn P w K mg base CX0 3 "fits" s_fits ["kind", "thing"] (spD K pFit fFit) := by
  refine F.pure sc_fits (fun ds ⟨k, d, h, _⟩ => by rw [h]; rfl) (fun _ _ _ _ _ _ us hl => match us, hl with | [_, _], _ => rfl) hs fun fa cd A fr s H E M ds R r hp => ?_
  obtain ⟨k, d, rfl, hd⟩ := hp
  rw [show fFit [k.d, d] = .bool (fitsB k d) by show PyData.bool (fitsB (kdOf k.d) d) = _; rw [kdOf_d]]
  cases k with
  | nothing => walk_at "fr"; show Vl.d (PyData.bool (false != isNon d)) = Vl.d (PyData.bool (isNon d)); cases isNon d <;> rfl
  | truth => walk_at "fr"; rfl
  | name => walk_at "fr"; exact ⟨⟨d, rfl, hd⟩, rfl⟩
  | names k =>
    cases d
    case tuple ds =>
      have hl := hd.tlen
      walk_at "fr"
      refine ⟨fun h1 => ?_, fun h1 => ?_⟩
      · walk_at "fr"
        refine de_lc (Lc.map (fun d => .bool (letr 12 d)) ?_) sc_fits.nd (blkOk_by (by rfl))
        refine di_any ?_
        walk_at "fr"
        refine ⟨by rw [sizeLine_eq]; omega, fun D d hm b => ?_, ?_⟩
        · walk_at "fr"
          exact ⟨⟨d, rfl, hd.tup hm⟩, rfl, rfl⟩
        · refine ⟨_, _, rfl, allB_map _ _, ?_⟩
          show Vl.d (PyData.bool _) = Vl.d (PyData.bool (decide ((ds.length : Int) ≤ (k : Int)) && ds.all (letr 12)))
          rw [show decide ((ds.length : Int) ≤ (k : Int)) = true from h1]
          rfl
      · show Vl.d (PyData.bool _) = Vl.d (PyData.bool (decide ((ds.length : Int) ≤ (k : Int)) && ds.all (letr 12)))
        rw [show decide ((ds.length : Int) ≤ (k : Int)) = false from h1]
        rfl
    all_goals (walk_at "fr"; rfl)
def firstV : Kd → PyData
  | .nothing => .none
  | .truth => .bool false
  | .name => .str "a"
  | .names _ => .tuple []
abbrev pKd : List PyData → Prop := fun ds => ∃ k : Kd, ds = [k.d]
abbrev fFirst : List PyData → PyData := fun ds => firstV (kdOf (ds.getD 0 .none))
theorem sc_first : FnScope ["kind"] ["kind"] (defScope s_first_value) := ⟨rfl, rfl, rfl, by decide +kernel, rfl, by decide +kernel, by decide +kernel⟩
theorem ok_first (F : Src K mg "first_value" s_first_value) (hs : base.get? sysModules ≠ none) :
    Dfn P w K mg base CX0 1 "first_value" s_first_value ["kind"] (spD K pKd fFirst) := by
  refine F.pure sc_first (fun ds ⟨k, h⟩ => by rw [h]; rfl) (fun _ _ _ _ _ _ us hl => match us, hl with | [_], _ => rfl) hs fun fa cd A fr s H E M ds R r hp => ?_
  obtain ⟨k, rfl⟩ := hp
  rw [show fFirst [k.d] = firstV k by show firstV (kdOf k.d) = _; rw [kdOf_d]]
  cases k with
  | nothing => walk_at "fr"; rfl
  | truth => walk_at "fr"; rfl
  | name => walk_at "fr"; rfl
  | names k => walk_at "fr"; rfl
end
end K1

set_option Elab.async false
set_option linter.all false
set_option maxRecDepth 100000
set_option maxHeartbeats 4000000
namespace K1
open PySem PySem.Spec PyProof.Rows L2 Fw
local macro_rules | `(tactic| walk_at "fE") => `(tactic| first
  | ((with_reducible show dE _ _ _ _ (Expr.Name _ _) _); first | refine de_var ?_ | refine de_globS (by assumption) ?_ | refine de_globI (by assumption) ?_)
  | ((with_reducible show dE _ _ _ _ (Expr.Constant _ _ _) _); first | refine de_str ?_ | refine de_int ?_ | refine de_bool ?_ | refine de_none ?_)
  | ((with_reducible show dE _ _ _ _ (Expr.BoolOp _ _ _) _); first | refine de_one ?_ | refine de_and ?_ | refine de_or ?_)
  | ((with_reducible show dE _ _ _ _ (Expr.UnaryOp _ _ _) _); first | refine de_not ?_ | refine de_neg ?_)
  | ((with_reducible show dE _ _ _ _ (Expr.Compare _ _ _ _) _); first | refine de_cmp (op_eqDD (by first | assumption | exact Rm.blk (by assumption))) ?_ | refine de_cmp (op_neDD (by first | assumption | exact Rm.blk (by assumption))) ?_ | refine de_cmp op_ltD ?_ | refine de_cmp op_leD ?_ | refine de_cmp op_gtD ?_ | refine de_cmp op_geD ?_ | refine de_cmp (op_inD (by first | assumption | exact Rm.blk (by assumption))) ?_ | refine de_cmp (op_ninD (by first | assumption | exact Rm.blk (by assumption))) ?_ | refine de_cmp op_isD ?_ | refine de_cmp op_isntD ?_ | refine de_chain op_leD op_leD ?_ | refine de_chain op_leD op_ltD ?_)
  | ((with_reducible show dE _ _ _ _ (Expr.BinOp _ _ _ _) _); first | refine de_bin op_addD ?_ | refine de_bin op_subD ?_)
  | ((with_reducible show dE _ _ _ _ (Expr.Tuple _ _ _) _); refine de_tup ?_)
  | ((with_reducible show dE _ _ _ _ (Expr.List _ _) _); refine de_lst ?_)
  | ((with_reducible show dE _ _ _ _ (Expr.IfExp _ _ _ _) _); refine de_if ?_)
  | ((with_reducible show dE _ _ _ _ (Expr.Subscript _ _ _) _); first | refine de_slice sl_D ?_ | refine de_ix ix_D ?_)
  | ((with_reducible show dE _ _ _ _ (Expr.Call _ _ _ _) _); first | refine de_isiS (by assumption) (by assumption) ?_ | refine de_isiI (by assumption) (by assumption) ?_ | refine de_isiB (by assumption) (by assumption) ?_ | refine de_isiT (by assumption) (by assumption) ?_ | refine de_len (by assumption) ?_ | refine de_repr (by first | assumption | exact Rm.blk (by assumption)) (by assumption) ?_ | refine de_all (by first | assumption | exact Rm.blk (by assumption)) (by assumption) ?_ | refine de_go (by assumption) (by first | assumption | exact Rm.blk (by assumption)) (by first | assumption | exact Room.mono (by assumption) (by decide)) pass0 ?_ | refine de_go0 (by assumption) (by first | assumption | exact Rm.blk (by assumption)) (by first | assumption | exact Room.mono (by assumption) (by decide)) pass0 ?_))
local macro_rules | `(tactic| walk_at "fT") => `(tactic| first
  | ((with_reducible show dT _ _ _ _ (Expr.UnaryOp .Not _ _) _); refine dt_not ?_)
  | ((with_reducible show dT _ _ _ _ (Expr.BoolOp _ _ _) _); first | refine dt_w (dw_and ?_) | refine dt_w (dw_or ?_))
  | ((with_reducible show dW _ _ _ _ (Expr.BoolOp _ _ _) _); first | refine dw_and1 ?_ | refine dw_or1 ?_ | refine dw_and ?_ | refine dw_or ?_)
  | ((with_reducible show dT _ _ _ _ (Expr.Compare _ _ _ _) _); first | refine dt_cmp (op_eqDD (by first | assumption | exact Rm.blk (by assumption))) ?_ | refine dt_cmp (op_neDD (by first | assumption | exact Rm.blk (by assumption))) ?_ | refine dt_cmp op_ltD ?_ | refine dt_cmp op_leD ?_ | refine dt_cmp op_gtD ?_ | refine dt_cmp op_geD ?_ | refine dt_cmp (op_inD (by first | assumption | exact Rm.blk (by assumption))) ?_ | refine dt_cmp (op_ninD (by first | assumption | exact Rm.blk (by assumption))) ?_ | refine dt_cmp op_isD ?_ | refine dt_cmp op_isntD ?_ | refine dt_chain op_leD op_leD ?_ | refine dt_chain op_leD op_ltD ?_)
  | ((with_reducible show dT _ _ _ _ _ _); refine dt_val ?_))
local macro_rules | `(tactic| walk_at "fs") => `(tactic| first
  | walk_at "fE" | walk_at "fT" | ((with_reducible show dA _ _ _ _ (_ :: _) _); refine da_cons ?_) | ((with_reducible show dA _ _ _ _ [] _); refine da_nil ?_)
  | ((with_reducible show dS _ _ _ _ _ _); first | refine ds_ret ?_ | refine ds_if ?_) | ((with_reducible show dB _ _ _ _ [] _); refine db_nil ?_; dsimp only) | ((with_reducible show dB _ _ _ _ _ _); refine db_cons ?_))
local macro_rules | `(tactic| walk_at "fx") => `(tactic| (intro hc; exfalso; first | exact Bool.noConfusion (show true = false from hc) | exact Bool.noConfusion (show false = true from hc)))
local macro_rules | `(tactic| walk_at "fm") => `(tactic| first
  | ((with_reducible show Op2 _ _ _ _); first | refine ⟨_, _, _, rfl, rfl, eqD_str _ _, ?_⟩ | refine ⟨_, _, _, rfl, rfl, lim_ok (by omega), ?_⟩ | refine ⟨_, _, _, rfl, rfl, rfl, ?_⟩)
  | ((with_reducible show IsB _ _); refine ⟨_, rfl, ?_⟩)
  | ((with_reducible show AllD _ _); refine ⟨_, rfl, ?_⟩)
  | ((with_reducible show _ ≤ sizeLine ∧ _); refine ⟨Nat.le_of_ble_eq_true rfl, ?_⟩)
  | ((with_reducible show ∃ d, _ = Vl.d d ∧ _); refine ⟨_, rfl, ?_⟩)
  | ((with_reducible show ∃ d z, _ = Vl.d d ∧ lenD _ = some z ∧ _); first | refine ⟨_, _, rfl, lim_ok (by omega), ?_⟩ | refine ⟨_, _, rfl, rfl, ?_⟩)
  | ((with_reducible show ∃ ds, itemsD _ = some ds ∧ _); refine ⟨_, rfl, ?_⟩)
  | ((with_reducible show (_ = true → _) ∧ (_ = false → _)); first | (refine ⟨?_, (by walk_at "fx")⟩; intro hj; clear hj) | (refine ⟨(by walk_at "fx"), ?_⟩; intro hj; clear hj))
  | ((with_reducible show (_ = false → _) ∧ (_ = true → _)); first | (refine ⟨?_, (by walk_at "fx")⟩; intro hj; clear hj) | (refine ⟨(by walk_at "fx"), ?_⟩; intro hj; clear hj)))
local macro_rules | `(tactic| walk_at "fr") => `(tactic| repeat (first | walk_at "fs" | walk_at "fm"))
abbrev s_law_letters : Stmt := top 17
abbrev s_law_is_kind : Stmt := top 18
abbrev s_law_does_fit : Stmt := top 19
abbrev s_law_sorts : Stmt := top 23
abbrev s_law_looks : Stmt := top 24
abbrev s_law_fits : Stmt := top 25
section
variable {P : Program} {w : World} {K : PySem.W.Frag} {mg : Str → Option Value} {base : Heap}
/-! the signs that are no letters -/
def bad : PyData → Bool
  | .str a => decide (a.cps.toList < ("a" : Str).cps.toList) || decide (("z" : Str).cps.toList < a.cps.toList)
  | _ => false
theorem LT_list : LT.cps.toList = [97, 98, 99, 100, 101, 102, 103, 104, 105, 106, 107, 108, 109, 110, 111, 112, 113, 114, 115, 116, 117, 118, 119, 120, 121, 122] := by decide +kernel
theorem a_list : ("a" : Str).cps.toList = [97] := by decide +kernel
theorem z_list : ("z" : Str).cps.toList = [122] := by decide +kernel
theorem lt_one (a b : Nat) : ([a] < [b]) ↔ a < b := by
  constructor
  · intro h
    cases h with
    | cons h => cases h
    | rel h => exact h
  · exact fun h => List.Lex.rel h
theorem bad_sign (c : Nat) : bad (.str ⟨#[c]⟩) = !decide (c ∈ LT.cps.toList) := by
  show (decide (([c] : List Nat) < ("a" : Str).cps.toList) || decide (("z" : Str).cps.toList < ([c] : List Nat))) = _
  rw [LT_list, a_list, z_list]
  by_cases h : 97 ≤ c ∧ c ≤ 122
  · have h1 : ¬ ([c] < [97]) := fun z => by rw [lt_one] at z; omega
    have h2 : ¬ ([122] < [c]) := fun z => by rw [lt_one] at z; omega
    have h3 : c ∈ ([97, 98, 99, 100, 101, 102, 103, 104, 105, 106, 107, 108, 109, 110, 111, 112, 113, 114, 115, 116, 117, 118, 119, 120, 121, 122] : List Nat) := by simp only [List.mem_cons]; omega
    rw [decide_eq_false h1, decide_eq_false h2, decide_eq_true h3]
    rfl
  · have h3 : ¬ c ∈ ([97, 98, 99, 100, 101, 102, 103, 104, 105, 106, 107, 108, 109, 110, 111, 112, 113, 114, 115, 116, 117, 118, 119, 120, 121, 122] : List Nat) := fun z => h ((by decide : ∀ x ∈ ([97, 98, 99, 100, 101, 102, 103, 104, 105, 106, 107, 108, 109, 110, 111, 112, 113, 114, 115, 116, 117, 118, 119, 120, 121, 122] : List Nat), 97 ≤ x ∧ x ≤ 122) c z)
    rw [decide_eq_false h3]
    by_cases h1 : c < 97
    · rw [decide_eq_true ((lt_one c 97).mpr h1)]
      rfl
    · rw [decide_eq_true ((lt_one 122 c).mpr (by omega))]
      simp
theorem nil_signs (z : Str) : nilE (.list (((Fw.signs z).filter bad).map id)) = z.cps.toList.all fun c => decide (c ∈ LT.cps.toList) := by
  unfold Fw.signs
  generalize z.cps.toList = l
  induction l with
  | nil => rfl
  | cons c l ih =>
    rw [List.map_cons, List.filter_cons, bad_sign, List.all_cons]
    cases h : decide (c ∈ LT.cps.toList) with
    | true => simpa using ih
    | false => simp [nilE]
theorem sc_law_letters : FnScope ["_law_it", "_law_longest", "_law_sign"] ["_law_it", "_law_longest"] (defScope s_law_letters) := ⟨rfl, rfl, rfl, by decide +kernel, rfl, by decide +kernel, by decide +kernel⟩
theorem ok_law_letters (F : Src K mg "_law_letters" s_law_letters) (hs : base.get? sysModules ≠ none) (m1 : mg "isinstance" = none) (m2 : mg "str" = none) (m3 : mg "len" = none) :
    Dfn P w K mg base CX0 1 "_law_letters" s_law_letters ["_law_it", "_law_longest"] (spD K pHas fHas) := by
  refine F.pure sc_law_letters (fun ds ⟨d, n, h, _⟩ => by rw [h]; rfl) (fun _ _ _ _ _ _ us hl => match us, hl with | [_, _], _ => rfl) hs fun fa cd A fr s H E M ds R r hp => ?_
  obtain ⟨d, n, rfl, hd⟩ := hp
  cases d
  case str z =>
    have hz := nc_str hd
    walk_at "fr"
    refine ⟨fun h1 => ?_, fun h1 => ?_⟩
    · have h1 : ((z.length : Int) == 0) = false := by simpa [PyData.eqv] using h1
      have h1' : (z.length : Int) ≠ 0 := by simpa using h1
      walk_at "fr"
      refine ⟨fun h2 => ?_, fun h2 => ?_⟩
      · walk_at "fr"
        show Vl.d (PyData.bool false) = Vl.d (PyData.bool (decide (1 ≤ (z.length : Int)) && decide ((z.length : Int) ≤ n) && _))
        have h2 : n < (z.length : Int) := of_decide_eq_true h2
        rw [show decide ((z.length : Int) ≤ n) = false from decide_eq_false (by omega)]
        simp
      · walk_at "fr"
        refine de_lc (Lc.filt bad id ?_) sc_law_letters.nd (blkOk_by (by rfl))
        refine di_any ?_
        walk_at "fr"
        refine ⟨?_, ?_, ?_, ?_⟩
        · simp only [Fw.signs, List.length_map]
          have e : z.cps.toList.length = z.length := by simp [Str.length]
          rw [e, sizeLine_eq]
          omega
        · intro D d hd b
          obtain ⟨c, hc, rfl⟩ := List.mem_map.mp hd
          walk_at "fr"
          refine ⟨fun h3 => ?_, fun h3 => ?_⟩
          · walk_at "fr"
            refine ⟨?_, rfl⟩
            show _ = (decide (_ < _) || decide (_ < _))
            rw [show decide ((⟨#[c]⟩ : Str).cps.toList < ("a" : Str).cps.toList) = false from h3]
            rfl
          · refine ⟨?_, rfl⟩
            show _ = (decide (_ < _) || decide (_ < _))
            rw [show decide ((⟨#[c]⟩ : Str).cps.toList < ("a" : Str).cps.toList) = true from h3]
            rfl
        · intro D d hd _ b
          walk_at "fr"
          exact ⟨rfl, rfl⟩
        · walk_at "fr"
          show Vl.d (PyData.bool _) = Vl.d (PyData.bool (decide (1 ≤ (z.length : Int)) && decide ((z.length : Int) ≤ n) && _))
          have h2 : ¬ n < (z.length : Int) := of_decide_eq_false h2
          rw [nil_signs, show decide ((z.length : Int) ≤ n) = true from decide_eq_true (by omega), show decide (1 ≤ (z.length : Int)) = true from decide_eq_true (by omega)]
          rfl
    · walk_at "fr"
      show Vl.d (PyData.bool false) = Vl.d (PyData.bool (decide (1 ≤ (z.length : Int)) && decide ((z.length : Int) ≤ n) && _))
      have h1 : (z.length : Int) = 0 := by simpa [PyData.eqv] using h1
      rw [h1]
      rfl
  all_goals (walk_at "fr"; rfl)
end
end K1

set_option Elab.async false
set_option linter.all false
set_option maxRecDepth 100000
set_option maxHeartbeats 4000000
namespace K1
open PySem PySem.Spec PyProof.Rows L2 Fw
local macro_rules | `(tactic| walk_at "fE") => `(tactic| first
  | ((with_reducible show dE _ _ _ _ (Expr.Name _ _) _); first | refine de_var ?_ | refine de_globS (by assumption) ?_ | refine de_globI (by assumption) ?_)
  | ((with_reducible show dE _ _ _ _ (Expr.Constant _ _ _) _); first | refine de_str ?_ | refine de_int ?_ | refine de_bool ?_ | refine de_none ?_)
  | ((with_reducible show dE _ _ _ _ (Expr.BoolOp _ _ _) _); first | refine de_one ?_ | refine de_and ?_ | refine de_or ?_)
  | ((with_reducible show dE _ _ _ _ (Expr.UnaryOp _ _ _) _); first | refine de_not ?_ | refine de_neg ?_)
  | ((with_reducible show dE _ _ _ _ (Expr.Compare _ _ _ _) _); first | refine de_cmp (op_eqDD (by first | assumption | exact Rm.blk (by assumption))) ?_ | refine de_cmp (op_neDD (by first | assumption | exact Rm.blk (by assumption))) ?_ | refine de_cmp op_ltD ?_ | refine de_cmp op_leD ?_ | refine de_cmp op_gtD ?_ | refine de_cmp op_geD ?_ | refine de_cmp (op_inD (by first | assumption | exact Rm.blk (by assumption))) ?_ | refine de_cmp (op_ninD (by first | assumption | exact Rm.blk (by assumption))) ?_ | refine de_cmp op_isD ?_ | refine de_cmp op_isntD ?_ | refine de_chain op_leD op_leD ?_ | refine de_chain op_leD op_ltD ?_)
  | ((with_reducible show dE _ _ _ _ (Expr.BinOp _ _ _ _) _); first | refine de_bin op_addD ?_ | refine de_bin op_subD ?_)
  | ((with_reducible show dE _ _ _ _ (Expr.Tuple _ _ _) _); refine de_tup ?_)
  | ((with_reducible show dE _ _ _ _ (Expr.List _ _) _); refine de_lst ?_)
  | ((with_reducible show dE _ _ _ _ (Expr.IfExp _ _ _ _) _); refine de_if ?_)
  | ((with_reducible show dE _ _ _ _ (Expr.Subscript _ _ _) _); first | refine de_slice sl_D ?_ | refine de_ix ix_D ?_)
  | ((with_reducible show dE _ _ _ _ (Expr.Call _ _ _ _) _); first | refine de_isiS (by assumption) (by assumption) ?_ | refine de_isiI (by assumption) (by assumption) ?_ | refine de_isiB (by assumption) (by assumption) ?_ | refine de_isiT (by assumption) (by assumption) ?_ | refine de_len (by assumption) ?_ | refine de_repr (by first | assumption | exact Rm.blk (by assumption)) (by assumption) ?_ | refine de_all (by first | assumption | exact Rm.blk (by assumption)) (by assumption) ?_ | refine de_go (by assumption) (by first | assumption | exact Rm.blk (by assumption)) (by first | assumption | exact Room.mono (by assumption) (by decide)) pass0 ?_ | refine de_go0 (by assumption) (by first | assumption | exact Rm.blk (by assumption)) (by first | assumption | exact Room.mono (by assumption) (by decide)) pass0 ?_))
local macro_rules | `(tactic| walk_at "fT") => `(tactic| first
  | ((with_reducible show dT _ _ _ _ (Expr.UnaryOp .Not _ _) _); refine dt_not ?_)
  | ((with_reducible show dT _ _ _ _ (Expr.BoolOp _ _ _) _); first | refine dt_w (dw_and ?_) | refine dt_w (dw_or ?_))
  | ((with_reducible show dW _ _ _ _ (Expr.BoolOp _ _ _) _); first | refine dw_and1 ?_ | refine dw_or1 ?_ | refine dw_and ?_ | refine dw_or ?_)
  | ((with_reducible show dT _ _ _ _ (Expr.Compare _ _ _ _) _); first | refine dt_cmp (op_eqDD (by first | assumption | exact Rm.blk (by assumption))) ?_ | refine dt_cmp (op_neDD (by first | assumption | exact Rm.blk (by assumption))) ?_ | refine dt_cmp op_ltD ?_ | refine dt_cmp op_leD ?_ | refine dt_cmp op_gtD ?_ | refine dt_cmp op_geD ?_ | refine dt_cmp (op_inD (by first | assumption | exact Rm.blk (by assumption))) ?_ | refine dt_cmp (op_ninD (by first | assumption | exact Rm.blk (by assumption))) ?_ | refine dt_cmp op_isD ?_ | refine dt_cmp op_isntD ?_ | refine dt_chain op_leD op_leD ?_ | refine dt_chain op_leD op_ltD ?_)
  | ((with_reducible show dT _ _ _ _ _ _); refine dt_val ?_))
local macro_rules | `(tactic| walk_at "fs") => `(tactic| first
  | walk_at "fE" | walk_at "fT" | ((with_reducible show dA _ _ _ _ (_ :: _) _); refine da_cons ?_) | ((with_reducible show dA _ _ _ _ [] _); refine da_nil ?_)
  | ((with_reducible show dS _ _ _ _ _ _); first | refine ds_ret ?_ | refine ds_if ?_) | ((with_reducible show dB _ _ _ _ [] _); refine db_nil ?_; dsimp only) | ((with_reducible show dB _ _ _ _ _ _); refine db_cons ?_))
local macro_rules | `(tactic| walk_at "fx") => `(tactic| (intro hc; exfalso; first | exact Bool.noConfusion (show true = false from hc) | exact Bool.noConfusion (show false = true from hc)))
local macro_rules | `(tactic| walk_at "fm") => `(tactic| first
  | ((with_reducible show Op2 _ _ _ _); first | refine ⟨_, _, _, rfl, rfl, eqD_str _ _, ?_⟩ | refine ⟨_, _, _, rfl, rfl, lim_ok (by omega), ?_⟩ | refine ⟨_, _, _, rfl, rfl, rfl, ?_⟩)
  | ((with_reducible show IsB _ _); refine ⟨_, rfl, ?_⟩)
  | ((with_reducible show AllD _ _); refine ⟨_, rfl, ?_⟩)
  | ((with_reducible show _ ≤ sizeLine ∧ _); refine ⟨Nat.le_of_ble_eq_true rfl, ?_⟩)
  | ((with_reducible show ∃ d, _ = Vl.d d ∧ _); refine ⟨_, rfl, ?_⟩)
  | ((with_reducible show ∃ d z, _ = Vl.d d ∧ lenD _ = some z ∧ _); first | refine ⟨_, _, rfl, lim_ok (by omega), ?_⟩ | refine ⟨_, _, rfl, rfl, ?_⟩)
  | ((with_reducible show ∃ ds, itemsD _ = some ds ∧ _); refine ⟨_, rfl, ?_⟩)
  | ((with_reducible show (_ = true → _) ∧ (_ = false → _)); first | (refine ⟨?_, (by walk_at "fx")⟩; intro hj; clear hj) | (refine ⟨(by walk_at "fx"), ?_⟩; intro hj; clear hj))
  | ((with_reducible show (_ = false → _) ∧ (_ = true → _)); first | (refine ⟨?_, (by walk_at "fx")⟩; intro hj; clear hj) | (refine ⟨(by walk_at "fx"), ?_⟩; intro hj; clear hj)))
local macro_rules | `(tactic| walk_at "fr") => `(tactic| repeat (first | walk_at "fs" | walk_at "fm"))

section
variable {P : Program} {w : World} {K : PySem.W.Frag} {mg : Str → Option Value} {base : Heap}
theorem sc_law_is_kind : FnScope ["_law_it"] ["_law_it"] (defScope s_law_is_kind) := ⟨rfl, rfl, rfl, by decide +kernel, rfl, by decide +kernel, by decide +kernel⟩
theorem ok_law_is_kind (F : Src K mg "_law_is_kind" s_law_is_kind) (hs : base.get? sysModules ≠ none)
    (m1 : mg "isinstance" = none) (m2 : mg "str" = none) (m3 : mg "tuple" = none) (m4 : mg "len" = none) (m5 : mg "int" = none) (m6 : mg "bool" = none) :
    Dfn P w K mg base CX0 1 "_law_is_kind" s_law_is_kind ["_law_it"] (spD K (one 100000) fun ds => .bool (isKind (ds.getD 0 .none))) := by
  refine F.pure sc_law_is_kind one_len (fun _ _ _ _ _ _ us hl => match us, hl with | [_], _ => rfl) hs fun fa cd A fr s H E M ds R r hp => ?_
  obtain ⟨d, rfl, hd⟩ := hp
  cases d
  case str z =>
    walk_at "fr"
    rfl
  case tuple ds =>
    walk_at "fr"
    refine ⟨fun h1 => ?_, fun h1 => ?_⟩
    · have h2 : ds.length = 2 := by
        have : (ds.length : Int) = 2 := by simpa [PyData.eqv] using h1
        omega
      match ds, h2, hd with
      | [a, b], _, hd =>
        cases a with
        | str z =>
          walk_at "fr"
          refine ⟨fun h3 => ?_, fun h3 => ?_⟩
          · walk_at "fr"
            show Vl.d (PyData.bool false) = Vl.d (PyData.bool (PyData.eqv (.str z) (.str "names") && (isInt b && rng3 b)))
            rw [show PyData.eqv (.str z) (.str "names") = false by simpa using h3]
            rfl
          · have h3 : PyData.eqv (.str z) (.str "names") = true := by simpa using h3
            cases b with
            | int i =>
              walk_at "fr"
              refine ⟨fun h5 => ?_, fun h5 => ?_⟩
              · show Vl.d (PyData.bool false) = Vl.d (PyData.bool (PyData.eqv (.str z) (.str "names") && (true && (decide (0 ≤ i) && decide (i ≤ 3)))))
                rw [show decide ((0 : Int) ≤ i) = false from h5]
                simp
              · walk_at "fr"
                show Vl.d (PyData.bool (decide (i < 4))) = Vl.d (PyData.bool (PyData.eqv (.str z) (.str "names") && (true && (decide (0 ≤ i) && decide (i ≤ 3)))))
                rw [show decide ((0 : Int) ≤ i) = true from h5, h3]
                simp only [Bool.true_and]
                congr 2
                rw [Bool.eq_iff_iff, decide_eq_true_iff, decide_eq_true_iff]
                omega
            | bool b =>
              walk_at "fr"
              show Vl.d (PyData.bool false) = Vl.d (PyData.bool (PyData.eqv (.str z) (.str "names") && (false && false)))
              simp
            | _ =>
              walk_at "fr"
              show Vl.d (PyData.bool false) = Vl.d (PyData.bool (PyData.eqv (.str z) (.str "names") && (false && false)))
              simp
        | _ =>
          walk_at "fr"
          simp [isKind, kindL, kind2, PyData.eqv]
    · have h2 : ds.length ≠ 2 := fun e => by rw [e] at h1; exact Bool.noConfusion h1
      walk_at "fr"
      show Vl.d (PyData.bool false) = Vl.d (PyData.bool (kindL ds))
      rw [kindL_no h2]
  all_goals (walk_at "fr"; rfl)
end
end K1

set_option Elab.async false
set_option linter.all false
set_option maxRecDepth 100000
set_option maxHeartbeats 4000000
namespace K1
open PySem PySem.Spec PyProof.Rows L2 Fw
local macro_rules | `(tactic| walk_at "fE") => `(tactic| first
  | ((with_reducible show dE _ _ _ _ (Expr.Name _ _) _); first | refine de_var ?_ | refine de_globS (by assumption) ?_ | refine de_globI (by assumption) ?_)
  | ((with_reducible show dE _ _ _ _ (Expr.Constant _ _ _) _); first | refine de_str ?_ | refine de_int ?_ | refine de_bool ?_ | refine de_none ?_)
  | ((with_reducible show dE _ _ _ _ (Expr.BoolOp _ _ _) _); first | refine de_one ?_ | refine de_and ?_ | refine de_or ?_)
  | ((with_reducible show dE _ _ _ _ (Expr.UnaryOp _ _ _) _); first | refine de_not ?_ | refine de_neg ?_)
  | ((with_reducible show dE _ _ _ _ (Expr.Compare _ _ _ _) _); first | refine de_cmp (op_eqDD (by first | assumption | exact Rm.blk (by assumption))) ?_ | refine de_cmp (op_neDD (by first | assumption | exact Rm.blk (by assumption))) ?_ | refine de_cmp op_ltD ?_ | refine de_cmp op_leD ?_ | refine de_cmp op_gtD ?_ | refine de_cmp op_geD ?_ | refine de_cmp (op_inD (by first | assumption | exact Rm.blk (by assumption))) ?_ | refine de_cmp (op_ninD (by first | assumption | exact Rm.blk (by assumption))) ?_ | refine de_cmp op_isD ?_ | refine de_cmp op_isntD ?_ | refine de_chain op_leD op_leD ?_ | refine de_chain op_leD op_ltD ?_)
  | ((with_reducible show dE _ _ _ _ (Expr.BinOp _ _ _ _) _); first | refine de_bin op_addD ?_ | refine de_bin op_subD ?_ | refine de_bin op_mulD ?_ | refine de_bin op_modD ?_ | refine de_bin op_divD ?_ | refine de_bin op_powD ?_)
  | ((with_reducible show dE _ _ _ _ (Expr.Tuple _ _ _) _); refine de_tup ?_)
  | ((with_reducible show dE _ _ _ _ (Expr.List _ _) _); refine de_lst ?_)
  | ((with_reducible show dE _ _ _ _ (Expr.IfExp _ _ _ _) _); refine de_if ?_)
  | ((with_reducible show dE _ _ _ _ (Expr.Subscript _ _ _) _); first | refine de_slice sl_D ?_ | refine de_revT ?_ | refine de_ix ix_D ?_)
  | ((with_reducible show dE _ _ _ _ (Expr.Dict _ _ _) _); first | refine de_dic0 ?_ | refine de_dicC ?_)
  | ((with_reducible show dE _ _ _ _ (Expr.Call (Expr.Attribute _ _ _) _ _ _) _); first | refine de_upper ?_ | refine de_join ?_)
  | ((with_reducible show dE _ _ _ _ (Expr.Call (Expr.Name _ _) _ _ _) _); first | refine de_isiS (by assumption) (by assumption) ?_ | refine de_isiI (by assumption) (by assumption) ?_ | refine de_isiB (by assumption) (by assumption) ?_ | refine de_isiT (by assumption) (by assumption) ?_ | refine de_isiL (by assumption) (by assumption) ?_ | refine de_len (by assumption) ?_ | refine de_strC (by assumption) ?_ | refine de_listC (by assumption) ?_ | refine de_tupleC (by assumption) ?_ | refine de_repr (by first | assumption | exact Rm.blk (by assumption)) (by assumption) ?_ | refine de_all (by first | assumption | exact Rm.blk (by assumption)) (by assumption) ?_ | refine de_go (by assumption) (by first | assumption | exact Rm.blk (by assumption)) (by first | assumption | exact Room.mono (by assumption) (by decide)) pass0 ?_ | refine de_go0 (by assumption) (by first | assumption | exact Rm.blk (by assumption)) (by first | assumption | exact Room.mono (by assumption) (by decide)) pass0 ?_))
local macro_rules | `(tactic| walk_at "fT") => `(tactic| first
  | ((with_reducible show dT _ _ _ _ (Expr.UnaryOp .Not _ _) _); refine dt_not ?_)
  | ((with_reducible show dT _ _ _ _ (Expr.BoolOp _ _ _) _); first | refine dt_w (dw_and ?_) | refine dt_w (dw_or ?_))
  | ((with_reducible show dW _ _ _ _ (Expr.BoolOp _ _ _) _); first | refine dw_and1 ?_ | refine dw_or1 ?_ | refine dw_and ?_ | refine dw_or ?_)
  | ((with_reducible show dT _ _ _ _ (Expr.Compare _ _ _ _) _); first | refine dt_cmp (op_eqDD (by first | assumption | exact Rm.blk (by assumption))) ?_ | refine dt_cmp (op_neDD (by first | assumption | exact Rm.blk (by assumption))) ?_ | refine dt_cmp op_ltD ?_ | refine dt_cmp op_leD ?_ | refine dt_cmp op_gtD ?_ | refine dt_cmp op_geD ?_ | refine dt_cmp (op_inD (by first | assumption | exact Rm.blk (by assumption))) ?_ | refine dt_cmp (op_ninD (by first | assumption | exact Rm.blk (by assumption))) ?_ | refine dt_cmp op_isD ?_ | refine dt_cmp op_isntD ?_ | refine dt_chain op_leD op_leD ?_ | refine dt_chain op_leD op_ltD ?_)
  | ((with_reducible show dT _ _ _ _ _ _); refine dt_val ?_))
local macro_rules | `(tactic| walk_at "fs") => `(tactic| first
  | walk_at "fE" | walk_at "fT" | ((with_reducible show dA _ _ _ _ (_ :: _) _); refine da_cons ?_) | ((with_reducible show dA _ _ _ _ [] _); refine da_nil ?_)
  | ((with_reducible show dS _ _ _ _ _ _); first | refine ds_ret ?_ | refine ds_if ?_)
  | ((with_reducible show dK _ _ _ _ (_ :: _) _); refine dk_cons ?_) | ((with_reducible show dK _ _ _ _ [] _); refine dk_nil ?_)
  | ((with_reducible show dB _ _ _ _ [] _); refine db_nil ?_; dsimp only) | ((with_reducible show dB _ _ _ _ _ _); refine db_cons ?_))
local macro_rules | `(tactic| walk_at "fx") => `(tactic| (intro hc; exfalso; first | exact Bool.noConfusion (show true = false from hc) | exact Bool.noConfusion (show false = true from hc)))
local macro_rules | `(tactic| walk_at "fm") => `(tactic| first
  | ((with_reducible show Op2 _ _ _ _); first | refine ⟨_, _, _, rfl, rfl, eqD_str _ _, ?_⟩ | refine ⟨_, _, _, rfl, rfl, lim_ok (by omega), ?_⟩ | refine ⟨_, _, _, rfl, rfl, rfl, ?_⟩)
  | ((with_reducible show IsB _ _); refine ⟨_, rfl, ?_⟩)
  | ((with_reducible show AllD _ _); refine ⟨_, rfl, ?_⟩)
  | ((with_reducible show _ ≤ sizeLine ∧ _); refine ⟨Nat.le_of_ble_eq_true rfl, ?_⟩)
  | ((with_reducible show ∃ d, _ = Vl.d d ∧ _); refine ⟨_, rfl, ?_⟩)
  | ((with_reducible show ∃ d z, _ = Vl.d d ∧ lenD _ = some z ∧ _); first | refine ⟨_, _, rfl, lim_ok (by omega), ?_⟩ | refine ⟨_, _, rfl, rfl, ?_⟩)
  | ((with_reducible show ∃ ds, itemsD _ = some ds ∧ _); refine ⟨_, rfl, ?_⟩)
  | ((with_reducible show (_ = true → _) ∧ (_ = false → _)); first | (refine ⟨?_, (by walk_at "fx")⟩; intro hj; clear hj) | (refine ⟨(by walk_at "fx"), ?_⟩; intro hj; clear hj))
  | ((with_reducible show (_ = false → _) ∧ (_ = true → _)); first | (refine ⟨?_, (by walk_at "fx")⟩; intro hj; clear hj) | (refine ⟨(by walk_at "fx"), ?_⟩; intro hj; clear hj)))
local macro_rules | `(tactic| walk_at "fr") => `(tactic| repeat (first | walk_at "fs" | walk_at "fm"))

section
variable {P : Program} {w : World} {K : PySem.W.Frag} {mg : Str → Option Value} {base : Heap}
theorem nil_filt (f : PyData → Bool) (ds : List PyData) : nilE (.list ((ds.filter fun d => !f d).map id)) = ds.all f := by
  induction ds with
  | nil => rfl
  | cons d ds ih =>
    rw [List.filter_cons, List.all_cons]
    cases h : f d with
    | true => simpa using ih
    | false => simp [nilE]
theorem sc_law_does_fit : FnScope ["_law_sort", "_law_it", "_law_one"] ["_law_sort", "_law_it"] (defScope s_law_does_fit) := ⟨rfl, rfl, rfl, by decide +kernel, rfl, by decide +kernel, by decide +kernel⟩
theorem ok_law_does_fit (F : Src K mg "_law_does_fit" s_law_does_fit) (hs : base.get? sysModules ≠ none) (G : Dfn P w K mg base CX0 1 "_law_letters" s_law_letters ["_law_it", "_law_longest"] (spD K pHas fHas))
    (m1 : mg "isinstance" = none) (m2 : mg "bool" = none) (m3 : mg "tuple" = none) (m4 : mg "len" = none) :
    Dfn P w K mg base CX0 2 "_law_does_fit" s_law_does_fit ["_law_sort", "_law_it"] (spD K pFit fFit) := by
  refine F.pure sc_law_does_fit (fun ds ⟨k, d, h, _⟩ => by rw [h]; rfl) (fun _ _ _ _ _ _ us hl => match us, hl with | [_, _], _ => rfl) hs fun fa cd A fr s H E M ds R r hp => ?_
  obtain ⟨k, d, rfl, hd⟩ := hp
  rw [show fFit [k.d, d] = .bool (fitsB k d) by show PyData.bool (fitsB (kdOf k.d) d) = _; rw [kdOf_d]]
  cases k with
  | nothing => walk_at "fr"; show Vl.d (PyData.bool (false != isNon d)) = Vl.d (PyData.bool (isNon d)); cases isNon d <;> rfl
  | truth => walk_at "fr"; rfl
  | name => walk_at "fr"; exact ⟨⟨d, _, rfl, hd⟩, rfl⟩
  | names k =>
    cases d
    case tuple ds =>
      have hl := hd.tlen
      walk_at "fr"
      refine ⟨fun h1 => ?_, fun h1 => ?_⟩
      · walk_at "fr"
        refine de_lc (Lc.filt (fun d => !letr 12 d) id ?_) sc_law_does_fit.nd (blkOk_by (by rfl))
        refine di_any ?_
        walk_at "fr"
        refine ⟨by rw [sizeLine_eq]; omega, fun D d hm b => ?_, fun D d hm _ b => ?_, ?_⟩
        · walk_at "fr"
          refine ⟨⟨d, _, rfl, hd.tup hm⟩, ?_⟩
          walk_at "fr"
          exact ⟨rfl, rfl⟩
        · walk_at "fr"
          exact ⟨rfl, rfl⟩
        · walk_at "fr"
          show Vl.d (PyData.bool _) = Vl.d (PyData.bool (decide ((ds.length : Int) ≤ (k : Int)) && ds.all (letr 12)))
          rw [show decide ((ds.length : Int) ≤ (k : Int)) = true from h1, nil_filt]
          rfl
      · show Vl.d (PyData.bool _) = Vl.d (PyData.bool (decide ((ds.length : Int) ≤ (k : Int)) && ds.all (letr 12)))
        rw [show decide ((ds.length : Int) ≤ (k : Int)) = false from h1]
        rfl
    all_goals (walk_at "fr"; rfl)
/-! ### the kinds -/
def kinds : List Kd := [.nothing, .truth, .name, .names 0, .names 1, .names 2, .names 3]
theorem sc_law_sorts : FnScope ["_law_k"] [] (defScope s_law_sorts) := ⟨rfl, rfl, rfl, by decide +kernel, rfl, by decide +kernel, by decide +kernel⟩
theorem ok_law_sorts (F : Src K mg "_law_sorts" s_law_sorts) (hs : base.get? sysModules ≠ none) (m1 : mg "range" = none) :
    Dfn P w K mg base CX0 1 "_law_sorts" s_law_sorts [] (spD K (fun ds => ds = []) fun _ => .list (kinds.map Kd.d)) := by
  refine F.pure sc_law_sorts (fun ds h => by rw [h]; rfl) (fun _ _ _ _ _ _ us hl => match us, hl with | [], _ => rfl) hs fun fa cd A fr s H E M ds R r hp => ?_
  subst hp
  walk_at "fr"
  refine de_lc (Lc.map (fun d => .tuple [.str "names", d]) ?_) sc_law_sorts.nd (blkOk_by (by rfl))
  refine di_range m1 ?_
  walk_at "fr"
  refine ⟨4, rfl, by decide, by decide +kernel, fun D d hm b => ?_, ?_⟩
  · walk_at "fr"
    exact ⟨rfl, rfl⟩
  · walk_at "fr"
    rfl
/-! ### looks right -/
theorem nc_bools (bs : List Bool) (h : bs.length ≤ 100) : Nc 1000 (.list (bs.map .bool)) := by
  have c : ∀ l : List Bool, costA (l.map PyData.bool) = 7 * l.length := by
    intro l
    induction l with
    | nil => rfl
    | cons b l ih => rw [List.map_cons, costA, ih, List.length_cons]; simp only [cost]; omega
  have n : ∀ l : List Bool, niceA (l.map PyData.bool) = true := by
    intro l
    induction l with
    | nil => rfl
    | cons b l ih => rw [List.map_cons, niceA, ih]; rfl
  have d : ∀ l : List Bool, PyData.depthAll (l.map PyData.bool) ≤ 1 := by
    intro l
    induction l with
    | nil => simp [PyData.depthAll]
    | cons b l ih => rw [List.map_cons, PyData.depthAll]; simp only [PyData.depth]; omega
  refine ⟨by rw [nice]; exact n bs, by rw [cost, c]; omega, by rw [PyData.depth]; have := d bs; omega⟩
theorem nc_b2 (a b : Bool) : reprD [.list [.bool a, .bool b]] = some (.str (PyData.list [.bool a, .bool b]).shown) := repr_ok (nc_bools [a, b] (by simp)) (by decide)
theorem nc_b6 (a b c d e f : Bool) : reprD [.list [.bool a, .bool b, .bool c, .bool d, .bool e, .bool f]] = some (.str (PyData.list [.bool a, .bool b, .bool c, .bool d, .bool e, .bool f]).shown) := repr_ok (nc_bools [a, b, c, d, e, f] (by simp)) (by decide)
theorem eq_self (x : Str) : eqD (.str x) (.str x) = some (.bool true) := by
  show some (PyData.bool (PyData.eqv (.str x) (.str x))) = _
  simp [PyData.eqv]
theorem sc_law_looks : FnScope ["_law_it", "_law_due", "_law_kept", "_law_told"] ["_law_it"] (defScope s_law_looks) := ⟨rfl, rfl, rfl, by decide +kernel, rfl, by decide +kernel, by decide +kernel⟩
theorem ok_law_looks (F : Src K mg "_law_looks_right" s_law_looks) (hs : base.get? sysModules ≠ none) (G : Dfn P w K mg base CX0 1 "_law_letters" s_law_letters ["_law_it", "_law_longest"] (spD K pHas fHas))
    (G2 : Dfn P w K mg base CX0 1 "_law_is_kind" s_law_is_kind ["_law_it"] (spD K (one 100000) fun ds => .bool (isKind (ds.getD 0 .none))))
    (G3 : Dfn P w K mg base CX0 2 "is_word" s_is_word ["thing"] (spD K (one 100000) fun ds => .bool (isWord (ds.getD 0 .none))))
    (G4 : Dfn P w K mg base CX0 2 "is_name" s_is_name ["thing"] (spD K (one 100000) fun ds => .bool (letr 12 (ds.getD 0 .none))))
    (G5 : Dfn P w K mg base CX0 2 "is_kind" s_is_kind ["thing"] (spD K (one 100000) fun ds => .bool (isKind (ds.getD 0 .none))))
    (m1 : mg "repr" = none) :
    Dfn P w K mg base CX0 3 "_law_looks_right" s_law_looks ["_law_it"] (spD K (one 100000) fun _ => .bool true) := by
  refine F.pure sc_law_looks one_len (fun _ _ _ _ _ _ us hl => match us, hl with | [_], _ => rfl) hs fun fa cd A fr s H E M ds R r hp => ?_
  obtain ⟨d, rfl, hd⟩ := hp
  have hrep := repr_ok hd
  walk_at "fr"
  refine ds_set (de_lst (da_cons (de_imp (Ψ := fun x _ => x = .d (.bool (isWord d))) ?_ fun x s' hx => ?_))) sc_law_looks.nd
  · walk_at "fr"
    refine ⟨⟨d, _, rfl, hd⟩, ?_⟩
    refine ⟨_, rfl, fun h1 => ?_, fun h1 => ?_⟩
    · cases d with
      | str z =>
        walk_at "fr"
        show Vl.d (PyData.bool _) = Vl.d (PyData.bool (letr 8 (.str z) && not3 (.str z)))
        rw [show letr 8 (.str z) = true from h1]
        rfl
      | _ => exact Bool.noConfusion (show false = true from h1)
    · show Vl.d (PyData.bool _) = Vl.d (PyData.bool (letr 8 d && not3 d))
      rw [show letr 8 d = false from h1]
      rfl
  · subst hx
    walk_at "fr"
    refine ⟨⟨d, _, rfl, hd⟩, ?_⟩
    walk_at "fr"
    refine ⟨⟨d, rfl, hd⟩, ?_⟩
    walk_at "fr"
    refine ds_set ?_ sc_law_looks.nd
    walk_at "fr"
    refine ⟨d, _, rfl, hrep, ?_⟩
    walk_at "fr"
    refine ds_set ?_ sc_law_looks.nd
    walk_at "fr"
    refine ⟨⟨d, rfl, hd⟩, ?_⟩
    walk_at "fr"
    refine ⟨⟨d, rfl, hd⟩, ?_⟩
    walk_at "fr"
    refine ⟨⟨d, rfl, hd⟩, ?_⟩
    walk_at "fr"
    refine de_goK (ks := ["thing"]) [0] G3 R (r.mono (by decide)) pass0 (fun _ _ _ _ _ _ us hl => match us, hl with | [_], _ => rfl) (by decide) ?_
    walk_at "fr"
    refine ⟨rfl, ⟨d, rfl, hd⟩, ?_⟩
    walk_at "fr"
    refine de_goK (ks := ["thing"]) [0] G4 R (r.mono (by decide)) pass0 (fun _ _ _ _ _ _ us hl => match us, hl with | [_], _ => rfl) (by decide) ?_
    walk_at "fr"
    refine ⟨rfl, ⟨d, rfl, hd⟩, ?_⟩
    walk_at "fr"
    refine de_goK (ks := ["thing"]) [0] G5 R (r.mono (by decide)) pass0 (fun _ _ _ _ _ _ us hl => match us, hl with | [_], _ => rfl) (by decide) ?_
    walk_at "fr"
    refine ⟨rfl, ⟨d, rfl, hd⟩, ?_⟩
    walk_at "fr"
    refine ⟨_, _, rfl, nc_b6 _ _ _ _ _ _, ?_⟩
    walk_at "fr"
    refine ⟨_, _, rfl, nc_b6 _ _ _ _ _ _, ?_⟩
    refine ⟨_, _, _, rfl, rfl, eq_self _, ?_⟩
    walk_at "fr"
    refine ⟨d, _, rfl, hrep, ?_⟩
    walk_at "fr"
    simp [PyData.eqv]
/-! ### fits right -/
theorem sc_law_fits : FnScope ["_law_sort", "_law_it", "_law_due", "_law_kept"] ["_law_sort", "_law_it"] (defScope s_law_fits) := ⟨rfl, rfl, rfl, by decide +kernel, rfl, by decide +kernel, by decide +kernel⟩
theorem ok_law_fits (F : Src K mg "_law_fits_right" s_law_fits) (hs : base.get? sysModules ≠ none) (G : Dfn P w K mg base CX0 2 "_law_does_fit" s_law_does_fit ["_law_sort", "_law_it"] (spD K pFit fFit))
    (G2 : Dfn P w K mg base CX0 3 "fits" s_fits ["kind", "thing"] (spD K pFit fFit)) (m1 : mg "repr" = none) :
    Dfn P w K mg base CX0 4 "_law_fits_right" s_law_fits ["_law_sort", "_law_it"] (spD K pFit fun _ => .bool true) := by
  refine F.pure sc_law_fits (fun ds ⟨k, d, h, _⟩ => by rw [h]; rfl) (fun _ _ _ _ _ _ us hl => match us, hl with | [_, _], _ => rfl) hs fun fa cd A fr s H E M ds R r hp => ?_
  obtain ⟨k, d, rfl, hd⟩ := hp
  have hrep := repr_ok hd
  walk_at "fr"
  refine ds_par ?_ sc_law_fits.nd (hij := fun e => absurd (show (2 : Nat) = 3 from e) (by decide))
  walk_at "fr"
  refine ⟨⟨k, d, rfl, hd⟩, ?_⟩
  walk_at "fr"
  refine ⟨d, _, rfl, hrep, ?_⟩
  walk_at "fr"
  refine ⟨⟨k, d, rfl, hd⟩, ?_⟩
  walk_at "fr"
  refine de_goK (ks := ["thing", "kind"]) [1, 0] G2 R (r.mono (by decide)) pass0 (fun _ _ _ _ _ _ us hl => match us, hl with | [_, _], _ => rfl) (by decide) ?_
  walk_at "fr"
  refine ⟨rfl, ⟨k, d, rfl, hd⟩, ?_⟩
  walk_at "fr"
  refine ⟨_, _, rfl, nc_b2 _ _, ?_⟩
  walk_at "fr"
  refine ⟨_, _, rfl, nc_b2 _ _, ?_⟩
  refine ⟨_, _, _, rfl, rfl, eq_self _, ?_⟩
  walk_at "fr"
  refine ⟨d, _, rfl, hrep, ?_⟩
  walk_at "fr"
  simp [PyData.eqv]
end
end K1

set_option Elab.async false
set_option linter.all false
set_option maxRecDepth 100000
set_option maxHeartbeats 4000000
namespace K1
open PySem PySem.Spec PyProof.Rows L2 Fw
local macro_rules | `(tactic| walk_at "fE") => `(tactic| first
  | ((with_reducible show dE _ _ _ _ (Expr.Name _ _) _); first | refine de_var ?_ | refine de_globS (by assumption) ?_ | refine de_globI (by assumption) ?_)
  | ((with_reducible show dE _ _ _ _ (Expr.Constant _ _ _) _); first | refine de_str ?_ | refine de_int ?_ | refine de_bool ?_ | refine de_none ?_)
  | ((with_reducible show dE _ _ _ _ (Expr.BoolOp _ _ _) _); first | refine de_one ?_ | refine de_and ?_ | refine de_or ?_)
  | ((with_reducible show dE _ _ _ _ (Expr.UnaryOp _ _ _) _); first | refine de_not ?_ | refine de_neg ?_)
  | ((with_reducible show dE _ _ _ _ (Expr.Compare _ _ _ _) _); first | refine de_cmp (op_eqDD (by first | assumption | exact Rm.blk (by assumption))) ?_ | refine de_cmp (op_neDD (by first | assumption | exact Rm.blk (by assumption))) ?_ | refine de_cmp op_ltD ?_ | refine de_cmp op_leD ?_ | refine de_cmp op_gtD ?_ | refine de_cmp op_geD ?_ | refine de_cmp (op_inD (by first | assumption | exact Rm.blk (by assumption))) ?_ | refine de_cmp (op_ninD (by first | assumption | exact Rm.blk (by assumption))) ?_ | refine de_cmp op_isD ?_ | refine de_cmp op_isntD ?_ | refine de_chain op_leD op_leD ?_ | refine de_chain op_leD op_ltD ?_)
  | ((with_reducible show dE _ _ _ _ (Expr.BinOp _ _ _ _) _); first | refine de_bin op_addD ?_ | refine de_bin op_subD ?_ | refine de_bin op_mulD ?_ | refine de_bin op_modD ?_ | refine de_bin op_divD ?_ | refine de_bin op_powD ?_)
  | ((with_reducible show dE _ _ _ _ (Expr.Tuple _ _ _) _); refine de_tup ?_)
  | ((with_reducible show dE _ _ _ _ (Expr.List _ _) _); refine de_lst ?_)
  | ((with_reducible show dE _ _ _ _ (Expr.IfExp _ _ _ _) _); refine de_if ?_)
  | ((with_reducible show dE _ _ _ _ (Expr.Subscript _ _ _) _); first | refine de_slice sl_D ?_ | refine de_revT ?_ | refine de_ix ix_D ?_)
  | ((with_reducible show dE _ _ _ _ (Expr.Dict _ _ _) _); first | refine de_dic0 ?_ | refine de_dicC ?_)
  | ((with_reducible show dE _ _ _ _ (Expr.Call (Expr.Attribute _ _ _) _ _ _) _); first | refine de_upper ?_ | refine de_join ?_)
  | ((with_reducible show dE _ _ _ _ (Expr.Call (Expr.Name _ _) _ _ _) _); first | refine de_isiS (by assumption) (by assumption) ?_ | refine de_isiI (by assumption) (by assumption) ?_ | refine de_isiB (by assumption) (by assumption) ?_ | refine de_isiT (by assumption) (by assumption) ?_ | refine de_isiL (by assumption) (by assumption) ?_ | refine de_len (by assumption) ?_ | refine de_strC (by assumption) ?_ | refine de_listC (by assumption) ?_ | refine de_tupleC (by assumption) ?_ | refine de_repr (by first | assumption | exact Rm.blk (by assumption)) (by assumption) ?_ | refine de_all (by first | assumption | exact Rm.blk (by assumption)) (by assumption) ?_ | refine de_go (by assumption) (by first | assumption | exact Rm.blk (by assumption)) (by first | assumption | exact Room.mono (by assumption) (by decide)) pass0 ?_ | refine de_go0 (by assumption) (by first | assumption | exact Rm.blk (by assumption)) (by first | assumption | exact Room.mono (by assumption) (by decide)) pass0 ?_))
local macro_rules | `(tactic| walk_at "fT") => `(tactic| first
  | ((with_reducible show dT _ _ _ _ (Expr.UnaryOp .Not _ _) _); refine dt_not ?_)
  | ((with_reducible show dT _ _ _ _ (Expr.BoolOp _ _ _) _); first | refine dt_w (dw_and ?_) | refine dt_w (dw_or ?_))
  | ((with_reducible show dW _ _ _ _ (Expr.BoolOp _ _ _) _); first | refine dw_and1 ?_ | refine dw_or1 ?_ | refine dw_and ?_ | refine dw_or ?_)
  | ((with_reducible show dT _ _ _ _ (Expr.Compare _ _ _ _) _); first | refine dt_cmp (op_eqDD (by first | assumption | exact Rm.blk (by assumption))) ?_ | refine dt_cmp (op_neDD (by first | assumption | exact Rm.blk (by assumption))) ?_ | refine dt_cmp op_ltD ?_ | refine dt_cmp op_leD ?_ | refine dt_cmp op_gtD ?_ | refine dt_cmp op_geD ?_ | refine dt_cmp (op_inD (by first | assumption | exact Rm.blk (by assumption))) ?_ | refine dt_cmp (op_ninD (by first | assumption | exact Rm.blk (by assumption))) ?_ | refine dt_cmp op_isD ?_ | refine dt_cmp op_isntD ?_ | refine dt_chain op_leD op_leD ?_ | refine dt_chain op_leD op_ltD ?_)
  | ((with_reducible show dT _ _ _ _ _ _); refine dt_val ?_))
local macro_rules | `(tactic| walk_at "fs") => `(tactic| first
  | walk_at "fE" | walk_at "fT" | ((with_reducible show dA _ _ _ _ (_ :: _) _); refine da_cons ?_) | ((with_reducible show dA _ _ _ _ [] _); refine da_nil ?_)
  | ((with_reducible show dS _ _ _ _ _ _); first | refine ds_ret ?_ | refine ds_if ?_)
  | ((with_reducible show dK _ _ _ _ (_ :: _) _); refine dk_cons ?_) | ((with_reducible show dK _ _ _ _ [] _); refine dk_nil ?_)
  | ((with_reducible show dB _ _ _ _ [] _); refine db_nil ?_; dsimp only) | ((with_reducible show dB _ _ _ _ _ _); refine db_cons ?_))
local macro_rules | `(tactic| walk_at "fx") => `(tactic| (intro hc; exfalso; first | exact Bool.noConfusion (show true = false from hc) | exact Bool.noConfusion (show false = true from hc)))
local macro_rules | `(tactic| walk_at "fm") => `(tactic| first
  | ((with_reducible show Op2 _ _ _ _); first | refine ⟨_, _, _, rfl, rfl, eqD_str _ _, ?_⟩ | refine ⟨_, _, _, rfl, rfl, lim_ok (by omega), ?_⟩ | refine ⟨_, _, _, rfl, rfl, rfl, ?_⟩)
  | ((with_reducible show IsB _ _); refine ⟨_, rfl, ?_⟩)
  | ((with_reducible show AllD _ _); refine ⟨_, rfl, ?_⟩)
  | ((with_reducible show _ ≤ sizeLine ∧ _); refine ⟨Nat.le_of_ble_eq_true rfl, ?_⟩)
  | ((with_reducible show ∃ d, _ = Vl.d d ∧ _); refine ⟨_, rfl, ?_⟩)
  | ((with_reducible show ∃ d z, _ = Vl.d d ∧ lenD _ = some z ∧ _); first | refine ⟨_, _, rfl, lim_ok (by omega), ?_⟩ | refine ⟨_, _, rfl, rfl, ?_⟩)
  | ((with_reducible show ∃ ds, itemsD _ = some ds ∧ _); refine ⟨_, rfl, ?_⟩)
  | ((with_reducible show (_ = true → _) ∧ (_ = false → _)); first | (refine ⟨?_, (by walk_at "fx")⟩; intro hj; clear hj) | (refine ⟨(by walk_at "fx"), ?_⟩; intro hj; clear hj))
  | ((with_reducible show (_ = false → _) ∧ (_ = true → _)); first | (refine ⟨?_, (by walk_at "fx")⟩; intro hj; clear hj) | (refine ⟨(by walk_at "fx"), ?_⟩; intro hj; clear hj)))
local macro_rules | `(tactic| walk_at "fr") => `(tactic| repeat (first | walk_at "fs" | walk_at "fm"))

section
variable {P : Program} {w : World} {K : PySem.W.Frag} {mg : Str → Option Value} {base : Heap}
abbrev s_law_deck : Stmt := top 14
abbrev s_law_draw : Stmt := top 15
abbrev s_law_pick : Stmt := top 16
abbrev s_law_string : Stmt := top 20
abbrev s_law_odd : Stmt := top 21
abbrev s_law_bent : Stmt := top 22
abbrev s_law_values : Stmt := top 26
abbrev s_law : Stmt := top 27
/-- what the deck holds -/
abbrev Dq := Int × Int × List Int
def JQ (a c : Addr) (q : Dq) (H : Hp) : Prop := H a = some (.lst [.ref c, .int q.1, .int q.2.1]) ∧ H c = some (.lst (q.2.2.map V.int))
theorem JQ.keep {a c : Addr} {q : Dq} {H H' : Hp} (h : JQ a c q H) (k : ∀ b o, (b = a ∨ b = c) → H b = some o → H' b = some o) : JQ a c q H' := ⟨k a _ (.inl rfl) h.1, k c _ (.inr rfl) h.2⟩
def T1 : Deck where
  D := Addr × Addr
  adr := fun t => t.1
  C := fun t b => b = t.1 ∨ b = t.2
  J := fun t n H => t.1 ≠ t.2 ∧ ∃ q : Dq, JQ t.1 t.2 q H ∧ 0 ≤ q.2.1 ∧ q.2.1 ≤ n ∧ q.2.2.length ≤ 63
  keep := fun {t n H H'} h k => ⟨h.1, let ⟨q, j, z⟩ := h.2; ⟨q, j.keep k, z⟩⟩
  more := fun {t n m H} h k => ⟨h.1, let ⟨q, j, z1, z2, z3⟩ := h.2; ⟨q, j, z1, by omega, z3⟩⟩
def Wq (M : Addr → Prop) (a c : Addr) (sub : ∀ b, (b = a ∨ b = c) → M b) : Wd Dq where
  M := M
  C := fun b => b = a ∨ b = c
  J := JQ a c
  sub := fun {b} h => sub b h
  keep := JQ.keep
theorem dB_tell {S S' : Type} {X : Cx} {W : Wd S} {W' : Wd S'} {ρ : Rho} {s : S} {b : List Stmt} {Δ : DE S} (hM : W'.M = W.M) (hC : W'.C = W.C) (h : ∀ H, W.J s H → ∃ s', W'.J s' H ∧ dB X W' ρ s' b { nx := fun ρ' s'' => ∃ s3, (∀ H, W'.J s'' H → W.J s3 H) ∧ Δ.nx ρ' s3, rt := fun y s'' => ∃ s3, (∀ H, W'.J s'' H → W.J s3 H) ∧ Δ.rt y s3 }) : dB X W ρ s b Δ := .mk fun σ H D en j kn => by
  obtain ⟨s', j', hb⟩ := h H j.1
  refine hb.go σ H D (by rw [hM]; exact en) ⟨j', by rw [hM]; exact j.2⟩ ⟨fun σ2 H2 ρ2 s2 e2 j2 en2 z => ?_, fun v H2 y s2 e2 j2 v2 z => ?_, fun _ _ _ _ _ _ _ z => z.elim, fun _ _ _ _ _ _ _ z => z.elim⟩
  · obtain ⟨s3, i, q⟩ := z
    exact kn.nx σ2 H2 ρ2 s3 (by rw [← hC]; exact e2) ⟨i H2 j2.1, by rw [← hM]; exact j2.2⟩ (by rw [← hM]; exact en2) q
  · obtain ⟨s3, i, q⟩ := z
    exact kn.rt v H2 y s3 (by rw [← hC]; exact e2) ⟨i H2 j2.1, by rw [← hM]; exact j2.2⟩ (by rw [← hM]; exact v2) q
section
variable {M : Addr → Prop} {a c : Addr} {q : Dq}
theorem rd0 : ∀ H, JQ a c q H → ∃ xs v, H a = some (.lst xs) ∧ atI xs 0 = some v ∧ Vt K M H v (.v (.ref c)) := fun H h => ⟨_, _, h.1, rfl, rfl⟩
theorem rd1 : ∀ H, JQ a c q H → ∃ xs v, H a = some (.lst xs) ∧ atI xs 1 = some v ∧ Vt K M H v (.d (.int q.1)) := fun H h => ⟨_, _, h.1, rfl, Dt.int _⟩
theorem rd2 : ∀ H, JQ a c q H → ∃ xs v, H a = some (.lst xs) ∧ atI xs 2 = some v ∧ Vt K M H v (.d (.int q.2.1)) := fun H h => ⟨_, _, h.1, rfl, Dt.int _⟩
theorem da_ints {H : Hp} : ∀ is : List Int, DtA K M H (is.map V.int) (is.map PyData.int)
  | [] => .nil
  | i :: is => .cons (.int i) (da_ints is)
theorem lsQ : ∀ H, JQ a c q H → Dt K (fun _ => False) H (.ref c) (.list (q.2.2.map PyData.int)) := fun H h => .lst (fun m => m) h.2 (da_ints _)
end
abbrev pDraw : List PyData → Prop := fun ds => ∃ m : Int, ds = [.int m] ∧ 1 ≤ m ∧ m < 1073741824
abbrev oDraw : List PyData → PyData → Prop := fun ds z => ∃ m i : Int, ds = [.int m] ∧ z = .int i ∧ 0 ≤ i ∧ i < m
theorem sc_law_draw : FnScope ["_law_deck_here", "_law_many", "_law_cell", "_law_mixed"] ["_law_deck_here", "_law_many"] (defScope s_law_draw) := ⟨rfl, rfl, rfl, by decide +kernel, rfl, by decide +kernel, by decide +kernel⟩
theorem mul_small {i j : Int} (h : j.natAbs < 18446744073709551616) : onlyB (mulOk i j) (.int (i * j)) = some (.int (i * j)) := onlyB_ok (by unfold mulOk; rw [decide_eq_true h, Bool.or_true])
theorem mul_smallL {i j : Int} (h : i.natAbs < 18446744073709551616) : onlyB (mulOk i j) (.int (i * j)) = some (.int (i * j)) := onlyB_ok (by unfold mulOk; rw [decide_eq_true h, Bool.true_or])
theorem mod_pos {i j : Int} (h : 0 < j) : onlyB (decide (0 < j)) (.int (i % j)) = some (.int (i % j)) := onlyB_ok (decide_eq_true h)
theorem div_pos {i j : Int} (h : 0 < j ∧ j < 1073741824) : onlyB (decide (0 < j) && decide (j < 1073741824)) (.int (i / j)) = some (.int (i / j)) := onlyB_ok (by rw [decide_eq_true h.1, decide_eq_true h.2]; rfl)
abbrev pPick : List PyData → Prop := fun ds => ∃ d l, ds = [d] ∧ itemsD (.d d) = some l ∧ 1 ≤ l.length ∧ l.length < 1000000
abbrev oPick : List PyData → PyData → Prop := fun ds z => ∃ d l, ds = [d] ∧ itemsD (.d d) = some l ∧ z ∈ l
end
end K1

set_option Elab.async false
set_option linter.all false
set_option maxRecDepth 100000
set_option maxHeartbeats 4000000
namespace K1
open PySem PySem.Spec PyProof.Rows L2 Fw
local macro_rules | `(tactic| walk_at "fE") => `(tactic| first
  | ((with_reducible show dE _ _ _ _ (Expr.Name _ _) _); first | refine de_var ?_ | refine de_globS (by assumption) ?_ | refine de_globI (by assumption) ?_)
  | ((with_reducible show dE _ _ _ _ (Expr.Constant _ _ _) _); first | refine de_str ?_ | refine de_int ?_ | refine de_bool ?_ | refine de_none ?_)
  | ((with_reducible show dE _ _ _ _ (Expr.BoolOp _ _ _) _); first | refine de_one ?_ | refine de_and ?_ | refine de_or ?_)
  | ((with_reducible show dE _ _ _ _ (Expr.UnaryOp _ _ _) _); first | refine de_not ?_ | refine de_neg ?_)
  | ((with_reducible show dE _ _ _ _ (Expr.Compare _ _ _ _) _); first | refine de_cmp (op_eqDD (by first | assumption | exact Rm.blk (by assumption))) ?_ | refine de_cmp (op_neDD (by first | assumption | exact Rm.blk (by assumption))) ?_ | refine de_cmp op_ltD ?_ | refine de_cmp op_leD ?_ | refine de_cmp op_gtD ?_ | refine de_cmp op_geD ?_ | refine de_cmp (op_inD (by first | assumption | exact Rm.blk (by assumption))) ?_ | refine de_cmp (op_ninD (by first | assumption | exact Rm.blk (by assumption))) ?_ | refine de_cmp op_isD ?_ | refine de_cmp op_isntD ?_ | refine de_chain op_leD op_leD ?_ | refine de_chain op_leD op_ltD ?_)
  | ((with_reducible show dE _ _ _ _ (Expr.BinOp _ _ _ _) _); first | refine de_bin op_addD ?_ | refine de_bin op_subD ?_ | refine de_bin op_mulD ?_ | refine de_bin op_modD ?_ | refine de_bin op_divD ?_ | refine de_bin op_powD ?_)
  | ((with_reducible show dE _ _ _ _ (Expr.Tuple _ _ _) _); refine de_tup ?_)
  | ((with_reducible show dE _ _ _ _ (Expr.List _ _) _); refine de_lst ?_)
  | ((with_reducible show dE _ _ _ _ (Expr.IfExp _ _ _ _) _); refine de_if ?_)
  | ((with_reducible show dE _ _ _ _ (Expr.Subscript _ _ _) _); first | refine de_ixV (de_var (de_int ⟨_, _, _, rfl, rfl, rd0, ?_⟩)) | refine de_ixV (de_var (de_int ⟨_, _, _, rfl, rfl, rd1, ?_⟩)) | refine de_ixV (de_var (de_int ⟨_, _, _, rfl, rfl, rd2, ?_⟩)) | refine de_slice sl_D ?_ | refine de_revT ?_ | refine de_ix ix_D ?_)
  | ((with_reducible show dE _ _ _ _ (Expr.Dict _ _ _) _); first | refine de_dic0 ?_ | refine de_dicC ?_)
  | ((with_reducible show dE _ _ _ _ (Expr.Call (Expr.Attribute _ _ _) _ _ _) _); first | refine de_upper ?_ | refine de_join ?_)
  | ((with_reducible show dE _ _ _ _ (Expr.Call (Expr.Name _ _) _ _ _) _); first | refine de_isiS (by assumption) (by assumption) ?_ | refine de_isiI (by assumption) (by assumption) ?_ | refine de_isiB (by assumption) (by assumption) ?_ | refine de_isiT (by assumption) (by assumption) ?_ | refine de_isiL (by assumption) (by assumption) ?_ | refine de_len (by assumption) ?_ | refine de_strC (by assumption) ?_ | refine de_listC (by assumption) ?_ | refine de_tupleC (by assumption) ?_ | refine de_repr (by first | assumption | exact Rm.blk (by assumption)) (by assumption) ?_ | refine de_all (by first | assumption | exact Rm.blk (by assumption)) (by assumption) ?_ | refine de_go (by assumption) (by first | assumption | exact Rm.blk (by assumption)) (by first | assumption | exact Room.mono (by assumption) (by decide)) pass0 ?_ | refine de_go0 (by assumption) (by first | assumption | exact Rm.blk (by assumption)) (by first | assumption | exact Room.mono (by assumption) (by decide)) pass0 ?_))
local macro_rules | `(tactic| walk_at "fT") => `(tactic| first
  | ((with_reducible show dT _ _ _ _ (Expr.UnaryOp .Not _ _) _); refine dt_not ?_)
  | ((with_reducible show dT _ _ _ _ (Expr.BoolOp _ _ _) _); first | refine dt_w (dw_and ?_) | refine dt_w (dw_or ?_))
  | ((with_reducible show dW _ _ _ _ (Expr.BoolOp _ _ _) _); first | refine dw_and1 ?_ | refine dw_or1 ?_ | refine dw_and ?_ | refine dw_or ?_)
  | ((with_reducible show dT _ _ _ _ (Expr.Compare _ _ _ _) _); first | refine dt_cmp (op_eqDD (by first | assumption | exact Rm.blk (by assumption))) ?_ | refine dt_cmp (op_neDD (by first | assumption | exact Rm.blk (by assumption))) ?_ | refine dt_cmp op_ltD ?_ | refine dt_cmp op_leD ?_ | refine dt_cmp op_gtD ?_ | refine dt_cmp op_geD ?_ | refine dt_cmp (op_inD (by first | assumption | exact Rm.blk (by assumption))) ?_ | refine dt_cmp (op_ninD (by first | assumption | exact Rm.blk (by assumption))) ?_ | refine dt_cmp op_isD ?_ | refine dt_cmp op_isntD ?_ | refine dt_chain op_leD op_leD ?_ | refine dt_chain op_leD op_ltD ?_)
  | ((with_reducible show dT _ _ _ _ _ _); refine dt_val ?_))
local macro_rules | `(tactic| walk_at "fs") => `(tactic| first
  | walk_at "fE" | walk_at "fT" | ((with_reducible show dA _ _ _ _ (_ :: _) _); refine da_cons ?_) | ((with_reducible show dA _ _ _ _ [] _); refine da_nil ?_)
  | ((with_reducible show dS _ _ _ _ _ _); first | refine ds_ret ?_ | refine ds_if ?_)
  | ((with_reducible show dK _ _ _ _ (_ :: _) _); refine dk_cons ?_) | ((with_reducible show dK _ _ _ _ [] _); refine dk_nil ?_)
  | ((with_reducible show dB _ _ _ _ [] _); refine db_nil ?_; dsimp only) | ((with_reducible show dB _ _ _ _ _ _); refine db_cons ?_))
local macro_rules | `(tactic| walk_at "fx") => `(tactic| (intro hc; exfalso; first | exact Bool.noConfusion (show true = false from hc) | exact Bool.noConfusion (show false = true from hc)))
local macro_rules | `(tactic| walk_at "fm") => `(tactic| first
  | ((with_reducible show Op2 _ _ _ _); first | refine ⟨_, _, _, rfl, rfl, eqD_str _ _, ?_⟩ | refine ⟨_, _, _, rfl, rfl, lim_ok (by omega), ?_⟩ | refine ⟨_, _, _, rfl, rfl, rfl, ?_⟩)
  | ((with_reducible show IsB _ _); refine ⟨_, rfl, ?_⟩)
  | ((with_reducible show AllD _ _); refine ⟨_, rfl, ?_⟩)
  | ((with_reducible show _ ≤ sizeLine ∧ _); refine ⟨Nat.le_of_ble_eq_true rfl, ?_⟩)
  | ((with_reducible show ∃ d, _ = Vl.d d ∧ _); refine ⟨_, rfl, ?_⟩)
  | ((with_reducible show ∃ d z, _ = Vl.d d ∧ lenD _ = some z ∧ _); first | refine ⟨_, _, rfl, lim_ok (by omega), ?_⟩ | refine ⟨_, _, rfl, rfl, ?_⟩)
  | ((with_reducible show ∃ ds, itemsD _ = some ds ∧ _); refine ⟨_, rfl, ?_⟩)
  | ((with_reducible show (_ = true → _) ∧ (_ = false → _)); first | (refine ⟨?_, (by walk_at "fx")⟩; intro hj; clear hj) | (refine ⟨(by walk_at "fx"), ?_⟩; intro hj; clear hj))
  | ((with_reducible show (_ = false → _) ∧ (_ = true → _)); first | (refine ⟨?_, (by walk_at "fx")⟩; intro hj; clear hj) | (refine ⟨(by walk_at "fx"), ?_⟩; intro hj; clear hj)))
local macro_rules | `(tactic| walk_at "fr") => `(tactic| repeat (first | walk_at "fs" | walk_at "fm"))

section
variable {P : Program} {w : World} {K : PySem.W.Frag} {mg : Str → Option Value} {base : Heap}
theorem ok_law_draw (F : Src K mg "_law_draw" s_law_draw) (hs : base.get? sysModules ≠ none) :
    Dfn P w K mg base CX0 1 "_law_draw" s_law_draw ["_law_deck_here", "_law_many"] (spK T1 K pDraw oDraw 1) := by
  refine F.deck sc_law_draw (fun ds ⟨m, h, _⟩ => by rw [h]; rfl) (fun _ _ _ _ _ _ us hl => match us, hl with | [_, _], _ => rfl) hs fun fa cd A fr s H E M t sub n ds R r hp hn => ?_
  obtain ⟨a, c⟩ := t
  have hn : n + 1 ≤ 1099511627776 := hn
  obtain ⟨m, rfl, m1, m2⟩ := hp
  refine dB_tell (W' := Wq M a c sub) rfl rfl fun H0 hJ => ?_
  obtain ⟨hne, ⟨m0, k0, is⟩, hj, h1, h2, h3⟩ := hJ
  replace hne : a ≠ c := hne
  replace h1 : 0 ≤ k0 := h1
  replace h2 : k0 ≤ n := h2
  replace h3 : is.length ≤ 63 := h3
  refine ⟨(m0, k0, is), hj, ?_⟩
  walk_at "fr"
  refine ds_setV (de_bin op_addD (de_ixV (de_var (de_int ⟨a, 2, _, rfl, rfl, rd2, de_int ⟨_, _, _, rfl, rfl, rfl, ?_⟩⟩))))
  refine de_var (de_int ⟨a, 2, (m0, k0 + 1, is), rfl, rfl, .inl rfl, fun H v j hv => ?_, ?_⟩)
  · cases hv
    exact ⟨_, 2, j.1, rfl, upd_same, by rw [upd_ne (Ne.symm hne)]; exact j.2⟩
  refine db_cons (ds_set (de_ixV (de_var (de_int ⟨a, 1, _, rfl, rfl, rd1, ?_⟩))) sc_law_draw.nd)
  refine db_cons ?_
  have rest : ∀ (i : Int) (js : List Int), js.length ≤ 63 → dB (cxOf CX0 P w K mg base ["_law_deck_here", "_law_many", "_law_cell", "_law_mixed"] "_law_draw" (defScope s_law_draw) fa cd A fr s H E).nox (Wq M a c sub) [some (.v (.ref a)), some (.d (.int m)), some (.d (.int i)), none] (m0, k0 + 1, js) ((defBody s_law_draw).drop 3)
      { nx := fun ρ' s'' => ∃ s3, (∀ H, JQ a c s'' H → T1.J (a, c) s3 H) ∧ (oDraw [.int m] .none ∧ s3 ≤ n + 1), rt := fun y s'' => ∃ s3, (∀ H, JQ a c s'' H → T1.J (a, c) s3 H) ∧ ∃ z, y = .d z ∧ oDraw [.int m] z ∧ s3 ≤ n + 1 } := by
    intro i js hjs
    refine db_cons (ds_set (de_imp (Ψ := fun x s' => ∃ j : Int, x = .d (.int j) ∧ 0 ≤ j ∧ j < 2147483647 ∧ s' = (m0, k0 + 1, js)) ?_ fun x s' ⟨j, hx, j1, j2, hs⟩ => ?_) sc_law_draw.nd)
    · walk_at "fr"
      refine ⟨_, _, _, rfl, rfl, mul_small (by show (k0 + 1).natAbs < 18446744073709551616; omega), ?_⟩
      walk_at "fr"
      refine ⟨_, _, _, rfl, rfl, mul_small (by decide), ?_⟩
      walk_at "fr"
      exact ⟨_, rfl, Int.emod_nonneg _ (by decide), Int.emod_lt_of_pos _ (by decide), rfl⟩
    · subst hx hs
      refine db_cons (ds_set (de_imp (Ψ := fun x s' => ∃ j : Int, x = .d (.int j) ∧ s' = (m0, k0 + 1, js)) ?_ fun x s' ⟨j, hx, hs⟩ => ?_) sc_law_draw.nd)
      · walk_at "fr"
        refine ⟨_, _, _, rfl, rfl, mul_small (by omega), ?_⟩
        walk_at "fr"
        exact ⟨_, rfl, rfl⟩
      · subst hx hs
        walk_at "fr"
        refine ⟨_, _, _, rfl, rfl, mul_small (by decide), ?_⟩
        walk_at "fr"
        refine ⟨_, _, _, rfl, rfl, mod_pos (by omega), ?_⟩
        refine ⟨n + 1, fun H2 j2 => ⟨hne, (m0, k0 + 1, js), j2, ?_, ?_, hjs⟩, _, rfl, ⟨m, _, rfl, rfl, Int.emod_nonneg _ (by omega), Int.emod_lt_of_pos _ (by omega)⟩, Nat.le_refl _⟩
        · show 0 ≤ k0 + 1
          omega
        · show k0 + 1 ≤ ((n + 1 : Nat) : Int)
          omega
  refine ds_if (dt_cmpV (op_neDD R) (de_ixV (de_var (de_int ⟨a, 0, _, rfl, rfl, rd0, de_lst (da_nil ⟨_, rfl, Nat.zero_le _, .ref c, _, _, _, rfl, rfl, lsQ, rfl, fun hb => ?_, fun hb => ?_⟩)⟩))))
  · rcases List.eq_nil_or_concat is with e | ⟨js, i, e⟩
    · rw [e] at hb
      exact Bool.noConfusion (show false = true from hb)
    · have e : is = js ++ [i] := by rw [e, List.concat_eq_append]
      subst e
      have hl : js.length ≤ 62 := by
        rw [List.length_append, List.length_singleton] at h3
        omega
      refine db_cons (ds_set (de_popV (de_ixV (de_var (de_int ⟨a, 0, _, rfl, rfl, rd0, c, .d (.int i), (m0, k0 + 1, js), rfl, .inr rfl, fun H2 j2 => ?_, ?_⟩)))) sc_law_draw.nd)
      · refine ⟨_, .int i, j2.2, ?_, Dt.int i, ?_, ?_⟩
        · simp
        · rw [upd_ne hne]
          exact j2.1
        · rw [upd_same]
          simp
      · walk_at "fr"
        refine ⟨fun hc => ?_, fun hc => ?_⟩
        · refine db_cons (ds_expr (de_appV (de_ixV (de_var (de_int ⟨a, 0, _, rfl, rfl, rd0, c, rfl, fun H2 j2 => ⟨_, j2.2⟩, .inr rfl, ?_⟩)))))
          walk_at "fr"
          refine ⟨_, _, _, rfl, rfl, div_pos ⟨by omega, by omega⟩, (m0, k0 + 1, js ++ [i / m]), fun H2 v j2 hv => ?_, ?_⟩
          · cases hv
            refine ⟨_, j2.2, ?_, ?_, ?_⟩
            · rw [sizeLine_eq]
              show (js.map V.int).length < _
              rw [List.length_map]
              omega
            · rw [upd_ne hne]
              exact j2.1
            · rw [upd_same]
              simp
          · walk_at "fr"
            refine ⟨_, _, _, rfl, rfl, mod_pos (by omega), ?_⟩
            refine ⟨n + 1, fun H2 j2 => ⟨hne, (m0, k0 + 1, js ++ [i / m]), j2, ?_, ?_, ?_⟩, _, rfl, ⟨m, _, rfl, rfl, Int.emod_nonneg _ (by omega), Int.emod_lt_of_pos _ (by omega)⟩, Nat.le_refl _⟩
            · show 0 ≤ k0 + 1
              omega
            · show k0 + 1 ≤ ((n + 1 : Nat) : Int)
              omega
            · show (js ++ [i / m]).length ≤ 63
              rw [List.length_append, List.length_singleton]
              omega
        · refine db_nil (db_nil ?_)
          exact rest i js (by omega)
  · refine db_nil ?_
    exact rest m0 is h3
/-! ### picks -/
theorem sc_law_pick : FnScope ["_law_deck_here", "_law_items"] ["_law_deck_here", "_law_items"] (defScope s_law_pick) := ⟨rfl, rfl, rfl, by decide +kernel, rfl, by decide +kernel, by decide +kernel⟩
theorem ok_law_pick (F : Src K mg "_law_pick" s_law_pick) (hs : base.get? sysModules ≠ none) (G : Dfn P w K mg base CX0 1 "_law_draw" s_law_draw ["_law_deck_here", "_law_many"] (spK T1 K pDraw oDraw 1)) (m1 : mg "len" = none) :
    Dfn P w K mg base CX0 2 "_law_pick" s_law_pick ["_law_deck_here", "_law_items"] (spK T1 K pPick oPick 1) := by
  refine F.deck sc_law_pick (fun ds ⟨d, l, h, _⟩ => by rw [h]; rfl) (fun _ _ _ _ _ _ us hl => match us, hl with | [_, _], _ => rfl) hs fun fa cd A fr s H E M t sub n ds R r hp hn => ?_
  obtain ⟨d, l, rfl, hi, h1, h2⟩ := hp
  have hlen : lenD [d] = some (.int l.length) ∧ ∀ i : Int, 0 ≤ i → i < l.length → ∃ z, ixD d (.int i) = some z ∧ z ∈ l := by
    have hat : ∀ {α : Type} (l : List α) (i : Int), 0 ≤ i → i < l.length → ∃ z, atI l i = some z ∧ z ∈ l := fun l i hi hl => by
      have hk : i.toNat < l.length := by omega
      refine ⟨l[i.toNat], ?_, List.getElem_mem hk⟩
      unfold atI ixN
      rw [if_pos hi, if_pos hl]
      exact List.getElem?_eq_getElem hk
    cases d with
    | list ds => cases hi; exact ⟨rfl, fun i a b => hat _ i a b⟩
    | tuple ds => cases hi; exact ⟨rfl, fun i a b => hat _ i a b⟩
    | str z =>
      cases hi
      have e : (Fw.signs z).length = z.length := by simp [Fw.signs, Str.length]
      have hz : z.length ≤ 1000000 := by omega
      refine ⟨by rw [e]; exact lim_ok hz, fun i a b => ?_⟩
      obtain ⟨c, q1, q2⟩ := hat z.cps.toList i a (by simpa [Fw.signs] using b)
      refine ⟨.str ⟨#[c]⟩, ?_, List.mem_map.mpr ⟨c, q2, rfl⟩⟩
      show (if z.length ≤ sizeLine then (atI z.cps.toList i).map fun c => PyData.str ⟨#[c]⟩ else none) = _
      rw [if_pos (by rw [sizeLine_eq]; omega), q1]
      rfl
    | none => cases hi
    | bool _ => cases hi
    | int _ => cases hi
    | dict _ => cases hi
  refine db_cons (ds_ret (de_ix ix_D (de_var (de_goD G R (r.mono (by decide)) pass0 IsK.own ?_))))
  refine da_cons (de_var (da_cons (de_len m1 (de_var ⟨d, _, rfl, hlen.1, da_nil ⟨_, _, rfl, rfl, ⟨_, rfl, by omega, by omega⟩, hn, ?_⟩⟩))))
  rintro z ⟨m, i, e1, rfl, i1, i2⟩
  cases e1
  obtain ⟨z, q1, q2⟩ := hlen.2 i i1 i2
  exact ⟨d, _, z, rfl, rfl, q1, z, rfl, ⟨d, l, rfl, hi, q2⟩, Nat.le_refl _⟩
end
end K1

set_option Elab.async false
set_option linter.all false
set_option maxRecDepth 100000
set_option maxHeartbeats 4000000
namespace K1
open PySem PySem.Spec PyProof.Rows L2 Fw
local macro_rules | `(tactic| walk_at "fE") => `(tactic| first
  | ((with_reducible show dE _ _ _ _ (Expr.Name _ _) _); first | refine de_var ?_ | refine de_globS (by assumption) ?_ | refine de_globI (by assumption) ?_)
  | ((with_reducible show dE _ _ _ _ (Expr.Constant _ _ _) _); first | refine de_str ?_ | refine de_int ?_ | refine de_bool ?_ | refine de_none ?_)
  | ((with_reducible show dE _ _ _ _ (Expr.BoolOp _ _ _) _); first | refine de_one ?_ | refine de_and ?_ | refine de_or ?_)
  | ((with_reducible show dE _ _ _ _ (Expr.UnaryOp _ _ _) _); first | refine de_not ?_ | refine de_neg ?_)
  | ((with_reducible show dE _ _ _ _ (Expr.Compare _ _ _ _) _); first | refine de_cmp (op_eqDD (by first | assumption | exact Rm.blk (by assumption))) ?_ | refine de_cmp (op_neDD (by first | assumption | exact Rm.blk (by assumption))) ?_ | refine de_cmp op_ltD ?_ | refine de_cmp op_leD ?_ | refine de_cmp op_gtD ?_ | refine de_cmp op_geD ?_ | refine de_cmp (op_inD (by first | assumption | exact Rm.blk (by assumption))) ?_ | refine de_cmp (op_ninD (by first | assumption | exact Rm.blk (by assumption))) ?_ | refine de_cmp op_isD ?_ | refine de_cmp op_isntD ?_ | refine de_chain op_leD op_leD ?_ | refine de_chain op_leD op_ltD ?_)
  | ((with_reducible show dE _ _ _ _ (Expr.BinOp _ _ _ _) _); first | refine de_bin op_addD ?_ | refine de_bin op_subD ?_ | refine de_bin op_mulD ?_ | refine de_bin op_modD ?_ | refine de_bin op_divD ?_ | refine de_bin op_powD ?_)
  | ((with_reducible show dE _ _ _ _ (Expr.Tuple _ _ _) _); refine de_tup ?_)
  | ((with_reducible show dE _ _ _ _ (Expr.List _ _) _); refine de_lst ?_)
  | ((with_reducible show dE _ _ _ _ (Expr.IfExp _ _ _ _) _); refine de_if ?_)
  | ((with_reducible show dE _ _ _ _ (Expr.Subscript _ _ _) _); first | refine de_slice sl_D ?_ | refine de_revT ?_ | refine de_ix ix_D ?_)
  | ((with_reducible show dE _ _ _ _ (Expr.Dict _ _ _) _); first | refine de_dic0 ?_ | refine de_dicC ?_)
  | ((with_reducible show dE _ _ _ _ (Expr.Call (Expr.Attribute _ _ _) _ _ _) _); first | refine de_upper ?_ | refine de_join ?_)
  | ((with_reducible show dE _ _ _ _ (Expr.Call (Expr.Name _ _) _ _ _) _); first | refine de_isiS (by assumption) (by assumption) ?_ | refine de_isiI (by assumption) (by assumption) ?_ | refine de_isiB (by assumption) (by assumption) ?_ | refine de_isiT (by assumption) (by assumption) ?_ | refine de_isiL (by assumption) (by assumption) ?_ | refine de_len (by assumption) ?_ | refine de_strC (by assumption) ?_ | refine de_listC (by assumption) ?_ | refine de_tupleC (by assumption) ?_ | refine de_repr (by first | assumption | exact Rm.blk (by assumption)) (by assumption) ?_ | refine de_all (by first | assumption | exact Rm.blk (by assumption)) (by assumption) ?_ | refine de_go (by assumption) (by first | assumption | exact Rm.blk (by assumption)) (by first | assumption | exact Room.mono (by assumption) (by decide)) pass0 ?_ | refine de_go0 (by assumption) (by first | assumption | exact Rm.blk (by assumption)) (by first | assumption | exact Room.mono (by assumption) (by decide)) pass0 ?_))
local macro_rules | `(tactic| walk_at "fT") => `(tactic| first
  | ((with_reducible show dT _ _ _ _ (Expr.UnaryOp .Not _ _) _); refine dt_not ?_)
  | ((with_reducible show dT _ _ _ _ (Expr.BoolOp _ _ _) _); first | refine dt_w (dw_and ?_) | refine dt_w (dw_or ?_))
  | ((with_reducible show dW _ _ _ _ (Expr.BoolOp _ _ _) _); first | refine dw_and1 ?_ | refine dw_or1 ?_ | refine dw_and ?_ | refine dw_or ?_)
  | ((with_reducible show dT _ _ _ _ (Expr.Compare _ _ _ _) _); first | refine dt_cmp (op_eqDD (by first | assumption | exact Rm.blk (by assumption))) ?_ | refine dt_cmp (op_neDD (by first | assumption | exact Rm.blk (by assumption))) ?_ | refine dt_cmp op_ltD ?_ | refine dt_cmp op_leD ?_ | refine dt_cmp op_gtD ?_ | refine dt_cmp op_geD ?_ | refine dt_cmp (op_inD (by first | assumption | exact Rm.blk (by assumption))) ?_ | refine dt_cmp (op_ninD (by first | assumption | exact Rm.blk (by assumption))) ?_ | refine dt_cmp op_isD ?_ | refine dt_cmp op_isntD ?_ | refine dt_chain op_leD op_leD ?_ | refine dt_chain op_leD op_ltD ?_)
  | ((with_reducible show dT _ _ _ _ _ _); refine dt_val ?_))
local macro_rules | `(tactic| walk_at "fs") => `(tactic| first
  | walk_at "fE" | walk_at "fT" | ((with_reducible show dA _ _ _ _ (_ :: _) _); refine da_cons ?_) | ((with_reducible show dA _ _ _ _ [] _); refine da_nil ?_)
  | ((with_reducible show dS _ _ _ _ _ _); first | refine ds_ret ?_ | refine ds_if ?_)
  | ((with_reducible show dK _ _ _ _ (_ :: _) _); refine dk_cons ?_) | ((with_reducible show dK _ _ _ _ [] _); refine dk_nil ?_)
  | ((with_reducible show dB _ _ _ _ [] _); refine db_nil ?_; dsimp only) | ((with_reducible show dB _ _ _ _ _ _); refine db_cons ?_))
local macro_rules | `(tactic| walk_at "fo") => `(tactic| first | ((with_reducible show dO _ _ _ _ none _); refine dO_none ?_) | ((with_reducible show dO _ _ _ _ (some _) _); refine dO_some ?_))
local macro_rules | `(tactic| walk_at "fx") => `(tactic| (intro hc; exfalso; first | exact Bool.noConfusion (show true = false from hc) | exact Bool.noConfusion (show false = true from hc)))
local macro_rules | `(tactic| walk_at "fm") => `(tactic| first
  | ((with_reducible show Op2 _ _ _ _); first | refine ⟨_, _, _, rfl, rfl, eqD_str _ _, ?_⟩ | refine ⟨_, _, _, rfl, rfl, lim_ok (by omega), ?_⟩ | refine ⟨_, _, _, rfl, rfl, rfl, ?_⟩)
  | ((with_reducible show IsB _ _); refine ⟨_, rfl, ?_⟩)
  | ((with_reducible show AllD _ _); refine ⟨_, rfl, ?_⟩)
  | ((with_reducible show _ ≤ sizeLine ∧ _); refine ⟨Nat.le_of_ble_eq_true rfl, ?_⟩)
  | ((with_reducible show ∃ d, _ = Vl.d d ∧ _); refine ⟨_, rfl, ?_⟩)
  | ((with_reducible show ∃ d z, _ = Vl.d d ∧ lenD _ = some z ∧ _); first | refine ⟨_, _, rfl, lim_ok (by omega), ?_⟩ | refine ⟨_, _, rfl, rfl, ?_⟩)
  | ((with_reducible show ∃ i : Int, _ = Vl.d (.int i) ∧ _); refine ⟨_, rfl, ?_⟩)
  | ((with_reducible show ∃ z : Str, _ = Vl.d (.str z) ∧ z.length ≤ 100000 ∧ _); refine ⟨_, rfl, by omega, ?_⟩)
  | ((with_reducible show ∃ d z, _ = Vl.d d ∧ slD d _ _ = some z ∧ _); first | refine ⟨_, _, rfl, lim_ok (by omega), ?_⟩ | refine ⟨_, _, rfl, rfl, ?_⟩)
  | ((with_reducible show ∃ d z, _ = Vl.d d ∧ listC _ = some z ∧ _); refine ⟨_, _, rfl, rfl, ?_⟩)
  | ((with_reducible show ∃ d z, _ = Vl.d d ∧ tupleC _ = some z ∧ _); refine ⟨_, _, rfl, rfl, ?_⟩)
  | ((with_reducible show ∃ ds, itemsD _ = some ds ∧ _); refine ⟨_, rfl, ?_⟩)
  | ((with_reducible show (_ = true → _) ∧ (_ = false → _)); first | (refine ⟨?_, (by walk_at "fx")⟩; intro hj; clear hj) | (refine ⟨(by walk_at "fx"), ?_⟩; intro hj; clear hj))
  | ((with_reducible show (_ = false → _) ∧ (_ = true → _)); first | (refine ⟨?_, (by walk_at "fx")⟩; intro hj; clear hj) | (refine ⟨(by walk_at "fx"), ?_⟩; intro hj; clear hj)))
local macro_rules | `(tactic| walk_at "fr") => `(tactic| repeat (first | walk_at "fs" | walk_at "fo" | walk_at "fm"))

section
variable {P : Program} {w : World} {K : PySem.W.Frag} {mg : Str → Option Value} {base : Heap}
abbrev oStr : List PyData → PyData → Prop := fun _ z => ∃ y, z = .str y ∧ As 30 y
theorem sc_law_string : FnScope ["_law_deck_here", "_law_letters_here", "_law_size", "_law_found", "_law_way", "_law_at", "_law_k"] ["_law_deck_here"] (defScope s_law_string) := ⟨rfl, rfl, rfl, by decide +kernel, rfl, by decide +kernel, by decide +kernel⟩
theorem ok_law_string (F : Src K mg "_law_string" s_law_string) (hs : base.get? sysModules ≠ none) (G1 : Dfn P w K mg base CX0 1 "_law_draw" s_law_draw ["_law_deck_here", "_law_many"] (spK T1 K pDraw oDraw 1))
    (G2 : Dfn P w K mg base CX0 2 "_law_pick" s_law_pick ["_law_deck_here", "_law_items"] (spK T1 K pPick oPick 1)) (m1 : mg "range" = none) :
    Dfn P w K mg base CX0 3 "_law_string" s_law_string ["_law_deck_here"] (spK T1 K (fun ds => ds = []) oStr 20) := by
  refine F.deck sc_law_string (fun ds h => by rw [h]; rfl) (fun _ _ _ _ _ _ us hl => match us, hl with | [_], _ => rfl) hs fun fa cd A fr s H E M t sub n ds R r hp hn => ?_
  subst hp
  have hn : n + 20 ≤ 1099511627776 := hn
  refine db_cons (ds_set (de_str ?_) sc_law_string.nd)
  refine db_cons (ds_set (de_goD G2 R (r.mono (by decide)) pass0 IsK.own ?_) sc_law_string.nd)
  walk_at "fr"
  refine ⟨_, _, rfl, rfl, ⟨_, _, rfl, rfl, Nat.le_of_ble_eq_true rfl, Nat.le_of_ble_eq_true rfl⟩, by show n + 1 ≤ 1099511627776; omega, ?_⟩
  rintro z ⟨d, l, e1, e2, hz⟩
  cases e1
  cases e2
  obtain ⟨i, rfl, i1, i2⟩ := inB_mem (lo := 0) (hi := 14) (by rfl) hz
  clear hz
  refine db_cons (ds_set (de_join (de_str ⟨_, rfl, ?_⟩)) sc_law_string.nd)
  refine de_lc ?_ sc_law_string.nd (blkOk_by (by rfl))
  refine di_range m1 (de_var ⟨i, rfl, ⟨by omega, by omega⟩, ?_⟩)
  have hlen : (intsD i.toNat).length = i.toNat := by simp [intsD]
  refine ⟨by rw [hlen, sizeLine_eq]; omega, fun k acc s2 => (∃ ys : List Str, acc = ys.map PyData.str ∧ ys.length = k ∧ ∀ y ∈ ys, As 1 y) ∧ s2 = n + 1 + k, ⟨⟨[], rfl, rfl, by simp⟩, rfl⟩, fun D k d acc s2 hd hi b => ?_, fun acc s2 hi => ?_⟩
  · obtain ⟨⟨ys, rfl, hl, ha⟩, rfl⟩ := hi
    have hk : k < i.toNat := by
      rw [← hlen]
      exact (List.getElem?_eq_some_iff.mp hd).1
    refine ⟨fun _ b => de_goD G2 (Rm.blk R) (r.mono (by decide)) pass0 (IsK.own.plus D) ?_, fun z => Bool.noConfusion z⟩
    walk_at "fr"
    refine ⟨_, _, rfl, rfl, ⟨_, _, rfl, rfl, by decide +kernel, by decide +kernel⟩, by show n + 1 + k + 1 ≤ 1099511627776; omega, ?_⟩
    rintro z ⟨d, l, e1, e2, hz⟩
    cases e1
    cases e2
    obtain ⟨y, rfl, hy⟩ := As.mem (n := 26) ⟨okS_of (by decide +kernel), by decide +kernel⟩ hz
    refine ⟨.str y, rfl, ⟨ys ++ [y], by simp, by simp [hl], fun x hx => ?_⟩, by omega⟩
    rcases List.mem_append.mp hx with q | q
    · exact ha x q
    · have : x = y := by simpa using q
      rw [this]; exact hy
  · obtain ⟨⟨ys, rfl, hl, ha⟩, rfl⟩ := hi
    rw [hlen] at hl
    have hj := as_join ys ha
    have hj : As 14 (Txt.join ("" : Str) ys) := hj.up (by omega)
    refine ⟨ys, rfl, ?_, ?_⟩
    · have := sum_as ys ha
      have e0 : ("" : Str).length = 0 := rfl
      rw [e0]
      omega
    · generalize Txt.join ("" : Str) ys = fo at hj
      rw [hlen]
      refine db_cons (ds_par (de_goD G1 R (r.mono (by decide)) pass0 IsK.own ?_) sc_law_string.nd (hij := fun e => absurd (show (4 : Nat) = 5 from e) (by decide)))
      walk_at "fr"
      refine ⟨_, _, rfl, rfl, ⟨4, rfl, by decide, by decide⟩, by show n + 1 + i.toNat + 1 ≤ 1099511627776; omega, ?_⟩
      rintro z ⟨m, wy, e1, rfl, w1, w2⟩
      cases e1
      refine de_goD G1 R (r.mono (by decide)) pass0 IsK.own ?_
      walk_at "fr"
      refine ⟨_, _, rfl, rfl, ⟨i + 1, rfl, by omega, by omega⟩, by show n + 1 + i.toNat + 1 + 1 ≤ 1099511627776; omega, ?_⟩
      rintro z ⟨m, at', e1, rfl, a1, a2⟩
      cases e1
      walk_at "fr"
      refine ⟨fun hb => ?_, fun hb => ?_⟩
      · refine db_cons (ds_set (de_goD G2 R (r.mono (by decide)) pass0 IsK.own ?_) sc_law_string.nd)
        walk_at "fr"
        refine ⟨_, _, rfl, rfl, ⟨_, _, rfl, rfl, Nat.le_of_ble_eq_true rfl, Nat.le_of_ble_eq_true rfl⟩, by show n + 1 + i.toNat + 1 + 1 + 1 ≤ 1099511627776; omega, ?_⟩
        rintro z ⟨d, l, e1, e2, hz⟩
        cases e1
        cases e2
        obtain ⟨y, rfl, hy⟩ := asB_mem (n := 4) (by decide +kernel) hz
        clear hz
        have hy1 := hy.len
        have es : ("s" : Str).length = 1 := rfl
        have en : ("n" : Str).length = 1 := rfl
        refine db_cons (ds_ret (de_goD G2 R (r.mono (by decide)) pass0 IsK.own ?_))
        walk_at "fr"
        refine ⟨_, _, rfl, rfl, ⟨_, _, rfl, rfl, Nat.le_of_ble_eq_true rfl, Nat.le_of_ble_eq_true rfl⟩, by show n + 1 + i.toNat + 1 + 1 + 1 + 1 ≤ 1099511627776; omega, ?_⟩
        rintro z ⟨d, l, e1, e2, hz⟩
        cases e1
        cases e2
        have s1 : As 1 ("s" : Str) := ⟨okS_of (by decide +kernel), Nat.le_of_ble_eq_true rfl⟩
        have s2 : As 1 ("n" : Str) := ⟨okS_of (by decide +kernel), Nat.le_of_ble_eq_true rfl⟩
        refine ⟨z, rfl, ?_, by omega⟩
        simp only [List.mem_cons, List.not_mem_nil, or_false] at hz
        rcases hz with rfl | rfl | rfl | rfl | rfl | rfl
        · exact ⟨_, rfl, hy.up (by decide)⟩
        · exact ⟨_, rfl, (hy.app s1).up (by decide)⟩
        · exact ⟨_, rfl, (hy.cut _ _).up (by decide)⟩
        · exact ⟨_, rfl, (hy.cut _ _).up (by decide)⟩
        · exact ⟨_, rfl, (s2.app hy).up (by decide)⟩
        · exact ⟨_, rfl, hy.upper.up (by decide)⟩
      · walk_at "fr"
        refine ⟨fun hc => ?_, fun hc => ?_⟩
        · have h1 := hj.len
          have h2 := (hj.cut none (some at')).len
          walk_at "fr"
          refine de_goD G2 R (r.mono (by decide)) pass0 IsK.own ?_
          walk_at "fr"
          refine ⟨_, _, rfl, rfl, ⟨_, _, rfl, rfl, by decide +kernel, by decide +kernel⟩, by show n + 1 + i.toNat + 1 + 1 + 1 ≤ 1099511627776; omega, ?_⟩
          rintro z ⟨d, l, e1, e2, hz⟩
          cases e1
          cases e2
          obtain ⟨y, rfl, hy⟩ := As.mem (n := 26) ⟨okS_of (by decide +kernel), by decide +kernel⟩ hz
          refine ⟨_, _, _, rfl, rfl, lim_as (hj.cut _ _) hy, ?_⟩
          walk_at "fr"
          refine ⟨_, _, _, rfl, rfl, lim_as ((hj.cut _ _).app hy) (hj.cut _ _), ?_⟩
          exact ⟨_, rfl, ⟨_, rfl, (((hj.cut _ _).app hy).app (hj.cut _ _)).up (by decide)⟩, by omega⟩
        · walk_at "fr"
          exact ⟨⟨_, rfl, hj.up (by decide)⟩, by omega⟩
end
end K1

set_option Elab.async false
set_option linter.all false
set_option maxRecDepth 100000
set_option maxHeartbeats 4000000
namespace K1
open PySem PySem.Spec PyProof.Rows L2 Fw
local macro_rules | `(tactic| walk_at "fE") => `(tactic| first
  | ((with_reducible show dE _ _ _ _ (Expr.Name _ _) _); first | refine de_var ?_ | refine de_globS (by assumption) ?_ | refine de_globI (by assumption) ?_)
  | ((with_reducible show dE _ _ _ _ (Expr.Constant _ _ _) _); first | refine de_str ?_ | refine de_int ?_ | refine de_bool ?_ | refine de_none ?_)
  | ((with_reducible show dE _ _ _ _ (Expr.BoolOp _ _ _) _); first | refine de_one ?_ | refine de_and ?_ | refine de_or ?_)
  | ((with_reducible show dE _ _ _ _ (Expr.UnaryOp _ _ _) _); first | refine de_not ?_ | refine de_neg ?_)
  | ((with_reducible show dE _ _ _ _ (Expr.Compare _ _ _ _) _); first | refine de_cmp (op_eqDD (by first | assumption | exact Rm.blk (by assumption))) ?_ | refine de_cmp (op_neDD (by first | assumption | exact Rm.blk (by assumption))) ?_ | refine de_cmp op_ltD ?_ | refine de_cmp op_leD ?_ | refine de_cmp op_gtD ?_ | refine de_cmp op_geD ?_ | refine de_cmp (op_inD (by first | assumption | exact Rm.blk (by assumption))) ?_ | refine de_cmp (op_ninD (by first | assumption | exact Rm.blk (by assumption))) ?_ | refine de_cmp op_isD ?_ | refine de_cmp op_isntD ?_ | refine de_chain op_leD op_leD ?_ | refine de_chain op_leD op_ltD ?_)
  | ((with_reducible show dE _ _ _ _ (Expr.BinOp _ _ _ _) _); first | refine de_bin op_addD ?_ | refine de_bin op_subD ?_ | refine de_bin op_mulD ?_ | refine de_bin op_modD ?_ | refine de_bin op_divD ?_ | refine de_bin op_powD ?_)
  | ((with_reducible show dE _ _ _ _ (Expr.Tuple _ _ _) _); refine de_tup ?_)
  | ((with_reducible show dE _ _ _ _ (Expr.List _ _) _); refine de_lst ?_)
  | ((with_reducible show dE _ _ _ _ (Expr.IfExp _ _ _ _) _); refine de_if ?_)
  | ((with_reducible show dE _ _ _ _ (Expr.Subscript _ _ _) _); first | refine de_slice sl_D ?_ | refine de_revT ?_ | refine de_ix ix_D ?_)
  | ((with_reducible show dE _ _ _ _ (Expr.Dict _ _ _) _); first | refine de_dic0 ?_ | refine de_dicC ?_)
  | ((with_reducible show dE _ _ _ _ (Expr.Call (Expr.Attribute _ _ _) _ _ _) _); first | refine de_upper ?_ | refine de_join ?_)
  | ((with_reducible show dE _ _ _ _ (Expr.Call (Expr.Name _ _) _ _ _) _); first | refine de_isiS (by assumption) (by assumption) ?_ | refine de_isiI (by assumption) (by assumption) ?_ | refine de_isiB (by assumption) (by assumption) ?_ | refine de_isiT (by assumption) (by assumption) ?_ | refine de_isiL (by assumption) (by assumption) ?_ | refine de_len (by assumption) ?_ | refine de_strC (by assumption) ?_ | refine de_listC (by assumption) ?_ | refine de_tupleC (by assumption) ?_ | refine de_repr (by first | assumption | exact Rm.blk (by assumption)) (by assumption) ?_ | refine de_all (by first | assumption | exact Rm.blk (by assumption)) (by assumption) ?_ | refine de_go (by assumption) (by first | assumption | exact Rm.blk (by assumption)) (by first | assumption | exact Room.mono (by assumption) (by decide)) pass0 ?_ | refine de_go0 (by assumption) (by first | assumption | exact Rm.blk (by assumption)) (by first | assumption | exact Room.mono (by assumption) (by decide)) pass0 ?_))
local macro_rules | `(tactic| walk_at "fT") => `(tactic| first
  | ((with_reducible show dT _ _ _ _ (Expr.UnaryOp .Not _ _) _); refine dt_not ?_)
  | ((with_reducible show dT _ _ _ _ (Expr.BoolOp _ _ _) _); first | refine dt_w (dw_and ?_) | refine dt_w (dw_or ?_))
  | ((with_reducible show dW _ _ _ _ (Expr.BoolOp _ _ _) _); first | refine dw_and1 ?_ | refine dw_or1 ?_ | refine dw_and ?_ | refine dw_or ?_)
  | ((with_reducible show dT _ _ _ _ (Expr.Compare _ _ _ _) _); first | refine dt_cmp (op_eqDD (by first | assumption | exact Rm.blk (by assumption))) ?_ | refine dt_cmp (op_neDD (by first | assumption | exact Rm.blk (by assumption))) ?_ | refine dt_cmp op_ltD ?_ | refine dt_cmp op_leD ?_ | refine dt_cmp op_gtD ?_ | refine dt_cmp op_geD ?_ | refine dt_cmp (op_inD (by first | assumption | exact Rm.blk (by assumption))) ?_ | refine dt_cmp (op_ninD (by first | assumption | exact Rm.blk (by assumption))) ?_ | refine dt_cmp op_isD ?_ | refine dt_cmp op_isntD ?_ | refine dt_chain op_leD op_leD ?_ | refine dt_chain op_leD op_ltD ?_)
  | ((with_reducible show dT _ _ _ _ _ _); refine dt_val ?_))
local macro_rules | `(tactic| walk_at "fs") => `(tactic| first
  | walk_at "fE" | walk_at "fT" | ((with_reducible show dA _ _ _ _ (_ :: _) _); refine da_cons ?_) | ((with_reducible show dA _ _ _ _ [] _); refine da_nil ?_)
  | ((with_reducible show dS _ _ _ _ _ _); first | refine ds_ret ?_ | refine ds_if ?_)
  | ((with_reducible show dK _ _ _ _ (_ :: _) _); refine dk_cons ?_) | ((with_reducible show dK _ _ _ _ [] _); refine dk_nil ?_)
  | ((with_reducible show dB _ _ _ _ [] _); refine db_nil ?_; dsimp only) | ((with_reducible show dB _ _ _ _ _ _); refine db_cons ?_))
local macro_rules | `(tactic| walk_at "fo") => `(tactic| first | ((with_reducible show dO _ _ _ _ none _); refine dO_none ?_) | ((with_reducible show dO _ _ _ _ (some _) _); refine dO_some ?_))
local macro_rules | `(tactic| walk_at "fx") => `(tactic| (intro hc; exfalso; first | exact Bool.noConfusion (show true = false from hc) | exact Bool.noConfusion (show false = true from hc)))
local macro_rules | `(tactic| walk_at "fm") => `(tactic| first
  | ((with_reducible show Op2 _ _ _ _); first | refine ⟨_, _, _, rfl, rfl, eqD_str _ _, ?_⟩ | refine ⟨_, _, _, rfl, rfl, lim_ok (by omega), ?_⟩ | refine ⟨_, _, _, rfl, rfl, rfl, ?_⟩)
  | ((with_reducible show IsB _ _); refine ⟨_, rfl, ?_⟩)
  | ((with_reducible show AllD _ _); refine ⟨_, rfl, ?_⟩)
  | ((with_reducible show _ ≤ sizeLine ∧ _); refine ⟨Nat.le_of_ble_eq_true rfl, ?_⟩)
  | ((with_reducible show ∃ d, _ = Vl.d d ∧ _); refine ⟨_, rfl, ?_⟩)
  | ((with_reducible show ∃ d z, _ = Vl.d d ∧ lenD _ = some z ∧ _); first | refine ⟨_, _, rfl, lim_ok (by omega), ?_⟩ | refine ⟨_, _, rfl, rfl, ?_⟩)
  | ((with_reducible show ∃ i : Int, _ = Vl.d (.int i) ∧ _); refine ⟨_, rfl, ?_⟩)
  | ((with_reducible show ∃ z : Str, _ = Vl.d (.str z) ∧ z.length ≤ 100000 ∧ _); refine ⟨_, rfl, by omega, ?_⟩)
  | ((with_reducible show ∃ d z, _ = Vl.d d ∧ slD d _ _ = some z ∧ _); first | refine ⟨_, _, rfl, lim_ok (by omega), ?_⟩ | refine ⟨_, _, rfl, rfl, ?_⟩)
  | ((with_reducible show ∃ d z, _ = Vl.d d ∧ listC _ = some z ∧ _); refine ⟨_, _, rfl, rfl, ?_⟩)
  | ((with_reducible show ∃ d z, _ = Vl.d d ∧ tupleC _ = some z ∧ _); refine ⟨_, _, rfl, rfl, ?_⟩)
  | ((with_reducible show ∃ ds, itemsD _ = some ds ∧ _); refine ⟨_, rfl, ?_⟩)
  | ((with_reducible show (_ = true → _) ∧ (_ = false → _)); first | (refine ⟨?_, (by walk_at "fx")⟩; intro hj; clear hj) | (refine ⟨(by walk_at "fx"), ?_⟩; intro hj; clear hj))
  | ((with_reducible show (_ = false → _) ∧ (_ = true → _)); first | (refine ⟨?_, (by walk_at "fx")⟩; intro hj; clear hj) | (refine ⟨(by walk_at "fx"), ?_⟩; intro hj; clear hj)))
local macro_rules | `(tactic| walk_at "fr") => `(tactic| repeat (first | walk_at "fs" | walk_at "fo" | walk_at "fm"))

/-! ### what may be bent -/
inductive Gd : Nat → PyData → Prop
  | str {n : Nat} {z : Str} : As 30 z → Gd n (.str z)
  | int {n : Nat} {i : Int} : i.natAbs < 1000 → Gd n (.int i)
  | bl {n : Nat} (b : Bool) : Gd n (.bool b)
  | tup {n : Nat} {ds : List PyData} : (∀ d ∈ ds, Gd n d) → ds.length ≤ 8 → Gd (n + 1) (.tuple ds)
def Bn : Nat → Nat
  | 0 => 302
  | n + 1 => 8 * (Bn n + 2) + 3
theorem Bn_ge : ∀ n, 302 ≤ Bn n
  | 0 => Nat.le_refl _
  | n + 1 => by have := Bn_ge n; show 302 ≤ 8 * (Bn n + 2) + 3; omega
theorem Gd.sz : ∀ {n : Nat} {d : PyData}, Gd n d → Sz (Bn n) n d
  | n, _, .str h => h.sz.up (Bn_ge n) (Nat.zero_le _)
  | n, _, .int h => (Sz.int (k := 10) (Nat.lt_of_lt_of_le h (by decide))).up (Nat.le_trans (by decide) (Bn_ge n)) (Nat.zero_le _)
  | n, _, .bl b => (Sz.bl b).up (Nat.le_trans (by decide) (Bn_ge n)) (Nat.zero_le _)
  | _, _, @Gd.tup n ds h hl => by
    have q := SzA.of (n := Bn n) (k := n) fun d hd => (h d hd).sz
    refine (Sz.tup q).up ?_ (Nat.le_refl _)
    show ds.length * (Bn n + 2) + 3 ≤ 8 * (Bn n + 2) + 3
    have := Nat.mul_le_mul_right (Bn n + 2) hl
    omega
abbrev pG (n : Nat) : List PyData → Prop := fun ds => ∃ d, ds = [d] ∧ Gd n d
abbrev oSz (N k : Nat) : List PyData → PyData → Prop := fun _ z => Sz N k z
def szB (N k : Nat) (d : PyData) : Bool := nice d && (decide (cost d ≤ N) && decide (d.depth ≤ k))
theorem szB_of {N k : Nat} {d : PyData} (h : szB N k d = true) : Sz N k d := by
  obtain ⟨h1, h2⟩ := Bool.and_eq_true_iff.mp h
  obtain ⟨h2, h3⟩ := Bool.and_eq_true_iff.mp h2
  exact ⟨h1, of_decide_eq_true h2, of_decide_eq_true h3⟩
theorem lim_cat {a b : List PyData} {w : PyData} {n m : Nat} (h : a.length ≤ n) (g : b.length ≤ m) (k : n + m ≤ 1000000 := by decide) : lim (a.length + b.length) w = some w := lim_ok (by omega)
theorem cutD_len {ds : List PyData} {n : Nat} (h : ds.length ≤ n) (lo hi : Option Int) : (Fw.cutD ds lo hi).length ≤ n := by
  unfold Fw.cutD
  rw [List.length_take, List.length_drop]
  omega
theorem atI_in {α : Type} (l : List α) (i : Int) (hi : 0 ≤ i) (hl : i < l.length) : ∃ z, atI l i = some z ∧ z ∈ l := by
  have hk : i.toNat < l.length := by omega
  refine ⟨l[i.toNat], ?_, List.getElem_mem hk⟩
  unfold atI ixN
  rw [if_pos hi, if_pos hl]
  exact List.getElem?_eq_getElem hk
theorem mem_rep {k : Nat} {xs : List PyData} {z : PyData} (h : z ∈ (List.replicate k xs).flatten) : z ∈ xs := by
  obtain ⟨l, h1, h2⟩ := List.mem_flatten.mp h
  rw [(List.mem_replicate.mp h1).2] at h2
  exact h2
section
variable {P : Program} {w : World} {K : PySem.W.Frag} {mg : Str → Option Value} {base : Heap}
theorem sc_law_odd : FnScope ["_law_deck_here", "_law_it", "_law_some"] ["_law_deck_here", "_law_it"] (defScope s_law_odd) := ⟨rfl, rfl, rfl, by decide +kernel, rfl, by decide +kernel, by decide +kernel⟩
theorem ok_law_odd (F : Src K mg "_law_odd" s_law_odd) (hs : base.get? sysModules ≠ none)
    (G2 : Dfn P w K mg base CX0 2 "_law_pick" s_law_pick ["_law_deck_here", "_law_items"] (spK T1 K pPick oPick 1)) (m1 : mg "isinstance" = none) (m2 : mg "int" = none) (m3 : mg "str" = none) (nn : Nat) :
    Dfn P w K mg base CX0 3 "_law_odd" s_law_odd ["_law_deck_here", "_law_it"] (spK T1 K (pG nn) (oSz (Bn nn + 700) (nn + 1)) 1) := by
  refine F.deck sc_law_odd (fun ds ⟨d, h, _⟩ => by rw [h]; rfl) (fun _ _ _ _ _ _ us hl => match us, hl with | [_, _], _ => rfl) hs fun fa cd A fr s H E M t sub n ds R r hp hn => ?_
  obtain ⟨d, rfl, hd⟩ := hp
  have hz := hd.sz
  have h302 := Bn_ge nn
  have k7 : 700 ≤ Bn nn + 700 := Nat.le_add_left _ _
  refine db_cons (ds_set (de_imp (Ψ := fun x s' => ∃ l, x = .d (.list l) ∧ l.length ≤ 20 ∧ 1 ≤ l.length ∧ (∀ z ∈ l, Sz (Bn nn + 700) (nn + 1) z) ∧ n = s') ?_ fun x s' ⟨l, hx, l1, l0, l2, hs'⟩ => ?_) sc_law_odd.nd)
  · walk_at "fr"
    refine ⟨_, rfl, Nat.le_of_ble_eq_true rfl, Nat.le_of_ble_eq_true rfl, fun z hz' => ?_, rfl⟩
    simp only [List.mem_cons, List.not_mem_nil, or_false] at hz'
    rcases hz' with rfl | rfl | rfl | rfl | rfl | rfl | rfl | rfl | rfl | rfl | rfl | rfl | rfl | rfl | rfl | rfl | rfl | rfl
    all_goals first
      | exact (szB_of (N := 700) (k := 1) (by decide +kernel)).up k7 (Nat.le_add_left _ _)
      | exact (Sz.tup (SzA.cons hz (SzA.nil (n := 0)))).up (m := Bn nn + 700) (l := nn + 1) (by omega) (Nat.le_refl _)
      | exact (Sz.lst (SzA.cons hz (SzA.nil (n := 0)))).up (m := Bn nn + 700) (l := nn + 1) (by omega) (Nat.le_refl _)
  subst hx hs'
  refine db_cons (ds_set (de_imp (Ψ := fun x s' => ∃ l, x = .d (.list l) ∧ l.length ≤ 30 ∧ 1 ≤ l.length ∧ (∀ z ∈ l, Sz (Bn nn + 700) (nn + 1) z) ∧ n = s') ?_ fun x s' ⟨l, hx, l1, l0, l2, hs'⟩ => ?_) sc_law_odd.nd)
  · walk_at "fr"
    refine ⟨_, _, _, rfl, rfl, lim_cat (m := 6) l1 (Nat.le_of_ble_eq_true rfl), _, rfl, ?_, ?_, fun z hz' => ?_, rfl⟩
    · rw [List.length_append]
      exact Nat.le_trans (Nat.add_le_add l1 (Nat.le_refl _)) (Nat.le_of_ble_eq_true rfl)
    · rw [List.length_append]
      omega
    · rcases List.mem_append.mp hz' with q | q
      · exact l2 z q
      · simp only [List.mem_cons, List.not_mem_nil, or_false] at q
        rcases q with rfl | rfl | rfl | rfl | rfl | rfl
        all_goals exact (szB_of (N := 700) (k := 1) (by decide +kernel)).up k7 (Nat.le_add_left _ _)
  subst hx hs'
  have fin : ∀ l : List PyData, (∀ z ∈ l, Sz (Bn nn + 700) (nn + 1) z) → ∀ z, oPick [.list l] z → ∃ z', Vl.d z = .d z' ∧ oSz (Bn nn + 700) (nn + 1) [d] z' ∧ n + 1 ≤ n + 1 := by
    rintro l l2 z ⟨d', l', e1, e2, hz'⟩
    cases e1
    cases e2
    exact ⟨z, rfl, l2 z hz', Nat.le_refl _⟩
  cases hd with
  | tup h hl =>
    walk_at "fr"
    refine de_goD G2 R (r.mono (by decide)) pass0 IsK.own ?_
    refine da_cons (de_var (da_cons (de_var (da_nil ⟨_, _, rfl, rfl, ⟨_, _, rfl, rfl, l0, by omega⟩, hn, fin _ l2⟩))))
  | int hi =>
    rename_i i
    refine db_cons (ds_if ?_)
    walk_at "fr"
    refine ds_set ?_ sc_law_odd.nd
    walk_at "fr"
    refine ⟨_, _, rfl, onlyB_ok (decide_eq_true (Nat.lt_of_le_of_lt (log_le (k := 10) (Nat.lt_of_lt_of_le hi (by decide))) (by decide))), ?_⟩
    walk_at "fr"
    refine ⟨_, _, _, rfl, rfl, lim_cat (m := 18) l1 (Nat.le_of_ble_eq_true rfl), ?_⟩
    refine db_nil (db_cons (ds_if ?_))
    walk_at "fr"
    refine de_goD G2 R (r.mono (by decide)) pass0 IsK.own ?_
    refine da_cons (de_var (da_cons (de_var (da_nil ⟨_, _, rfl, rfl, ⟨_, _, rfl, rfl, ?_, ?_⟩, hn, fin _ fun z hz' => ?_⟩))))
    · rw [List.length_append]
      omega
    · rw [List.length_append]
      exact Nat.lt_of_le_of_lt (Nat.add_le_add l1 (Nat.le_of_ble_eq_true (m := 18) rfl)) (by decide)
    · rcases List.mem_append.mp hz' with q | q
      · exact l2 z q
      · have q := mem_rep q
        have sI : ∀ j : Int, j.natAbs < 2000 → Sz (Bn nn + 700) (nn + 1) (.int j) := fun j hj => (Sz.int (k := 11) (Nat.lt_of_lt_of_le hj (by decide))).up (Nat.le_trans (by decide) k7) (Nat.zero_le _)
        simp only [List.mem_cons, List.not_mem_nil, or_false] at q
        rcases q with rfl | rfl | rfl | rfl | rfl | rfl
        · exact sI _ (by omega)
        · exact sI _ (by omega)
        · exact (Sz.bl _).up (Nat.le_trans (by decide) k7) (Nat.zero_le _)
        · exact (as_int (k := 10) (Nat.lt_of_lt_of_le hi (by decide)) (by decide)).sz.up (Nat.le_trans (by decide) k7) (Nat.zero_le _)
        · exact sI _ (by omega)
        · exact sI _ (by omega)
  | bl b =>
    refine db_cons (ds_if ?_)
    walk_at "fr"
    refine ds_set ?_ sc_law_odd.nd
    walk_at "fr"
    refine ⟨_, _, rfl, rfl, ?_⟩
    walk_at "fr"
    refine ⟨_, _, _, rfl, rfl, lim_cat (m := 18) l1 (Nat.le_of_ble_eq_true rfl), ?_⟩
    refine db_nil (db_cons (ds_if ?_))
    walk_at "fr"
    refine de_goD G2 R (r.mono (by decide)) pass0 IsK.own ?_
    refine da_cons (de_var (da_cons (de_var (da_nil ⟨_, _, rfl, rfl, ⟨_, _, rfl, rfl, ?_, ?_⟩, hn, fin _ fun z hz' => ?_⟩))))
    · rw [List.length_append]
      omega
    · rw [List.length_append]
      exact Nat.lt_of_le_of_lt (Nat.add_le_add l1 (Nat.le_of_ble_eq_true (m := 18) rfl)) (by decide)
    · rcases List.mem_append.mp hz' with q | q
      · exact l2 z q
      · have q := mem_rep q
        simp only [List.mem_cons, List.not_mem_nil, or_false] at q
        rcases q with rfl | rfl | rfl | rfl | rfl | rfl
        all_goals (cases b <;> exact (szB_of (N := 700) (k := 1) (by decide +kernel)).up k7 (Nat.le_add_left _ _))
  | str ha =>
    rename_i y
    have hl := ha.len
    have e1 : ("a" : Str).length = 1 := rfl
    have e2 : (" " : Str).length = 1 := rfl
    have e3 : ("\n" : Str).length = 1 := rfl
    have a1 : As 1 ("a" : Str) := ⟨okS_of (by decide +kernel), Nat.le_of_ble_eq_true rfl⟩
    have a2 : As 1 (" " : Str) := ⟨okS_of (by decide +kernel), Nat.le_of_ble_eq_true rfl⟩
    have a3 : As 1 ("\n" : Str) := ⟨okS_of (by decide +kernel), Nat.le_of_ble_eq_true rfl⟩
    refine db_cons (ds_if ?_)
    walk_at "fr"
    refine ds_set ?_ sc_law_odd.nd
    walk_at "fr"
    refine ⟨_, _, _, rfl, rfl, onlyB_ok (by rw [decide_eq_true (show y.length ≤ 10000 by omega)]; rfl), ?_⟩
    walk_at "fr"
    refine ⟨_, _, _, rfl, rfl, lim_cat (m := 21) l1 (Nat.le_of_ble_eq_true rfl), ?_⟩
    walk_at "fr"
    refine de_goD G2 R (r.mono (by decide)) pass0 IsK.own ?_
    refine da_cons (de_var (da_cons (de_var (da_nil ⟨_, _, rfl, rfl, ⟨_, _, rfl, rfl, ?_, ?_⟩, hn, fin _ fun z hz' => ?_⟩))))
    · rw [List.length_append]
      omega
    · rw [List.length_append]
      exact Nat.lt_of_le_of_lt (Nat.add_le_add l1 (Nat.le_of_ble_eq_true (m := 21) rfl)) (by decide)
    · rcases List.mem_append.mp hz' with q | q
      · exact l2 z q
      · have q := mem_rep q
        have sS : ∀ x : Str, As 60 x → Sz (Bn nn + 700) (nn + 1) (.str x) := fun x hx => hx.sz.up (Nat.le_trans (by decide) k7) (Nat.zero_le _)
        simp only [List.mem_cons, List.not_mem_nil, or_false] at q
        rcases q with rfl | rfl | rfl | rfl | rfl | rfl | rfl
        · exact sS _ ((ha.app a1).up (by decide))
        · exact sS _ ((ha.cut _ _).up (by decide))
        · exact sS _ (ha.upper.up (by decide))
        · exact sS _ ((ha.app a2).up (by decide))
        · exact (Sz.tup (SzA.cons hz (SzA.nil (n := 0)))).up (m := Bn nn + 700) (l := nn + 1) (by omega) (Nat.le_refl _)
        · exact sS _ (as_two ha)
        · exact sS _ ((ha.app a3).up (by decide))
end
end K1

set_option Elab.async false
set_option linter.all false
set_option maxRecDepth 100000
set_option maxHeartbeats 4000000
namespace K1
open PySem PySem.Spec PyProof.Rows L2 Fw
local macro_rules | `(tactic| walk_at "fE") => `(tactic| first
  | ((with_reducible show dE _ _ _ _ (Expr.Name _ _) _); first | refine de_var ?_ | refine de_globS (by assumption) ?_ | refine de_globI (by assumption) ?_)
  | ((with_reducible show dE _ _ _ _ (Expr.Constant _ _ _) _); first | refine de_str ?_ | refine de_int ?_ | refine de_bool ?_ | refine de_none ?_)
  | ((with_reducible show dE _ _ _ _ (Expr.BoolOp _ _ _) _); first | refine de_one ?_ | refine de_and ?_ | refine de_or ?_)
  | ((with_reducible show dE _ _ _ _ (Expr.UnaryOp _ _ _) _); first | refine de_not ?_ | refine de_neg ?_)
  | ((with_reducible show dE _ _ _ _ (Expr.Compare _ _ _ _) _); first | refine de_cmp (op_eqDD (by first | assumption | exact Rm.blk (by assumption))) ?_ | refine de_cmp (op_neDD (by first | assumption | exact Rm.blk (by assumption))) ?_ | refine de_cmp op_ltD ?_ | refine de_cmp op_leD ?_ | refine de_cmp op_gtD ?_ | refine de_cmp op_geD ?_ | refine de_cmp (op_inD (by first | assumption | exact Rm.blk (by assumption))) ?_ | refine de_cmp (op_ninD (by first | assumption | exact Rm.blk (by assumption))) ?_ | refine de_cmp op_isD ?_ | refine de_cmp op_isntD ?_ | refine de_chain op_leD op_leD ?_ | refine de_chain op_leD op_ltD ?_)
  | ((with_reducible show dE _ _ _ _ (Expr.BinOp _ _ _ _) _); first | refine de_bin op_addD ?_ | refine de_bin op_subD ?_ | refine de_bin op_mulD ?_ | refine de_bin op_modD ?_ | refine de_bin op_divD ?_ | refine de_bin op_powD ?_)
  | ((with_reducible show dE _ _ _ _ (Expr.Tuple _ _ _) _); refine de_tup ?_)
  | ((with_reducible show dE _ _ _ _ (Expr.List _ _) _); refine de_lst ?_)
  | ((with_reducible show dE _ _ _ _ (Expr.IfExp _ _ _ _) _); refine de_if ?_)
  | ((with_reducible show dE _ _ _ _ (Expr.Subscript _ _ _) _); first | refine de_slice sl_D ?_ | refine de_revT ?_ | refine de_ix ix_D ?_)
  | ((with_reducible show dE _ _ _ _ (Expr.Dict _ _ _) _); first | refine de_dic0 ?_ | refine de_dicC ?_)
  | ((with_reducible show dE _ _ _ _ (Expr.Call (Expr.Attribute _ _ _) _ _ _) _); first | refine de_upper ?_ | refine de_join ?_)
  | ((with_reducible show dE _ _ _ _ (Expr.Call (Expr.Name _ _) _ _ _) _); first | refine de_isiS (by assumption) (by assumption) ?_ | refine de_isiI (by assumption) (by assumption) ?_ | refine de_isiB (by assumption) (by assumption) ?_ | refine de_isiT (by assumption) (by assumption) ?_ | refine de_isiL (by assumption) (by assumption) ?_ | refine de_len (by assumption) ?_ | refine de_strC (by assumption) ?_ | refine de_listC (by assumption) ?_ | refine de_tupleC (by assumption) ?_ | refine de_repr (by first | assumption | exact Rm.blk (by assumption)) (by assumption) ?_ | refine de_all (by first | assumption | exact Rm.blk (by assumption)) (by assumption) ?_ | refine de_go (by assumption) (by first | assumption | exact Rm.blk (by assumption)) (by first | assumption | exact Room.mono (by assumption) (by decide)) pass0 ?_ | refine de_go0 (by assumption) (by first | assumption | exact Rm.blk (by assumption)) (by first | assumption | exact Room.mono (by assumption) (by decide)) pass0 ?_))
local macro_rules | `(tactic| walk_at "fT") => `(tactic| first
  | ((with_reducible show dT _ _ _ _ (Expr.UnaryOp .Not _ _) _); refine dt_not ?_)
  | ((with_reducible show dT _ _ _ _ (Expr.BoolOp _ _ _) _); first | refine dt_w (dw_and ?_) | refine dt_w (dw_or ?_))
  | ((with_reducible show dW _ _ _ _ (Expr.BoolOp _ _ _) _); first | refine dw_and1 ?_ | refine dw_or1 ?_ | refine dw_and ?_ | refine dw_or ?_)
  | ((with_reducible show dT _ _ _ _ (Expr.Compare _ _ _ _) _); first | refine dt_cmp (op_eqDD (by first | assumption | exact Rm.blk (by assumption))) ?_ | refine dt_cmp (op_neDD (by first | assumption | exact Rm.blk (by assumption))) ?_ | refine dt_cmp op_ltD ?_ | refine dt_cmp op_leD ?_ | refine dt_cmp op_gtD ?_ | refine dt_cmp op_geD ?_ | refine dt_cmp (op_inD (by first | assumption | exact Rm.blk (by assumption))) ?_ | refine dt_cmp (op_ninD (by first | assumption | exact Rm.blk (by assumption))) ?_ | refine dt_cmp op_isD ?_ | refine dt_cmp op_isntD ?_ | refine dt_chain op_leD op_leD ?_ | refine dt_chain op_leD op_ltD ?_)
  | ((with_reducible show dT _ _ _ _ _ _); refine dt_val ?_))
local macro_rules | `(tactic| walk_at "fs") => `(tactic| first
  | walk_at "fE" | walk_at "fT" | ((with_reducible show dA _ _ _ _ (_ :: _) _); refine da_cons ?_) | ((with_reducible show dA _ _ _ _ [] _); refine da_nil ?_)
  | ((with_reducible show dS _ _ _ _ _ _); first | refine ds_ret ?_ | refine ds_if ?_)
  | ((with_reducible show dK _ _ _ _ (_ :: _) _); refine dk_cons ?_) | ((with_reducible show dK _ _ _ _ [] _); refine dk_nil ?_)
  | ((with_reducible show dB _ _ _ _ [] _); refine db_nil ?_; dsimp only) | ((with_reducible show dB _ _ _ _ _ _); refine db_cons ?_))
local macro_rules | `(tactic| walk_at "fo") => `(tactic| first | ((with_reducible show dO _ _ _ _ none _); refine dO_none ?_) | ((with_reducible show dO _ _ _ _ (some _) _); refine dO_some ?_))
local macro_rules | `(tactic| walk_at "fx") => `(tactic| (intro hc; exfalso; first | exact Bool.noConfusion (show true = false from hc) | exact Bool.noConfusion (show false = true from hc)))
local macro_rules | `(tactic| walk_at "fm") => `(tactic| first
  | ((with_reducible show Op2 _ _ _ _); first | refine ⟨_, _, _, rfl, rfl, eqD_str _ _, ?_⟩ | refine ⟨_, _, _, rfl, rfl, lim_ok (by omega), ?_⟩ | refine ⟨_, _, _, rfl, rfl, rfl, ?_⟩)
  | ((with_reducible show IsB _ _); refine ⟨_, rfl, ?_⟩)
  | ((with_reducible show AllD _ _); refine ⟨_, rfl, ?_⟩)
  | ((with_reducible show _ ≤ sizeLine ∧ _); refine ⟨Nat.le_of_ble_eq_true rfl, ?_⟩)
  | ((with_reducible show ∃ d, _ = Vl.d d ∧ _); refine ⟨_, rfl, ?_⟩)
  | ((with_reducible show ∃ d z, _ = Vl.d d ∧ lenD _ = some z ∧ _); first | refine ⟨_, _, rfl, lim_ok (by omega), ?_⟩ | refine ⟨_, _, rfl, rfl, ?_⟩)
  | ((with_reducible show ∃ i : Int, _ = Vl.d (.int i) ∧ _); refine ⟨_, rfl, ?_⟩)
  | ((with_reducible show ∃ z : Str, _ = Vl.d (.str z) ∧ z.length ≤ 100000 ∧ _); refine ⟨_, rfl, by omega, ?_⟩)
  | ((with_reducible show ∃ d z, _ = Vl.d d ∧ slD d _ _ = some z ∧ _); first | refine ⟨_, _, rfl, lim_ok (by omega), ?_⟩ | refine ⟨_, _, rfl, rfl, ?_⟩)
  | ((with_reducible show ∃ d z, _ = Vl.d d ∧ listC _ = some z ∧ _); refine ⟨_, _, rfl, rfl, ?_⟩)
  | ((with_reducible show ∃ d z, _ = Vl.d d ∧ tupleC _ = some z ∧ _); refine ⟨_, _, rfl, rfl, ?_⟩)
  | ((with_reducible show ∃ ds, itemsD _ = some ds ∧ _); refine ⟨_, rfl, ?_⟩)
  | ((with_reducible show (_ = true → _) ∧ (_ = false → _)); first | (refine ⟨?_, (by walk_at "fx")⟩; intro hj; clear hj) | (refine ⟨(by walk_at "fx"), ?_⟩; intro hj; clear hj))
  | ((with_reducible show (_ = false → _) ∧ (_ = true → _)); first | (refine ⟨?_, (by walk_at "fx")⟩; intro hj; clear hj) | (refine ⟨(by walk_at "fx"), ?_⟩; intro hj; clear hj)))
local macro_rules | `(tactic| walk_at "fr") => `(tactic| repeat (first | walk_at "fs" | walk_at "fo" | walk_at "fm"))

section
variable {P : Program} {w : World} {K : PySem.W.Frag} {mg : Str → Option Value} {base : Heap}
def bt : Nat → Nat
  | 0 => 1100
  | n + 1 => 2 * Bn (n + 1) + bt n + 1100
theorem bt_ge : ∀ n, Bn n + 700 ≤ bt n
  | 0 => by decide
  | n + 1 => by show Bn (n + 1) + 700 ≤ 2 * Bn (n + 1) + bt n + 1100; omega
theorem sc_law_bent : FnScope ["_law_deck_here", "_law_it", "_law_way", "_law_at"] ["_law_deck_here", "_law_it"] (defScope s_law_bent) := ⟨rfl, rfl, rfl, by decide +kernel, rfl, by decide +kernel, by decide +kernel⟩
theorem ok_law_bent (F : Src K mg "_law_bent" s_law_bent) (hs : base.get? sysModules ≠ none) (G1 : Dfn P w K mg base CX0 1 "_law_draw" s_law_draw ["_law_deck_here", "_law_many"] (spK T1 K pDraw oDraw 1))
    (G2 : Dfn P w K mg base CX0 2 "_law_pick" s_law_pick ["_law_deck_here", "_law_items"] (spK T1 K pPick oPick 1))
    (G3 : ∀ nn, Dfn P w K mg base CX0 3 "_law_odd" s_law_odd ["_law_deck_here", "_law_it"] (spK T1 K (pG nn) (oSz (Bn nn + 700) (nn + 1)) 1)) (m1 : mg "isinstance" = none) (m2 : mg "tuple" = none) (m3 : mg "len" = none) (m4 : mg "list" = none) :
    ∀ nn, Dfn P w K mg base CX0 (4 + nn) "_law_bent" s_law_bent ["_law_deck_here", "_law_it"] (spK T1 K (pG nn) (oSz (bt nn) (nn + 2)) (2 * nn + 2)) := by
  intro nn
  have rm' : ∀ nn k : Nat, k ≤ 4 → k ≤ 4 + nn := fun nn k h => Nat.le_trans h (Nat.le_add_right _ _)
  induction nn with
  | zero =>
    refine F.deck sc_law_bent (fun ds ⟨d, h, _⟩ => by rw [h]; rfl) (fun _ _ _ _ _ _ us hl => match us, hl with | [_, _], _ => rfl) hs fun fa cd A fr s H E M t sub n ds R r hp hn => ?_
    obtain ⟨d, rfl, hd⟩ := hp
    have hn : n + 2 ≤ 1099511627776 := hn
    refine db_cons (ds_set (de_goD G1 R (r.mono (by decide)) pass0 IsK.own ?_) sc_law_bent.nd)
    walk_at "fr"
    refine ⟨_, _, rfl, rfl, ⟨9, rfl, by decide, by decide⟩, by show n + 1 ≤ 1099511627776; omega, ?_⟩
    rintro z ⟨m, wy, e1, rfl, w1, w2⟩
    cases e1
    cases hd with
    | str ha =>
      walk_at "fr"
      refine de_goD (G3 0) R (r.mono (by decide)) pass0 IsK.own ?_
      walk_at "fr"
      refine ⟨_, _, rfl, rfl, ⟨_, rfl, .str ha⟩, hn, fun z hz => ⟨z, rfl, hz.up (bt_ge 0) (by decide), Nat.le_refl _⟩⟩
    | int ha =>
      walk_at "fr"
      refine de_goD (G3 0) R (r.mono (by decide)) pass0 IsK.own ?_
      walk_at "fr"
      refine ⟨_, _, rfl, rfl, ⟨_, rfl, .int ha⟩, hn, fun z hz => ⟨z, rfl, hz.up (bt_ge 0) (by decide), Nat.le_refl _⟩⟩
    | bl ha =>
      walk_at "fr"
      refine de_goD (G3 0) R (r.mono (by decide)) pass0 IsK.own ?_
      walk_at "fr"
      refine ⟨_, _, rfl, rfl, ⟨_, rfl, .bl ha⟩, hn, fun z hz => ⟨z, rfl, hz.up (bt_ge 0) (by decide), Nat.le_refl _⟩⟩
  | succ nn ih =>
    have rm := rm' nn
    refine F.deck sc_law_bent (fun ds ⟨d, h, _⟩ => by rw [h]; rfl) (fun _ _ _ _ _ _ us hl => match us, hl with | [_, _], _ => rfl) hs fun fa cd A fr s H E M t sub n ds R r hp hn => ?_
    obtain ⟨d, rfl, hd⟩ := hp
    have hn : n + (2 * (nn + 1) + 2) ≤ 1099511627776 := hn
    refine db_cons (ds_set (de_goD G1 R (r.mono (rm _ (by decide))) pass0 IsK.own ?_) sc_law_bent.nd)
    walk_at "fr"
    refine ⟨_, _, rfl, rfl, ⟨9, rfl, by decide, by decide⟩, by show n + 1 ≤ 1099511627776; omega, ?_⟩
    rintro z ⟨m, wy, e1, rfl, w1, w2⟩
    cases e1
    have okO : ∀ z, Sz (Bn (nn + 1) + 700) (nn + 1 + 1) z → ∃ z', Vl.d z = .d z' ∧ oSz (bt (nn + 1)) (nn + 1 + 2) [d] z' ∧ n + 1 + 1 ≤ n + (2 * (nn + 1) + 2) := fun z hz => ⟨z, rfl, hz.up (bt_ge _) (by omega), by omega⟩
    have lO : n + 1 + 1 ≤ 1099511627776 := by omega
    cases hd with
    | str ha =>
      walk_at "fr"
      refine de_goD (G3 (nn + 1)) R (r.mono (rm _ (by decide))) pass0 IsK.own ?_
      walk_at "fr"
      exact ⟨_, _, rfl, rfl, ⟨_, rfl, .str ha⟩, lO, okO⟩
    | int ha =>
      walk_at "fr"
      refine de_goD (G3 (nn + 1)) R (r.mono (rm _ (by decide))) pass0 IsK.own ?_
      walk_at "fr"
      exact ⟨_, _, rfl, rfl, ⟨_, rfl, .int ha⟩, lO, okO⟩
    | bl ha =>
      walk_at "fr"
      refine de_goD (G3 (nn + 1)) R (r.mono (rm _ (by decide))) pass0 IsK.own ?_
      walk_at "fr"
      exact ⟨_, _, rfl, rfl, ⟨_, rfl, .bl ha⟩, lO, okO⟩
    | tup hg hl =>
      rename_i ds
      have hgd : Gd (nn + 1) (.tuple ds) := .tup hg hl
      cases ds with
      | nil =>
        walk_at "fr"
        refine de_goD (G3 (nn + 1)) R (r.mono (rm _ (by decide))) pass0 IsK.own ?_
        walk_at "fr"
        exact ⟨_, _, rfl, rfl, ⟨_, rfl, hgd⟩, lO, okO⟩
      | cons x0 xs0 =>
        have hA : SzA (Bn (nn + 1)) nn (x0 :: xs0) := hgd.sz.tupE
        have hA2 : SzA (Bn (nn + 1)) (nn + 2) (x0 :: xs0) := hA.up (Nat.le_refl _) (by omega)
        walk_at "fr"
        refine ⟨fun h8 => ?_, fun h8 => ?_⟩
        · walk_at "fr"
          refine de_goD (G3 (nn + 1)) R (r.mono (rm _ (by decide))) pass0 IsK.own ?_
          walk_at "fr"
          exact ⟨_, _, rfl, rfl, ⟨_, rfl, hgd⟩, lO, okO⟩
        · walk_at "fr"
          refine ds_set (de_goD G1 R (r.mono (rm _ (by decide))) pass0 IsK.own ?_) sc_law_bent.nd
          walk_at "fr"
          refine ⟨_, _, rfl, rfl, ⟨_, rfl, by rw [List.length_cons]; omega, by omega⟩, lO, ?_⟩
          rintro z ⟨m, at', e1, rfl, a1, a2⟩
          cases e1
          obtain ⟨x, q1, q2⟩ := atI_in (x0 :: xs0) at' a1 a2
          walk_at "fr"
          refine ⟨fun h5 => ?_, fun h5 => ?_⟩
          · walk_at "fr"
            refine de_goD ih R r pass0 IsK.own ?_
            walk_at "fr"
            refine ⟨_, _, _, rfl, rfl, q1, ?_⟩
            walk_at "fr"
            refine ⟨_, _, rfl, rfl, ⟨x, rfl, hg x q2⟩, by show n + 1 + 1 + (2 * nn + 2) ≤ 1099511627776; omega, fun z hz => ?_⟩
            walk_at "fr"
            refine ⟨_, _, _, rfl, rfl, lim_cat (cutD_len hl _ _) (m := 1) (Nat.le_refl _), ?_⟩
            walk_at "fr"
            refine ⟨_, _, _, rfl, rfl, lim_cat (n := 9) (m := 8) (by rw [List.length_append]; exact Nat.add_le_add (cutD_len hl _ _) (Nat.le_refl 1)) (cutD_len hl _ _), ?_⟩
            have hz' : SzA (bt nn + 2 + 0) (nn + 2) [z] := SzA.cons hz .nil
            have q := Sz.tup (((hA2.cut none (some at')).app hz').app (hA2.cut (some (at' + 1)) none))
            exact ⟨_, rfl, q.up (by show _ ≤ 2 * Bn (nn + 1) + bt nn + 1100; omega) (by omega), by omega⟩
          · walk_at "fr"
            refine de_goD G2 R (r.mono (rm _ (by decide))) pass0 IsK.own ?_
            walk_at "fr"
            refine ⟨_, _, _, rfl, rfl, lim_cat (cutD_len hl _ _) (cutD_len hl _ _), ?_⟩
            walk_at "fr"
            refine ⟨_, _, _, rfl, rfl, lim_cat (cutD_len hl _ _) (cutD_len hl _ _), ?_⟩
            walk_at "fr"
            refine ⟨_, rfl, Nat.succ_le_succ (Nat.zero_le _), ?_⟩
            walk_at "fr"
            refine ⟨_, _, _, rfl, rfl, lim_cat hl (cutD_len hl _ _), ?_⟩
            walk_at "fr"
            refine ⟨_, _, rfl, rfl, ⟨_, _, rfl, rfl, Nat.le_of_ble_eq_true rfl, Nat.le_of_ble_eq_true rfl⟩, by show n + 1 + 1 + 1 ≤ 1099511627776; omega, ?_⟩
            rintro z ⟨d', l', e1, e2, hz⟩
            cases e1
            cases e2
            refine ⟨z, rfl, ?_, by omega⟩
            have up : ∀ z, Sz (2 * Bn (nn + 1) + 3) (nn + 2 + 1) z → Sz (bt (nn + 1)) (nn + 1 + 2) z := fun z hz => hz.up (by show _ ≤ 2 * Bn (nn + 1) + bt nn + 1100; omega) (by omega)
            simp only [List.mem_cons, List.not_mem_nil, or_false] at hz
            rcases hz with rfl | rfl | rfl | rfl | rfl
            · exact up _ ((Sz.tup ((hA2.cut _ _).app (hA2.cut _ _))).up (by omega) (Nat.le_refl _))
            · exact up _ ((Sz.tup ((hA2.cut _ _).app (hA2.cut _ _))).up (by omega) (Nat.le_refl _))
            · exact up _ ((Sz.lst hA2).up (by omega) (Nat.le_refl _))
            · exact up _ ((Sz.tup hA2.rev).up (by omega) (Nat.le_refl _))
            · exact up _ ((Sz.tup (hA2.app (hA2.cut _ _))).up (by omega) (Nat.le_refl _))
end
end K1

set_option Elab.async false
set_option linter.all false
set_option maxRecDepth 100000
set_option maxHeartbeats 4000000
namespace K1
open PySem PySem.Spec PyProof.Rows L2 Fw
local macro_rules | `(tactic| walk_at "fE") => `(tactic| first
  | ((with_reducible show dE _ _ _ _ (Expr.Name _ _) _); first | refine de_var ?_ | refine de_globS (by assumption) ?_ | refine de_globI (by assumption) ?_)
  | ((with_reducible show dE _ _ _ _ (Expr.Constant _ _ _) _); first | refine de_str ?_ | refine de_int ?_ | refine de_bool ?_ | refine de_none ?_)
  | ((with_reducible show dE _ _ _ _ (Expr.BoolOp _ _ _) _); first | refine de_one ?_ | refine de_and ?_ | refine de_or ?_)
  | ((with_reducible show dE _ _ _ _ (Expr.UnaryOp _ _ _) _); first | refine de_not ?_ | refine de_neg ?_)
  | ((with_reducible show dE _ _ _ _ (Expr.Compare _ _ _ _) _); first | refine de_cmp (op_eqDD (by first | assumption | exact Rm.blk (by assumption))) ?_ | refine de_cmp (op_neDD (by first | assumption | exact Rm.blk (by assumption))) ?_ | refine de_cmp op_ltD ?_ | refine de_cmp op_leD ?_ | refine de_cmp op_gtD ?_ | refine de_cmp op_geD ?_ | refine de_cmp (op_inD (by first | assumption | exact Rm.blk (by assumption))) ?_ | refine de_cmp (op_ninD (by first | assumption | exact Rm.blk (by assumption))) ?_ | refine de_cmp op_isD ?_ | refine de_cmp op_isntD ?_ | refine de_chain op_leD op_leD ?_ | refine de_chain op_leD op_ltD ?_)
  | ((with_reducible show dE _ _ _ _ (Expr.BinOp _ _ _ _) _); first | refine de_bin op_addD ?_ | refine de_bin op_subD ?_ | refine de_bin op_mulD ?_ | refine de_bin op_modD ?_ | refine de_bin op_divD ?_ | refine de_bin op_powD ?_)
  | ((with_reducible show dE _ _ _ _ (Expr.Tuple _ _ _) _); refine de_tup ?_)
  | ((with_reducible show dE _ _ _ _ (Expr.List _ _) _); refine de_lst ?_)
  | ((with_reducible show dE _ _ _ _ (Expr.IfExp _ _ _ _) _); refine de_if ?_)
  | ((with_reducible show dE _ _ _ _ (Expr.Subscript _ _ _) _); first | refine de_slice sl_D ?_ | refine de_revT ?_ | refine de_ix ix_D ?_)
  | ((with_reducible show dE _ _ _ _ (Expr.Dict _ _ _) _); first | refine de_dic0 ?_ | refine de_dicC ?_)
  | ((with_reducible show dE _ _ _ _ (Expr.Call (Expr.Attribute _ _ _) _ _ _) _); first | refine de_upper ?_ | refine de_join ?_)
  | ((with_reducible show dE _ _ _ _ (Expr.Call (Expr.Name _ _) _ _ _) _); first | refine de_isiS (by assumption) (by assumption) ?_ | refine de_isiI (by assumption) (by assumption) ?_ | refine de_isiB (by assumption) (by assumption) ?_ | refine de_isiT (by assumption) (by assumption) ?_ | refine de_isiL (by assumption) (by assumption) ?_ | refine de_len (by assumption) ?_ | refine de_strC (by assumption) ?_ | refine de_listC (by assumption) ?_ | refine de_tupleC (by assumption) ?_ | refine de_repr (by first | assumption | exact Rm.blk (by assumption)) (by assumption) ?_ | refine de_all (by first | assumption | exact Rm.blk (by assumption)) (by assumption) ?_ | refine de_go (by assumption) (by first | assumption | exact Rm.blk (by assumption)) (by first | assumption | exact Room.mono (by assumption) (by decide)) pass0 ?_ | refine de_go0 (by assumption) (by first | assumption | exact Rm.blk (by assumption)) (by first | assumption | exact Room.mono (by assumption) (by decide)) pass0 ?_))
local macro_rules | `(tactic| walk_at "fT") => `(tactic| first
  | ((with_reducible show dT _ _ _ _ (Expr.UnaryOp .Not _ _) _); refine dt_not ?_)
  | ((with_reducible show dT _ _ _ _ (Expr.BoolOp _ _ _) _); first | refine dt_w (dw_and ?_) | refine dt_w (dw_or ?_))
  | ((with_reducible show dW _ _ _ _ (Expr.BoolOp _ _ _) _); first | refine dw_and1 ?_ | refine dw_or1 ?_ | refine dw_and ?_ | refine dw_or ?_)
  | ((with_reducible show dT _ _ _ _ (Expr.Compare _ _ _ _) _); first | refine dt_cmp (op_eqDD (by first | assumption | exact Rm.blk (by assumption))) ?_ | refine dt_cmp (op_neDD (by first | assumption | exact Rm.blk (by assumption))) ?_ | refine dt_cmp op_ltD ?_ | refine dt_cmp op_leD ?_ | refine dt_cmp op_gtD ?_ | refine dt_cmp op_geD ?_ | refine dt_cmp (op_inD (by first | assumption | exact Rm.blk (by assumption))) ?_ | refine dt_cmp (op_ninD (by first | assumption | exact Rm.blk (by assumption))) ?_ | refine dt_cmp op_isD ?_ | refine dt_cmp op_isntD ?_ | refine dt_chain op_leD op_leD ?_ | refine dt_chain op_leD op_ltD ?_)
  | ((with_reducible show dT _ _ _ _ _ _); refine dt_val ?_))
local macro_rules | `(tactic| walk_at "fs") => `(tactic| first
  | walk_at "fE" | walk_at "fT" | ((with_reducible show dA _ _ _ _ (_ :: _) _); refine da_cons ?_) | ((with_reducible show dA _ _ _ _ [] _); refine da_nil ?_)
  | ((with_reducible show dS _ _ _ _ _ _); first | refine ds_ret ?_ | refine ds_if ?_)
  | ((with_reducible show dK _ _ _ _ (_ :: _) _); refine dk_cons ?_) | ((with_reducible show dK _ _ _ _ [] _); refine dk_nil ?_)
  | ((with_reducible show dB _ _ _ _ [] _); refine db_nil ?_; dsimp only) | ((with_reducible show dB _ _ _ _ _ _); refine db_cons ?_))
local macro_rules | `(tactic| walk_at "fo") => `(tactic| first | ((with_reducible show dO _ _ _ _ none _); refine dO_none ?_) | ((with_reducible show dO _ _ _ _ (some _) _); refine dO_some ?_))
local macro_rules | `(tactic| walk_at "fx") => `(tactic| (intro hc; exfalso; first | exact Bool.noConfusion (show true = false from hc) | exact Bool.noConfusion (show false = true from hc)))
local macro_rules | `(tactic| walk_at "fm") => `(tactic| first
  | ((with_reducible show Op2 _ _ _ _); first | refine ⟨_, _, _, rfl, rfl, eqD_str _ _, ?_⟩ | refine ⟨_, _, _, rfl, rfl, lim_ok (by omega), ?_⟩ | refine ⟨_, _, _, rfl, rfl, rfl, ?_⟩)
  | ((with_reducible show IsB _ _); refine ⟨_, rfl, ?_⟩)
  | ((with_reducible show AllD _ _); refine ⟨_, rfl, ?_⟩)
  | ((with_reducible show _ ≤ sizeLine ∧ _); refine ⟨Nat.le_of_ble_eq_true rfl, ?_⟩)
  | ((with_reducible show ∃ d, _ = Vl.d d ∧ _); refine ⟨_, rfl, ?_⟩)
  | ((with_reducible show ∃ d z, _ = Vl.d d ∧ lenD _ = some z ∧ _); first | refine ⟨_, _, rfl, lim_ok (by omega), ?_⟩ | refine ⟨_, _, rfl, rfl, ?_⟩)
  | ((with_reducible show ∃ i : Int, _ = Vl.d (.int i) ∧ _); refine ⟨_, rfl, ?_⟩)
  | ((with_reducible show ∃ z : Str, _ = Vl.d (.str z) ∧ z.length ≤ 100000 ∧ _); refine ⟨_, rfl, by omega, ?_⟩)
  | ((with_reducible show ∃ d z, _ = Vl.d d ∧ slD d _ _ = some z ∧ _); first | refine ⟨_, _, rfl, lim_ok (by omega), ?_⟩ | refine ⟨_, _, rfl, rfl, ?_⟩)
  | ((with_reducible show ∃ d z, _ = Vl.d d ∧ listC _ = some z ∧ _); refine ⟨_, _, rfl, rfl, ?_⟩)
  | ((with_reducible show ∃ d z, _ = Vl.d d ∧ tupleC _ = some z ∧ _); refine ⟨_, _, rfl, rfl, ?_⟩)
  | ((with_reducible show ∃ ds, itemsD _ = some ds ∧ _); refine ⟨_, rfl, ?_⟩)
  | ((with_reducible show (_ = true → _) ∧ (_ = false → _)); first | (refine ⟨?_, (by walk_at "fx")⟩; intro hj; clear hj) | (refine ⟨(by walk_at "fx"), ?_⟩; intro hj; clear hj))
  | ((with_reducible show (_ = false → _) ∧ (_ = true → _)); first | (refine ⟨?_, (by walk_at "fx")⟩; intro hj; clear hj) | (refine ⟨(by walk_at "fx"), ?_⟩; intro hj; clear hj)))
local macro_rules | `(tactic| walk_at "fr") => `(tactic| repeat (first | walk_at "fs" | walk_at "fo" | walk_at "fm"))

def gdB : Nat → PyData → Bool
  | 0, d => asB 30 d || inB' (-999) 999 d || isBl d
  | n + 1, .tuple ds => ds.all (gdB n) && decide (ds.length ≤ 8)
  | _ + 1, d => asB 30 d || inB' (-999) 999 d || isBl d
theorem gd_flat {n : Nat} {d : PyData} (h : (asB 30 d || inB' (-999) 999 d || isBl d) = true) : Gd n d := by
  rcases Bool.or_eq_true_iff.mp h with h | h
  · rcases Bool.or_eq_true_iff.mp h with h | h
    · obtain ⟨y, rfl, hy⟩ := asB_of h
      exact .str hy
    · obtain ⟨i, rfl, i1, i2⟩ := inB_mem (l := [d]) (lo := -999) (hi := 999) (by simpa using h) List.mem_cons_self
      exact .int (by omega)
  · cases d with
    | bool b => exact .bl b
    | _ => exact Bool.noConfusion (show false = true from h)
theorem gdB_of : ∀ {n : Nat} {d : PyData}, gdB n d = true → Gd n d
  | 0, d, h => gd_flat (by simpa only [gdB] using h)
  | n + 1, .tuple ds, h => by
    obtain ⟨h1, h2⟩ := Bool.and_eq_true_iff.mp (show (ds.all (gdB n) && decide (ds.length ≤ 8)) = true by simpa only [gdB] using h)
    exact .tup (fun d hd => gdB_of (List.all_eq_true.mp h1 d hd)) (of_decide_eq_true h2)
  | n + 1, .none, h => gd_flat (by simpa only [gdB] using h)
  | n + 1, .bool _, h => gd_flat (by simpa only [gdB] using h)
  | n + 1, .int _, h => gd_flat (by simpa only [gdB] using h)
  | n + 1, .str _, h => gd_flat (by simpa only [gdB] using h)
  | n + 1, .list _, h => gd_flat (by simpa only [gdB] using h)
  | n + 1, .dict _, h => gd_flat (by simpa only [gdB] using h)
theorem gdB_mem {n : Nat} {l : List PyData} {d : PyData} (h : l.all (gdB n) = true) (hd : d ∈ l) : Gd n d := gdB_of (List.all_eq_true.mp h d hd)
theorem szB_mem {N k : Nat} {l : List PyData} {d : PyData} (h : l.all (szB N k) = true) (hd : d ∈ l) : Sz N k d := szB_of (List.all_eq_true.mp h d hd)
theorem ints_len (n : Nat) : (intsD n).length = n := by simp [intsD]
theorem ints_get {n k : Nat} {d : PyData} (h : (intsD n)[k]? = some d) : k < n ∧ d = .int k := by
  have hk : k < n := by
    have := (List.getElem?_eq_some_iff.mp h).1
    rwa [ints_len] at this
  unfold intsD at h
  rw [List.getElem?_map, List.getElem?_range hk] at h
  exact ⟨hk, (Option.some.inj h).symm⟩
section
variable {P : Program} {w : World} {K : PySem.W.Frag} {mg : Str → Option Value} {base : Heap}
abbrev oVals : List PyData → PyData → Prop := fun _ z => ∃ l, z = .list l ∧ l.length ≤ 60 ∧ ∀ d ∈ l, Nc 100000 d
theorem sc_law_values : FnScope ["_law_deck_here", "_law_words", "_law_found", "_law_rows", "_law_k", "_law_row"] ["_law_deck_here"] (defScope s_law_values) := ⟨rfl, rfl, rfl, by decide +kernel, rfl, by decide +kernel, by decide +kernel⟩
theorem ok_law_values (F : Src K mg "_law_values" s_law_values) (hs : base.get? sysModules ≠ none) (G2 : Dfn P w K mg base CX0 2 "_law_pick" s_law_pick ["_law_deck_here", "_law_items"] (spK T1 K pPick oPick 1))
    (G3 : Dfn P w K mg base CX0 3 "_law_string" s_law_string ["_law_deck_here"] (spK T1 K (fun ds => ds = []) oStr 20))
    (G4 : Dfn P w K mg base CX0 (4 + 2) "_law_bent" s_law_bent ["_law_deck_here", "_law_it"] (spK T1 K (pG 2) (oSz (bt 2) (2 + 2)) (2 * 2 + 2))) (m1 : mg "range" = none) (m2 : mg "tuple" = none) (m3 : mg "list" = none) :
    Dfn P w K mg base CX0 7 "_law_values" s_law_values ["_law_deck_here"] (spK T1 K (fun ds => ds = []) oVals 141) := by
  refine F.deck sc_law_values (fun ds h => by rw [h]; rfl) (fun _ _ _ _ _ _ us hl => match us, hl with | [_], _ => rfl) hs fun fa cd A fr s H E M t sub n ds R r hp hn => ?_
  subst hp
  have hn : n + 141 ≤ 1099511627776 := hn
  refine db_cons (ds_set (de_lc (Lc.deck (fun z => ∃ y, z = .str y ∧ As 12 y) 1 ?_) sc_law_values.nd (blkOk_by (by rfl))) sc_law_values.nd)
  refine di_range m1 (de_int ⟨5, rfl, by decide, by decide +kernel, fun D k d hk b => ?_, fun ws hl hw => ?_⟩)
  · obtain ⟨hk5, rfl⟩ := ints_get hk
    replace hk5 : k < 5 := hk5
    refine de_goD G2 (Rm.blk R) (r.mono (by decide)) pass0 (IsK.own.plus D) ?_
    walk_at "fr"
    refine ⟨_, _, rfl, rfl, ⟨_, _, rfl, rfl, Nat.le_of_ble_eq_true rfl, Nat.le_of_ble_eq_true rfl⟩, by show n + k * 1 + 1 ≤ 1099511627776; omega, ?_⟩
    rintro z ⟨d, l, e1, e2, hz⟩
    cases e1
    cases e2
    exact ⟨z, rfl, asB_mem (n := 12) (by decide +kernel) hz, rfl⟩
  have hl : ws.length = 5 := hl
  show dB _ _ _ (n + 5 * 1) _ _
  refine db_cons (ds_set (de_imp (Ψ := fun x s' => ∃ l, x = .d (.list l) ∧ l.length ≤ 15 ∧ (∀ z ∈ l, Sz 1000 4 z) ∧ n + 5 = s') ?_ fun x s' ⟨l, hx, l1, l2, hs'⟩ => ?_) sc_law_values.nd)
  · walk_at "fr"
    exact ⟨_, rfl, Nat.le_of_ble_eq_true rfl, fun z hz => szB_mem (by decide +kernel) hz, rfl⟩
  subst hx hs'
  refine db_cons (ds_set (de_imp (Ψ := fun x s' => ∃ l, x = .d (.list l) ∧ l.length ≤ 19 ∧ (∀ z ∈ l, Sz 1000 4 z) ∧ n + 85 = s') ?_ fun x s' ⟨l, hx, l1, l2, hs'⟩ => ?_) sc_law_values.nd)
  · refine de_bin op_addD (de_var (de_lc (Lc.deck (fun z => oStr [] z) 20 ?_) sc_law_values.nd (blkOk_by (by rfl))))
    refine di_range m1 (de_int ⟨4, rfl, by decide, by decide +kernel, fun D k d hk b => ?_, fun ss hl' hw' => ?_⟩)
    · obtain ⟨hk4, rfl⟩ := ints_get hk
      replace hk4 : k < 4 := hk4
      refine de_goD G3 (Rm.blk R) (r.mono (by decide)) pass0 (IsK.own.plus D) ?_
      walk_at "fr"
      exact ⟨_, _, rfl, rfl, rfl, by show n + 5 + k * 20 + 20 ≤ 1099511627776; omega, fun z hz => ⟨z, rfl, hz, rfl⟩⟩
    · have hl' : ss.length = 4 := hl'
      refine ⟨_, _, _, rfl, rfl, lim_cat l1 (Nat.le_of_eq hl'), _, rfl, by rw [List.length_append]; omega, fun z hz => ?_, rfl⟩
      rcases List.mem_append.mp hz with q | q
      · exact l2 z q
      · obtain ⟨y, rfl, hy⟩ := hw' z q
        exact hy.sz.up (by decide) (by decide)
  subst hx hs'
  refine db_cons (ds_set (de_imp (Ψ := fun x s' => ∃ l, x = .d (.list l) ∧ l.length = 12 ∧ (∀ z ∈ l, isTu z = true ∧ Gd 2 z) ∧ n + 85 = s') ?_ fun x s' ⟨rs, hx, r1, r2, hs'⟩ => ?_) sc_law_values.nd)
  · refine de_bin op_addD (de_lc (Lc.deck (fun z => isTu z = true ∧ Gd 2 z) 0 ?_) sc_law_values.nd (blkOk_by (by rfl)))
    refine di_range m1 (de_int ⟨6, rfl, by decide, by decide +kernel, fun D k d hk b => ?_, fun ts hl' hw' => ?_⟩)
    · obtain ⟨hk6, rfl⟩ := ints_get hk
      refine de_tupleC m2 (de_slice sl_D (de_var (dO_none (dO_some (de_var ⟨_, rfl, _, _, rfl, rfl, _, _, rfl, rfl, _, rfl, ?_, rfl⟩)))))
      refine ⟨rfl, .tup (fun d hd => ?_) (Nat.le_trans (cutD_len (Nat.le_of_eq hl) _ _) (by decide))⟩
      have hd : d ∈ ws := by
        unfold Fw.cutD at hd
        exact List.mem_of_mem_drop (List.mem_of_mem_take hd)
      obtain ⟨y, rfl, hy⟩ := hw d hd
      exact .str (hy.up (by decide))
    · have hl' : ts.length = 6 := hl'
      walk_at "fr"
      refine ⟨_, _, _, rfl, rfl, lim_cat (Nat.le_of_eq hl') (m := 6) (Nat.le_of_ble_eq_true rfl), _, rfl, ?_, fun z hz => ?_, rfl⟩
      · rw [List.length_append, hl']
        rfl
      · rcases List.mem_append.mp hz with q | q
        · exact hw' z q
        · exact ⟨List.all_eq_true.mp (show List.all _ isTu = true by decide +kernel) z q, gdB_mem (by decide +kernel) q⟩
  subst hx hs'
  refine db_cons (ds_ret ?_)
  refine de_bin op_addD (de_bin op_addD (de_bin op_addD (de_var (de_var ⟨.list l, .list rs, _, rfl, rfl, lim_cat l1 (Nat.le_of_eq r1), ?_⟩))))
  have hB : ∀ z, Gd 2 z → Nc 100000 z := fun z hz => hz.sz.nc (by decide) (by decide)
  have hlr : (l ++ rs).length ≤ 31 := by rw [List.length_append]; omega
  refine de_lc (Lc.deck (fun z => Nc 100000 z) 0 ?_) sc_law_values.nd (blkOk_by (by rfl))
  refine di_any (de_slice sl_D (de_var (dO_none (dO_some (de_int ⟨3, rfl, .list rs, _, rfl, rfl, _, rfl, ?_, fun D k d hk b => ?_, fun ls hl' hw' => ?_⟩)))))
  · exact Nat.lt_of_le_of_lt (cutD_len (Nat.le_of_eq r1) _ _) (by decide +kernel)
  · have hd : d ∈ rs := by
      have hd := List.mem_of_getElem? hk
      unfold Fw.cutD at hd
      exact List.mem_of_mem_drop (List.mem_of_mem_take hd)
    obtain ⟨ht, hg⟩ := r2 d hd
    cases d with
    | tuple ds =>
      refine de_listC m3 (de_var ⟨_, _, rfl, rfl, _, rfl, (Sz.lst (hg.sz.tupE)).nc (by decide) (by decide), rfl⟩)
    | _ => exact Bool.noConfusion (show false = true from ht)
  · have hl3 : ls.length ≤ 12 := by rw [hl']; exact cutD_len (Nat.le_of_eq r1) _ _
    have hl4 : ((l ++ rs) ++ ls).length ≤ 43 := by rw [List.length_append]; omega
    refine ⟨.list (l ++ rs), .list ls, _, rfl, rfl, lim_cat hlr hl3, ?_⟩
    refine de_lc (Lc.deck (fun z => Nc 100000 z) 7 ?_) sc_law_values.nd (blkOk_by (by rfl))
    refine di_range m1 (de_int ⟨8, rfl, by decide, by decide +kernel, fun D k d hk b => ?_, fun bs hl5 hw5 => ?_⟩)
    · obtain ⟨hk8, rfl⟩ := ints_get hk
      replace hk8 : k < 8 := hk8
      have e0 : n + 85 + (Fw.cutD rs none (some 3)).length * 0 = n + 85 := by rw [Nat.mul_zero, Nat.add_zero]
      rw [e0]
      refine de_goD G4 (Rm.blk R) (r.mono (by decide)) pass0 (IsK.own.plus D) ?_
      refine da_cons (de_var (da_cons (de_goD G2 (Rm.blk R) (r.mono (by decide)) pass0 (IsK.own.plus D) ?_)))
      refine da_cons (de_var (da_cons (de_var (da_nil ⟨_, _, rfl, rfl, ⟨.list rs, rs, rfl, rfl, by omega, by omega⟩, by show n + 85 + k * 7 + 1 ≤ 1099511627776; omega, ?_⟩))))
      rintro z ⟨d, l', e1, e2, hz⟩
      cases e1
      cases e2
      refine da_nil ⟨_, _, rfl, rfl, ⟨z, rfl, (r2 z hz).2⟩, by show n + 85 + k * 7 + 1 + 6 ≤ 1099511627776; omega, fun y hy => ⟨y, rfl, ?_, rfl⟩⟩
      exact hy.nc (by decide) (by decide)
    · have hl5 : bs.length = 8 := hl5
      refine ⟨.list ((l ++ rs) ++ ls), .list bs, _, rfl, rfl, lim_cat hl4 (Nat.le_of_eq hl5), _, rfl, ⟨_, rfl, ?_, fun z hz => ?_⟩, ?_⟩
      · rw [List.length_append]
        omega
      · rcases List.mem_append.mp hz with q | q
        · rcases List.mem_append.mp q with q | q
          · rcases List.mem_append.mp q with q | q
            · exact (l2 z q).nc (by decide) (by decide)
            · exact hB z (r2 z q).2
          · exact hw' z q
        · exact hw5 z q
      · show n + 85 + (Fw.cutD rs none (some 3)).length * 0 + 8 * 7 ≤ n + 141
        rw [Nat.mul_zero]
        omega
end
end K1

set_option Elab.async false
set_option linter.all false
set_option maxRecDepth 100000
set_option maxHeartbeats 4000000
set_option pp.maxSteps 150
namespace K1
open PySem PySem.Spec PyProof.Rows L2 Fw
local macro_rules | `(tactic| walk_at "fE") => `(tactic| first
  | ((with_reducible show dE _ _ _ _ (Expr.Name _ _) _); first | refine de_var ?_ | refine de_globS (by assumption) ?_ | refine de_globI (by assumption) ?_)
  | ((with_reducible show dE _ _ _ _ (Expr.Constant _ _ _) _); first | refine de_str ?_ | refine de_int ?_ | refine de_bool ?_ | refine de_none ?_)
  | ((with_reducible show dE _ _ _ _ (Expr.BoolOp _ _ _) _); first | refine de_one ?_ | refine de_and ?_ | refine de_or ?_)
  | ((with_reducible show dE _ _ _ _ (Expr.UnaryOp _ _ _) _); first | refine de_not ?_ | refine de_neg ?_)
  | ((with_reducible show dE _ _ _ _ (Expr.Compare _ _ _ _) _); first | refine de_cmp (op_eqDD (by first | assumption | exact Rm.blk (by assumption))) ?_ | refine de_cmp (op_neDD (by first | assumption | exact Rm.blk (by assumption))) ?_ | refine de_cmp op_ltD ?_ | refine de_cmp op_leD ?_ | refine de_cmp op_gtD ?_ | refine de_cmp op_geD ?_ | refine de_cmp (op_inD (by first | assumption | exact Rm.blk (by assumption))) ?_ | refine de_cmp (op_ninD (by first | assumption | exact Rm.blk (by assumption))) ?_ | refine de_cmp op_isD ?_ | refine de_cmp op_isntD ?_ | refine de_chain op_leD op_leD ?_ | refine de_chain op_leD op_ltD ?_)
  | ((with_reducible show dE _ _ _ _ (Expr.BinOp _ _ _ _) _); first | refine de_bin op_addD ?_ | refine de_bin op_subD ?_ | refine de_bin op_mulD ?_ | refine de_bin op_modD ?_ | refine de_bin op_divD ?_ | refine de_bin op_powD ?_)
  | ((with_reducible show dE _ _ _ _ (Expr.Tuple _ _ _) _); refine de_tup ?_)
  | ((with_reducible show dE _ _ _ _ (Expr.List _ _) _); refine de_lst ?_)
  | ((with_reducible show dE _ _ _ _ (Expr.IfExp _ _ _ _) _); refine de_if ?_)
  | ((with_reducible show dE _ _ _ _ (Expr.Subscript _ _ _) _); first | refine de_slice sl_D ?_ | refine de_revT ?_ | refine de_ix ix_D ?_)
  | ((with_reducible show dE _ _ _ _ (Expr.Dict _ _ _) _); first | refine de_dic0 ?_ | refine de_dicC ?_)
  | ((with_reducible show dE _ _ _ _ (Expr.Call (Expr.Attribute _ _ _) _ _ _) _); first | refine de_upper ?_ | refine de_join ?_)
  | ((with_reducible show dE _ _ _ _ (Expr.Call (Expr.Name _ _) _ _ _) _); first | refine de_isiS (by assumption) (by assumption) ?_ | refine de_isiI (by assumption) (by assumption) ?_ | refine de_isiB (by assumption) (by assumption) ?_ | refine de_isiT (by assumption) (by assumption) ?_ | refine de_isiL (by assumption) (by assumption) ?_ | refine de_len (by assumption) ?_ | refine de_strC (by assumption) ?_ | refine de_listC (by assumption) ?_ | refine de_tupleC (by assumption) ?_ | refine de_repr (by first | assumption | exact Rm.blk (by assumption)) (by assumption) ?_ | refine de_all (by first | assumption | exact Rm.blk (by assumption)) (by assumption) ?_ | refine de_go (by assumption) (by first | assumption | exact Rm.blk (by assumption)) (by first | assumption | exact Room.mono (by assumption) (by decide)) pass0 ?_ | refine de_go0 (by assumption) (by first | assumption | exact Rm.blk (by assumption)) (by first | assumption | exact Room.mono (by assumption) (by decide)) pass0 ?_))
local macro_rules | `(tactic| walk_at "fT") => `(tactic| first
  | ((with_reducible show dT _ _ _ _ (Expr.UnaryOp .Not _ _) _); refine dt_not ?_)
  | ((with_reducible show dT _ _ _ _ (Expr.BoolOp _ _ _) _); first | refine dt_w (dw_and ?_) | refine dt_w (dw_or ?_))
  | ((with_reducible show dW _ _ _ _ (Expr.BoolOp _ _ _) _); first | refine dw_and1 ?_ | refine dw_or1 ?_ | refine dw_and ?_ | refine dw_or ?_)
  | ((with_reducible show dT _ _ _ _ (Expr.Compare _ _ _ _) _); first | refine dt_cmp (op_eqDD (by first | assumption | exact Rm.blk (by assumption))) ?_ | refine dt_cmp (op_neDD (by first | assumption | exact Rm.blk (by assumption))) ?_ | refine dt_cmp op_ltD ?_ | refine dt_cmp op_leD ?_ | refine dt_cmp op_gtD ?_ | refine dt_cmp op_geD ?_ | refine dt_cmp (op_inD (by first | assumption | exact Rm.blk (by assumption))) ?_ | refine dt_cmp (op_ninD (by first | assumption | exact Rm.blk (by assumption))) ?_ | refine dt_cmp op_isD ?_ | refine dt_cmp op_isntD ?_ | refine dt_chain op_leD op_leD ?_ | refine dt_chain op_leD op_ltD ?_)
  | ((with_reducible show dT _ _ _ _ _ _); refine dt_val ?_))
local macro_rules | `(tactic| walk_at "fs") => `(tactic| first
  | walk_at "fE" | walk_at "fT" | ((with_reducible show dA _ _ _ _ (_ :: _) _); refine da_cons ?_) | ((with_reducible show dA _ _ _ _ [] _); refine da_nil ?_)
  | ((with_reducible show dS _ _ _ _ _ _); first | refine ds_ret ?_ | refine ds_if ?_)
  | ((with_reducible show dK _ _ _ _ (_ :: _) _); refine dk_cons ?_) | ((with_reducible show dK _ _ _ _ [] _); refine dk_nil ?_)
  | ((with_reducible show dB _ _ _ _ [] _); refine db_nil ?_; dsimp only) | ((with_reducible show dB _ _ _ _ _ _); refine db_cons ?_))
local macro_rules | `(tactic| walk_at "fo") => `(tactic| first | ((with_reducible show dO _ _ _ _ none _); refine dO_none ?_) | ((with_reducible show dO _ _ _ _ (some _) _); refine dO_some ?_))
local macro_rules | `(tactic| walk_at "fx") => `(tactic| (intro hc; exfalso; first | exact Bool.noConfusion (show true = false from hc) | exact Bool.noConfusion (show false = true from hc)))
local macro_rules | `(tactic| walk_at "fm") => `(tactic| first
  | ((with_reducible show Op2 _ _ _ _); first | refine ⟨_, _, _, rfl, rfl, eqD_str _ _, ?_⟩ | refine ⟨_, _, _, rfl, rfl, lim_ok (by omega), ?_⟩ | refine ⟨_, _, _, rfl, rfl, rfl, ?_⟩)
  | ((with_reducible show IsB _ _); refine ⟨_, rfl, ?_⟩)
  | ((with_reducible show AllD _ _); refine ⟨_, rfl, ?_⟩)
  | ((with_reducible show _ ≤ sizeLine ∧ _); refine ⟨Nat.le_of_ble_eq_true rfl, ?_⟩)
  | ((with_reducible show ∃ d, _ = Vl.d d ∧ _); refine ⟨_, rfl, ?_⟩)
  | ((with_reducible show ∃ d z, _ = Vl.d d ∧ lenD _ = some z ∧ _); first | refine ⟨_, _, rfl, lim_ok (by omega), ?_⟩ | refine ⟨_, _, rfl, rfl, ?_⟩)
  | ((with_reducible show ∃ i : Int, _ = Vl.d (.int i) ∧ _); refine ⟨_, rfl, ?_⟩)
  | ((with_reducible show ∃ z : Str, _ = Vl.d (.str z) ∧ z.length ≤ 100000 ∧ _); refine ⟨_, rfl, by omega, ?_⟩)
  | ((with_reducible show ∃ d z, _ = Vl.d d ∧ slD d _ _ = some z ∧ _); first | refine ⟨_, _, rfl, lim_ok (by omega), ?_⟩ | refine ⟨_, _, rfl, rfl, ?_⟩)
  | ((with_reducible show ∃ d z, _ = Vl.d d ∧ listC _ = some z ∧ _); refine ⟨_, _, rfl, rfl, ?_⟩)
  | ((with_reducible show ∃ d z, _ = Vl.d d ∧ tupleC _ = some z ∧ _); refine ⟨_, _, rfl, rfl, ?_⟩)
  | ((with_reducible show ∃ ds, itemsD _ = some ds ∧ _); refine ⟨_, rfl, ?_⟩)
  | ((with_reducible show (_ = true → _) ∧ (_ = false → _)); first | (refine ⟨?_, (by walk_at "fx")⟩; intro hj; clear hj) | (refine ⟨(by walk_at "fx"), ?_⟩; intro hj; clear hj))
  | ((with_reducible show (_ = false → _) ∧ (_ = true → _)); first | (refine ⟨?_, (by walk_at "fx")⟩; intro hj; clear hj) | (refine ⟨(by walk_at "fx"), ?_⟩; intro hj; clear hj)))
local macro_rules | `(tactic| walk_at "fr") => `(tactic| repeat (first | walk_at "fs" | walk_at "fo" | walk_at "fm"))

section
variable {S : Type} {X : Cx} {W : Wd S} {ρ : Rho} {s : S} {Φ : Vl → S → Prop} {e : Expr} {pos p2 : Pos}
theorem de_sliceV {lo hi : Option Expr} (h : dE X W ρ s e fun x s1 => dO X W ρ s1 lo fun l s2 => dO X W ρ s2 hi fun u s3 => ∃ (a : Addr) (ds : List PyData), x = .v (.ref a) ∧ (∀ H, W.J s3 H → ∃ xs, SqL X.K H a xs ∧ DtA X.K W.M H (cutV xs l u) ds) ∧ Φ (.d (.list ds)) s3) :
    dE X W ρ s (.Subscript e (.Slice lo hi none p2) pos) Φ := .mk fun σ H Q en j kn =>
  toE (pe_slice sl_list pw (ow lo) (ow hi)) (h.go σ H _ en j fun v H1 x s1 e1 j1 v1 h1 => dO_run h1 (W.em e1 en) j1 fun l H2 s2 e2 j2 h2 => dO_run h2 (W.em (e1.trans e2) en) j2 fun u H3 s3 e3 j3 ⟨a, ds, hx, hJ, q⟩ => by
    subst hx
    cases (show v = .ref a from v1)
    obtain ⟨xs, q1, q2⟩ := hJ H3 j3.1
    exact ⟨a, xs, rfl, q1, fun p hp => kn _ _ (.d (.list ds)) s3 (((e1.trans e2).trans e3).trans (Ex.of (same_new hp))) (j3.same (same_new hp)) (.lst (j3.new hp) upd_same (q2.mono (Ex.of (same_new hp)))) q⟩)
end
theorem ints_V {K : PySem.W.Frag} {M : Addr → Prop} {H : Hp} : ∀ {vs : List V} {is : List Int}, DtA K M H vs (is.map PyData.int) → vs = is.map V.int
  | _, [], .nil => rfl
  | _, i :: is, .cons a b => by
    cases a
    rw [ints_V b]
    rfl
/-- a new deck of a script -/
def spNew (K : PySem.W.Frag) : Sp := fun vs H Q _ => ∃ (sc : Addr) (is : List Int), vs = [.ref sc] ∧ SqL K H sc (is.map V.int) ∧ ∀ a c H', Same H H' → H a = none → H c = none → T1.J (a, c) 0 H' → Q (.ref a) H'
theorem SqL.kept {K : PySem.W.Frag} {H H' : Hp} {sc : Addr} {xs : List V} (h : SqL K H sc xs) (k : ∀ o, H sc = some o → H' sc = some o) : SqL K H' sc xs := by
  rcases h with (h | ⟨o, h⟩) | h
  · exact .inl (.inl (k _ h))
  · exact .inl (.inr ⟨o, k _ h⟩)
  · exact .inr h
def Wsc (H : Hp) (sc : Addr) : Wd Unit where
  M := fun b => H b ≠ none
  C := fun b => b = sc ∧ H b ≠ none
  J := fun _ H' => ∀ o, H sc = some o → H' sc = some o
  sub := fun {b} e => e.2
  keep := fun {_ H1 H2} j k o e => k sc o ⟨rfl, by rw [e]; exact fun z => nomatch z⟩ (j o e)
section
variable {P : Program} {w : World} {K : PySem.W.Frag} {mg : Str → Option Value} {base : Heap}
theorem sc_law_deck : FnScope ["_law_script", "_law_cells", "_law_mixed", "_law_cell"] ["_law_script"] (defScope s_law_deck) := ⟨rfl, rfl, rfl, by decide +kernel, rfl, by decide +kernel, by decide +kernel⟩
def js63 (is : List Int) : List Int := (is.drop (HT.sIx is.length 0 none)).take (HT.sIx is.length is.length (some 63) - HT.sIx is.length 0 none)
theorem js63_len (is : List Int) : (js63 is).length ≤ 63 := by
  unfold js63
  rw [List.length_take]
  have : HT.sIx is.length is.length (some 63) = min 63 is.length := HT.sIx_nat _ _ 63
  omega
theorem ok_law_deck (F : Src K mg "_law_deck" s_law_deck) (hs : base.get? sysModules ≠ none) (m1 : mg "list" = none) : Dfn P w K mg base CX0 1 "_law_deck" s_law_deck ["_law_script"] (spNew K) := by
  refine F.ok sc_law_deck (fun vs H Q E ⟨sc, is, h, _⟩ => by rw [h]; rfl) (fun _ _ _ _ _ _ us hl => match us, hl with | [_], _ => rfl) fun fa cd A fr s vs H Q E g r h => ?_
  obtain ⟨sc, is, rfl, hsc, hq⟩ := h
  have R := Rm.of (X := (cxOf CX0 P w K mg base ["_law_script", "_law_cells", "_law_mixed", "_law_cell"] "_law_deck" (defScope s_law_deck) fa cd A fr s H E).nox) g r hs rfl
  have body : dB (cxOf CX0 P w K mg base ["_law_script", "_law_cells", "_law_mixed", "_law_cell"] "_law_deck" (defScope s_law_deck) fa cd A fr s H E).nox (Wsc H sc) [some (.v (.ref sc)), none, none, none] () (defBody s_law_deck)
      { nx := fun _ _ => False, rt := fun y _ => ∃ (m : Int), y = .d (.list [.list ((js63 is).reverse.map PyData.int), .int m, .int 0]) } := by
    refine db_cons (ds_par (de_listC m1 (de_sliceV (de_var (dO_none (dO_some (de_int ⟨63, rfl, sc, (js63 is).map PyData.int, rfl, fun H2 j2 => ⟨_, SqL.kept hsc j2, ?_⟩, _, _, rfl, rfl, de_int ?_⟩)))))) sc_law_deck.nd (hij := fun e => absurd (show (1 : Nat) = 2 from e) (by decide)))
    · unfold cutV js63
      rw [List.length_map, List.map_take, List.map_drop, ← List.map_drop, ← List.map_take, ← List.map_drop, ← List.map_take]
      exact da_ints _
    refine db_cons (ds_for (di_any (de_var ⟨_, rfl, fun k ρ1 _ => ∃ (m : Int) (vl : Option Vl), ρ1 = [some (.v (.ref sc)), some (.d (.list ((js63 is).map PyData.int))), some (.d (.int m)), vl], ⟨_, _, rfl⟩, fun k d ρ1 s2 hd hi => ?_, fun ρ1 s2 hi => ?_⟩)) PassesOwn.never sc_law_deck.nd)
    · obtain ⟨m, vl, rfl⟩ := hi
      obtain ⟨i, _, rfl⟩ := List.mem_map.mp (List.mem_of_getElem? hd)
      refine db_cons (ds_set ?_ sc_law_deck.nd)
      walk_at "fr"
      refine ⟨_, _, _, rfl, rfl, mul_small (by decide), ?_⟩
      walk_at "fr"
      exact ⟨_, _, rfl⟩
    · obtain ⟨m, vl, rfl⟩ := hi
      refine db_cons (ds_ret (de_lst (da_cons (de_revL (de_var ⟨_, rfl, ?_⟩)))))
      walk_at "fr"
      refine ⟨m, ?_⟩
      rw [List.map_reverse]
  refine ⟨wB _ (defBody s_law_deck), bw, body.go _ H _ ?_ ⟨fun _ e => e, fun b m => m⟩ ⟨fun _ _ _ _ _ _ _ z => z.elim, fun v H2 y s' e1 j1 v1 z => ?_, fun _ _ _ _ _ _ _ z => z.elim, fun _ _ _ _ _ _ _ z => z.elim⟩⟩
  · exact En.start (N := ["_law_script", "_law_cells", "_law_mixed", "_law_cell"]) (vs := [.ref sc]) (xs := [.v (.ref sc)]) rfl fun i x e => by
      cases i with
      | zero => cases e; exact ⟨_, rfl, rfl⟩
      | succ i => cases e
  · obtain ⟨m, hy⟩ := z
    subst hy
    have v1 : Dt K (fun b => H b ≠ none) H2 v (.list [.list ((js63 is).reverse.map PyData.int), .int m, .int 0]) := v1
    cases v1 with
    | @lst a _ _ n1 h1 d1 =>
      cases d1 with
      | cons d1 d2 =>
        cases d2 with
        | cons d2 d3 =>
          cases d3 with
          | cons d3 d4 =>
            cases d4
            cases d2
            cases d3
            cases d1 with
            | @lst c _ _ n2 h2 d5 =>
              have e5 := ints_V d5
              subst e5
              have na : H a = none := Classical.byContradiction fun z => n1 z
              have nc : H c = none := Classical.byContradiction fun z => n2 z
              refine hq a c H2 (fun b o hb => ?_) na nc ⟨fun e => ?_, (m, 0, (js63 is).reverse), ⟨h1, h2⟩, Int.le_refl _, Int.le_refl _, ?_⟩
              · by_cases hbs : b = sc
                · subst hbs
                  exact j1.1 o hb
                · exact e1 b o (fun z => hbs z.1) hb
              · have e : a = c := e
                rw [e, h2] at h1
                cases hr : (js63 is).reverse with
                | nil => rw [hr] at h1; cases h1
                | cons i l => rw [hr] at h1; cases h1
              · show (js63 is).reverse.length ≤ 63
                rw [List.length_reverse]
                exact js63_len is
end
end K1

set_option Elab.async false
set_option linter.all false
set_option maxRecDepth 100000
set_option maxHeartbeats 4000000
set_option pp.maxSteps 150
namespace K1
open PySem PySem.Spec PyProof.Rows L2 Fw
local macro_rules | `(tactic| walk_at "fE") => `(tactic| first
  | ((with_reducible show dE _ _ _ _ (Expr.Name _ _) _); first | refine de_var ?_ | refine de_globS (by assumption) ?_ | refine de_globI (by assumption) ?_)
  | ((with_reducible show dE _ _ _ _ (Expr.Constant _ _ _) _); first | refine de_str ?_ | refine de_int ?_ | refine de_bool ?_ | refine de_none ?_)
  | ((with_reducible show dE _ _ _ _ (Expr.BoolOp _ _ _) _); first | refine de_one ?_ | refine de_and ?_ | refine de_or ?_)
  | ((with_reducible show dE _ _ _ _ (Expr.UnaryOp _ _ _) _); first | refine de_not ?_ | refine de_neg ?_)
  | ((with_reducible show dE _ _ _ _ (Expr.Compare _ _ _ _) _); first | refine de_cmp (op_eqDD (by first | assumption | exact Rm.blk (by assumption))) ?_ | refine de_cmp (op_neDD (by first | assumption | exact Rm.blk (by assumption))) ?_ | refine de_cmp op_ltD ?_ | refine de_cmp op_leD ?_ | refine de_cmp op_gtD ?_ | refine de_cmp op_geD ?_ | refine de_cmp (op_inD (by first | assumption | exact Rm.blk (by assumption))) ?_ | refine de_cmp (op_ninD (by first | assumption | exact Rm.blk (by assumption))) ?_ | refine de_cmp op_isD ?_ | refine de_cmp op_isntD ?_ | refine de_chain op_leD op_leD ?_ | refine de_chain op_leD op_ltD ?_)
  | ((with_reducible show dE _ _ _ _ (Expr.BinOp _ _ _ _) _); first | refine de_bin op_addD ?_ | refine de_bin op_subD ?_ | refine de_bin op_mulD ?_ | refine de_bin op_modD ?_ | refine de_bin op_divD ?_ | refine de_bin op_powD ?_)
  | ((with_reducible show dE _ _ _ _ (Expr.Tuple _ _ _) _); refine de_tup ?_)
  | ((with_reducible show dE _ _ _ _ (Expr.List _ _) _); refine de_lst ?_)
  | ((with_reducible show dE _ _ _ _ (Expr.IfExp _ _ _ _) _); refine de_if ?_)
  | ((with_reducible show dE _ _ _ _ (Expr.Subscript _ _ _) _); first | refine de_slice sl_D ?_ | refine de_revT ?_ | refine de_ix ix_D ?_)
  | ((with_reducible show dE _ _ _ _ (Expr.Dict _ _ _) _); first | refine de_dic0 ?_ | refine de_dicC ?_)
  | ((with_reducible show dE _ _ _ _ (Expr.Call (Expr.Attribute _ _ _) _ _ _) _); first | refine de_upper ?_ | refine de_join ?_)
  | ((with_reducible show dE _ _ _ _ (Expr.Call (Expr.Name _ _) _ _ _) _); first | refine de_isiS (by assumption) (by assumption) ?_ | refine de_isiI (by assumption) (by assumption) ?_ | refine de_isiB (by assumption) (by assumption) ?_ | refine de_isiT (by assumption) (by assumption) ?_ | refine de_isiL (by assumption) (by assumption) ?_ | refine de_len (by assumption) ?_ | refine de_strC (by assumption) ?_ | refine de_listC (by assumption) ?_ | refine de_tupleC (by assumption) ?_ | refine de_repr (by first | assumption | exact Rm.blk (by assumption)) (by assumption) ?_ | refine de_all (by first | assumption | exact Rm.blk (by assumption)) (by assumption) ?_ | refine de_go (by assumption) (by first | assumption | exact Rm.blk (by assumption)) (by first | assumption | exact Room.mono (by assumption) (by decide)) pass0 ?_ | refine de_go0 (by assumption) (by first | assumption | exact Rm.blk (by assumption)) (by first | assumption | exact Room.mono (by assumption) (by decide)) pass0 ?_))
local macro_rules | `(tactic| walk_at "fT") => `(tactic| first
  | ((with_reducible show dT _ _ _ _ (Expr.UnaryOp .Not _ _) _); refine dt_not ?_)
  | ((with_reducible show dT _ _ _ _ (Expr.BoolOp _ _ _) _); first | refine dt_w (dw_and ?_) | refine dt_w (dw_or ?_))
  | ((with_reducible show dW _ _ _ _ (Expr.BoolOp _ _ _) _); first | refine dw_and1 ?_ | refine dw_or1 ?_ | refine dw_and ?_ | refine dw_or ?_)
  | ((with_reducible show dT _ _ _ _ (Expr.Compare _ _ _ _) _); first | refine dt_cmp (op_eqDD (by first | assumption | exact Rm.blk (by assumption))) ?_ | refine dt_cmp (op_neDD (by first | assumption | exact Rm.blk (by assumption))) ?_ | refine dt_cmp op_ltD ?_ | refine dt_cmp op_leD ?_ | refine dt_cmp op_gtD ?_ | refine dt_cmp op_geD ?_ | refine dt_cmp (op_inD (by first | assumption | exact Rm.blk (by assumption))) ?_ | refine dt_cmp (op_ninD (by first | assumption | exact Rm.blk (by assumption))) ?_ | refine dt_cmp op_isD ?_ | refine dt_cmp op_isntD ?_ | refine dt_chain op_leD op_leD ?_ | refine dt_chain op_leD op_ltD ?_)
  | ((with_reducible show dT _ _ _ _ _ _); refine dt_val ?_))
local macro_rules | `(tactic| walk_at "fs") => `(tactic| first
  | walk_at "fE" | walk_at "fT" | ((with_reducible show dA _ _ _ _ (_ :: _) _); refine da_cons ?_) | ((with_reducible show dA _ _ _ _ [] _); refine da_nil ?_)
  | ((with_reducible show dS _ _ _ _ _ _); first | refine ds_ret ?_ | refine ds_if ?_)
  | ((with_reducible show dK _ _ _ _ (_ :: _) _); refine dk_cons ?_) | ((with_reducible show dK _ _ _ _ [] _); refine dk_nil ?_)
  | ((with_reducible show dB _ _ _ _ [] _); refine db_nil ?_; dsimp only) | ((with_reducible show dB _ _ _ _ _ _); refine db_cons ?_))
local macro_rules | `(tactic| walk_at "fo") => `(tactic| first | ((with_reducible show dO _ _ _ _ none _); refine dO_none ?_) | ((with_reducible show dO _ _ _ _ (some _) _); refine dO_some ?_))
local macro_rules | `(tactic| walk_at "fx") => `(tactic| (intro hc; exfalso; first | exact Bool.noConfusion (show true = false from hc) | exact Bool.noConfusion (show false = true from hc)))
local macro_rules | `(tactic| walk_at "fm") => `(tactic| first
  | ((with_reducible show Op2 _ _ _ _); first | refine ⟨_, _, _, rfl, rfl, eqD_str _ _, ?_⟩ | refine ⟨_, _, _, rfl, rfl, lim_ok (by omega), ?_⟩ | refine ⟨_, _, _, rfl, rfl, rfl, ?_⟩)
  | ((with_reducible show IsB _ _); refine ⟨_, rfl, ?_⟩)
  | ((with_reducible show AllD _ _); refine ⟨_, rfl, ?_⟩)
  | ((with_reducible show _ ≤ sizeLine ∧ _); refine ⟨Nat.le_of_ble_eq_true rfl, ?_⟩)
  | ((with_reducible show ∃ d, _ = Vl.d d ∧ _); refine ⟨_, rfl, ?_⟩)
  | ((with_reducible show ∃ d z, _ = Vl.d d ∧ lenD _ = some z ∧ _); first | refine ⟨_, _, rfl, lim_ok (by omega), ?_⟩ | refine ⟨_, _, rfl, rfl, ?_⟩)
  | ((with_reducible show ∃ i : Int, _ = Vl.d (.int i) ∧ _); refine ⟨_, rfl, ?_⟩)
  | ((with_reducible show ∃ z : Str, _ = Vl.d (.str z) ∧ z.length ≤ 100000 ∧ _); refine ⟨_, rfl, by omega, ?_⟩)
  | ((with_reducible show ∃ d z, _ = Vl.d d ∧ slD d _ _ = some z ∧ _); first | refine ⟨_, _, rfl, lim_ok (by omega), ?_⟩ | refine ⟨_, _, rfl, rfl, ?_⟩)
  | ((with_reducible show ∃ d z, _ = Vl.d d ∧ listC _ = some z ∧ _); refine ⟨_, _, rfl, rfl, ?_⟩)
  | ((with_reducible show ∃ d z, _ = Vl.d d ∧ tupleC _ = some z ∧ _); refine ⟨_, _, rfl, rfl, ?_⟩)
  | ((with_reducible show ∃ ds, itemsD _ = some ds ∧ _); refine ⟨_, rfl, ?_⟩)
  | ((with_reducible show (_ = true → _) ∧ (_ = false → _)); first | (refine ⟨?_, (by walk_at "fx")⟩; intro hj; clear hj) | (refine ⟨(by walk_at "fx"), ?_⟩; intro hj; clear hj))
  | ((with_reducible show (_ = false → _) ∧ (_ = true → _)); first | (refine ⟨?_, (by walk_at "fx")⟩; intro hj; clear hj) | (refine ⟨(by walk_at "fx"), ?_⟩; intro hj; clear hj)))
local macro_rules | `(tactic| walk_at "fr") => `(tactic| repeat (first | walk_at "fs" | walk_at "fo" | walk_at "fm"))

section
variable {X : Cx} {ρ : Rho} {x y : Str} {p p' q pos spos : Pos} {rest : List Stmt}
/-- name = _law_deck(name): from here on there is a deck -/
theorem wB_deck {CX : CXT} {k : Nat} {st : Stmt} {f : Str} {ps : List Str} {is : List Int} {sc : Addr} {σ : L2.St} {H : Hp} {D : Ends} (F : Dfn X.prog X.w X.K X.mg X.base CX k f st ps (spNew X.K)) (R : Rm X) (r : Room k X.A) (hx : Passes CX X E0)
    (h : ∀ a c, dB X (Wk T1 (fun b => b = a ∨ b = c) (a, c) (fun _ h => h)) (ρ.set (X.N.idxOf x) (some (.v (.ref a)))) 0 rest { nx := fun _ _ => False, rt := fun y _ => y = .d (.bool true) }) (nd : X.N.Nodup)
    (en : ∀ (M : Addr → Prop) (H : Hp), En X.K M H σ ρ) (hS : SqL X.K H sc (is.map V.int)) (hD : ∀ H', D.rt (.bl true) H')
    (hy : σ[X.N.idxOf y]? = some (some (.ref sc)) := by rfl) (hNy : X.N[X.N.idxOf y]? = some y := by rfl) (hvy : Vis X.env.scope y := by first | exact Or.inl rfl | exact Or.inr (Or.inl rfl) | exact Or.inr (Or.inr rfl))
    (d1 : (y == ("__debug__" : Str)) = false := by decide) (d2 : (y == ("__classdict__" : Str)) = false := by decide)
    (hN : X.N[X.N.idxOf x]? = some x := by rfl) (hxl : Loc X.env.scope x := by first | exact .inl rfl | exact .inr rfl) (hs : swapsWith (.Call (.Name f p) [.Name y q] [] pos) (some (.Name x p')) spos.line X.env = pure false := by rfl) (hf : X.fn x = true ∨ X.env.scope.names.lookup x = some .local := by first | exact .inl rfl | exact .inr rfl)
    (hg : Gl X f := by rfl) (h1 : (f == ("__debug__" : Str)) = false := by decide) (h2 : starEach [.Name y q] X.env = (false, eval (.Name y q) X.env) :: starEach [] X.env := by rfl) :
    wB X (.Assign [.Name x p'] (.Call (.Name f p) [.Name y q] [] pos) spos :: rest) D σ H := by
  refine toB (pss_cons (ps_set nd hN hxl (pe_go F R.g r hx (pa_cons (pe_var hNy hvy d1 d2) pa_nil h2) hg h1 h2 rfl) hs hf) bw) ?_
  refine ⟨.ref sc, hy, sc, is, rfl, hS, fun a c H2 sm na nc hJ => ?_⟩
  have hm2 : ∀ b, (b = a ∨ b = c) → H2 b ≠ none := by
    obtain ⟨_, q, hq, _⟩ := hJ
    rintro b (rfl | rfl)
    · rw [hq.1]; exact fun z => nomatch z
    · rw [hq.2]; exact fun z => nomatch z
  refine (h a c).go (σ.set (X.N.idxOf x) (some (.ref a))) H2 D ((en _ H2).set _ (x := .v (.ref a)) rfl) ⟨hJ, hm2⟩ ⟨fun σ3 H3 ρ3 s3 e3 j3 en3 z => z.elim, fun v H3 y3 s3 e3 j3 v3 z => ?_, fun _ _ _ _ _ _ _ z => z.elim, fun _ _ _ _ _ _ _ z => z.elim⟩
  subst z
  cases v3
  exact hD H3
end
theorem ne_self (x : Str) : neDD (.str x) (.str x) = some (.bool false) := by
  have e : PyData.eqv (.str x) (.str x) = true := by simp [PyData.eqv]
  show some (PyData.bool (!PyData.eqv (.str x) (.str x))) = _
  rw [e]
  rfl
section
variable {P : Program} {w : World} {K : PySem.W.Frag} {mg : Str → Option Value} {base : Heap}
def gF (d : PyData) : PyData := .tuple [d, firstV (kdOf d)]
def spScr (K : PySem.W.Frag) : Sp := fun vs H Q _ => ∃ (sc : Addr) (is : List Int), vs = [.ref sc] ∧ SqL K H sc (is.map V.int) ∧ ∀ H', Q (.bl true) H'
abbrev NL : List Str := ["_law_script", "_law_deck_here", "_law_firsts", "_law_due", "_law_turn", "_law_good", "_law_it", "_law_sort", "_law_one"]
theorem sc_law : FnScope NL ["_law_script"] (defScope s_law) := ⟨rfl, rfl, rfl, by decide +kernel, rfl, by decide +kernel, by decide +kernel⟩
theorem kd_mem {d : PyData} (h : d ∈ kinds.map Kd.d) : ∃ k : Kd, d = k.d := by
  obtain ⟨k, _, rfl⟩ := List.mem_map.mp h
  exact ⟨k, rfl⟩
abbrev Fi : PyData := .list ((kinds.map Kd.d).map gF)
abbrev Du : PyData := .list [.none, .bool false, .str "a", .tuple [], .tuple [], .tuple [], .tuple []]
theorem ok_law (F : Src K mg "law" s_law) (hs : base.get? sysModules ≠ none) (Gd' : Dfn P w K mg base CX0 1 "_law_deck" s_law_deck ["_law_script"] (spNew K))
    (Gs : Dfn P w K mg base CX0 1 "_law_sorts" s_law_sorts [] (spD K (fun ds => ds = []) fun _ => .list (kinds.map Kd.d)))
    (Gf : Dfn P w K mg base CX0 1 "first_value" s_first_value ["kind"] (spD K pKd fFirst))
    (G1 : Dfn P w K mg base CX0 1 "_law_draw" s_law_draw ["_law_deck_here", "_law_many"] (spK T1 K pDraw oDraw 1))
    (G2 : Dfn P w K mg base CX0 2 "_law_pick" s_law_pick ["_law_deck_here", "_law_items"] (spK T1 K pPick oPick 1))
    (G3 : Dfn P w K mg base CX0 3 "_law_string" s_law_string ["_law_deck_here"] (spK T1 K (fun ds => ds = []) oStr 20))
    (G4 : ∀ nn, Dfn P w K mg base CX0 (4 + nn) "_law_bent" s_law_bent ["_law_deck_here", "_law_it"] (spK T1 K (pG nn) (oSz (bt nn) (nn + 2)) (2 * nn + 2)))
    (G5 : ∀ nn, Dfn P w K mg base CX0 3 "_law_odd" s_law_odd ["_law_deck_here", "_law_it"] (spK T1 K (pG nn) (oSz (Bn nn + 700) (nn + 1)) 1))
    (G6 : Dfn P w K mg base CX0 7 "_law_values" s_law_values ["_law_deck_here"] (spK T1 K (fun ds => ds = []) oVals 141))
    (G7 : Dfn P w K mg base CX0 3 "_law_looks_right" s_law_looks ["_law_it"] (spD K (one 100000) fun _ => .bool true))
    (G8 : Dfn P w K mg base CX0 4 "_law_fits_right" s_law_fits ["_law_sort", "_law_it"] (spD K pFit fun _ => .bool true))
    (m1 : mg "range" = none) (m2 : mg "tuple" = none) (m3 : mg "list" = none) (m4 : mg "repr" = none) :
    Dfn P w K mg base CX0 8 "law" s_law ["_law_script"] (spScr K) := by
  refine F.ok sc_law (fun vs H Q E ⟨sc, is, h, _⟩ => by rw [h]; rfl) (fun _ _ _ _ _ _ us hl => match us, hl with | [_], _ => rfl) fun fa cd A fr s vs H Q E g r h => ?_
  obtain ⟨sc, is, rfl, hS, hQ⟩ := h
  have R := Rm.of (X := (cxOf CX0 P w K mg base NL "law" (defScope s_law) fa cd A fr s H E).nox) g r hs rfl
  refine ⟨wB _ (defBody s_law), bw, ?_⟩
  refine wB_deck (ρ := [some (.v (.ref sc)), none, none, none, none, none, none, none, none]) (sc := sc) (is := is) Gd' R (r.mono (by decide)) pass0 (fun a c => ?_) sc_law.nd (fun M H => ⟨rfl, fun i x e => ?_⟩) hS hQ
  case refine_2 =>
    match i, e with
    | 0, e => cases e; exact ⟨_, rfl, rfl⟩
    | 1, e => cases e
    | 2, e => cases e
    | 3, e => cases e
    | 4, e => cases e
    | 5, e => cases e
    | 6, e => cases e
    | 7, e => cases e
    | 8, e => cases e
    | i + 9, e => cases e
  refine db_cons (ds_setLc (Lc.map gF ?_) sc_law.nd (blkOk_by (by rfl)) rfl)
  · refine di_any (de_go0 Gs R (r.mono (by decide)) pass0 ⟨rfl, _, rfl, by decide +kernel, fun D d hd b => ?_, ?_⟩)
    · obtain ⟨k, rfl⟩ := kd_mem hd
      refine de_tup (da_cons (de_var (da_cons (de_go Gf (Rm.blk R) (r.mono (by decide)) pass0 (da_cons (de_var (da_nil ⟨_, rfl, ⟨k, rfl⟩, da_nil ⟨_, rfl, Nat.le_of_ble_eq_true rfl, rfl, rfl⟩⟩)))))))
    · have hDu : reprD [Du] = some (.str (PyData.shown Du)) := repr_ok (n := 1000) ((szB_of (N := 1000) (k := 5) (by decide +kernel)).nc (Nat.le_refl _) (by decide)) (by decide)
      have hFa : reprD [.bool false] = some (.str "False") := by
        rw [repr_ok (n := 1000) ((Sz.bl false).nc (by decide) (by decide)) (by decide)]
        simp [PyData.shown]
      refine db_cons (ds_set (Δ := _) ?_ sc_law.nd)
      walk_at "fr"
      refine de_lcP ?_ sc_law.nd (blkOk_by (by rfl)) (fun e => absurd (show (7 : Nat) = 8 from e) (by decide))
      refine di_any (de_var ⟨(kinds.map Kd.d).map gF, rfl, by decide +kernel, fun d hd => ?_, fun k acc s2 => acc = (((kinds.map Kd.d).map gF).take k).map prB ∧ s2 = 0, ⟨rfl, rfl⟩, fun D k d acc s2 hd hi b => ?_, fun acc s2 hi => ?_⟩)
      · obtain ⟨d', _, rfl⟩ := List.mem_map.mp hd
        trivial
      · obtain ⟨rfl, rfl⟩ := hi
        refine de_var ⟨prB d, rfl, ?_, rfl⟩
        rw [List.take_add_one, hd]
        simp
      obtain ⟨rfl, rfl⟩ := hi
      refine ⟨Du, _, rfl, hDu, ?_⟩
      walk_at "fr"
      refine ⟨Du, _, rfl, hDu, ?_⟩
      refine ⟨_, _, _, rfl, rfl, ne_self _, ?_⟩
      walk_at "fr"
      refine de_goK (ks := ["kind"]) [0] Gf R (r.mono (by decide)) pass0 (fun _ _ _ _ _ _ us hl => match us, hl with | [_], _ => rfl) (by decide) ?_
      walk_at "fr"
      refine ⟨rfl, ⟨.truth, rfl⟩, ?_⟩
      refine ⟨.bool false, _, rfl, hFa, ?_⟩
      walk_at "fr"
      refine ds_for (di_range m1 (de_int ⟨6, rfl, by decide, fun k ρ1 s2 => (∃ v4 v5 v6 v7 v8 : Option Vl, ρ1 = [some (.v (.ref sc)), some (.v (.ref a)), some (.d Fi), some (.d Du), v4, v5, v6, v7, v8]) ∧ s2 = k * 59, ⟨⟨none, none, none, none, none, rfl⟩, rfl⟩, fun k d ρ1 s2 hd hi => ?_, fun ρ1 s2 hi => ?_⟩)) PassesOwn.never sc_law.nd
      · obtain ⟨⟨v4, v5, v6, v7, v8, rfl⟩, rfl⟩ := hi
        obtain ⟨hk6, rfl⟩ := ints_get hd
        replace hk6 : k < 6 := hk6
        refine db_cons (ds_set (de_imp (Ψ := fun x s' => ∃ l, x = .d (.list l) ∧ l.length = 4 ∧ (∀ z ∈ l, Gd 1 z) ∧ k * 59 + 42 = s') ?_ fun x s' ⟨l, hx, l1, l2, hs'⟩ => ?_) sc_law.nd)
        · refine de_lst (da_cons (de_goD G3 R (r.mono (by decide)) pass0 IsK.own (da_cons (de_var (da_nil ⟨_, _, rfl, rfl, rfl, by show k * 59 + 20 ≤ 1099511627776; omega, fun z1 h1 => ?_⟩)))))
          refine da_cons (de_goD G3 R (r.mono (by decide)) pass0 IsK.own (da_cons (de_var (da_nil ⟨_, _, rfl, rfl, rfl, by show k * 59 + 20 + 20 ≤ 1099511627776; omega, fun z2 h2 => ?_⟩))))
          refine da_cons (de_goD G2 R (r.mono (by decide)) pass0 IsK.own (da_cons (de_var (da_cons (de_go0 Gs R (r.mono (by decide)) pass0 ⟨rfl, da_nil ⟨_, _, rfl, rfl, ⟨_, _, rfl, rfl, by decide +kernel, by decide +kernel⟩, by show k * 59 + 20 + 20 + 1 ≤ 1099511627776; omega, ?_⟩⟩)))))
          rintro z3 ⟨d3, l3, e1, e2, h3⟩
          cases e1
          cases e2
          refine da_cons (de_tup (da_cons (de_str (da_cons (de_bin op_subD (de_goD G1 R (r.mono (by decide)) pass0 IsK.own (da_cons (de_var (da_cons (de_int (da_nil ⟨_, _, rfl, rfl, ⟨7, rfl, by decide, by decide⟩, by show k * 59 + 20 + 20 + 1 + 1 ≤ 1099511627776; omega, ?_⟩)))))))))))
          rintro z4 ⟨m4', i4, e1, rfl, h4, h5⟩
          cases e1
          walk_at "fr"
          refine ⟨_, rfl, rfl, fun z hz => ?_, rfl⟩
          obtain ⟨y1, rfl, hy1⟩ := h1
          obtain ⟨y2, rfl, hy2⟩ := h2
          simp only [List.mem_cons, List.not_mem_nil, or_false] at hz
          rcases hz with rfl | rfl | rfl | rfl
          · exact .str hy1
          · exact .str hy2
          · exact gdB_mem (by decide +kernel) h3
          · refine .tup (fun d hd => ?_) (by simp)
            simp only [List.mem_cons, List.not_mem_nil, or_false] at hd
            rcases hd with rfl | rfl
            · exact gdB_of (by decide +kernel)
            · exact .int (by omega)
        subst hx hs'
        have hNc : ∀ z, Gd 1 z → Nc 100000 z := fun z hz => hz.sz.nc (by decide) (by decide)
        refine db_cons (ds_for (di_any (de_bin op_addD (de_bin op_addD (de_var (de_lc (Lc.deck (fun z => Nc 100000 z) 4 (di_any (de_var ⟨l, rfl, by rw [l1]; decide +kernel, fun D j d hj b => ?_, fun bs hb1 hb2 => ?_⟩))) sc_law.nd (blkOk_by (by rfl))))))) PassesOwn.never sc_law.nd)
        · have hg := l2 d (List.mem_of_getElem? hj)
          have hj4 : j < 4 := by rw [← l1]; exact (List.getElem?_eq_some_iff.mp hj).1
          refine de_goD (G4 1) (Rm.blk R) (r.mono (by decide)) pass0 (IsK.own.plus D) (da_cons (de_var (da_cons (de_var (da_nil ⟨_, _, rfl, rfl, ⟨d, rfl, hg⟩, by show k * 59 + 42 + j * 4 + 4 ≤ 1099511627776; omega, fun z hz => ⟨z, rfl, ?_, rfl⟩⟩)))))
          exact hz.nc (by decide) (by decide)
        have hb1 : bs.length = 4 := hb1.trans l1
        refine ⟨.list l, .list bs, _, rfl, rfl, lim_cat (Nat.le_of_eq l1) (Nat.le_of_eq hb1), ?_⟩
        rw [l1]
        refine de_lst (da_cons (de_goD (G5 0) R (r.mono (by decide)) pass0 IsK.own (da_cons (de_var (da_cons (de_int (da_nil ⟨_, _, rfl, rfl, ⟨_, rfl, .int (by decide)⟩, by show k * 59 + 42 + 4 * 4 + 1 ≤ 1099511627776; omega, fun zo ho => ?_⟩)))))))
        walk_at "fr"
        have hlb : (l ++ bs).length ≤ 8 := by rw [List.length_append]; omega
        refine ⟨.list (l ++ bs), _, _, rfl, rfl, lim_cat hlb (m := 3) (Nat.le_of_ble_eq_true rfl), ?_⟩
        have hl2 : SzA (4 * (Bn 1 + 2)) 1 l := by
          have q := SzA.of (n := Bn 1) (k := 1) fun d hd => (l2 d hd).sz
          rw [l1] at q
          exact q
        have hall : ∀ z ∈ (l ++ bs) ++ [zo, .tuple l, .list l], Nc 100000 z := fun z hz => by
          rcases List.mem_append.mp hz with q | q
          · rcases List.mem_append.mp q with q | q
            · exact hNc z (l2 z q)
            · exact hb2 z q
          · simp only [List.mem_cons, List.not_mem_nil, or_false] at q
            rcases q with rfl | rfl | rfl
            · exact ho.nc (by decide) (by decide)
            · exact (Sz.tup hl2).nc (by decide) (by decide)
            · exact (Sz.lst hl2).nc (by decide) (by decide)
        refine ⟨_, rfl, fun j ρ2 s3 => (∃ v4 v6 v7 v8 : Option Vl, ρ2 = [some (.v (.ref sc)), some (.v (.ref a)), some (.d Fi), some (.d Du), v4, some (.d (.list l)), v6, v7, v8]) ∧ s3 = k * 59 + 59, ⟨⟨_, _, _, _, rfl⟩, rfl⟩, fun j d ρ2 s3 hj hi => ?_, fun ρ2 s3 hi => ?_⟩
        · obtain ⟨⟨w4, w6, w7, w8, rfl⟩, rfl⟩ := hi
          have hd := hall d (List.mem_of_getElem? hj)
          walk_at "fr"
          refine ⟨⟨d, rfl, hd⟩, ?_⟩
          walk_at "fr"
          exact ⟨⟨_, _, _, _, rfl⟩, rfl⟩
        · obtain ⟨⟨w4, w6, w7, w8, rfl⟩, rfl⟩ := hi
          refine db_nil ⟨⟨_, _, _, _, _, rfl⟩, ?_⟩
          rw [Nat.succ_mul]
      · obtain ⟨⟨v4, v5, v6, v7, v8, rfl⟩, rfl⟩ := hi
        refine db_cons (ds_for (di_any (de_bin op_addD (de_goD G6 R (r.mono (by decide)) pass0 IsK.own (da_cons (de_var (da_nil ⟨_, _, rfl, rfl, rfl, by decide +kernel, fun zv hv => ?_⟩)))))) PassesOwn.never sc_law.nd)
        obtain ⟨lv, rfl, lv1, lv2⟩ := hv
        refine de_go0 Gs R (r.mono (by decide)) pass0 ⟨rfl, ?_⟩
        refine ⟨.list lv, .list (kinds.map Kd.d), _, rfl, rfl, lim_cat lv1 (m := 7) (by decide +kernel), ?_⟩
        have hall : ∀ z ∈ lv ++ kinds.map Kd.d, Nc 100000 z := fun z hz => by
          rcases List.mem_append.mp hz with q | q
          · exact lv2 z q
          · exact (szB_mem (N := 1000) (k := 5) (by decide +kernel) q).nc (by decide) (by decide)
        refine ⟨_, rfl, fun j ρ2 s3 => (∃ v4 v5 v6 v7 v8 : Option Vl, ρ2 = [some (.v (.ref sc)), some (.v (.ref a)), some (.d Fi), some (.d Du), v4, v5, v6, v7, v8]) ∧ s3 = (intsD (Int.toNat 6)).length * 59 + 141, ⟨⟨_, _, _, _, _, rfl⟩, rfl⟩, fun j d ρ2 s3 hj hi => ?_, fun ρ2 s3 hi => ?_⟩
        · obtain ⟨⟨w4, w5, w6, w7, w8, rfl⟩, rfl⟩ := hi
          have hd := hall d (List.mem_of_getElem? hj)
          walk_at "fr"
          refine ⟨⟨d, rfl, hd⟩, ?_⟩
          walk_at "fr"
          refine de_lc (Lc.filt (fun _ => false) id ?_) sc_law.nd (blkOk_by (by rfl))
          refine di_any (de_go0 Gs R (r.mono (by decide)) pass0 ⟨rfl, _, rfl, by decide +kernel, fun D d' hd' b => ?_, fun D d' hd' hf b => Bool.noConfusion hf, ?_⟩)
          · obtain ⟨kd, rfl⟩ := kd_mem hd'
            walk_at "fr"
            refine ⟨⟨kd, d, rfl, hd⟩, ?_⟩
            walk_at "fr"
            exact ⟨rfl, rfl⟩
          · walk_at "fr"
            exact ⟨⟨_, _, _, _, _, rfl⟩, rfl⟩
        · obtain ⟨⟨w4, w5, w6, w7, w8, rfl⟩, rfl⟩ := hi
          walk_at "fr"
          rfl
end
end K1

set_option Elab.async false
set_option linter.all false
set_option maxRecDepth 100000
set_option maxHeartbeats 0
namespace K1
open PySem PySem.Spec PyProof.Rows L2 Fw
/-! ### the head -/
def mkD (x : Str) (st : Stmt) : He.DefD := ⟨(x, none), x, x, defArgs st, defBody st, defScope st, [], []⟩
def fn : List He.DefD := [mkD "is_integer" s_is_integer, mkD "has_letters" s_has_letters, mkD "is_word" s_is_word, mkD "is_name" s_is_name, mkD "is_kind" s_is_kind, mkD "fits" s_fits, mkD "first_value" s_first_value, mkD "_law_deck" s_law_deck, mkD "_law_draw" s_law_draw, mkD "_law_pick" s_law_pick, mkD "_law_letters" s_law_letters, mkD "_law_is_kind" s_law_is_kind, mkD "_law_does_fit" s_law_does_fit, mkD "_law_string" s_law_string, mkD "_law_odd" s_law_odd, mkD "_law_bent" s_law_bent, mkD "_law_sorts" s_law_sorts, mkD "_law_looks_right" s_law_looks, mkD "_law_fits_right" s_law_fits, mkD "_law_values" s_law_values, mkD "law" s_law]
def fa : List He.Fa := [.glo "is_integer", .glo "has_letters", .glo "is_word", .glo "is_name", .glo "is_kind", .glo "fits", .glo "first_value", .glo "_law_deck", .glo "_law_draw", .glo "_law_pick", .glo "_law_letters", .glo "_law_is_kind", .glo "_law_does_fit", .glo "_law_string", .glo "_law_odd", .glo "_law_bent", .glo "_law_sorts", .glo "_law_looks_right", .glo "_law_fits_right", .glo "_law_values", .glo "law", .free "isinstance", .free "int", .free "bool", .free "str", .free "len", .free "all", .free "tuple", .free "list", .free "range", .free "repr", .str "LETTERS" LT, .int "LONGEST_WORD" 8, .int "LONGEST_NAME" 12, .int "MOST_NAMES" 3, .str "NEAR" "near"]
abbrev RR : PySem.W.OpenRow := PySem.W.OpenLaw.row PySem.Challenge.rw_fewtrips_k01_words_names_kinds_and_what
abbrev hk : PySem.W.Hook := hookS 4 fa fn
def ob (s : PySem.W.SharedT) : AlS := obsS 4 fa fn (HandSHeadRun.getT s)
theorem ob_eq (s : PySem.W.SharedT) : ob s = hk.obs s.abs := obsS_eq (HandSHeadRun.getT_eq s)
def loose : List Str := ["__name__", "LETTERS", "LONGEST_WORD", "LONGEST_NAME", "MOST_NAMES", "NEAR", "is_integer", "has_letters", "is_word", "is_name", "is_kind", "fits", "first_value", "_law_deck", "_law_draw", "_law_pick", "_law_letters", "_law_is_kind", "_law_does_fit", "_law_string", "_law_odd", "_law_bent", "_law_sorts", "_law_looks_right", "_law_fits_right", "_law_values"]
theorem run (w : World) : HandSHeadRun.RunEq RR (PySem.W.view RR.prog [27]) hk ob 4000 loose w := by
  intro os
  kernel_rfl
theorem facts {P : Program} {w : World} {K : PySem.W.Frag} {h : Heap} {mg : Str → Option Value} {f : Addr} (X : K.In h) (G : h.Ns mainGlobals mg) (hfa : mg ("law" : Str) = some (.ref f)) (c0 : (K.lookup sysModules).isSome = true) (c : He.SaysD fa fn K) :
    ∀ base : Heap, K.In base → ∃ fd : FuncData, (∀ (s : Shared) (v : Value), BindsTo s fd ⟨[v], []⟩ [("_law_script", v)]) ∧ FnG P w K mg base CX0 8 f fd ["_law_script"] (spScr K) := by
  have S0 : Src K mg "is_integer" s_is_integer := src_of X G (c.fact 0 (f := .glo "is_integer") rfl) (c.def_ 0 (d := mkD "is_integer" s_is_integer) rfl)
  have S1 : Src K mg "has_letters" s_has_letters := src_of X G (c.fact 1 (f := .glo "has_letters") rfl) (c.def_ 1 (d := mkD "has_letters" s_has_letters) rfl)
  have S2 : Src K mg "is_word" s_is_word := src_of X G (c.fact 2 (f := .glo "is_word") rfl) (c.def_ 2 (d := mkD "is_word" s_is_word) rfl)
  have S3 : Src K mg "is_name" s_is_name := src_of X G (c.fact 3 (f := .glo "is_name") rfl) (c.def_ 3 (d := mkD "is_name" s_is_name) rfl)
  have S4 : Src K mg "is_kind" s_is_kind := src_of X G (c.fact 4 (f := .glo "is_kind") rfl) (c.def_ 4 (d := mkD "is_kind" s_is_kind) rfl)
  have S5 : Src K mg "fits" s_fits := src_of X G (c.fact 5 (f := .glo "fits") rfl) (c.def_ 5 (d := mkD "fits" s_fits) rfl)
  have S6 : Src K mg "first_value" s_first_value := src_of X G (c.fact 6 (f := .glo "first_value") rfl) (c.def_ 6 (d := mkD "first_value" s_first_value) rfl)
  have S7 : Src K mg "_law_deck" s_law_deck := src_of X G (c.fact 7 (f := .glo "_law_deck") rfl) (c.def_ 7 (d := mkD "_law_deck" s_law_deck) rfl)
  have S8 : Src K mg "_law_draw" s_law_draw := src_of X G (c.fact 8 (f := .glo "_law_draw") rfl) (c.def_ 8 (d := mkD "_law_draw" s_law_draw) rfl)
  have S9 : Src K mg "_law_pick" s_law_pick := src_of X G (c.fact 9 (f := .glo "_law_pick") rfl) (c.def_ 9 (d := mkD "_law_pick" s_law_pick) rfl)
  have S10 : Src K mg "_law_letters" s_law_letters := src_of X G (c.fact 10 (f := .glo "_law_letters") rfl) (c.def_ 10 (d := mkD "_law_letters" s_law_letters) rfl)
  have S11 : Src K mg "_law_is_kind" s_law_is_kind := src_of X G (c.fact 11 (f := .glo "_law_is_kind") rfl) (c.def_ 11 (d := mkD "_law_is_kind" s_law_is_kind) rfl)
  have S12 : Src K mg "_law_does_fit" s_law_does_fit := src_of X G (c.fact 12 (f := .glo "_law_does_fit") rfl) (c.def_ 12 (d := mkD "_law_does_fit" s_law_does_fit) rfl)
  have S13 : Src K mg "_law_string" s_law_string := src_of X G (c.fact 13 (f := .glo "_law_string") rfl) (c.def_ 13 (d := mkD "_law_string" s_law_string) rfl)
  have S14 : Src K mg "_law_odd" s_law_odd := src_of X G (c.fact 14 (f := .glo "_law_odd") rfl) (c.def_ 14 (d := mkD "_law_odd" s_law_odd) rfl)
  have S15 : Src K mg "_law_bent" s_law_bent := src_of X G (c.fact 15 (f := .glo "_law_bent") rfl) (c.def_ 15 (d := mkD "_law_bent" s_law_bent) rfl)
  have S16 : Src K mg "_law_sorts" s_law_sorts := src_of X G (c.fact 16 (f := .glo "_law_sorts") rfl) (c.def_ 16 (d := mkD "_law_sorts" s_law_sorts) rfl)
  have S17 : Src K mg "_law_looks_right" s_law_looks := src_of X G (c.fact 17 (f := .glo "_law_looks_right") rfl) (c.def_ 17 (d := mkD "_law_looks_right" s_law_looks) rfl)
  have S18 : Src K mg "_law_fits_right" s_law_fits := src_of X G (c.fact 18 (f := .glo "_law_fits_right") rfl) (c.def_ 18 (d := mkD "_law_fits_right" s_law_fits) rfl)
  have S19 : Src K mg "_law_values" s_law_values := src_of X G (c.fact 19 (f := .glo "_law_values") rfl) (c.def_ 19 (d := mkD "_law_values" s_law_values) rfl)
  have S20 : Src K mg "law" s_law := src_of X G (c.fact 20 (f := .glo "law") rfl) (c.def_ 20 (d := mkD "law" s_law) rfl)
  have z_isinstance : mg "isinstance" = none := He.free_ok X G (c.fact 21 (f := .free "isinstance") rfl)
  have z_int : mg "int" = none := He.free_ok X G (c.fact 22 (f := .free "int") rfl)
  have z_bool : mg "bool" = none := He.free_ok X G (c.fact 23 (f := .free "bool") rfl)
  have z_str : mg "str" = none := He.free_ok X G (c.fact 24 (f := .free "str") rfl)
  have z_len : mg "len" = none := He.free_ok X G (c.fact 25 (f := .free "len") rfl)
  have z_all : mg "all" = none := He.free_ok X G (c.fact 26 (f := .free "all") rfl)
  have z_tuple : mg "tuple" = none := He.free_ok X G (c.fact 27 (f := .free "tuple") rfl)
  have z_list : mg "list" = none := He.free_ok X G (c.fact 28 (f := .free "list") rfl)
  have z_range : mg "range" = none := He.free_ok X G (c.fact 29 (f := .free "range") rfl)
  have z_repr : mg "repr" = none := He.free_ok X G (c.fact 30 (f := .free "repr") rfl)
  have c1 := He.str_ok X G (c.fact 31 (f := .str "LETTERS" LT) rfl)
  have c2 := He.int_ok X G (c.fact 32 (f := .int "LONGEST_WORD" 8) rfl)
  have c3 := He.int_ok X G (c.fact 33 (f := .int "LONGEST_NAME" 12) rfl)
  have c4 := He.int_ok X G (c.fact 34 (f := .int "MOST_NAMES" 3) rfl)
  have c5 := He.str_ok X G (c.fact 35 (f := .str "NEAR" "near") rfl)
  have all_ : ∀ base : Heap, K.In base → Dfn P w K mg base CX0 8 "law" s_law ["_law_script"] (spScr K) := fun base KB => by
    have hs := sys_in KB c0
    have D0 := ok_is_integer (P := P) (w := w) S0 hs z_isinstance z_int z_bool
    have D1 := ok_has_letters (P := P) (w := w) S1 hs z_isinstance z_str z_len z_all c1
    have D2 := ok_is_word (P := P) (w := w) S2 hs D1 c2 c5
    have D3 := ok_is_name (P := P) (w := w) S3 hs D1 c3
    have D4 := ok_is_kind (P := P) (w := w) S4 hs D0 z_isinstance z_str z_tuple z_len c4
    have D5 := ok_fits (P := P) (w := w) S5 hs D3 z_isinstance z_bool z_tuple z_len z_all
    have D6 := ok_first (P := P) (w := w) S6 hs
    have D7 := ok_law_deck (P := P) (w := w) S7 hs z_list
    have D8 := ok_law_draw (P := P) (w := w) S8 hs
    have D9 := ok_law_pick (P := P) (w := w) S9 hs D8 z_len
    have D10 := ok_law_letters (P := P) (w := w) S10 hs z_isinstance z_str z_len
    have D11 := ok_law_is_kind (P := P) (w := w) S11 hs z_isinstance z_str z_tuple z_len z_int z_bool
    have D12 := ok_law_does_fit (P := P) (w := w) S12 hs D10 z_isinstance z_bool z_tuple z_len
    have D13 := ok_law_string (P := P) (w := w) S13 hs D8 D9 z_range
    have D14 := ok_law_odd (P := P) (w := w) S14 hs D9 z_isinstance z_int z_str
    have D15 := ok_law_bent (P := P) (w := w) S15 hs D8 D9 D14 z_isinstance z_tuple z_len z_list
    have D16 := ok_law_sorts (P := P) (w := w) S16 hs z_range
    have D17 := ok_law_looks (P := P) (w := w) S17 hs D10 D11 D2 D3 D4 z_repr
    have D18 := ok_law_fits (P := P) (w := w) S18 hs D12 D5 z_repr
    have D19 := ok_law_values (P := P) (w := w) S19 hs D9 D13 (D15 2) z_range z_tuple z_list
    exact ok_law (P := P) (w := w) S20 hs D7 D16 D6 D8 D9 D13 D15 D14 D19 D17 D18 z_range z_tuple z_list z_repr
  intro base KB
  obtain ⟨f1, fd1, e1, _, FG, _, hb⟩ := (all_ base KB).ex
  have e := hfa.symm.trans e1
  cases e
  exact ⟨fd1, fun s v => hb s [v] rfl, FG⟩
end K1
open PySem PySem.W PySem.Calls PyProof.Rows
theorem PySem.Challenge.cw_fewtrips_k01_words_names_kinds_and_what_holds : PySem.Challenge.rw_fewtrips_k01_words_names_kinds_and_what.Holds := by
  w_on; o_law
  refine HandSHeadRun.head_any (r := K1.RR) (q := view K1.RR.prog [27]) (H := K1.hk) (ob := K1.ob) (M := 4000) (loose := K1.loose) (d := HandSHeadRun.topDef K1.RR.prog 27) (kwd := []) K1.ob_eq
    (by kernel_rfl) (fun s => by kernel_rfl) K1.run (by kernel_rfl) (by kernel_rfl) (by kernel_rfl) (by rfl) (by first | assumption | decide +kernel) (by decide +kernel) ⟨rfl, rfl, rfl, rfl, rfl, by decide +kernel⟩ ?hw ?hc
  case hw => w_witness2
  case hc =>
    refine Fw.walkG (l := PySem.Challenge.rw_fewtrips_k01_words_names_kinds_and_what) (n := 63) (k := 8) (x := "_law_script") rfl (by decide) (by kernel_rfl) ⟨rfl, by decide, by decide⟩ rfl ?F
    intro w mg fa h Y G hmg0
    obtain ⟨K, KX, c0, c⟩ := Y
    have hmg : mg ("law" : PySem.Str) = some (.ref fa) := by
      have e : (HandSHeadRun.topDef K1.RR.prog 27).name = ("law" : PySem.Str) := by kernel_rfl
      rw [← e]
      exact hmg0
    have hF := K1.facts (P := PySem.Challenge.rw_fewtrips_k01_words_names_kinds_and_what.prog) (w := w) KX G hmg c0 c
    exact ⟨K, K1.spScr K, KX, fun H a ns hS => ⟨a, ns, rfl, hS, fun _ => rfl⟩, fun base KB _ => hF base KB⟩

