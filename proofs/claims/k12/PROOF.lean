import PyProof.Rows.All
import Wide.All
import OpenK.AllK
import Wide.FinOn
import HandS.ForMost
import HandS.Defaults
import HandS.IsInst
import HandS.TupAny
import HandS.TupMul
import HandS.Exc
import HandS.Zip
import HandS.Conv
import HandS.Evl
import PyProof.ReprRoads
import HandS.Style
import HandS.Flow
import PyProof.P3Eq
import HandS.RaiseMore
import PyProof.Rows.IntBool
import KE.KEqDict
import PyProof.NeKinds
import PyProof.Rows.RegStrFacts
import PyProof.StrOps2
import KE.KRevSl
import KE.KStrOpen
import PyProof.Rows.ReprOcc
import HandS.Property
import HandS.CallRecv
import HandS.Star
import HandS.DictComp
import HandS.Strs
import HandS.Ends
import HandS.Head0
import HandS.Head1
import HandS.Head2
import HandS.HeadEnd
import HandS.HeadHook1
import HandS.HeadHook2
import HandS.HeadNt
import PySem.Challenge.RW_fewtrips_k12_what_are_stories
import HandS.HeadWalk
set_option Elab.async false
set_option linter.all false
set_option maxRecDepth 100000
set_option maxHeartbeats 4000000
set_option pp.maxSteps 300
namespace Fw
open PySem PySem.Spec PyProof.Rows L2
def frS (n : Nat) (g : Addr → Option Obj) : PySem.W.Frag := He.frG g (sysModules :: He.asD g n)
abbrev AlZ : Type := Bool × Bool × He.AlD
def obsZ (n : Nat) (fa : List He.Fa) (fn : List He5.DefA) (ex : PySem.W.Frag → Bool) (g : Addr → Option Obj) : AlZ := (((frS n g).lookup sysModules).isSome, ex (frS n g), He5.obsA fa fn (frS n g))
def hookZ (n : Nat) (fa : List He.Fa) (fn : List He5.DefA) (ex : PySem.W.Frag → Bool) : PySem.W.Hook where
  α := AlZ
  obs := fun s => obsZ n fa fn ex s.heap.get?
  val := fun _ => (true, true, He5.valA fn)
  says := fun _ h => ∃ K : PySem.W.Frag, K.In h ∧ (K.lookup sysModules).isSome = true ∧ ex K = true ∧ He5.SaysA fa fn K
  of := fun _ _ e => ⟨_, He.frG_in, congrArg (fun z : AlZ => z.1) e, congrArg (fun z : AlZ => z.2.1) e, congrArg (fun z : AlZ => z.2.2) e⟩
  keeps := fun _ _ _ ⟨K, hK, c⟩ k => ⟨K, PySem.W.Frag.In.keeps hK k, c⟩
theorem obsZ_eq {n : Nat} {fa : List He.Fa} {fn : List He5.DefA} {ex : PySem.W.Frag → Bool} {g : Addr → Option Obj} {s : Shared} (h : ∀ a, g a = s.heap.get? a) : obsZ n fa fn ex g = (hookZ n fa fn ex).obs s := by
  have e : g = s.heap.get? := funext h
  subst e
  rfl
def prpA (K : PySem.W.Frag) (c m : Str) : Addr := match PySem.W.recIn K (He.ma K (He.ga K c) m) "property" with
  | some (.ref g :: _) => g
  | _ => 0
def prpB (K : PySem.W.Frag) (c m : Str) : Bool := He.eqO (PySem.W.findIn K (.ref (He.ga K c)) m) (some (some (.ref (He.ma K (He.ga K c) m)))) && (He.eqO (PySem.W.specialIn K (.ref (He.ma K (He.ga K c) m)) "__get__") (some (some (.builtin "property.__get__"))) &&
  (decide (PySem.W.takesIn K (.ref (He.ma K (He.ga K c) m)) = some true) && (match PySem.W.recIn K (He.ma K (He.ga K c) m) "property" with
  | some (.ref _ :: _) => true
  | _ => false)))
def dM (x : Str) (st : Stmt) : He5.DefA := ⟨fun K => He.ga K x, x, x, defArgs st, defBody st, defScope st, [], []⟩
def dC (c m q : Str) (st : Stmt) : He5.DefA := ⟨fun K => He.ma K (He.ga K c) m, m, q, defArgs st, defBody st, defScope st, [], []⟩
def dP (c m q : Str) (st : Stmt) : He5.DefA := ⟨fun K => prpA K c m, m, q, defArgs st, defBody st, defScope st, [], []⟩
end Fw
namespace KK
open PySem PySem.Spec PyProof.Rows L2 Fw
def top (i : Nat) : Stmt := PySem.Challenge.pw_fewtrips_k12_what_are_stories.main.body.getD i (.Pass ⟨0, 0, 0, 0⟩)
abbrev LT : Str := "abcdefghijklmnopqrstuvwxyz"
def mtd (i k : Nat) : Stmt := match top i with
  | .ClassDef _ _ _ body _ _ _ _ _ _ _ => body.getD k (.Pass ⟨0, 0, 0, 0⟩)
  | s => s
abbrev s_is_integer : Stmt := top 13
abbrev s_has_letters : Stmt := top 14
abbrev s_is_word : Stmt := top 15
abbrev s_is_name : Stmt := top 16
abbrev s_is_kind : Stmt := top 17
abbrev s_fits : Stmt := top 19
abbrev s_is_answer : Stmt := top 23
abbrev s_are_houses : Stmt := top 29
abbrev s_are_kinds : Stmt := top 30
abbrev s_is_deed : Stmt := top 31
abbrev s_words_ascend : Stmt := top 33
abbrev s_are_deeds : Stmt := top 34
abbrev s_are_variables : Stmt := top 35
abbrev s_begins : Stmt := top 36
abbrev s_Scope_init : Stmt := mtd 38 0
abbrev s_is_body : Stmt := mtd 38 5
abbrev s_is_statement : Stmt := mtd 38 6
abbrev s_is_do : Stmt := mtd 38 8
abbrev s_Program_init : Stmt := mtd 63 0
abbrev s_sites : Stmt := mtd 63 2
abbrev s_is_story : Stmt := top 24
abbrev s_law_cell_at : Stmt := top 65
abbrev s_law_deck : Stmt := top 66
abbrev s_law_draw : Stmt := top 67
abbrev s_law_pick : Stmt := top 68
abbrev s_law_is_name : Stmt := top 73
abbrev s_law_is_answer : Stmt := top 74
abbrev s_law_due : Stmt := top 75
abbrev s_law_name : Stmt := top 69
abbrev s_law_answer : Stmt := top 70
abbrev s_law_odd : Stmt := top 71
abbrev s_law_bent : Stmt := top 72
abbrev s_law_programs : Stmt := top 76
abbrev s_law : Stmt := top 77
def fn : List He5.DefA := [dM "is_integer" s_is_integer, dM "has_letters" s_has_letters, dM "is_word" s_is_word, dM "is_name" s_is_name, dM "is_kind" s_is_kind, dM "fits" s_fits, dM "is_answer" s_is_answer, dM "are_houses" s_are_houses, dM "are_kinds" s_are_kinds, dM "is_deed" s_is_deed, dM "words_ascend" s_words_ascend, dM "are_deeds" s_are_deeds, dM "are_variables" s_are_variables, dM "begins_with_word" s_begins, dM "is_story" s_is_story, dM "_law_cell_at" s_law_cell_at, dM "_law_deck" s_law_deck, dM "_law_draw" s_law_draw, dM "_law_pick" s_law_pick, dM "_law_name" s_law_name, dM "_law_answer" s_law_answer, dM "_law_odd" s_law_odd, dM "_law_bent" s_law_bent, dM "_law_is_name" s_law_is_name, dM "_law_is_answer" s_law_is_answer, dM "_law_due" s_law_due, dM "_law_programs" s_law_programs, dM "law" s_law, dC "Scope" "__init__" "Scope.__init__" s_Scope_init, dC "Scope" "is_body" "Scope.is_body" s_is_body, dC "Scope" "is_statement" "Scope.is_statement" s_is_statement, dC "Scope" "is_do" "Scope.is_do" s_is_do, dC "Program" "__init__" "Program.__init__" s_Program_init, dP "Program" "sites" "Program.sites" s_sites]
def fa0 : List He.Fa := [.glo "is_integer", .glo "has_letters", .glo "is_word", .glo "is_name", .glo "is_kind", .glo "fits", .glo "is_answer", .glo "are_houses", .glo "are_kinds", .glo "is_deed", .glo "words_ascend", .glo "are_deeds", .glo "are_variables", .glo "begins_with_word", .glo "is_story", .glo "_law_cell_at", .glo "_law_deck", .glo "_law_draw", .glo "_law_pick", .glo "_law_name", .glo "_law_answer", .glo "_law_odd", .glo "_law_bent", .glo "_law_is_name", .glo "_law_is_answer", .glo "_law_due", .glo "_law_programs", .glo "law", .glo "Scope", .glo "Program"]
def fa1 : List He.Fa := [.free "isinstance", .free "int", .free "bool", .free "str", .free "len", .free "all", .free "any", .free "tuple", .free "list", .free "range", .free "repr", .free "set", .free "zip", .free "max", .free "min", .int "LONGEST_WORD" 8, .int "LONGEST_NAME" 12, .int "MOST_NAMES_kinds" 3, .int "MOST_NAMES_running" 3, .int "MOST_HOUSES" 3, .int "MOST_ARGUMENTS" 3, .str "NEAR" "near", .str "REFUSAL" "!", .str "LETTERS" LT, .cls "Scope", .mkr "Scope", .cls "Program", .mkr "Program", .noat "Scope" "deeds_by_word", .noat "Scope" "kinds_by_word"]
def fa2 : List He.Fa := [.noat "Program" "houses", .noat "Program" "deeds", .noat "Program" "variables", .noat "Program" "body", .meth "Scope" "is_body", .meth "Scope" "is_statement", .meth "Scope" "is_do"]
def fa : List He.Fa := fa0 ++ (fa1 ++ (fa2))
def ex (K : PySem.W.Frag) : Bool := prpB K "Program" "sites"
abbrev RR : PySem.W.OpenRow := PySem.W.OpenLaw.row PySem.Challenge.rw_fewtrips_k12_what_are_stories
abbrev hk : PySem.W.Hook := hookZ 6 fa fn ex
def ob (s : PySem.W.SharedT) : AlZ := obsZ 6 fa fn ex (HandSHeadRun.getT s)
theorem ob_eq (s : PySem.W.SharedT) : ob s = hk.obs s.abs := obsZ_eq (HandSHeadRun.getT_eq s)
def loose0 : List Str := ["_wall", "__name__", "TripError", "BadProgram", "BadText", "NoDeed", "LETTERS", "LONGEST_WORD", "LONGEST_NAME", "MOST_NAMES_kinds", "NEAR", "REFUSAL", "is_integer", "has_letters", "is_word", "is_name", "is_kind", "is_names_kind", "fits", "goes_into", "MOST_NAMES_running", "is_answer", "is_story", "MOST_HOUSES", "MOST_ARGUMENTS", "MOST_TURNS", "are_houses", "are_kinds", "is_deed", "is_variable"]
def loose1 : List Str := ["words_ascend", "are_deeds", "are_variables", "begins_with_word", "kind_by_parts", "Scope", "STEP", "NAMES_KINDS", "show_kind", "show_expression", "constant_of", "value_of", "show_deed", "head_of", "lines_of", "show_program", "read_kind", "Words", "read_deed", "read_variable", "Body", "read_turns", "read_do", "read_parts", "bodies_of", "all_statements", "constants_in", "names_in_value", "Program", "_law_cell_at"]
def loose2 : List Str := ["_law_deck", "_law_draw", "_law_pick", "_law_name", "_law_answer", "_law_odd", "_law_bent", "_law_is_name", "_law_is_answer", "_law_due", "_law_programs"]
def loose : List Str := loose0 ++ (loose1 ++ (loose2))
theorem run (w : World) : HandSHeadRun.RunEq RR (PySem.W.view RR.prog [77]) hk ob 20000 loose w := by
  intro os
  kernel_rfl
end KK
set_option Elab.async false
set_option linter.all false
set_option maxRecDepth 100000
set_option maxHeartbeats 2000000
namespace Fw
open PySem PySem.Spec PyProof.Rows L2

/-- a promise kept wherever no repr is under way -/
structure FnG (P : Program) (w : World) (K : PySem.W.Frag) (mg : Str → Option Value) (base : Heap) (CX : CXT) (k : Nat) (f : Addr) (fd : FuncData) (ps : List Str) (sp : Sp) : Prop where
  cnt : ∀ vs H Q E, sp vs H Q E → vs.length = ps.length
  go : ∀ (A : Around) (fr : List Env) (s : Shared) (H : Hp) (ar : Args) (us : List Value) (vs : List V) (Q : VK) (E : XK), A.guards = some [] → Room k A → Env0 P w K mg base A fr s H →
    BindsTo s fd ar (ps.zip us) → Vals vs us → sp vs H Q E → codeAny (model P w) A (.call (.ref f) ar) (CR CX fr P w H s Q E) s

section
variable {P : Program} {w : World} {K : PySem.W.Frag} {mg : Str → Option Value} {base : Heap} {CX : CXT} {k : Nat} {f : Addr} {fd : FuncData} {ps : List Str} {sp : Sp}
theorem FnG.up {j : Nat} (F : FnG P w K mg base CX j f fd ps sp) (h : j ≤ k) : FnG P w K mg base CX k f fd ps sp :=
  ⟨F.cnt, fun A fr s H ar us vs Q E g r => F.go A fr s H ar us vs Q E g (r.mono h)⟩
theorem FnG.weak {sp' : Sp} (F : FnG P w K mg base CX k f fd ps sp) (h : ∀ vs H Q E, sp' vs H Q E → sp vs H Q E) : FnG P w K mg base CX k f fd ps sp' :=
  ⟨fun vs H Q E q => F.cnt vs H Q E (h vs H Q E q), fun A fr s H ar us vs Q E g r e b v q => F.go A fr s H ar us vs Q E g r e b v (h vs H Q E q)⟩

/-- by the body -/
theorem FnG.of_body {x : Str} {qual : Str} {params : Arguments} {body : List Stmt} {scope : Scope} {dvs : List V} {kws : List (Str × V)} {N : List Str} (F : FunD K x qual params body scope dvs kws f fd) (S : FnScope N ps scope)
    (cnt : ∀ vs H Q E, sp vs H Q E → vs.length = ps.length)
    (hb : ∀ (cd : Value) (A : Around) (fr : List Env) (s : Shared) (H : Hp) (vs : List V) (Q : VK) (E : XK), (A.deeper (envOfC qual scope s.heap.objs.size f cd)).guards = some [] → Room k (A.deeper (envOfC qual scope s.heap.objs.size f cd)) → sp vs H Q E →
      ∃ t, PSs (cxOf CX P w K mg base N qual scope f cd A fr s H E) body t ∧ t { nx := fun _ H' => Q .non H', rt := Q } (start N vs) H) : FnG P w K mg base CX (k + 1) f fd ps sp := by
  obtain ⟨oc, od, dV, kV, doc, pm, an, cd, ct, osl, rfl, lk, hcd, _, _⟩ := F.ex
  refine ⟨cnt, fun A fr s H ar us vs Q E g r e b rv q => ?_⟩
  have KX : K.In s.heap := e.mod.kin.keeps fun c o z => (e.bs c o z).1
  have lim : s.heap.NoLimit := e.mod.nolimit.keeps fun c o z => (e.bs c o z).1
  refine Att.call_fn KX lim lk hcd r.depth b ?_ (fun s1 x => ?_) S.co S.gen S.kind
  · rw [List.all_eq_true]
    rintro ⟨n, v⟩ hy
    rcases S.par n (List.of_mem_zip hy).1 with z | z
    · simp [z]
    · simp [z]
  · obtain ⟨t, ht, hq⟩ := hb cd A fr s H vs Q E g (r.deeper _) q
    have I : Inv (cxOf CX P w K mg base N qual scope f cd A fr s H E) [] (start N vs) H s1 := inv_start S r.hd e (cnt vs H Q E q) rv x
    refine wpAny_mono (ht.run [] s1 (start N vs) H _ I hq) (fun fl s' hs => ?_) fun _ _ z => z
    cases fl with
    | ret u => exact let ⟨v, _, H', J, rr, z⟩ := hs; ⟨v, H', J.os, J.bare, J.base, J.hok, rr, z⟩
    | next => exact let ⟨_, H', J, z⟩ := hs; ⟨V.non, H', J.os, J.bare, J.base, J.hok, rfl, z⟩
    | brk => exact let ⟨_, _, _, z⟩ := hs; False.elim z
    | cont => exact let ⟨_, _, _, z⟩ := hs; False.elim z
end

/-! calls -/
section
variable {X : Cx} {CX : CXT} {k : Nat} {f : Addr} {fd : FuncData} {ps : List Str} {sp : Sp} {E : XK} {x : Str} {p pos : Pos} {e : Expr} {es : List Expr} {t tk : TA} {kws : List Keyword} {ks : List Str}
theorem goes {pins : List (Addr × Obj)} {σ : L2.St} {H : Hp} {s : Shared} {Q : VK} {us ws : List Value} {vs : List V} {kw : List (Str × Value)} (F : FnG X.prog X.w X.K X.mg X.base CX k f fd ps sp) (g : X.A.guards = some []) (r : Room k X.A) (b : BindsTo s fd ⟨us, kw⟩ (ps.zip ws))
    (hx : Passes CX X E) (I : Inv X pins σ H s) (rv : Vals vs ws) (h : sp vs H Q E) : wpAny (model X.prog X.w) X.A (call (.ref f) us kw) (EP X pins σ Q) X.xe s := by
  refine wpAny_call (codeAny_mono (F.go X.A X.stack s H ⟨us, kw⟩ ws vs Q E g r I.env0 b rv h) fun res s' z => ?_)
  match res, z with
  | .error er, z => exact hx pins σ H s er s' I z
  | .ok (.ret u), z => exact I.after z
end

/-- a def st of the module, by its name, that keeps sp -/
structure Dfn (P : Program) (w : World) (K : PySem.W.Frag) (mg : Str → Option Value) (base : Heap) (CX : CXT) (k : Nat) (x : Str) (st : Stmt) (ps : List Str) (sp : Sp) : Prop where
  ex : ∃ (f : Addr) (fd : FuncData), mg x = some (.ref f) ∧ PySem.W.keepIn K (.ref f) = true ∧ FnG P w K mg base CX k f fd ps sp ∧
    (∃ (kV doc pm : Value) (an : Option Addr) (cd ct : Value), fd = PySem.W.fnOf x x (defArgs st) (defBody st) (defScope st) .none kV doc pm an cd ct) ∧ ∀ (s : Shared) (us : List Value), us.length = ps.length → BindsTo s fd ⟨us, []⟩ (ps.zip us)
/-- where a def of the text stands -/
structure Src (K : PySem.W.Frag) (mg : Str → Option Value) (x : Str) (st : Stmt) : Prop where
  ex : ∃ (f : Addr) (fd : FuncData), mg x = some (.ref f) ∧ FunD K x x (defArgs st) (defBody st) (defScope st) [] [] f fd
section
variable {P : Program} {w : World} {K : PySem.W.Frag} {mg : Str → Option Value} {base : Heap} {CX : CXT} {k : Nat} {ps : List Str} {sp : Sp} {x : Str} {st : Stmt}
theorem Dfn.up {j : Nat} (F : Dfn P w K mg base CX j x st ps sp) (h : j ≤ k) : Dfn P w K mg base CX k x st ps sp :=
  let ⟨f, fd, a, b, c, d, e⟩ := F.ex; ⟨f, fd, a, b, c.up h, d, e⟩
theorem Dfn.weak {sp' : Sp} (F : Dfn P w K mg base CX k x st ps sp) (h : ∀ vs H Q E, sp' vs H Q E → sp vs H Q E) : Dfn P w K mg base CX k x st ps sp' :=
  let ⟨f, fd, a, b, c, d, e⟩ := F.ex; ⟨f, fd, a, b, c.weak h, d, e⟩
theorem Src.ok {N : List Str} (F : Src K mg x st) (S : FnScope N ps (defScope st)) (cnt : ∀ vs H Q E, sp vs H Q E → vs.length = ps.length)
    (hbd : ∀ (kV doc pm : Value) (an : Option Addr) (cd ct : Value) (us : List Value), us.length = ps.length → bindArgs (PySem.W.fnOf x x (defArgs st) (defBody st) (defScope st) .none kV doc pm an cd ct) ⟨us, []⟩ = pure (ps.zip us))
    (hb : ∀ (f : Addr) (cd : Value) (A : Around) (fr : List Env) (s : Shared) (vs : List V) (H : Hp) (Q : VK) (E : XK), (A.deeper (envOfC x (defScope st) s.heap.objs.size f cd)).guards = some [] → Room k (A.deeper (envOfC x (defScope st) s.heap.objs.size f cd)) → sp vs H Q E →
      ∃ t, PSs (cxOf CX P w K mg base N x (defScope st) f cd A fr s H E).nox (defBody st) t ∧ t { nx := fun _ H' => Q .non H', rt := Q } (start N vs) H) : Dfn P w K mg base CX (k + 1) x st ps sp := by
  obtain ⟨f, fd, a, F⟩ := F.ex
  have hbs := FunD.bindsA (ps := ps) F hbd
  obtain ⟨oc, od, dV, kV, doc, pm, an, cd, ct, osl, e1, lk, hcd, hD, hK⟩ := F.ex
  have e2 : dV = .none := by
    rcases hD with ⟨_, z⟩ | ⟨z, _⟩
    · exact z
    · exact absurd rfl z
  subst e2
  refine ⟨f, fd, a, F.kp, FnG.of_body F S cnt (fun cd A fr s H vs Q E g r q => ?_), ⟨kV, doc, pm, an, cd, ct, e1⟩, fun s us hl => hbs s us hl⟩
  obtain ⟨t, h1, h2⟩ := hb f cd A fr s vs H Q E g r q
  exact ⟨t, h1.nox, h2⟩
end
section
variable {X : Cx} {CX : CXT} {k : Nat} {st : Stmt} {ps ks : List Str} {sp : Sp} {E : XK} {x : Str} {p pos : Pos} {e : Expr} {es : List Expr} {t tk : TA} {kws : List Keyword}
def tGo (sp : Sp) (E : XK) (t : TA) : TE := fun σ H Q => t σ H fun vs H1 => sp vs H1 Q E
/-- x(e, ..) -/
theorem pe_go (F : Dfn X.prog X.w X.K X.mg X.base CX k x st ps sp) (g : X.A.guards = some []) (r : Room k X.A) (hx : Passes CX X E) (ha : PA X (e :: es) t) (hg : Gl X x := by rfl)
    (h1 : (x == ("__debug__" : Str)) = false := by decide) (h2 : starEach (e :: es) X.env = (false, eval e X.env) :: starEach es X.env := by rfl) (h3 : (backTo pos (starEach es X.env)).any (·.1) = false := by rfl) :
    PE X (.Call (.Name x p) (e :: es) [] pos) (tGo sp E t) := by
  obtain ⟨f, fd, hm, hk, G, _, hb⟩ := F.ex
  refine ⟨fun pins s σ H Q I h => wpAny_Call_Name_kw (ld_glob I hg hm ?_ h1)⟩
  refine PySem.W.callWith_K (h₀ := X.base) I.ok.mod.kin hk (thn (ha.run pos pins s σ H _ I h) fun us s1 ⟨vs, H1, J, rv, q⟩ => ⟨J.kIn, ?_⟩) h2 h3
  exact goes G g r (hb s1 us (rv.length.symm.trans (G.cnt _ _ _ _ q))) hx J rv q
/-- x() -/
theorem pe_go0 (F : Dfn X.prog X.w X.K X.mg X.base CX k x st ps sp) (g : X.A.guards = some []) (r : Room k X.A) (hx : Passes CX X E) (hg : Gl X x := by rfl)
    (h1 : (x == ("__debug__" : Str)) = false := by decide) : PE X (.Call (.Name x p) [] [] pos) (tGo sp E tNil) := by
  obtain ⟨f, fd, hm, hk, G, _, hb⟩ := F.ex
  refine ⟨fun pins s σ H Q I h => wpAny_Call_Name_kw (ld_glob I hg hm ?_ h1)⟩
  exact PySem.W.callWith_K0 I.kIn hk (goes (us := []) (ws := []) (vs := []) G g r (hb s [] (G.cnt _ _ _ _ h)) hx I .nil h)
def tGoK (sp : Sp) (gV : List V → List V) (n : Nat) (E : XK) (t : TA) : TE := fun σ H Q => t σ H fun vs H1 => vs.length = n ∧ sp (gV vs) H1 Q E
/-- x(a=e, ..): keywords alone; gs puts them in the parameters' order -/
theorem pe_goK {gs : List Value → List Value} {gV : List V → List V} (F : Dfn X.prog X.w X.K X.mg X.base CX k x st ps sp) (g : X.A.guards = some []) (r : Room k X.A) (hx : Passes CX X E) (ha : PK X kws t)
    (hbk : ∀ (kV doc pm : Value) (an : Option Addr) (cd ct : Value) (us : List Value), us.length = ks.length → bindArgs (PySem.W.fnOf x x (defArgs st) (defBody st) (defScope st) .none kV doc pm an cd ct) ⟨[], ks.zip us⟩ = pure (ps.zip (gs us)))
    (hgs : ∀ vs us, Vals vs us → vs.length = ks.length → Vals (gV vs) (gs us)) (hg : Gl X x := by rfl)
    (hall : (backToKw pos (keywordEach kws X.env)).all (·.1.isSome) = true := by rfl) (hks : (backToKw pos (keywordEach kws X.env)).filterMap (·.1) = ks := by rfl)
    (h1 : (x == ("__debug__" : Str)) = false := by decide) (h3 : ((backTo pos (starEach [] X.env)).any (·.1) || (backToKw pos (keywordEach kws X.env)).any (·.1.isNone)) = false := by rfl) :
    PE X (.Call (.Name x p) [] kws pos) (tGoK sp gV ks.length E t) := by
  obtain ⟨f, fd, hm, hk, G, ⟨kV, doc, pm, an, cd, ct, efd⟩, _⟩ := F.ex
  refine ⟨fun pins s σ H Q I h => wpAny_Call_Name_kw (ld_glob I hg hm ?_ h1)⟩
  refine PySem.W.callWith_KW0 (h₀ := X.base) I.ok.mod.kin hk hall (thn (ha.run pos pins s σ H _ I h) fun us s1 ⟨vs, H1, J, rv, hl, q⟩ => ⟨J.kIn, ?_⟩) h3
  rw [hks]
  exact goes G g r (by rw [efd]; exact .of_eq (hbk kV doc pm an cd ct us (rv.length.symm.trans hl))) hx J (hgs vs us rv hl) q
end
end Fw

set_option Elab.async false
set_option linter.all false
set_option maxRecDepth 100000
set_option maxHeartbeats 2000000
namespace Fw
open PySem PySem.Spec PyProof.Rows L2

/-! ### the meaning of a piece of syntax as a reading -/
section
variable {X : Cx} {e : Expr} {es : List Expr} {st : Stmt} {sts : List Stmt} {σ : L2.St} {H : Hp}
def wE (X : Cx) (e : Expr) : TE := fun σ H Q => ∀ (pins : List (Addr × Obj)) (s : Shared), Inv X pins σ H s → wpAny (model X.prog X.w) X.A (eval e X.env) (EP X pins σ Q) X.xe s
def wT (X : Cx) (e : Expr) : TT := fun σ H Q => ∀ (pins : List (Addr × Obj)) (s : Shared), Inv X pins σ H s → wpAny (model X.prog X.w) X.A (isTrue e X.env (eval e X.env)) (TP X pins σ Q) X.xe s
def wW (X : Cx) (e : Expr) : TT := fun σ H Q => ∀ (wh : Sem Value) (pins : List (Addr × Obj)) (s : Shared), Inv X pins σ H s → wpAny (model X.prog X.w) X.A (isTrue e X.env wh) (TP X pins σ Q) X.xe s
def wA (X : Cx) (es : List Expr) : TA := fun σ H Q => ∀ (pos : Pos) (pins : List (Addr × Obj)) (s : Shared), Inv X pins σ H s → wpAny (model X.prog X.w) X.A (spliced (backTo pos (starEach es X.env))) (AP X pins σ Q) X.xe s
def wS (X : Cx) (st : Stmt) : TS := fun D σ H => ∀ (pins : List (Addr × Obj)) (s : Shared), Inv X pins σ H s → wpAny (model X.prog X.w) X.A (exec st X.env) (SP X pins D) X.xe s
def wB (X : Cx) (sts : List Stmt) : TS := fun D σ H => ∀ (pins : List (Addr × Obj)) (s : Shared), Inv X pins σ H s → wpAny (model X.prog X.w) X.A (execs sts X.env) (SP X pins D) X.xe s
theorem pw : PE X e (wE X e) := ⟨fun pins s _ _ _ I h => h pins s I⟩
theorem tw : PT X e (wT X e) := ⟨fun pins s _ _ _ I h => h pins s I⟩
theorem ww : PW X e (wW X e) := ⟨fun wh pins s _ _ _ I h => h wh pins s I⟩
theorem aw : PA X es (wA X es) := ⟨fun pos pins s _ _ _ I h => h pos pins s I⟩
theorem sw : PS X st (wS X st) := ⟨fun pins s _ _ _ I h => h pins s I⟩
theorem bw : PSs X sts (wB X sts) := ⟨fun pins s _ _ _ I h => h pins s I⟩
theorem toE {t : TE} {Q : VK} (h : PE X e t) (q : t σ H Q) : wE X e σ H Q := fun pins s I => h.run pins s σ H Q I q
theorem toT {t : TT} {Q : Bool → Hp → Prop} (h : PT X e t) (q : t σ H Q) : wT X e σ H Q := fun pins s I => h.run pins s σ H Q I q
theorem toW {t : TT} {Q : Bool → Hp → Prop} (h : PW X e t) (q : t σ H Q) : wW X e σ H Q := fun wh pins s I => h.run wh pins s σ H Q I q
theorem toA {t : TA} {Q : List V → Hp → Prop} (h : PA X es t) (q : t σ H Q) : wA X es σ H Q := fun pos pins s I => h.run pos pins s σ H Q I q
theorem toS {t : TS} {D : Ends} (h : PS X st t) (q : t D σ H) : wS X st D σ H := fun pins s I => h.run pins s σ H D I q
theorem toB {t : TS} {D : Ends} (h : PSs X sts t) (q : t D σ H) : wB X sts D σ H := fun pins s I => h.run pins s σ H D I q
end

/-! ### data in the heap -/
def keyD : Key → PyData
  | .inl i => .int i
  | .inr x => .str x
mutual
/-- v is the datum d; none of its objects is one of M -/
inductive Dt (K : PySem.W.Frag) (M : Addr → Prop) (H : Hp) : V → PyData → Prop
  | non : Dt K M H .non .none
  | bl (b : Bool) : Dt K M H (.bl b) (.bool b)
  | int (i : Int) : Dt K M H (.int i) (.int i)
  | str (x : Str) : Dt K M H (.str x) (.str x)
  | lst {a : Addr} {xs : List V} {ds : List PyData} : ¬ M a → H a = some (.lst xs) → DtA K M H xs ds → Dt K M H (.ref a) (.list ds)
  | tup {a : Addr} {xs : List V} {ds : List PyData} : ¬ M a → H a = some (.tup xs) → DtA K M H xs ds → Dt K M H (.ref a) (.tuple ds)
  | wtp {a : Addr} {xs : List V} {ds : List PyData} : SqT K (fun _ => none) a xs → DtA K M H xs ds → Dt K M H (.ref a) (.tuple ds)
  | dic {a : Addr} {kvs : List (Key × V)} {ds : List PyData} : ¬ M a → H a = some (.dK kvs) → DtA K M H (kvs.map (·.2)) ds → Dt K M H (.ref a) (.dict ((kvs.map fun p => keyD p.1).zip ds))
inductive DtA (K : PySem.W.Frag) (M : Addr → Prop) (H : Hp) : List V → List PyData → Prop
  | nil : DtA K M H [] []
  | cons {v : V} {vs : List V} {d : PyData} {ds : List PyData} : Dt K M H v d → DtA K M H vs ds → DtA K M H (v :: vs) (d :: ds)
end
/-- what is not of M stays -/
def Ex (M : Addr → Prop) (H H' : Hp) : Prop := ∀ b o, ¬ M b → H b = some o → H' b = some o
section
variable {K : PySem.W.Frag} {M : Addr → Prop} {H H1 H2 : Hp}
theorem Ex.rfl' : Ex M H H := fun _ _ _ h => h
theorem Ex.trans (a : Ex M H H1) (b : Ex M H1 H2) : Ex M H H2 := fun c o n h => b c o n (a c o n h)
theorem Ex.of (h : Same H H1) : Ex M H H1 := fun b o _ e => h b o e
mutual
theorem Dt.mono (e : Ex M H H1) : ∀ {v : V} {d : PyData}, Dt K M H v d → Dt K M H1 v d
  | _, _, .non => .non
  | _, _, .bl b => .bl b
  | _, _, .int b => .int b
  | _, _, .str b => .str b
  | _, _, .lst n h1 h2 => .lst n (e _ _ n h1) (DtA.mono e h2)
  | _, _, .tup n h1 h2 => .tup n (e _ _ n h1) (DtA.mono e h2)
  | _, _, .wtp h1 h2 => .wtp h1 (DtA.mono e h2)
  | _, _, .dic n h1 h2 => .dic n (e _ _ n h1) (DtA.mono e h2)
theorem DtA.mono (e : Ex M H H1) : ∀ {vs : List V} {ds : List PyData}, DtA K M H vs ds → DtA K M H1 vs ds
  | _, _, .nil => .nil
  | _, _, .cons h1 h2 => .cons (Dt.mono e h1) (DtA.mono e h2)
end
theorem Dt.isT {v : V} {ds : List PyData} (h : Dt K M H v (.tuple ds)) : ∃ (a : Addr) (xs : List V), v = .ref a ∧ SqT K H a xs ∧ DtA K M H xs ds ∧ ∀ H1, Ex M H H1 → SqT K H1 a xs := by
  cases h with
  | tup n h1 h2 => exact ⟨_, _, rfl, SqT.of h1, h2, fun H1 e => SqT.of (e _ _ n h1)⟩
  | wtp h1 h2 =>
    have q : ∀ H1 : Hp, SqT K H1 _ _ := fun H1 => by
      rcases h1 with (h1 | ⟨o, h1⟩) | h1
      · cases h1
      · cases h1
      · exact .inr h1
    exact ⟨_, _, rfl, q H, h2, fun H1 _ => q H1⟩
theorem DtA.len : ∀ {vs : List V} {ds : List PyData}, DtA K M H vs ds → vs.length = ds.length
  | _, _, .nil => rfl
  | _, _, .cons _ h => congrArg (· + 1) h.len
theorem DtA.app : ∀ {vs us : List V} {ds es : List PyData}, DtA K M H vs ds → DtA K M H us es → DtA K M H (vs ++ us) (ds ++ es)
  | _, _, _, _, .nil, h => h
  | _, _, _, _, .cons a b, h => .cons a (b.app h)
theorem DtA.take : ∀ {vs : List V} {ds : List PyData} (n : Nat), DtA K M H vs ds → DtA K M H (vs.take n) (ds.take n)
  | _, _, 0, _ => .nil
  | _, _, _ + 1, .nil => .nil
  | _, _, n + 1, .cons a b => .cons a (b.take n)
theorem DtA.drop : ∀ {vs : List V} {ds : List PyData} (n : Nat), DtA K M H vs ds → DtA K M H (vs.drop n) (ds.drop n)
  | _, _, 0, h => h
  | _, _, _ + 1, .nil => .nil
  | _, _, n + 1, .cons _ b => b.drop n
theorem DtA.get : ∀ {vs : List V} {ds : List PyData} {i : Nat} {d : PyData}, DtA K M H vs ds → ds[i]? = some d → ∃ v, vs[i]? = some v ∧ Dt K M H v d
  | _, _, _, _, .nil, e => by simp at e
  | _, _, 0, _, .cons a _, e => by simp at e; subst e; exact ⟨_, rfl, a⟩
  | _, _, i + 1, _, .cons _ b, e => by
    obtain ⟨v, h1, h2⟩ := b.get (i := i) (by simpa using e)
    exact ⟨v, by simpa using h1, h2⟩
theorem DtA.getV : ∀ {vs : List V} {ds : List PyData} {i : Nat} {v : V}, DtA K M H vs ds → vs[i]? = some v → ∃ d, ds[i]? = some d ∧ Dt K M H v d
  | _, _, _, _, .nil, e => by simp at e
  | _, _, 0, _, .cons a _, e => by simp at e; subst e; exact ⟨_, rfl, a⟩
  | _, _, i + 1, _, .cons _ b, e => by
    obtain ⟨v, h1, h2⟩ := b.getV (i := i) (by simpa using e)
    exact ⟨v, by simpa using h1, h2⟩
theorem DtA.rev : ∀ {vs : List V} {ds : List PyData}, DtA K M H vs ds → DtA K M H vs.reverse ds.reverse
  | _, _, .nil => .nil
  | _, _, .cons a b => by
    rw [List.reverse_cons, List.reverse_cons]
    exact b.rev.app (.cons a .nil)
theorem DtA.rep {vs : List V} {ds : List PyData} (h : DtA K M H vs ds) : ∀ n : Nat, DtA K M H (List.replicate n vs).flatten (List.replicate n ds).flatten
  | 0 => .nil
  | n + 1 => by
    rw [List.replicate_succ, List.replicate_succ, List.flatten_cons, List.flatten_cons]
    exact h.app (h.rep n)
end
mutual
theorem Dt.less {K : PySem.W.Frag} {M M' : Addr → Prop} {H : Hp} (h : ∀ b, M b → M' b) : ∀ {v : V} {d : PyData}, Dt K M' H v d → Dt K M H v d
  | _, _, .non => .non
  | _, _, .bl b => .bl b
  | _, _, .int b => .int b
  | _, _, .str b => .str b
  | _, _, .lst n h1 h2 => .lst (fun z => n (h _ z)) h1 (DtA.less h h2)
  | _, _, .tup n h1 h2 => .tup (fun z => n (h _ z)) h1 (DtA.less h h2)
  | _, _, .wtp h1 h2 => .wtp h1 (DtA.less h h2)
  | _, _, .dic n h1 h2 => .dic (fun z => n (h _ z)) h1 (DtA.less h h2)
theorem DtA.less {K : PySem.W.Frag} {M M' : Addr → Prop} {H : Hp} (h : ∀ b, M b → M' b) : ∀ {vs : List V} {ds : List PyData}, DtA K M' H vs ds → DtA K M H vs ds
  | _, _, .nil => .nil
  | _, _, .cons h1 h2 => .cons (Dt.less h h1) (DtA.less h h2)
end
mutual
/-- an object that was not there ahead is none of theirs -/
theorem Dt.more {K : PySem.W.Frag} {M M' : Addr → Prop} {H : Hp} (h : ∀ b, M' b → ¬ M b → H b = none) : ∀ {v : V} {d : PyData}, Dt K M H v d → Dt K M' H v d
  | _, _, .non => .non
  | _, _, .bl b => .bl b
  | _, _, .int b => .int b
  | _, _, .str b => .str b
  | _, _, .lst n h1 h2 => .lst (fun z => by have q := h _ z n; rw [h1] at q; cases q) h1 (DtA.more h h2)
  | _, _, .tup n h1 h2 => .tup (fun z => by have q := h _ z n; rw [h1] at q; cases q) h1 (DtA.more h h2)
  | _, _, .wtp h1 h2 => .wtp h1 (DtA.more h h2)
  | _, _, .dic n h1 h2 => .dic (fun z => by have q := h _ z n; rw [h1] at q; cases q) h1 (DtA.more h h2)
theorem DtA.more {K : PySem.W.Frag} {M M' : Addr → Prop} {H : Hp} (h : ∀ b, M' b → ¬ M b → H b = none) : ∀ {vs : List V} {ds : List PyData}, DtA K M H vs ds → DtA K M' H vs ds
  | _, _, .nil => .nil
  | _, _, .cons h1 h2 => .cons (Dt.more h h1) (DtA.more h h2)
end

/-! ### frozen objects -/
inductive Ob where
  | d (x : PyData)
  | v (x : V)
  | ins (C : Addr) (fs : List (Str × Ob))
  | lst (xs : List Ob)
  | tup (xs : List Ob)
  | dT (kvs : List (List Key × PyData))
mutual
inductive Ot (K : PySem.W.Frag) (M : Addr → Prop) (H : Hp) : V → Ob → Prop
  | d {v : V} {x : PyData} : Dt K M H v x → Ot K M H v (.d x)
  | v (v : V) : Ot K M H v (.v v)
  | ins {a C dx : Addr} {kvs : List (Str × V)} {fs : List (Str × Ob)} : ¬ M a → H a = some (.ins C dx kvs) → OtF K M H kvs fs → Ot K M H (.ref a) (.ins C fs)
  | lst {a : Addr} {xs : List V} {os : List Ob} : ¬ M a → H a = some (.lst xs) → OtA K M H xs os → Ot K M H (.ref a) (.lst os)
  | tup {a : Addr} {xs : List V} {os : List Ob} : ¬ M a → H a = some (.tup xs) → OtA K M H xs os → Ot K M H (.ref a) (.tup os)
  | dT {a : Addr} {kvs : List (List Key × V)} {ds : List PyData} : ¬ M a → H a = some (.dT kvs) → DtA K M H (kvs.map (·.2)) ds → Ot K M H (.ref a) (.dT ((kvs.map (·.1)).zip ds))
inductive OtA (K : PySem.W.Frag) (M : Addr → Prop) (H : Hp) : List V → List Ob → Prop
  | nil : OtA K M H [] []
  | cons {v : V} {vs : List V} {o : Ob} {os : List Ob} : Ot K M H v o → OtA K M H vs os → OtA K M H (v :: vs) (o :: os)
inductive OtF (K : PySem.W.Frag) (M : Addr → Prop) (H : Hp) : List (Str × V) → List (Str × Ob) → Prop
  | nil : OtF K M H [] []
  | cons {n : Str} {v : V} {vs : List (Str × V)} {o : Ob} {os : List (Str × Ob)} : Ot K M H v o → OtF K M H vs os → OtF K M H ((n, v) :: vs) ((n, o) :: os)
end
section
variable {K : PySem.W.Frag} {M M' : Addr → Prop} {H H1 : Hp}
mutual
theorem Ot.mono (e : Ex M H H1) : ∀ {v : V} {o : Ob}, Ot K M H v o → Ot K M H1 v o
  | _, _, .d h => .d (h.mono e)
  | _, _, .v v => .v v
  | _, _, .ins n h1 h2 => .ins n (e _ _ n h1) (OtF.mono e h2)
  | _, _, .lst n h1 h2 => .lst n (e _ _ n h1) (OtA.mono e h2)
  | _, _, .tup n h1 h2 => .tup n (e _ _ n h1) (OtA.mono e h2)
  | _, _, .dT n h1 h2 => .dT n (e _ _ n h1) (h2.mono e)
theorem OtA.mono (e : Ex M H H1) : ∀ {vs : List V} {os : List Ob}, OtA K M H vs os → OtA K M H1 vs os
  | _, _, .nil => .nil
  | _, _, .cons h1 h2 => .cons (Ot.mono e h1) (OtA.mono e h2)
theorem OtF.mono (e : Ex M H H1) : ∀ {vs : List (Str × V)} {os : List (Str × Ob)}, OtF K M H vs os → OtF K M H1 vs os
  | _, _, .nil => .nil
  | _, _, .cons h1 h2 => .cons (Ot.mono e h1) (OtF.mono e h2)
end
mutual
theorem Ot.less (h : ∀ b, M b → M' b) : ∀ {v : V} {o : Ob}, Ot K M' H v o → Ot K M H v o
  | _, _, .d q => .d (q.less h)
  | _, _, .v v => .v v
  | _, _, .ins n h1 h2 => .ins (fun z => n (h _ z)) h1 (OtF.less h h2)
  | _, _, .lst n h1 h2 => .lst (fun z => n (h _ z)) h1 (OtA.less h h2)
  | _, _, .tup n h1 h2 => .tup (fun z => n (h _ z)) h1 (OtA.less h h2)
  | _, _, .dT n h1 h2 => .dT (fun z => n (h _ z)) h1 (h2.less h)
theorem OtA.less (h : ∀ b, M b → M' b) : ∀ {vs : List V} {os : List Ob}, OtA K M' H vs os → OtA K M H vs os
  | _, _, .nil => .nil
  | _, _, .cons h1 h2 => .cons (Ot.less h h1) (OtA.less h h2)
theorem OtF.less (h : ∀ b, M b → M' b) : ∀ {vs : List (Str × V)} {os : List (Str × Ob)}, OtF K M' H vs os → OtF K M H vs os
  | _, _, .nil => .nil
  | _, _, .cons h1 h2 => .cons (Ot.less h h1) (OtF.less h h2)
end
mutual
theorem Ot.more (h : ∀ b, M' b → ¬ M b → H b = none) : ∀ {v : V} {o : Ob}, Ot K M H v o → Ot K M' H v o
  | _, _, .d q => .d (q.more h)
  | _, _, .v v => .v v
  | _, _, .ins n h1 h2 => .ins (fun z => by have q := h _ z n; rw [h1] at q; cases q) h1 (OtF.more h h2)
  | _, _, .lst n h1 h2 => .lst (fun z => by have q := h _ z n; rw [h1] at q; cases q) h1 (OtA.more h h2)
  | _, _, .tup n h1 h2 => .tup (fun z => by have q := h _ z n; rw [h1] at q; cases q) h1 (OtA.more h h2)
  | _, _, .dT n h1 h2 => .dT (fun z => by have q := h _ z n; rw [h1] at q; cases q) h1 (h2.more h)
theorem OtA.more (h : ∀ b, M' b → ¬ M b → H b = none) : ∀ {vs : List V} {os : List Ob}, OtA K M H vs os → OtA K M' H vs os
  | _, _, .nil => .nil
  | _, _, .cons h1 h2 => .cons (Ot.more h h1) (OtA.more h h2)
theorem OtF.more (h : ∀ b, M' b → ¬ M b → H b = none) : ∀ {vs : List (Str × V)} {os : List (Str × Ob)}, OtF K M H vs os → OtF K M' H vs os
  | _, _, .nil => .nil
  | _, _, .cons h1 h2 => .cons (Ot.more h h1) (OtF.more h h2)
end
theorem OtA.len : ∀ {vs : List V} {ds : List Ob}, OtA K M H vs ds → vs.length = ds.length
  | _, _, .nil => rfl
  | _, _, .cons _ h => congrArg (· + 1) h.len
theorem OtA.app : ∀ {vs us : List V} {ds es : List Ob}, OtA K M H vs ds → OtA K M H us es → OtA K M H (vs ++ us) (ds ++ es)
  | _, _, _, _, .nil, h => h
  | _, _, _, _, .cons a b, h => .cons a (b.app h)
theorem OtA.get : ∀ {vs : List V} {ds : List Ob} {i : Nat} {d : Ob}, OtA K M H vs ds → ds[i]? = some d → ∃ v, vs[i]? = some v ∧ Ot K M H v d
  | _, _, _, _, .nil, e => by simp at e
  | _, _, 0, _, .cons a _, e => by simp at e; subst e; exact ⟨_, rfl, a⟩
  | _, _, i + 1, _, .cons _ b, e => by
    obtain ⟨v, h1, h2⟩ := b.get (i := i) (by simpa using e)
    exact ⟨v, by simpa using h1, h2⟩
theorem OtA.getV : ∀ {vs : List V} {ds : List Ob} {i : Nat} {v : V}, OtA K M H vs ds → vs[i]? = some v → ∃ d, ds[i]? = some d ∧ Ot K M H v d
  | _, _, _, _, .nil, e => by simp at e
  | _, _, 0, _, .cons a _, e => by simp at e; subst e; exact ⟨_, rfl, a⟩
  | _, _, i + 1, _, .cons _ b, e => by
    obtain ⟨v, h1, h2⟩ := b.getV (i := i) (by simpa using e)
    exact ⟨v, by simpa using h1, h2⟩
theorem OtF.get : ∀ {vs : List (Str × V)} {fs : List (Str × Ob)} {n : Str} {o : Ob}, OtF K M H vs fs → fs.lookup n = some o → ∃ v, vs.lookup n = some v ∧ Ot K M H v o
  | _, _, _, _, .nil, e => by simp at e
  | _, _, n, _, .cons (n := m) a b, e => by
    rw [List.lookup_cons] at e
    rw [List.lookup_cons]
    cases q : n == m with
    | true => rw [q] at e; cases e; exact ⟨_, rfl, a⟩
    | false => rw [q] at e; exact b.get e
theorem OtF.none : ∀ {vs : List (Str × V)} {fs : List (Str × Ob)} {n : Str}, OtF K M H vs fs → fs.lookup n = .none → vs.lookup n = .none
  | _, _, _, .nil, _ => rfl
  | _, _, n, .cons (n := m) a b, e => by
    rw [List.lookup_cons] at e
    rw [List.lookup_cons]
    cases q : n == m with
    | true => rw [q] at e; cases e
    | false => rw [q] at e; exact b.none e
theorem OtF.len : ∀ {vs : List (Str × V)} {fs : List (Str × Ob)}, OtF K M H vs fs → vs.length = fs.length
  | _, _, .nil => rfl
  | _, _, .cons _ h => congrArg (· + 1) h.len
end

/-! ### values and slots -/
inductive Vl where
  | d (x : PyData)
  | v (x : V)
  | o (x : Ob)
def Vt (K : PySem.W.Frag) (M : Addr → Prop) (H : Hp) (v : V) : Vl → Prop
  | .d x => Dt K M H v x
  | .v u => v = u
  | .o x => Ot K M H v x
def Ob.vl : Ob → Vl
  | .d x => .d x
  | .v x => .v x
  | .ins C fs => .o (.ins C fs)
  | .lst xs => .o (.lst xs)
  | .tup xs => .o (.tup xs)
  | .dT xs => .o (.dT xs)
def Vl.ob : Vl → Ob
  | .d x => .d x
  | .v x => .v x
  | .o x => x
theorem Ob.vt {K : PySem.W.Frag} {M : Addr → Prop} {H : Hp} {v : V} {o : Ob} (h : Ot K M H v o) : Vt K M H v o.vl := by
  cases h with
  | d q => exact q
  | v => rfl
  | ins n h1 h2 => exact Ot.ins n h1 h2
  | lst n h1 h2 => exact Ot.lst n h1 h2
  | tup n h1 h2 => exact Ot.tup n h1 h2
  | dT n h1 h2 => exact Ot.dT n h1 h2
theorem Vl.ot {K : PySem.W.Frag} {M : Addr → Prop} {H : Hp} {v : V} {x : Vl} (h : Vt K M H v x) : Ot K M H v x.ob := by
  cases x with
  | d y => exact .d h
  | v y => cases (show v = y from h); exact .v _
  | o y => exact h
abbrev Rho := List (Option Vl)
structure En (K : PySem.W.Frag) (M : Addr → Prop) (H : Hp) (σ : L2.St) (ρ : Rho) : Prop where
  len : σ.length = ρ.length
  at_ : ∀ (i : Nat) (x : Vl), ρ[i]? = some (some x) → ∃ v, σ[i]? = some (some v) ∧ Vt K M H v x
section
variable {K : PySem.W.Frag} {M : Addr → Prop} {H H1 : Hp} {σ : L2.St} {ρ : Rho} {v : V} {x : Vl}
theorem Vt.mono (e : Ex M H H1) (h : Vt K M H v x) : Vt K M H1 v x := by
  cases x with
  | d y => exact Dt.mono e h
  | v y => exact h
  | o y => exact Ot.mono e h
theorem Vt.less {M' : Addr → Prop} (e : ∀ b, M b → M' b) (h : Vt K M' H v x) : Vt K M H v x := by
  cases x with
  | d y => exact Dt.less e h
  | v y => exact h
  | o y => exact Ot.less e h
theorem Vt.more {M' : Addr → Prop} (e : ∀ b, M' b → ¬ M b → H b = none) (h : Vt K M H v x) : Vt K M' H v x := by
  cases x with
  | d y => exact Dt.more e h
  | v y => exact h
  | o y => exact Ot.more e h
theorem En.mono (e : Ex M H H1) (h : En K M H σ ρ) : En K M H1 σ ρ := ⟨h.len, fun i x q => let ⟨v, a, b⟩ := h.at_ i x q; ⟨v, a, b.mono e⟩⟩
theorem En.lessM {M' : Addr → Prop} (e : ∀ b, M b → M' b) (h : En K M' H σ ρ) : En K M H σ ρ := ⟨h.len, fun i x q => let ⟨v, a, b⟩ := h.at_ i x q; ⟨v, a, b.less e⟩⟩
theorem En.moreM {M' : Addr → Prop} (e : ∀ b, M' b → ¬ M b → H b = none) (h : En K M H σ ρ) : En K M' H σ ρ := ⟨h.len, fun i x q => let ⟨v, a, b⟩ := h.at_ i x q; ⟨v, a, b.more e⟩⟩
theorem En.set (h : En K M H σ ρ) (i : Nat) (hv : Vt K M H v x) : En K M H (σ.set i (some v)) (ρ.set i (some x)) := by
  refine ⟨by simp [h.len], fun j y q => ?_⟩
  by_cases e : i = j
  · subst e
    have hl : i < ρ.length := by
      by_cases hl : i < ρ.length
      · exact hl
      · rw [List.getElem?_eq_none (by simp; omega)] at q; cases q
    rw [List.getElem?_set_self hl] at q
    cases q
    exact ⟨v, List.getElem?_set_self (by rw [h.len]; exact hl), hv⟩
  · rw [List.getElem?_set_ne e] at q
    obtain ⟨u, a, b⟩ := h.at_ j y q
    exact ⟨u, by rw [List.getElem?_set_ne e]; exact a, b⟩
def wipR (ρ : Rho) : List Nat → Rho
  | [] => ρ
  | i :: l => (wipR ρ l).set i none
theorem En.wip (h : En K M H σ ρ) : ∀ l : List Nat, En K M H (wipe σ l) (wipR ρ l)
  | [] => h
  | i :: l => by
    have q := h.wip l
    refine ⟨by simp [wipe, wipR, q.len], fun j y z => ?_⟩
    unfold wipR at z
    by_cases e : i = j
    · subst e
      by_cases hl : i < (wipR ρ l).length
      · rw [List.getElem?_set_self hl] at z; cases z
      · rw [List.getElem?_eq_none (by simp; omega)] at z; cases z
    · rw [List.getElem?_set_ne e] at z
      obtain ⟨u, a, b⟩ := q.at_ j y z
      exact ⟨u, by unfold wipe; rw [List.getElem?_set_ne e]; exact a, b⟩
/-- less is known -/
theorem En.less {ρ' : Rho} (h : En K M H σ ρ) (hl : ρ'.length = ρ.length) (hs : ∀ (i : Nat) x, ρ'[i]? = some (some x) → ρ[i]? = some (some x)) : En K M H σ ρ' :=
  ⟨h.len.trans hl.symm, fun i x q => h.at_ i x (hs i x q)⟩
theorem En.start {N : List Str} {vs : List V} {xs : List Vl} (hl : vs.length = xs.length) (h : ∀ (i : Nat) x, xs[i]? = some x → ∃ v, vs[i]? = some v ∧ Vt K M H v x) :
    En K M H (L2.start N vs) (xs.map some ++ List.replicate (N.length - xs.length) none) := by
  refine ⟨by simp [L2.start, hl], fun i x q => ?_⟩
  unfold L2.start
  by_cases hi : i < xs.length
  · rw [List.getElem?_append_left (by simpa using hi), List.getElem?_map] at q
    cases e : xs[i]? with
    | none => rw [e] at q; cases q
    | some y =>
      rw [e] at q; cases q
      obtain ⟨v, a, b⟩ := h i _ e
      exact ⟨v, by rw [List.getElem?_append_left (by simpa [hl] using hi), List.getElem?_map, a]; rfl, b⟩
  · rw [List.getElem?_append_right (by simpa using hi), List.getElem?_replicate] at q
    split at q <;> cases q
end

/-! ### the world of a body: data lies apart from M; C may change, and J tells of C -/
structure Wd (S : Type) where
  M : Addr → Prop
  C : Addr → Prop
  J : (Addr → Prop) → S → Hp → Prop
  sub : ∀ {b : Addr}, C b → M b
  keep : ∀ {N : Addr → Prop} {s : S} {H H' : Hp}, J N s H → (∀ b o, (C b ∨ ¬ N b) → H b = some o → H' b = some o) → J N s H'
  more : ∀ {N N' : Addr → Prop} {s : S} {H : Hp}, J N s H → (∀ b, N' b → ¬ N b → H b = none) → J N' s H
  less : ∀ {N N' : Addr → Prop} {s : S} {H : Hp}, J N' s H → (∀ b, N b → N' b) → J N s H
def Wd.At {S : Type} (W : Wd S) (s : S) (H : Hp) : Prop := W.J W.M s H ∧ ∀ b, W.M b → H b ≠ none
section
variable {S : Type} {X : Cx} {W : Wd S}
theorem Wd.At.new {s : S} {H : Hp} {p : Addr} (j : W.At s H) (h : H p = none) : ¬ W.M p := fun m => j.2 p m h
theorem same_new {H : Hp} {p : Addr} {o : HO} (h : H p = none) : Same H (upd H p o) := fun b u e => by
  rw [upd_ne (ne_of_none e h)]
  exact e
theorem Wd.At.same {s : S} {H H' : Hp} (j : W.At s H) (e : Same H H') : W.At s H' := ⟨W.keep j.1 fun b o _ q => e b o q, fun b m z => by
  cases q : H b with
  | none => exact j.2 b m q
  | some o => rw [e b o q] at z; cases z⟩
theorem Wd.up (W : Wd S) {H H' : Hp} (e : Ex W.C H H') : Ex W.M H H' := fun b o n q => e b o (fun c => n (W.sub c)) q
theorem Wd.dm (W : Wd S) {K : PySem.W.Frag} {H H' : Hp} {v : V} {d : PyData} (e : Ex W.C H H') (h : Dt K W.M H v d) : Dt K W.M H' v d := Dt.mono (W.up e) h
theorem Wd.vm (W : Wd S) {K : PySem.W.Frag} {H H' : Hp} {v : V} {d : Vl} (e : Ex W.C H H') (h : Vt K W.M H v d) : Vt K W.M H' v d := Vt.mono (W.up e) h
theorem Wd.em (W : Wd S) {K : PySem.W.Frag} {H H' : Hp} {σ : L2.St} {ρ : Rho} (e : Ex W.C H H') (h : En K W.M H σ ρ) : En K W.M H' σ ρ := En.mono (W.up e) h
/-- what is wanted behind an expression, seen from a heap -/
def Kn (X : Cx) (W : Wd S) (H : Hp) (Φ : Vl → S → Prop) (Q : VK) : Prop := ∀ v H2 x s', Ex W.C H H2 → W.At s' H2 → Vt X.K W.M H2 v x → Φ x s' → Q v H2
def KnA (X : Cx) (W : Wd S) (H : Hp) (Φ : List Vl → S → Prop) (Q : List V → Hp → Prop) : Prop := ∀ vs H2 xs s', Ex W.C H H2 → W.At s' H2 → Paired (Vt X.K W.M H2) vs xs → Φ xs s' → Q vs H2
def KnT (W : Wd S) (H : Hp) (Φ : Bool → S → Prop) (Q : Bool → Hp → Prop) : Prop := ∀ b H2 s', Ex W.C H H2 → W.At s' H2 → Φ b s' → Q b H2
structure dE (X : Cx) (W : Wd S) (ρ : Rho) (s : S) (e : Expr) (Φ : Vl → S → Prop) : Prop where
  go : ∀ σ H Q, En X.K W.M H σ ρ → W.At s H → Kn X W H Φ Q → wE X e σ H Q
structure dA (X : Cx) (W : Wd S) (ρ : Rho) (s : S) (es : List Expr) (Φ : List Vl → S → Prop) : Prop where
  go : ∀ σ H Q, En X.K W.M H σ ρ → W.At s H → KnA X W H Φ Q → wA X es σ H Q
structure dT (X : Cx) (W : Wd S) (ρ : Rho) (s : S) (e : Expr) (Φ : Bool → S → Prop) : Prop where
  go : ∀ σ H Q, En X.K W.M H σ ρ → W.At s H → KnT W H Φ Q → wT X e σ H Q
structure dW (X : Cx) (W : Wd S) (ρ : Rho) (s : S) (e : Expr) (Φ : Bool → S → Prop) : Prop where
  go : ∀ σ H Q, En X.K W.M H σ ρ → W.At s H → KnT W H Φ Q → wW X e σ H Q
/-- ends of a block -/
structure DE (S : Type) where
  nx : Rho → S → Prop
  rt : Vl → S → Prop
  bk : Rho → S → Prop := fun _ _ => False
  ct : Rho → S → Prop := fun _ _ => False
structure KnS (X : Cx) (W : Wd S) (H : Hp) (Φ : DE S) (D : Ends) : Prop where
  nx : ∀ σ H2 ρ s', Ex W.C H H2 → W.At s' H2 → En X.K W.M H2 σ ρ → Φ.nx ρ s' → D.nx σ H2
  rt : ∀ v H2 x s', Ex W.C H H2 → W.At s' H2 → Vt X.K W.M H2 v x → Φ.rt x s' → D.rt v H2
  bk : ∀ σ H2 ρ s', Ex W.C H H2 → W.At s' H2 → En X.K W.M H2 σ ρ → Φ.bk ρ s' → D.bk σ H2
  ct : ∀ σ H2 ρ s', Ex W.C H H2 → W.At s' H2 → En X.K W.M H2 σ ρ → Φ.ct ρ s' → D.ct σ H2
structure dS (X : Cx) (W : Wd S) (ρ : Rho) (s : S) (st : Stmt) (Φ : DE S) : Prop where
  go : ∀ σ H D, En X.K W.M H σ ρ → W.At s H → KnS X W H Φ D → wS X st D σ H
structure dB (X : Cx) (W : Wd S) (ρ : Rho) (s : S) (sts : List Stmt) (Φ : DE S) : Prop where
  go : ∀ σ H D, En X.K W.M H σ ρ → W.At s H → KnS X W H Φ D → wB X sts D σ H
theorem Kn.ex {H H1 : Hp} {Φ : Vl → S → Prop} {Q : VK} (k : Kn X W H Φ Q) (e : Ex W.C H H1) : Kn X W H1 Φ Q := fun v H2 x s' a b c d => k v H2 x s' (e.trans a) b c d
theorem KnA.ex {H H1 : Hp} {Φ : List Vl → S → Prop} {Q : List V → Hp → Prop} (k : KnA X W H Φ Q) (e : Ex W.C H H1) : KnA X W H1 Φ Q := fun v H2 x s' a b c d => k v H2 x s' (e.trans a) b c d
theorem KnT.ex {H H1 : Hp} {Φ : Bool → S → Prop} {Q : Bool → Hp → Prop} (k : KnT W H Φ Q) (e : Ex W.C H H1) : KnT W H1 Φ Q := fun v H2 s' a b c => k v H2 s' (e.trans a) b c
theorem KnS.ex {H H1 : Hp} {Φ : DE S} {D : Ends} (k : KnS X W H Φ D) (e : Ex W.C H H1) : KnS X W H1 Φ D :=
  ⟨fun a b c d e1 => k.nx a b c d (e.trans e1), fun a b c d e1 => k.rt a b c d (e.trans e1), fun a b c d e1 => k.bk a b c d (e.trans e1), fun a b c d e1 => k.ct a b c d (e.trans e1)⟩
end
end Fw

set_option Elab.async false
set_option linter.all false
set_option maxRecDepth 100000
set_option maxHeartbeats 2000000
namespace Fw
open PySem PySem.Spec PyProof.Rows L2
section
variable {S : Type} {X : Cx} {W : Wd S} {ρ : Rho} {s : S} {Φ : Vl → S → Prop} {a b c e : Expr} {es : List Expr} {pos : Pos} {x : Str}

/-! ### names and constants -/
theorem de_var {vl : Vl} (h : Φ vl s) (hρ : ρ[X.N.idxOf x]? = some (some vl) := by rfl) (hN : X.N[X.N.idxOf x]? = some x := by rfl) (hv : Vis X.env.scope x := by first | exact Or.inl rfl | exact Or.inr (Or.inl rfl) | exact Or.inr (Or.inr rfl))
    (h1 : (x == ("__debug__" : Str)) = false := by decide) (h2 : (x == ("__classdict__" : Str)) = false := by decide) : dE X W ρ s (.Name x pos) Φ := .mk fun σ H Q en j kn => by
  obtain ⟨v, q1, q2⟩ := en.at_ _ _ hρ
  exact toE (pe_var hN hv h1 h2) ⟨v, q1, kn v H vl s Ex.rfl' j q2 h⟩
theorem de_glob {v : V} {u : Value} {d : PyData} (hm : X.mg x = some u) (r : RelV v u) (hd : ∀ H, Dt X.K W.M H v d) (h : Φ (.d d) s) (hg : Gl X x := by rfl) (h1 : (x == ("__debug__" : Str)) = false := by decide) : dE X W ρ s (.Name x pos) Φ := .mk
  fun σ H Q en j kn => toE (pe_glob hg hm r h1) (kn v H (.d d) s Ex.rfl' j (hd H) h)
theorem de_globS {z : Str} (hm : ∃ t, X.mg x = some (.str z t)) (h : Φ (.d (.str z)) s) (hg : Gl X x := by rfl) (h1 : (x == ("__debug__" : Str)) = false := by decide) : dE X W ρ s (.Name x pos) Φ :=
  let ⟨t, q⟩ := hm; de_glob q (v := .str z) ⟨t, rfl⟩ (fun _ => .str z) h hg h1
theorem de_globI {z : Int} (hm : ∃ t, X.mg x = some (.int z t)) (h : Φ (.d (.int z)) s) (hg : Gl X x := by rfl) (h1 : (x == ("__debug__" : Str)) = false := by decide) : dE X W ρ s (.Name x pos) Φ :=
  let ⟨t, q⟩ := hm; de_glob q (v := .int z) ⟨t, rfl⟩ (fun _ => .int z) h hg h1
theorem de_int {i : Int} {k : Nat} (h : Φ (.d (.int i)) s) : dE X W ρ s (.Constant (.int i) k pos) Φ := .mk fun σ H Q en j kn => toE pe_int (kn _ H (.d (.int i)) s Ex.rfl' j (.int i) h)
theorem de_bool {i : Bool} {k : Nat} (h : Φ (.d (.bool i)) s) : dE X W ρ s (.Constant (.bool i) k pos) Φ := .mk fun σ H Q en j kn => toE pe_bl (kn _ H (.d (.bool i)) s Ex.rfl' j (.bl i) h)
theorem de_none {k : Nat} (h : Φ (.d .none) s) : dE X W ρ s (.Constant .none k pos) Φ := .mk fun σ H Q en j kn => toE pe_non (kn _ H (.d .none) s Ex.rfl' j .non h)
theorem de_str {i : Str} {k : Nat} (h : Φ (.d (.str i)) s) : dE X W ρ s (.Constant (.str i) k pos) Φ := .mk fun σ H Q en j kn => toE pe_str (kn _ H (.d (.str i)) s Ex.rfl' j (.str i) h)
theorem de_imp {Ψ : Vl → S → Prop} (h : dE X W ρ s e Ψ) (i : ∀ x s', Ψ x s' → Φ x s') : dE X W ρ s e Φ := .mk fun σ H Q en j kn => h.go σ H Q en j fun v H2 x s' e1 j1 v1 p => kn v H2 x s' e1 j1 v1 (i x s' p)

/-! ### operators on data -/
/-- the result of an operation on data: F tells it -/
def rD (K : PySem.W.Frag) (F : PyData → PyData → Option PyData) : R2 := fun x y H Q => ∃ (M : Addr → Prop) (d e z : PyData), (∀ b, M b → H b ≠ none) ∧ Dt K M H x d ∧ Dt K M H y e ∧ F d e = some z ∧ ∀ v H', Same H H' → Dt K M H' v z → Q v H'
def Op2 (F : PyData → PyData → Option PyData) (x y : Vl) (Ψ : Vl → Prop) : Prop := ∃ d e z, x = .d d ∧ y = .d e ∧ F d e = some z ∧ Ψ (.d z)
/-- two operands, an operation -/
theorem two {F : PyData → PyData → Option PyData} {σ : L2.St} {H : Hp} {Q : VK} (h : dE X W ρ s a fun x s1 => dE X W ρ s1 b fun y s2 => Op2 F x y fun z => Φ z s2) (en : En X.K W.M H σ ρ) (j : W.At s H) (kn : Kn X W H Φ Q) :
    tOp (rD X.K F) (wE X a) (wE X b) σ H Q := by
  refine h.go σ H _ en j fun v H1 x s1 e1 j1 v1 hb => ?_
  refine hb.go σ H1 _ (W.em e1 en) j1 fun u H2 y s2 e2 j2 v2 ⟨d, e, z, hx, hy, hz, hp⟩ => ?_
  subst hx hy
  exact ⟨W.M, d, e, z, j2.2, W.dm e2 v1, v2, hz, fun v' H3 sm dt => kn v' H3 (.d z) s2 ((e1.trans e2).trans (Ex.of sm)) (j2.same sm) dt hp⟩
theorem de_bin {F : PyData → PyData → Option PyData} {op : Operator} (hop : OpR X (binaryOp op) (rD X.K F)) (h : dE X W ρ s a fun x s1 => dE X W ρ s1 b fun y s2 => Op2 F x y fun z => Φ z s2) : dE X W ρ s (.BinOp a op b pos) Φ := .mk
  fun σ H Q en j kn => toE (pe_op hop pw pw) (two h en j kn)
theorem de_cmp {F : PyData → PyData → Option PyData} {op : CmpOp} (hop : OpR X (compareOp op) (rD X.K F)) (h : dE X W ρ s a fun x s1 => dE X W ρ s1 b fun y s2 => Op2 F x y fun z => Φ z s2)
    (hm : behindInMarks op b = false := by first | exact nomark _ | rfl) : dE X W ρ s (.Compare a [op] [b] pos) Φ := .mk
  fun σ H Q en j kn => toE (pe_cmpR hop pw pw hm) (two h en j kn)
def IsB (z : Vl) (Ψ : Bool → Prop) : Prop := ∃ c, z = .d (.bool c) ∧ Ψ c
theorem bool_of {K : PySem.W.Frag} {M : Addr → Prop} {H : Hp} {v : V} {c : Bool} (h : Dt K M H v (.bool c)) : v = .bl c := by cases h; rfl
theorem dt_cmp {Ψ : Bool → S → Prop} {F : PyData → PyData → Option PyData} {op : CmpOp} (hop : OpR X (compareOp op) (rD X.K F)) (h : dE X W ρ s a fun x s1 => dE X W ρ s1 b fun y s2 => Op2 F x y fun z => IsB z fun c => Ψ c s2)
    (hm : behindInMarks op b = false := by first | exact nomark _ | rfl) : dT X W ρ s (.Compare a [op] [b] pos) Ψ := .mk fun σ H Q en j kn =>
  toT (pt_cmpR hop pw pw hm) (two h en j fun v H2 x s' e1 j1 v1 ⟨c, hx, hp⟩ => by subst hx; exact ⟨c, bool_of v1, kn c H2 s' e1 j1 hp⟩)
/-- a < b < c -/
theorem three {F G : PyData → PyData → Option PyData} {σ : L2.St} {H : Hp} {Q : VK} (h : dE X W ρ s a fun x s1 => dE X W ρ s1 b fun y s2 => Op2 F x y fun z => IsB z fun k => (k = false → Φ (.d (.bool false)) s2) ∧ (k = true → dE X W ρ s2 c fun z s3 => Op2 G y z fun z => Φ z s3))
    (en : En X.K W.M H σ ρ) (j : W.At s H) (kn : Kn X W H Φ Q) : tChain (rD X.K F) (rD X.K G) (wE X a) (wE X b) (wE X c) σ H Q := by
  refine h.go σ H _ en j fun v H1 x s1 e1 j1 v1 hb => ?_
  refine hb.go σ H1 _ (W.em e1 en) j1 fun u H2 y s2 e2 j2 v2 ⟨d, e, z, hx, hy, hz, k, hk, p0, p1⟩ => ?_
  subst hx hy
  cases hk
  refine ⟨W.M, d, e, _, j2.2, W.dm e2 v1, v2, hz, fun v' H3 sm dt => ⟨k, bool_of dt, ?_⟩⟩
  have e3 : Ex W.C H H3 := (e1.trans e2).trans (Ex.of sm)
  cases k with
  | false => exact kn _ H3 (.d (.bool false)) s2 e3 (j2.same sm) (.bl false) (p0 rfl)
  | true =>
    refine (p1 rfl).go σ H3 _ (W.em e3 en) (j2.same sm) fun t H4 y s4 e4 j4 v4 ⟨d', e', z', hx', hy', hz', hp'⟩ => ?_
    cases hx'
    subst hy'
    exact ⟨W.M, e, e', z', j4.2, W.dm ((Ex.of sm).trans e4) v2, v4, hz', fun v5 H5 sm5 dt5 => kn v5 H5 (.d z') s4 ((e3.trans e4).trans (Ex.of sm5)) (j4.same sm5) dt5 hp'⟩
theorem de_chain {F G : PyData → PyData → Option PyData} {op op' : CmpOp} (ho : OpR X (compareOp op) (rD X.K F)) (ho' : OpR X (compareOp op') (rD X.K G))
    (h : dE X W ρ s a fun x s1 => dE X W ρ s1 b fun y s2 => Op2 F x y fun z => IsB z fun k => (k = false → Φ (.d (.bool false)) s2) ∧ (k = true → dE X W ρ s2 c fun z s3 => Op2 G y z fun z => Φ z s3))
    (hm : lastMarks [op, op'] [b, c] = false := by with_unfolding_all rfl) : dE X W ρ s (.Compare a [op, op'] [b, c] pos) Φ := .mk fun σ H Q en j kn => toE (pe_chain ho ho' pw pw pw hm) (three h en j kn)
theorem dt_chain {Ψ : Bool → S → Prop} {F G : PyData → PyData → Option PyData} {op op' : CmpOp} (ho : OpR X (compareOp op) (rD X.K F)) (ho' : OpR X (compareOp op') (rD X.K G))
    (h : dE X W ρ s a fun x s1 => dE X W ρ s1 b fun y s2 => Op2 F x y fun z => IsB z fun k => (k = false → Ψ false s2) ∧ (k = true → dE X W ρ s2 c fun z s3 => Op2 G y z fun z => IsB z fun k => Ψ k s3))
    (hm : lastMarks [op, op'] [b, c] = false := by with_unfolding_all rfl) : dT X W ρ s (.Compare a [op, op'] [b, c] pos) Ψ := .mk fun σ H Q en j kn =>
  toT (pt_chain ho ho' pw pw pw hm) (three (Φ := fun z s' => IsB z fun k => Ψ k s') (by
    refine de_imp h fun x s1 hb => de_imp hb fun y s2 hp => ?_
    obtain ⟨d, e, z, hx, hy, hz, k, hk, p0, p1⟩ := hp
    exact ⟨d, e, z, hx, hy, hz, k, hk, fun q => ⟨false, rfl, p0 q⟩, p1⟩) en j fun v H2 x s' e1 j1 v1 ⟨c, hx, hp⟩ => by subst hx; exact ⟨c, bool_of v1, kn c H2 s' e1 j1 hp⟩)

/-! ### and, or, not, if -/
theorem de_one {op : BoolOp} (h : dE X W ρ s a Φ) : dE X W ρ s (.BoolOp op [a] pos) Φ := .mk fun σ H Q en j kn => toE (pe_one pw) (h.go σ H Q en j kn)
theorem de_and (h : dE X W ρ s a fun x s1 => IsB x fun c => (c = true → dE X W ρ s1 (.BoolOp .And (b :: es) pos) Φ) ∧ (c = false → Φ (.d (.bool false)) s1)) : dE X W ρ s (.BoolOp .And (a :: b :: es) pos) Φ := .mk fun σ H Q en j kn =>
  toE (pe_and pw pw) (h.go σ H _ en j fun v H1 x s1 e1 j1 v1 ⟨c, hx, p1, p0⟩ => by
    subst hx
    refine ⟨c, bool_of v1, ?_⟩
    cases c with
    | true => exact (p1 rfl).go σ H1 Q (W.em e1 en) j1 (kn.ex e1)
    | false => exact kn _ H1 (.d (.bool false)) s1 e1 j1 (.bl false) (p0 rfl))
theorem de_or (h : dE X W ρ s a fun x s1 => IsB x fun c => (c = false → dE X W ρ s1 (.BoolOp .Or (b :: es) pos) Φ) ∧ (c = true → Φ (.d (.bool true)) s1)) : dE X W ρ s (.BoolOp .Or (a :: b :: es) pos) Φ := .mk fun σ H Q en j kn =>
  toE (pe_or pw pw) (h.go σ H _ en j fun v H1 x s1 e1 j1 v1 ⟨c, hx, p1, p0⟩ => by
    subst hx
    refine ⟨c, bool_of v1, ?_⟩
    cases c with
    | false => exact (p1 rfl).go σ H1 Q (W.em e1 en) j1 (kn.ex e1)
    | true => exact kn _ H1 (.d (.bool true)) s1 e1 j1 (.bl true) (p0 rfl))
theorem de_not (h : dE X W ρ s a fun x s1 => IsB x fun c => Φ (.d (.bool (!c))) s1) : dE X W ρ s (.UnaryOp .Not a pos) Φ := .mk fun σ H Q en j kn =>
  toE (pe_not pw) (h.go σ H _ en j fun v H1 x s1 e1 j1 v1 ⟨c, hx, p⟩ => by subst hx; exact ⟨c, bool_of v1, kn _ H1 (.d (.bool (!c))) s1 e1 j1 (.bl _) p⟩)
theorem de_neg (h : dE X W ρ s a fun x s1 => ∃ i, x = .d (.int i) ∧ Φ (.d (.int (-i))) s1) : dE X W ρ s (.UnaryOp .USub a pos) Φ := .mk fun σ H Q en j kn =>
  toE (pe_un un_neg pw) (h.go σ H _ en j fun v H1 x s1 e1 j1 v1 ⟨i, hx, p⟩ => by subst hx; cases v1; exact ⟨i, rfl, kn _ H1 (.d (.int (-i))) s1 e1 j1 (.int _) p⟩)
variable {Ψ : Bool → S → Prop}
theorem dt_w (h : dW X W ρ s e Ψ) : dT X W ρ s e Ψ := .mk fun σ H Q en j kn => toT ww.pt (h.go σ H Q en j kn)
theorem dw_and1 (h : dT X W ρ s a Ψ) : dW X W ρ s (.BoolOp .And [a] pos) Ψ := .mk fun σ H Q en j kn => toW (pw_and1 tw) (h.go σ H Q en j kn)
theorem dw_or1 (h : dT X W ρ s a Ψ) : dW X W ρ s (.BoolOp .Or [a] pos) Ψ := .mk fun σ H Q en j kn => toW (pw_or1 tw) (h.go σ H Q en j kn)
theorem dw_and (h : dT X W ρ s a fun c s1 => (c = true → dW X W ρ s1 (.BoolOp .And (b :: es) pos) Ψ) ∧ (c = false → Ψ false s1)) : dW X W ρ s (.BoolOp .And (a :: b :: es) pos) Ψ := .mk fun σ H Q en j kn =>
  toW (pw_and tw ww) (h.go σ H _ en j fun c H1 s1 e1 j1 ⟨p1, p0⟩ => by
    cases c with
    | true => exact (p1 rfl).go σ H1 Q (W.em e1 en) j1 (kn.ex e1)
    | false => exact kn false H1 s1 e1 j1 (p0 rfl))
theorem dw_or (h : dT X W ρ s a fun c s1 => (c = false → dW X W ρ s1 (.BoolOp .Or (b :: es) pos) Ψ) ∧ (c = true → Ψ true s1)) : dW X W ρ s (.BoolOp .Or (a :: b :: es) pos) Ψ := .mk fun σ H Q en j kn =>
  toW (pw_or tw ww) (h.go σ H _ en j fun c H1 s1 e1 j1 ⟨p1, p0⟩ => by
    cases c with
    | false => exact (p1 rfl).go σ H1 Q (W.em e1 en) j1 (kn.ex e1)
    | true => exact kn true H1 s1 e1 j1 (p0 rfl))
theorem dt_not (h : dT X W ρ s a fun c s1 => Ψ (!c) s1) : dT X W ρ s (.UnaryOp .Not a pos) Ψ := .mk fun σ H Q en j kn => toT (pt_not tw) (h.go σ H _ en j fun c H1 s1 e1 j1 p => kn (!c) H1 s1 e1 j1 p)
theorem dt_val (h : dE X W ρ s e fun x s1 => IsB x fun c => Ψ c s1) (he : ∀ wh, isTrue e X.env wh = (do let v ← wh; standAt e.pos; holding [v] (truthy v)) := by intro _; rfl) : dT X W ρ s e Ψ := .mk fun σ H Q en j kn =>
  toT (pt_val pw he) (h.go σ H _ en j fun v H1 x s1 e1 j1 v1 ⟨c, hx, p⟩ => by subst hx; exact ⟨c, bool_of v1, kn c H1 s1 e1 j1 p⟩)
theorem de_if (h : dT X W ρ s c fun k s1 => (k = true → dE X W ρ s1 a Φ) ∧ (k = false → dE X W ρ s1 b Φ)) : dE X W ρ s (.IfExp c a b pos) Φ := .mk fun σ H Q en j kn =>
  toE (pe_ifExp tw pw pw) (h.go σ H _ en j fun k H1 s1 e1 j1 ⟨p1, p0⟩ => by
    cases k with
    | true => exact (p1 rfl).go σ H1 Q (W.em e1 en) j1 (kn.ex e1)
    | false => exact (p0 rfl).go σ H1 Q (W.em e1 en) j1 (kn.ex e1))

/-! ### argument lists, displays -/
variable {Ω : List Vl → S → Prop}
theorem da_nil (h : Ω [] s) : dA X W ρ s [] Ω := .mk fun σ H Q en j kn => toA pa_nil (kn [] H [] s Ex.rfl' j .nil h)
theorem Paired.up {K : PySem.W.Frag} {M : Addr → Prop} {H H1 : Hp} (e : Ex M H H1) : ∀ {vs : List V} {xs : List Vl}, Paired (Vt K M H) vs xs → Paired (Vt K M H1) vs xs
  | _, _, .nil => .nil
  | _, _, .cons a b => .cons (a.mono e) (Paired.up e b)
theorem da_cons (h : dE X W ρ s e fun x s1 => dA X W ρ s1 es fun xs s2 => Ω (x :: xs) s2) (hs : starEach (e :: es) X.env = (false, eval e X.env) :: starEach es X.env := by rfl) : dA X W ρ s (e :: es) Ω := .mk fun σ H Q en j kn =>
  toA (pa_cons pw aw hs) (h.go σ H _ en j fun v H1 x s1 e1 j1 v1 hr => hr.go σ H1 _ (W.em e1 en) j1 fun vs H2 xs s2 e2 j2 v2 p => kn (v :: vs) H2 (x :: xs) s2 (e1.trans e2) j2 (.cons (W.vm e2 v1) v2) p)
/-- all of them data -/
def allD : List Vl → Option (List PyData)
  | [] => some []
  | .d x :: l => (allD l).map (x :: ·)
  | .v _ :: _ => none
  | .o _ :: _ => none
theorem allD_ok {K : PySem.W.Frag} {M : Addr → Prop} {H : Hp} : ∀ {vs : List V} {xs : List Vl} {ds : List PyData}, allD xs = some ds → Paired (Vt K M H) vs xs → DtA K M H vs ds
  | _, _, _, h, .nil => by cases h; exact .nil
  | _, .d y :: l, ds, h, .cons a b => by
    obtain ⟨es, h1, h2⟩ := Option.map_eq_some_iff.mp (show (allD l).map (y :: ·) = some ds from h)
    subst h2
    exact .cons a (allD_ok h1 b)
  | _, .v y :: l, ds, h, .cons a b => by cases h
  | _, .o y :: l, ds, h, .cons a b => by cases h
def AllD (xs : List Vl) (Ψ : List PyData → Prop) : Prop := ∃ ds, allD xs = some ds ∧ Ψ ds
theorem de_tup {k : Nat} (h : dA X W ρ s es fun xs s1 => AllD xs fun ds => ds.length ≤ sizeLine ∧ Φ (.d (.tuple ds)) s1) : dE X W ρ s (.Tuple es k pos) Φ := .mk fun σ H Q en j kn =>
  toE (pe_tup aw) (h.go σ H _ en j fun vs H1 xs s1 e1 j1 v1 ⟨ds, hx, hl, p⟩ => by
    have q := allD_ok hx v1
    refine ⟨by rw [q.len]; exact hl, fun a ha => kn _ _ (.d (.tuple ds)) s1 (e1.trans (Ex.of (same_new ha))) (j1.same (same_new ha)) ?_ p⟩
    exact .tup (j1.new ha) upd_same (q.mono (Ex.of (same_new ha))))
theorem de_lst (h : dA X W ρ s es fun xs s1 => AllD xs fun ds => ds.length ≤ sizeLine ∧ Φ (.d (.list ds)) s1) : dE X W ρ s (.List es pos) Φ := .mk fun σ H Q en j kn =>
  toE (pe_lst aw) (h.go σ H _ en j fun vs H1 xs s1 e1 j1 v1 ⟨ds, hx, hl, p⟩ => by
    have q := allD_ok hx v1
    refine ⟨by rw [q.len]; exact hl, fun a ha => kn _ _ (.d (.list ds)) s1 (e1.trans (Ex.of (same_new ha))) (j1.same (same_new ha)) ?_ p⟩
    exact .lst (j1.new ha) upd_same (q.mono (Ex.of (same_new ha))))

/-! ### subscripts, slices -/
theorem de_ix {F : PyData → PyData → Option PyData} (hop : IxR X (rD X.K F)) (h : dE X W ρ s a fun x s1 => dE X W ρ s1 b fun y s2 => Op2 F x y fun z => Φ z s2) (hs : PlainIx b := by intro _ _; rfl) : dE X W ρ s (.Subscript a b pos) Φ := .mk
  fun σ H Q en j kn => toE (pe_ix hop pw pw hs) (two h en j kn)
/-- a slice's part -/
def dO (X : Cx) (W : Wd S) (ρ : Rho) (s : S) : Option Expr → (Option Int → S → Prop) → Prop
  | none, Ψ => Ψ none s
  | some e, Ψ => dE X W ρ s e fun x s1 => ∃ i, x = .d (.int i) ∧ Ψ (some i) s1
def wO (X : Cx) : Option Expr → TO
  | none => tNoPart
  | some e => tPart (wE X e)
theorem ow : ∀ (o : Option Expr), PO X o (wO X o)
  | none => po_none
  | some _ => po_some pw
theorem dO_run {o : Option Expr} {Ψ : Option Int → S → Prop} {σ : L2.St} {H : Hp} {Q : Option Int → Hp → Prop} (h : dO X W ρ s o Ψ) (en : En X.K W.M H σ ρ) (j : W.At s H) (kn : ∀ i H1 s1, Ex W.C H H1 → W.At s1 H1 → Ψ i s1 → Q i H1) : wO X o σ H Q := by
  cases o with
  | none => exact kn none H s Ex.rfl' j h
  | some e =>
    exact h.go σ H _ en j fun v H1 x s1 e1 j1 v1 ⟨i, hx, p⟩ => by
      subst hx
      cases v1
      exact ⟨i, rfl, kn (some i) H1 s1 e1 j1 p⟩
def rDs (K : PySem.W.Frag) (F : PyData → Option Int → Option Int → Option PyData) : V → Option Int → Option Int → Hp → VK → Prop := fun x lo hi H Q => ∃ (M : Addr → Prop) (d z : PyData), (∀ b, M b → H b ≠ none) ∧ Dt K M H x d ∧ F d lo hi = some z ∧ ∀ v H', Same H H' → Dt K M H' v z → Q v H'
theorem de_slice {F : PyData → Option Int → Option Int → Option PyData} {lo hi : Option Expr} {p2 : Pos} (hr : SlR X (rDs X.K F)) (h : dE X W ρ s e fun x s1 => dO X W ρ s1 lo fun l s2 => dO X W ρ s2 hi fun u s3 => ∃ d z, x = .d d ∧ F d l u = some z ∧ Φ (.d z) s3) :
    dE X W ρ s (.Subscript e (.Slice lo hi none p2) pos) Φ := .mk fun σ H Q en j kn =>
  toE (pe_slice hr pw (ow lo) (ow hi)) (h.go σ H _ en j fun v H1 x s1 e1 j1 v1 h1 => dO_run h1 (W.em e1 en) j1 fun l H2 s2 e2 j2 h2 => dO_run h2 (W.em (e1.trans e2) en) j2 fun u H3 s3 e3 j3 ⟨d, z, hx, hz, p⟩ => by
    subst hx
    exact ⟨W.M, d, z, j3.2, W.dm (e2.trans e3) v1, hz, fun v' H4 sm dt => kn v' H4 (.d z) s3 (((e1.trans e2).trans e3).trans (Ex.of sm)) (j3.same sm) dt p⟩)

/-! ### built-in calls, methods -/
def rDc (K : PySem.W.Frag) (F : List PyData → Option PyData) : List V → Hp → VK → Prop := fun vs H Q => ∃ (M : Addr → Prop) (ds : List PyData) (z : PyData), (∀ b, M b → H b ≠ none) ∧ DtA K M H vs ds ∧ F ds = some z ∧ ∀ v H', Same H H' → Dt K M H' v z → Q v H'
theorem de_callB {F : List PyData → Option PyData} {id : String} {p : Pos} (hc : CallR X (.builtin id) (rDc X.K F)) (hm : X.mg x = none) (h : dA X W ρ s (e :: es) fun xs s1 => AllD xs fun ds => ∃ z, F ds = some z ∧ Φ (.d z) s1)
    (hv : bootBuiltins x = some (.builtin id) := by decide +kernel) (hg : Gl X x := by rfl) (hn : x ≠ "__name__" := by decide) (hdb : (x == ("__debug__" : Str)) = false := by decide)
    (he : starEach (e :: es) X.env = (false, eval e X.env) :: starEach es X.env := by rfl) (hpl : (backTo pos (starEach es X.env)).any (·.1) = false := by rfl) : dE X W ρ s (.Call (.Name x p) (e :: es) [] pos) Φ := .mk fun σ H Q en j kn =>
  toE (pe_callB hc hg hm hv aw hn hdb he hpl) (h.go σ H _ en j fun vs H1 xs s1 e1 j1 v1 ⟨ds, hx, z, hz, p⟩ =>
    ⟨W.M, ds, z, j1.2, allD_ok hx v1, hz, fun v' H4 sm dt => kn v' H4 (.d z) s1 (e1.trans (Ex.of sm)) (j1.same sm) dt p⟩)
theorem de_callTy {F : List PyData → Option PyData} {id : String} {p : Pos} (hc : CallR X (.type id) (rDc X.K F)) (hm : X.mg x = none) (h : dA X W ρ s (e :: es) fun xs s1 => AllD xs fun ds => ∃ z, F ds = some z ∧ Φ (.d z) s1)
    (hv : bootBuiltins x = some (.type id) := by decide +kernel) (hg : Gl X x := by rfl) (hn : x ≠ "__name__" := by decide) (hdb : (x == ("__debug__" : Str)) = false := by decide)
    (he : starEach (e :: es) X.env = (false, eval e X.env) :: starEach es X.env := by rfl) (hpl : (backTo pos (starEach es X.env)).any (·.1) = false := by rfl) : dE X W ρ s (.Call (.Name x p) (e :: es) [] pos) Φ := .mk fun σ H Q en j kn =>
  toE (pe_callTy hc hg hm hv aw hn hdb he hpl) (h.go σ H _ en j fun vs H1 xs s1 e1 j1 v1 ⟨ds, hx, z, hz, p⟩ =>
    ⟨W.M, ds, z, j1.2, allD_ok hx v1, hz, fun v' H4 sm dt => kn v' H4 (.d z) s1 (e1.trans (Ex.of sm)) (j1.same sm) dt p⟩)
end
end Fw

set_option Elab.async false
set_option linter.all false
set_option maxRecDepth 100000
set_option maxHeartbeats 2000000
namespace Fw
open PySem PySem.Spec PyProof.Rows L2

/-! ### what is walked -/
/-- the iterator J yields the data ds, wherever what is not of C stands as in H0 -/
structure ItD (K : PySem.W.Frag) (C M : Addr → Prop) (H0 : Hp) (J : It) (ds : List PyData) : Prop where
  go : ∀ i H, Ex C H0 H → i < ds.length → J.go i H
  yl : ∀ (M' : Addr → Prop) i H x H', (∀ b, M b → M' b) → (∀ b, M' b → ¬ M b → H0 b = none) → Ex C H0 H → (∀ b, M' b → H b ≠ none) → J.yld i H x H' → i < ds.length → Same H H' ∧ ∃ d, ds[i]? = some d ∧ Dt K M' H' x d
  st : ∀ i H, Ex C H0 H → ds.length ≤ i → J.stop i H
def wI (X : Cx) (tg e : Expr) : TI := fun σ H R => ∀ (pins : List (Addr × Obj)) (s : Shared), Inv X pins σ H s → wpAny (model X.prog X.w) X.A (eval e X.env) (fun v s1 => wpAny (model X.prog X.w) X.A (pyIter v) (PIE X pins σ tg R) X.xe s1) X.xe s
theorem iw {X : Cx} {tg e : Expr} : PI X tg e (wI X tg e) := ⟨fun pins s _ _ _ I h => h pins s I⟩
theorem toI {X : Cx} {tg e : Expr} {t : TI} {σ : L2.St} {H : Hp} {R : It → Hp → Prop} (h : PI X tg e t) (q : t σ H R) : wI X tg e σ H R := fun pins s I => h.run pins s σ H R I q
def signs (z : Str) : List PyData := z.cps.toList.map fun c => .str ⟨#[c]⟩
/-- the items of a datum -/
def itemsD : Vl → Option (List PyData)
  | .d (.list ds) => some ds
  | .d (.tuple ds) => some ds
  | .d (.str z) => some (signs z)
  | _ => none
section
variable {S : Type} {X : Cx} {W : Wd S} {ρ : Rho} {s : S} {Φ : Vl → S → Prop} {a b c e tg elt : Expr} {es ifs : List Expr} {pos py : Pos} {x y : Str} {Λ : List PyData → S → Prop}
structure dI (X : Cx) (W : Wd S) (ρ : Rho) (s : S) (tg e : Expr) (Λ : List PyData → S → Prop) : Prop where
  go : ∀ σ H R, En X.K W.M H σ ρ → W.At s H →
  (∀ J H1 ds s1, Ex W.C H H1 → W.At s1 H1 → ItD X.K W.C W.M H1 J ds → Λ ds s1 → R J H1) → wI X tg e σ H R
theorem itd_list {H : Hp} {l : Addr} {xs : List V} {ds : List PyData} (n : ¬ W.M l) (h : H l = some (.lst xs)) (hd : DtA X.K W.M H xs ds) : ItD X.K W.C W.M H (Itl X.K l) ds where
  go := fun i H1 e1 hi => by
    obtain ⟨v, q, _⟩ := hd.get (List.getElem?_eq_getElem hi)
    exact ⟨xs, v, SqL.of (e1 l _ (fun c => n (W.sub c)) h), q⟩
  yl := fun M' i H1 v H2 m1 m2 e1 _ y hi => by
    obtain ⟨rfl, q⟩ := y
    have q1 := q xs (SqL.of (e1 l _ (fun c => n (W.sub c)) h))
    obtain ⟨d, h1, h2⟩ := hd.getV q1
    exact ⟨fun _ _ z => z, d, h1, Dt.mono (fun b o nb z => e1 b o (fun c => nb (m1 b (W.sub c))) z) (h2.more m2)⟩
  st := fun i H1 e1 hi => ⟨xs, SqL.of (e1 l _ (fun c => n (W.sub c)) h), by rw [hd.len]; exact hi⟩
theorem itd_tup {H : Hp} {l : Addr} {xs : List V} {ds : List PyData} (h : ∀ H1, Ex W.M H H1 → SqT X.K H1 l xs) (hd : DtA X.K W.M H xs ds) : ItD X.K W.C W.M H (Itt X.K l) ds where
  go := fun i H1 e1 hi => by
    obtain ⟨v, q, _⟩ := hd.get (List.getElem?_eq_getElem hi)
    exact ⟨xs, v, h H1 (W.up e1), q⟩
  yl := fun M' i H1 v H2 m1 m2 e1 _ y hi => by
    obtain ⟨rfl, q⟩ := y
    obtain ⟨d, h1, h2⟩ := hd.getV (q xs (h _ (W.up e1)))
    exact ⟨fun _ _ z => z, d, h1, Dt.mono (fun b o nb z => e1 b o (fun c => nb (m1 b (W.sub c))) z) (h2.more m2)⟩
  st := fun i H1 e1 hi => ⟨xs, h H1 (W.up e1), by rw [hd.len]; exact hi⟩
theorem itd_str {H : Hp} {z : Str} : ItD X.K W.C W.M H (Its z) (signs z) where
  go := fun i H1 _ hi => show i < z.cps.size by simpa [signs] using hi
  yl := fun M' i H1 v H2 _ _ _ _ y hi => by
    obtain ⟨rfl, c, q, rfl⟩ := y
    refine ⟨fun _ _ z => z, .str ⟨#[c]⟩, ?_, .str _⟩
    have q' : z.cps.toList[i]? = some c := by rw [Array.getElem?_toList]; exact q
    unfold signs
    rw [List.getElem?_map, q']
    rfl
  st := fun i H1 _ hi => show z.cps.size ≤ i by simpa [signs] using hi
def intsD (n : Nat) : List PyData := (List.range n).map fun (i : Nat) => PyData.int (i : Int)
theorem itd_rng {H : Hp} {n : Nat} : ItD X.K W.C W.M H (Itr 0 n) (intsD n) where
  go := fun i H1 _ hi => show i < n by simpa [intsD] using hi
  yl := fun M' i H1 v H2 _ _ _ _ y hi => by
    obtain ⟨rfl, rfl⟩ := y
    refine ⟨fun _ _ z => z, .int (0 + (i : Int)), ?_, .int _⟩
    have hi' : i < n := by simpa [intsD] using hi
    unfold intsD
    rw [List.getElem?_map, List.getElem?_range hi', Int.zero_add]
    rfl
  st := fun i H1 _ hi => show n ≤ i by simpa [intsD] using hi
/-- over a list, a tuple, a text -/
theorem di_any (h : dE X W ρ s e fun x s1 => ∃ ds, itemsD x = some ds ∧ Λ ds s1) : dI X W ρ s tg e Λ := .mk fun σ H R en j kn pins sh I => by
  refine thn (h.go σ H (fun v H1 => ∃ x s1 ds, Ex W.C H H1 ∧ W.At s1 H1 ∧ Vt X.K W.M H1 v x ∧ itemsD x = some ds ∧ Λ ds s1) en j (fun v H1 x s1 e1 j1 v1 ⟨ds, hi, p⟩ => ⟨x, s1, ds, e1, j1, v1, hi, p⟩) pins sh I) fun v s2 ⟨u, H1, J, r, x, s1, ds, e1, j1, v1, hi, p⟩ => ?_
  cases x with
  | v y => cases hi
  | o y => cases hi
  | d y =>
    cases y with
    | list l =>
      cases hi
      cases (show Dt X.K W.M H1 u (.list ds) from v1) with
      | lst n h1 h2 =>
        cases r
        obtain ⟨its, _, q, _⟩ := J.list (SqL.of h1)
        exact wpAny_pyIter_list q.isList (pi_one (tk := s2.toks) J _ (turn_list _ _) ⟨_, Heap.get?_push_size _ rfl, rfl, rfl⟩ (kn _ H1 _ s1 e1 j1 (itd_list n h1 h2) p))
    | tuple l =>
      cases hi
      obtain ⟨l', xs, rfl, h1, h2, h3⟩ := (show Dt X.K W.M H1 u (.tuple ds) from v1).isT
      cases r
      obtain ⟨its, _, q, _⟩ := J.tuple h1
      exact wpAny_pyIter_tuple q (pi_one (tk := s2.toks) J _ (turn_tuple _ _) ⟨_, Heap.get?_push_size _ rfl, rfl, rfl⟩ (kn _ H1 _ s1 e1 j1 (itd_tup h3 h2) p))
    | str z =>
      cases hi
      cases (show Dt X.K W.M H1 u (.str z) from v1)
      obtain ⟨t, rfl⟩ := r
      cases ha : z.cps.all (· < 128)
      · exact wpAny_pyIter_wide ha (pi_one (tk := s2.toks) J _ (turn_str _ z t _ (.inr rfl)) ⟨_, Heap.get?_push_size _ rfl, rfl, rfl⟩ (kn _ H1 _ s1 e1 j1 itd_str p))
      · exact wpAny_pyIter_ascii ha (pi_one (tk := s2.toks) J _ (turn_str _ z t _ (.inl rfl)) ⟨_, Heap.get?_push_size _ rfl, rfl, rfl⟩ (kn _ H1 _ s1 e1 j1 itd_str p))
    | none => cases hi
    | bool _ => cases hi
    | int _ => cases hi
    | dict _ => cases hi
theorem di_range {p : Pos} (hm : X.mg "range" = none) (h : dE X W ρ s e fun x s1 => ∃ n : Int, x = .d (.int n) ∧ (-(2 ^ 62) ≤ n ∧ n < 2 ^ 62) ∧ Λ (intsD n.toNat) s1) (hg : Gl X "range" := by rfl) (hs : starEach [e] X.env = [(false, eval e X.env)] := by rfl) :
    dI X W ρ s tg (.Call (.Name "range" p) [e] [] pos) Λ := .mk fun σ H R en j kn =>
  toI (pi_range1 hg hm (pa_cons pw pa_nil hs) hs) (h.go σ H _ en j fun v H1 x s1 e1 j1 v1 ⟨n, hx, hb, q⟩ => by
    subst hx
    cases v1
    exact ⟨n, rfl, hb.1, hb.2, kn _ H1 _ s1 e1 j1 itd_rng q⟩)

/-! ### targets -/
def dG (X : Cx) (W : Wd S) (ρ : Rho) (s : S) (tg : Expr) (x : Vl) (Ψ : Rho → S → Prop) : Prop := ∀ σ H v (Q : L2.St → Hp → Prop), En X.K W.M H σ ρ → W.At s H → Vt X.K W.M H v x → (∀ σ' ρ' s', W.At s' H → En X.K W.M H σ' ρ' → Ψ ρ' s' → Q σ' H) →
  ∀ (pins : List (Addr × Obj)) (sh : Shared) (u : Value), Inv X pins σ H sh → RelV v u → wpAny (model X.prog X.w) X.A (assign tg X.env u) (fun _ s' => ∃ σ' H', Inv X pins σ' H' s' ∧ Q σ' H') X.xe sh

/-! ### statements -/
variable {Δ : DE S} {st : Stmt} {sts body : List Stmt}
theorem db_nil (h : Δ.nx ρ s) : dB X W ρ s [] Δ := .mk fun σ H D en j kn => toB pss_nil (kn.nx σ H ρ s Ex.rfl' j en h)
theorem db_cons (h : dS X W ρ s st { Δ with nx := fun ρ1 s1 => dB X W ρ1 s1 sts Δ }) : dB X W ρ s (st :: sts) Δ := .mk fun σ H D en j kn =>
  toB (pss_cons sw bw) (h.go σ H _ en j ⟨fun σ1 H1 ρ1 s1 e1 j1 en1 hb => hb.go σ1 H1 D en1 j1 (kn.ex e1), kn.rt, kn.bk, kn.ct⟩)
theorem ds_ret (h : dE X W ρ s e fun x s1 => Δ.rt x s1) : dS X W ρ s (.Return (some e) pos) Δ := .mk fun σ H D en j kn =>
  toS (ps_ret pw) (h.go σ H _ en j fun v H1 x s1 e1 j1 v1 p => kn.rt v H1 x s1 e1 j1 v1 p)
theorem ds_expr (h : dE X W ρ s e fun _ s1 => Δ.nx ρ s1) (hs : swapsWith e none pos.line X.env = pure false := by rfl) : dS X W ρ s (.Expr e pos) Δ := .mk fun σ H D en j kn =>
  toS (ps_expr pw hs) (h.go σ H _ en j fun v H1 x s1 e1 j1 v1 p => kn.nx σ H1 ρ s1 e1 j1 (W.em e1 en) p)
theorem ds_set {pos' : Pos} (h : dE X W ρ s e fun v s1 => Δ.nx (ρ.set (X.N.idxOf x) (some v)) s1) (nd : X.N.Nodup) (hN : X.N[X.N.idxOf x]? = some x := by rfl) (hx : Loc X.env.scope x := by first | exact .inl rfl | exact .inr rfl)
    (hs : swapsWith e (some (.Name x pos')) pos.line X.env = pure false := by rfl) (hf : X.fn x = true ∨ X.env.scope.names.lookup x = some .local := by first | exact .inl rfl | exact .inr rfl) : dS X W ρ s (.Assign [.Name x pos'] e pos) Δ := .mk fun σ H D en j kn =>
  toS (ps_set nd hN hx pw hs hf) (h.go σ H _ en j fun v H1 vl s1 e1 j1 v1 p => kn.nx _ H1 _ s1 e1 j1 ((W.em e1 en).set _ v1) p)
theorem ds_par {a b : Expr} {px py' pt pt2 : Pos} {kt k2 : Nat} (h : dE X W ρ s a fun v s1 => dE X W ρ s1 b fun u s2 => Δ.nx ((ρ.set (X.N.idxOf x) (some v)).set (X.N.idxOf y) (some u)) s2) (nd : X.N.Nodup)
    (hc : X.calm = true := by rfl) (hi : X.N[X.N.idxOf x]? = some x := by rfl) (hj : X.N[X.N.idxOf y]? = some y := by rfl) (hij : X.N.idxOf x ≠ X.N.idxOf y := by decide) (hx : X.env.scope.names.lookup x = some .local := by rfl) (hy : X.env.scope.names.lookup y = some .local := by rfl)
    (hw : swappedStores [.Tuple [.Name x px, .Name y py'] kt pt] (.Tuple [a, b] k2 pt2) X.env = pure (some [x, y]) := by rfl) (hs : swapsWithSole [.Tuple [.Name x px, .Name y py'] kt pt] (.Tuple [a, b] k2 pt2) pos.line X.env = pure false := by rfl)
    (h1 : starEach [a, b] X.env = (false, eval a X.env) :: starEach [b] X.env := by rfl) (h2 : starEach [b] X.env = (false, eval b X.env) :: starEach [] X.env := by rfl) :
    dS X W ρ s (.Assign [.Tuple [.Name x px, .Name y py'] kt pt] (.Tuple [a, b] k2 pt2) pos) Δ := .mk fun σ H D en j kn =>
  toS (ps_par hc nd hi hj hij hx hy (pa_cons pw (pa_cons pw pa_nil h2) h1) hw hs) (h.go σ H _ en j fun v H1 vl s1 e1 j1 v1 hb => hb.go σ H1 _ (W.em e1 en) j1 fun u H2 ul s2 e2 j2 v2 p =>
    ⟨v, u, rfl, kn.nx _ H2 _ s2 (e1.trans e2) j2 (((W.em (e1.trans e2) en).set _ (W.vm e2 v1)).set _ v2) p⟩)
theorem ds_if {b1 b2 : List Stmt} (h : dT X W ρ s c fun k s1 => (k = true → dB X W ρ s1 b1 Δ) ∧ (k = false → dB X W ρ s1 b2 Δ)) : dS X W ρ s (.If c b1 b2 pos) Δ := .mk fun σ H D en j kn =>
  toS (ps_if tw bw bw) (h.go σ H _ en j fun k H1 s1 e1 j1 ⟨p1, p0⟩ => by
    cases k with
    | true => exact (p1 rfl).go σ H1 D (W.em e1 en) j1 (kn.ex e1)
    | false => exact (p0 rfl).go σ H1 D (W.em e1 en) j1 (kn.ex e1))
/-- for y in ..: Iv by the turn, the slots, the state -/
theorem ds_for (h : dI X W ρ s (.Name y py) e fun ds s1 => ∃ Iv : Nat → Rho → S → Prop, Iv 0 ρ s1 ∧
      (∀ k d ρ1 s2, ds[k]? = some d → Iv k ρ1 s2 → dB X W (ρ1.set (X.N.idxOf y) (some (.d d))) s2 body { nx := Iv (k + 1), rt := Δ.rt, bk := Δ.nx, ct := Iv (k + 1) }) ∧ ∀ ρ1 s2, Iv ds.length ρ1 s2 → Δ.nx ρ1 s2)
    (hp : PassesOwn (model X.prog X.w) X.A X.env X.xe) (nd : X.N.Nodup) (hc : X.calm = true := by rfl) (hN : X.N[X.N.idxOf y]? = some y := by rfl) (hx : Loc X.env.scope y := by first | exact .inl rfl | exact .inr rfl)
    (hf : X.fn y = true ∨ X.env.scope.names.lookup y = some .local := by first | exact .inl rfl | exact .inr rfl) (hs : ∀ x, foldedSetIterable e X.env x = pure x := by intro _; rfl) : dS X W ρ s (.For (.Name y py) e body [] pos) Δ := .mk fun σ H D en j kn =>
  toS (ps_for hp hc iw (pg_name nd hN hx hf) bw hs) (h.go σ H _ en j fun J H1 ds s1 e1 j1 it ⟨Iv, h0, hb, hd⟩ => by
    refine ⟨fun i m σ2 H2 => m = ds.length - i ∧ i ≤ ds.length ∧ Ex W.C H1 H2 ∧ ∃ ρ2 s2, W.At s2 H2 ∧ En X.K W.M H2 σ2 ρ2 ∧ Iv i ρ2 s2, ⟨ds.length, rfl, Nat.zero_le _, Ex.rfl', ρ, s1, j1, W.em e1 en, h0⟩, ?_⟩
    rintro i m σ2 H2 ⟨rfl, hi, e2, ρ2, s2, j2, en2, iv⟩
    by_cases hl : i < ds.length
    · refine .inr ⟨it.go i H2 e2 hl, fun σ3 H3 => Ex W.C H1 H3 ∧ ∃ ρ2 s2, W.At s2 H3 ∧ En X.K W.M H3 σ3 ρ2 ∧ Iv (i + 1) ρ2 s2, fun σ3 H3 ⟨q1, q2⟩ => ⟨ds.length - (i + 1), by omega, rfl, hl, q1, q2⟩, fun v H3 yl => ?_⟩
      obtain ⟨sm, d, q1, q2⟩ := it.yl W.M i H2 v H3 (fun _ m => m) (fun _ m n => absurd m n) e2 j2.2 yl hl
      have e3 := e2.trans (Ex.of sm)
      refine (hb i d ρ2 s2 q1 iv).go (σ2.set (X.N.idxOf y) (some v)) H3 _ ((W.em (Ex.of sm) en2).set _ (x := .d d) q2) (j2.same sm) ⟨fun σ4 H4 ρ4 s4 e4 j4 en4 p => ⟨e3.trans e4, ρ4, s4, j4, en4, p⟩, fun v4 H4 x4 s4 e4 j4 v4' p => kn.rt v4 H4 x4 s4 (e1.trans (e3.trans e4)) j4 v4' p,
        fun σ4 H4 ρ4 s4 e4 j4 en4 p => kn.nx σ4 H4 ρ4 s4 (e1.trans (e3.trans e4)) j4 en4 p, fun σ4 H4 ρ4 s4 e4 j4 en4 p => ⟨e3.trans e4, ρ4, s4, j4, en4, p⟩⟩
    · have ei : i = ds.length := by omega
      subst ei
      exact .inl ⟨it.st _ H2 e2 (Nat.le_refl _), kn.nx σ2 H2 ρ2 s2 (e1.trans e2) j2 en2 (hd ρ2 s2 iv)⟩)

/-! ### list comprehensions -/
/-- the context of a block -/
structure Bk where
  s : Shared
  H : Hp
  C : Addr
  cl : List (Str × Addr)
  fp : List Addr
abbrev bx (X : Cx) (scope : Scope) (b : Bk) : Cx := X.blk b.s b.H scope (compEnvC scope b.cl b.C X.env) b.fp
/-- the same world, with one object more that data lies apart from -/
def Wd.plus (W : Wd S) (D : Addr) : Wd S where
  M := fun b => W.M b ∨ b = D
  C := W.C
  J := W.J
  sub := fun c => .inl (W.sub c)
  keep := W.keep
  more := W.more
  less := W.less
def wTs (X : Cx) : List Expr → TT
  | [] => tYes
  | [c] => wT X c
  | _ => fun _ _ _ => False
def dTs (X : Cx) (W : Wd S) (ρ : Rho) (s : S) : List Expr → (Bool → S → Prop) → Prop
  | [], Ψ => Ψ true s
  | [c], Ψ => dT X W ρ s c Ψ
  | _, _ => False
theorem wipe_one (σ : L2.St) (i : Nat) (v : V) : wipe ((wipe σ [i]).set i (some v)) [i] = wipe σ [i] := by
  simp [wipe]
/-- [elt for y in e if ..]: Iv by the turn, what is made so far, the state -/
theorem lcOf {scope : Scope} {i : Nat} (hN : X.N[i]? = some y) (nd : X.N.Nodup) (hc : X.calm = true) (ok : BlkOk X.N X.env.scope scope [(y, i)])
    (hl : ∀ b : Bk, PG (bx X scope b) (.Name y py) (gName i)) (hif : ifs.length ≤ 1) (hs : ∀ x, foldedSetIterable e X.env x = pure x)
    (h : dI X W ρ s (.Name y py) e fun ds s1 => ds.length < sizeLine ∧ ∃ Iv : Nat → List PyData → S → Prop, Iv 0 [] s1 ∧
      (∀ D k d acc s2, ds[k]? = some d → Iv k acc s2 → ∀ b : Bk, dTs (bx X scope b) (W.plus D) ((wipR ρ [i]).set i (some (.d d))) s2 ifs fun t s3 =>
        (t = true → ∀ b : Bk, dE (bx X scope b) (W.plus D) ((wipR ρ [i]).set i (some (.d d))) s3 elt fun x s4 => ∃ z, x = .d z ∧ Iv (k + 1) (acc ++ [z]) s4) ∧ (t = false → Iv (k + 1) acc s3)) ∧
      ∀ acc s2, Iv ds.length acc s2 → Φ (.d (.list acc)) s2) : ∃ wi tt te, PI X (.Name y py) e wi ∧ (∀ b : Bk, PTs (bx X scope b) ifs tt) ∧ (∀ b : Bk, PE (bx X scope b) elt te) ∧
        ∀ σ H Q, En X.K W.M H σ ρ → W.At s H → Kn X W H Φ Q → tLc wi (gName i) tt te [i] σ H Q := by
  refine ⟨wI X (.Name y py) e, fun σ H Q => ∀ b : Bk, wTs (bx X scope b) ifs σ H Q, fun σ H Q => ∀ b : Bk, wE (bx X scope b) elt σ H Q, iw, fun b => ?_, fun b => ⟨fun pins s' _ _ _ I q => q b pins s' I⟩, ?_⟩
  · match ifs, hif with
    | [], _ => exact ⟨fun pins s' σ H Q I q => pts_nil.run pins s' σ H Q I (q b)⟩
    | [_], _ => exact ⟨fun pins s' σ H Q I q => (pts_one tw).run pins s' σ H Q I (q b)⟩
  · intro σ H Q en j kn
    refine h.go σ H _ en j fun J H1 ds s1 e1 j1 it ⟨hz, Iv, h0, hb, hd⟩ D hD => ?_
    have nD : ¬ W.M D := j1.new hD
    have sD : ∀ {H2 : Hp} {o : HO}, Ex W.C H1 H2 → Ex W.C H1 (upd H2 D o) := fun {H2 o} q a u n z => by
      rw [upd_ne (ne_of_none z hD)]
      exact q a u n z
    refine ⟨fun k m H2 => m = ds.length - k ∧ k ≤ ds.length ∧ Ex W.C H1 H2 ∧ ∃ acc accV s2, (W.plus D).At s2 H2 ∧ H2 D = some (.lst accV) ∧ DtA X.K (W.plus D).M H2 accV acc ∧ acc.length ≤ k ∧ Iv k acc s2, ⟨ds.length, rfl, Nat.zero_le _, sD Ex.rfl', [], [], s1, ⟨W.keep (W.more j1.1 (N' := (W.plus D).M) fun a m n => by
        rcases m with m | m
        · exact absurd m n
        · rw [m]; exact hD) fun a o _ q => by rw [upd_ne (ne_of_none q hD)]; exact q, fun a m => ?_⟩, upd_same, .nil, Nat.le_refl _, h0⟩, ?_⟩
    · rcases m with m | m
      · intro z
        by_cases q : a = D
        · exact nD (q ▸ m)
        · rw [upd_ne q] at z
          exact j1.2 a m z
      · subst m
        intro z
        rw [upd_same] at z
        cases z
    rintro k m H2 ⟨rfl, hk, e2, acc, accV, s2, j2, hD2, dA2, hacc, iv⟩
    by_cases hl' : k < ds.length
    · refine .inr ⟨it.go k H2 e2 hl', fun H3 => Ex W.C H1 H3 ∧ ∃ acc accV s2, (W.plus D).At s2 H3 ∧ H3 D = some (.lst accV) ∧ DtA X.K (W.plus D).M H3 accV acc ∧ acc.length ≤ k + 1 ∧ Iv (k + 1) acc s2, fun H3 ⟨q1, q2⟩ => ⟨ds.length - (k + 1), by omega, rfl, hl', q1, q2⟩, fun v H3 yl => ?_⟩
      have m2 : ∀ a, (W.plus D).M a → ¬ W.M a → H1 a = none := fun a m n => by
        rcases m with m | m
        · exact absurd m n
        · rw [m]; exact hD
      obtain ⟨sm, d, q1, q2⟩ := it.yl (W.plus D).M k H2 v H3 (fun _ m => .inl m) m2 e2 j2.2 yl hl'
      refine ⟨wipe_one σ i v, fun b => ?_⟩
      have j3 : (W.plus D).At s2 H3 := j2.same sm
      have e3 : Ex W.C H1 H3 := e2.trans (Ex.of sm)
      have en1 : En X.K (W.plus D).M H1 σ ρ := (W.em e1 en).moreM m2
      have en3 : En X.K (W.plus D).M H3 ((wipe σ [i]).set i (some v)) ((wipR ρ [i]).set i (some (.d d))) := (((W.plus D).em e3 en1).wip [i]).set i (x := .d d) q2
      have hD3 : H3 D = some (.lst accV) := sm D _ hD2
      have hlen : accV.length = acc.length := dA2.len
      have key : ∀ t H4 s4, Ex W.C H3 H4 → (W.plus D).At s4 H4 → ((t = true → ∀ b : Bk, dE (bx X scope b) (W.plus D) ((wipR ρ [i]).set i (some (.d d))) s4 elt fun x s5 => ∃ z, x = .d z ∧ Iv (k + 1) (acc ++ [z]) s5) ∧ (t = false → Iv (k + 1) acc s4)) →
          if t = true then (∀ b : Bk, wE (bx X scope b) elt ((wipe σ [i]).set i (some v)) H4 fun y H5 => ∃ acc', H5 D = some (.lst acc') ∧ acc'.length < sizeLine ∧ (fun H3 => Ex W.C H1 H3 ∧ ∃ acc accV s2, (W.plus D).At s2 H3 ∧ H3 D = some (.lst accV) ∧ DtA X.K (W.plus D).M H3 accV acc ∧ acc.length ≤ k + 1 ∧ Iv (k + 1) acc s2) (upd H5 D (.lst (acc' ++ [y])))) else (fun H3 => Ex W.C H1 H3 ∧ ∃ acc accV s2, (W.plus D).At s2 H3 ∧ H3 D = some (.lst accV) ∧ DtA X.K (W.plus D).M H3 accV acc ∧ acc.length ≤ k + 1 ∧ Iv (k + 1) acc s2) H4 := by
        intro t H4 s4 e4 j4 ⟨p1, p0⟩
        have nC : ¬ W.C D := fun c => nD (W.sub c)
        have hD4 : H4 D = some (.lst accV) := e4 D _ nC hD3
        cases t with
        | false =>
          rw [if_neg Bool.false_ne_true]
          exact ⟨e3.trans e4, acc, accV, s4, j4, hD4, dA2.mono (fun a o n z => e4 a o (fun c => n (.inl (W.sub c))) (sm a o z)), by omega, p0 rfl⟩
        | true =>
          rw [if_pos rfl]
          intro b
          refine (p1 rfl b).go _ H4 _ ((W.plus D).em e4 en3) j4 fun u H5 x s5 e5 j5 v5 ⟨z, hx, hp⟩ => ?_
          subst hx
          have hD5 : H5 D = some (.lst accV) := e5 D _ nC hD4
          refine ⟨accV, hD5, by omega, sD (e3.trans (Ex.trans e4 e5)), acc ++ [z], accV ++ [u], s5, ⟨W.keep j5.1 fun a o c q => ?_, fun a m => ?_⟩, upd_same, ?_, by simp; omega, hp⟩
          · rw [upd_ne (show a ≠ D from fun w => c.elim (fun c => nC (w ▸ c)) fun c => c (.inr w))]
            exact q
          · by_cases w : a = D
            · rw [w, upd_same]
              exact fun z => nomatch z
            · rw [upd_ne w]
              exact j5.2 a m
          · have q5 : Ex (W.plus D).M H5 (upd H5 D (.lst (accV ++ [u]))) := fun a o n z => by
              rw [upd_ne (fun w => n (.inr w))]
              exact z
            exact (DtA.app (dA2.mono (fun a o n z => e5 a o (fun c => n (.inl (W.sub c))) (e4 a o (fun c => n (.inl (W.sub c))) (sm a o z)))) (.cons v5 .nil)).mono q5
      match ifs, hif with
      | [], _ => exact key true H3 s2 Ex.rfl' j3 (hb D k d acc s2 q1 iv b)
      | [c], _ => exact (show dT _ _ _ _ _ _ from hb D k d acc s2 q1 iv b).go _ H3 _ en3 j3 fun t H4 s4 e4 j4 p => key t H4 s4 e4 j4 p
    · have ei : k = ds.length := by omega
      subst ei
      refine .inl ⟨it.st _ H2 e2 (Nat.le_refl _), kn _ H2 (.d (.list acc)) s2 (e1.trans e2) ⟨W.less (N := W.M) (N' := (W.plus D).M) j2.1 fun _ m => .inl m, fun a m => j2.2 a (.inl m)⟩ (.lst nD hD2 (dA2.less fun a m => .inl m)) (hd acc s2 iv)⟩
/-- what a comprehension's source and turn must show -/
def Lc (X : Cx) (W : Wd S) (ρ : Rho) (s : S) (scope : Scope) (i : Nat) (tg e elt : Expr) (ifs : List Expr) (Φ : Vl → S → Prop) : Prop := dI X W ρ s tg e fun ds s1 => ds.length < sizeLine ∧ ∃ Iv : Nat → List PyData → S → Prop, Iv 0 [] s1 ∧
      (∀ D k d acc s2, ds[k]? = some d → Iv k acc s2 → ∀ b : Bk, dTs (bx X scope b) (W.plus D) ((wipR ρ [i]).set i (some (.d d))) s2 ifs fun t s3 =>
        (t = true → ∀ b : Bk, dE (bx X scope b) (W.plus D) ((wipR ρ [i]).set i (some (.d d))) s3 elt fun x s4 => ∃ z, x = .d z ∧ Iv (k + 1) (acc ++ [z]) s4) ∧ (t = false → Iv (k + 1) acc s3)) ∧
      ∀ acc s2, Iv ds.length acc s2 → Φ (.d (.list acc)) s2
theorem de_lc {scope : Scope} (h : Lc X W ρ s scope (X.N.idxOf y) (.Name y py) e elt ifs Φ) (nd : X.N.Nodup) (ok : BlkOk X.N X.env.scope scope [(y, X.N.idxOf y)]) (hN : X.N[X.N.idxOf y]? = some y := by rfl) (hc : X.calm = true := by rfl)
    (hl : ∀ b : Bk, Loc (bx X scope b).env.scope y := by intro _; first | exact .inl rfl | exact .inr rfl) (hf : ∀ b : Bk, (bx X scope b).fn y = true ∨ (bx X scope b).env.scope.names.lookup y = some .local := by intro _; first | exact .inl rfl | exact .inr rfl)
    (hif : ifs.length ≤ 1 := by decide) (hs : ∀ x, foldedSetIterable e X.env x = pure x := by intro _; rfl) : dE X W ρ s (.ListComp elt [⟨.Name y py, e, ifs, 0⟩] scope pos) Φ := .mk fun σ H Q en j kn => by
  obtain ⟨wi, tt, te, h1, h2, h3, h4⟩ := lcOf (py := py) hN nd hc ok (fun b => pg_name nd hN (hl b) (hf b)) hif hs h
  exact toE (pe_lc (own := [(y, X.N.idxOf y)]) hc nd h1 ok (fun a1 a2 a3 a4 a5 => pg_name nd hN (hl ⟨a1, a2, a3, a4, a5⟩) (hf ⟨a1, a2, a3, a4, a5⟩)) (fun a1 a2 a3 a4 a5 => h2 ⟨a1, a2, a3, a4, a5⟩) (fun a1 a2 a3 a4 a5 => h3 ⟨a1, a2, a3, a4, a5⟩) hs) (h4 σ H Q en j kn)
theorem ds_setLc {scope : Scope} {pos' spos : Pos} (h : Lc X W ρ s scope (X.N.idxOf y) (.Name y py) e elt ifs fun v s1 => Δ.nx (ρ.set (X.N.idxOf x) (some v)) s1) (nd : X.N.Nodup) (ok : BlkOk X.N X.env.scope scope [(y, X.N.idxOf y)])
    (hsw : swapsWith (.ListComp elt [⟨.Name y py, e, ifs, 0⟩] scope pos) (some (.Name x pos')) spos.line X.env = pure true) (hx : X.N[X.N.idxOf x]? = some x := by rfl) (hxl : X.env.scope.names.lookup x = some .local := by rfl)
    (hN : X.N[X.N.idxOf y]? = some y := by rfl) (hc : X.calm = true := by rfl)
    (hl : ∀ b : Bk, Loc (bx X scope b).env.scope y := by intro _; first | exact .inl rfl | exact .inr rfl) (hf : ∀ b : Bk, (bx X scope b).fn y = true ∨ (bx X scope b).env.scope.names.lookup y = some .local := by intro _; first | exact .inl rfl | exact .inr rfl)
    (hif : ifs.length ≤ 1 := by decide) (hs : ∀ x, foldedSetIterable e X.env x = pure x := by intro _; rfl) : dS X W ρ s (.Assign [.Name x pos'] (.ListComp elt [⟨.Name y py, e, ifs, 0⟩] scope pos) spos) Δ := .mk fun σ H D en j kn => by
  obtain ⟨wi, tt, te, h1, h2, h3, h4⟩ := lcOf (W := W) (ρ := ρ) (s := s) (Φ := fun v s1 => Δ.nx (ρ.set (X.N.idxOf x) (some v)) s1) (py := py) hN nd hc ok (fun b => pg_name nd hN (hl b) (hf b)) hif hs h
  exact toS (ps_setLc (own := [(y, X.N.idxOf y)]) hc nd hx hxl hsw h1 ok (fun a1 a2 a3 a4 a5 => pg_name nd hN (hl ⟨a1, a2, a3, a4, a5⟩) (hf ⟨a1, a2, a3, a4, a5⟩)) (fun a1 a2 a3 a4 a5 => h2 ⟨a1, a2, a3, a4, a5⟩) (fun a1 a2 a3 a4 a5 => h3 ⟨a1, a2, a3, a4, a5⟩) hs)
    (h4 σ H _ en j fun v H1 vl s1 e1 j1 v1 p => kn.nx _ H1 _ s1 e1 j1 ((W.em e1 en).set _ v1) p)
end
end Fw

set_option Elab.async false
set_option linter.all false
set_option maxRecDepth 100000
set_option maxHeartbeats 2000000
namespace Fw
open PySem PySem.Spec PyProof.Rows L2

/-! ### data read off the machine's heap -/
section
variable {X : Cx} {pins : List (Addr × Obj)} {σ : L2.St} {H : Hp} {sh : Shared} {M : Addr → Prop}
theorem keyD_reads {w : World} {P : Program} : ∀ {es : List DictEntry} {vs : List (Key × Value)}, Pairs (mixKind P w) es vs → ReadsAll sh.heap (es.map (·.key)) (vs.map fun p => keyD p.1) []
  | [], _, h => by cases h; exact .nil
  | e :: es, _, h => by
    cases h with
    | cons h1 h2 h3 =>
      have q := keyD_reads h3
      rcases keyIs_shape (show keyIs _ _ = true from h1) with ⟨i, t, e1, e2⟩ | ⟨x, t, e1, e2⟩
      · have z := ReadsAll.cons (Reads.int (h := sh.heap) i t) q
        simp only [List.map_cons, e1, e2, keyD]
        exact z
      · have z := ReadsAll.cons (Reads.str (h := sh.heap) x t) q
        simp only [List.map_cons, e1, e2, keyD]
        exact z
theorem vals_pairs {w : World} {P : Program} : ∀ {es : List DictEntry} {vs : List (Key × Value)} {kvs : List (Key × V)}, Pairs (mixKind P w) es vs → KV kvs vs → Vals (kvs.map (·.2)) (es.map (·.val)) ∧ (kvs.map fun p => keyD p.1) = vs.map fun p => keyD p.1
  | [], _, _, h, k => by cases h; cases k; exact ⟨.nil, rfl⟩
  | e :: es, _, _, h, k => by
    cases h with
    | cons h1 h2 h3 =>
      cases k with
      | cons k1 k2 =>
        obtain ⟨q1, q2⟩ := vals_pairs h3 k2
        simp only [List.map_cons, h2, k1.1, q2]
        exact ⟨.cons k1.2 q1, trivial⟩
mutual
theorem Dt.reads (I : Inv X pins σ H sh) (hS : H sysModules = none) : ∀ {v : V} {d : PyData} {u : Value}, Dt X.K M H v d → RelV v u → ∃ as, Reads sh.heap u d as ∧ sysModules ∉ as
  | _, _, _, .non, r => by cases r; exact ⟨[], .none, by simp⟩
  | _, _, _, .bl b, r => by cases r; exact ⟨[], .bool b, by simp⟩
  | _, _, _, .int b, r => by obtain ⟨t, rfl⟩ := r; exact ⟨[], .int b t, by simp⟩
  | _, _, _, .str b, r => by obtain ⟨t, rfl⟩ := r; exact ⟨[], .str b t, by simp⟩
  | _, _, _, .lst n h1 h2, r => by
    cases r
    obtain ⟨its, rv, ⟨o, n, ho, hc, _, hd⟩, _⟩ := I.list (SqL.of h1)
    obtain ⟨as, q1, q2⟩ := DtA.reads I hS h2 rv
    refine ⟨_, .list ho hc hd q1, fun z => ?_⟩
    rcases List.mem_cons.mp z with z | z
    · rw [z, h1] at hS; cases hS
    · exact q2 z
  | _, _, _, .tup n h1 h2, r => by
    cases r
    obtain ⟨its, rv, ⟨o, ho, hc, n, hd⟩, _⟩ := I.tuple (SqT.of h1)
    obtain ⟨as, q1, q2⟩ := DtA.reads I hS h2 rv
    exact ⟨_, .tuple ho hc hd q1, q2⟩
  | _, _, _, @Dt.wtp _ _ _ a xs ds h1 h2, r => by
    cases r
    have h3 : SqT X.K H a xs := by
      rcases h1 with (h1 | ⟨o, h1⟩) | h1
      · cases h1
      · cases h1
      · exact .inr h1
    obtain ⟨its, rv, ⟨o, ho, hc, n, hd⟩, _⟩ := I.tuple h3
    obtain ⟨as, q1, q2⟩ := DtA.reads I hS h2 rv
    exact ⟨_, .tuple ho hc hd q1, q2⟩
  | _, _, _, @Dt.dic _ _ _ a kvs ds n h1 h2, r => by
    cases r
    obtain ⟨_, hne, vs, kv, o, es, ep, ho, ex, hdat, _, prs, _⟩ := (show ObjOk X.prog X.w H sh.heap a (.dK kvs) from I.hok a _ h1)
    obtain ⟨rv, ek⟩ := vals_pairs prs kv
    obtain ⟨as, q1, q2⟩ := DtA.reads I hS h2 rv
    have hl : ds.length = kvs.length := by rw [← h2.len, List.length_map]
    have l1 : (((kvs.map fun p => keyD p.1).zip ds).map (·.1)) = vs.map fun p => keyD p.1 := by
      rw [← ek]
      exact List.map_fst_zip (by simp [hl])
    have l2 : (((kvs.map fun p => keyD p.1).zip ds).map (·.2)) = ds := List.map_snd_zip (by simp [hl])
    refine ⟨_, .dict (as := []) ho ex.1 hdat (by rw [l1]; exact keyD_reads prs) (by rw [l2]; exact q1), fun z => ?_⟩
    rcases List.mem_append.mp z with z | z
    · have z' : sysModules = a := by simpa using z
      rw [z', h1] at hS; cases hS
    · exact q2 z
theorem DtA.reads (I : Inv X pins σ H sh) (hS : H sysModules = none) : ∀ {vs : List V} {ds : List PyData} {us : List Value}, DtA X.K M H vs ds → Vals vs us → ∃ as, ReadsAll sh.heap us ds as ∧ sysModules ∉ as
  | _, _, _, .nil, r => by cases r; exact ⟨[], .nil, by simp⟩
  | _, _, _, .cons h1 h2, r => by
    cases r with
    | cons r1 r2 =>
      obtain ⟨as, q1, q2⟩ := Dt.reads I hS h1 r1
      obtain ⟨bs, q3, q4⟩ := DtA.reads I hS h2 r2
      exact ⟨_, .cons q1 q3, fun z => (List.mem_append.mp z).elim q2 q4⟩
end
end

/-! ### what the rules ask of the place -/
structure Rm (X : Cx) : Prop where
  g : X.A.guards = some []
  u : X.A.units + 190 < cLine
  b : X.base.get? sysModules ≠ none
  c : X.calm = true
theorem Rm.of {X : Cx} {k : Nat} (g : X.A.guards = some []) (r : Room k X.A) (b : X.base.get? sysModules ≠ none) (c : X.calm = true) : Rm X := ⟨g, by have := r.un; omega, b, c⟩
theorem Rm.sys {X : Cx} (R : Rm X) {pins : List (Addr × Obj)} {σ : L2.St} {H : Hp} {sh : Shared} (I : Inv X pins σ H sh) : H sysModules = none := by
  cases e : X.base.get? sysModules with
  | none => exact absurd e R.b
  | some o => exact (I.bs _ _ e).2
section
variable {X : Cx}
/-- a result that is no object -/
theorem plain {K : PySem.W.Frag} {M : Addr → Prop} {H : Hp} {z : PyData} {Q : VK} {v : V} (hq : ∀ v H', Same H H' → Dt K M H' v z → Q v H') (h : Dt K M H v z) : Q v H := hq v H (fun _ _ e => e) h
theorem fresh {K : PySem.W.Frag} {M : Addr → Prop} {H : Hp} {z : PyData} {Q : VK} {p : Addr} {o : HO} (hq : ∀ v H', Same H H' → Dt K M H' v z → Q v H') (hp : H p = none) (h : Dt K M (upd H p o) (.ref p) z) : Q (.ref p) (upd H p o) := hq _ _ (same_new hp) h
/-! ### arithmetic -/
def b2 (b : Bool) : Int := if b = true then 1 else 0
/-- z, if n is no more than the line -/
def lim (n : Nat) (z : PyData) : Option PyData := if n ≤ sizeLine then some z else none
theorem lim_some {n : Nat} {z w : PyData} (h : lim n z = some w) : n ≤ sizeLine ∧ z = w := by
  unfold lim at h
  split at h
  · exact ⟨by assumption, Option.some.inj h⟩
  · cases h
theorem lim_ok {n : Nat} {z : PyData} (h : n ≤ 1000000) : lim n z = some z := if_pos (Nat.le_trans h (by decide))
def addD : PyData → PyData → Option PyData
  | .int i, .int j => some (.int (i + j))
  | .int i, .bool j => some (.int (i + b2 j))
  | .bool i, .int j => some (.int (b2 i + j))
  | .str a, .str b => lim (a.length + b.length) (.str (a ++ b))
  | .list a, .list b => lim (a.length + b.length) (.list (a ++ b))
  | .tuple a, .tuple b => lim (a.length + b.length) (.tuple (a ++ b))
  | _, _ => none
theorem op_addD : OpR X (binaryOp .Add) (rD X.K addD) := by
  intro pins s σ H x y v u Q I rx ry ⟨M, d, e, z, hm, h1, h2, hz, hq⟩
  match d, e, hz, h1, h2 with
  | .int i, .int j, hz, .int _, .int _ => cases hz; exact op_add pins s σ H _ _ v u Q I rx ry ⟨i, j, rfl, rfl, plain hq (.int _)⟩
  | .int i, .bool j, hz, .int _, .bl _ => cases hz; exact op_add_ib pins s σ H _ _ v u Q I rx ry ⟨i, j, rfl, rfl, plain hq (.int _)⟩
  | .bool i, .int j, hz, .bl _, .int _ =>
    cases hz
    cases rx
    obtain ⟨t, rfl⟩ := ry
    exact PySem.IntBool.add_bool_int ⟨.int _, H, I.tok _, ⟨_, rfl⟩, plain hq (.int _)⟩
  | .str i, .str j, hz, .str _, .str _ =>
    obtain ⟨hl, rfl⟩ := lim_some hz
    exact op_add_str pins s σ H _ _ v u Q I rx ry ⟨i, j, rfl, rfl, hl, plain hq (.str _)⟩
  | .list i, .list j, hz, .lst n1 a1 b1, .lst n2 a2 b2 =>
    obtain ⟨hl, rfl⟩ := lim_some hz
    exact op_cat pins s σ H _ _ v u Q I rx ry ⟨_, _, _, _, rfl, rfl, a1, a2, by rw [b1.len, b2.len]; exact hl, fun p hp => fresh hq hp (.lst (fun m => hm p m hp) upd_same ((b1.app b2).mono (Ex.of (same_new hp))))⟩
  | .tuple i, .tuple j, hz, h1, h2 =>
    obtain ⟨hl, rfl⟩ := lim_some hz
    obtain ⟨a1, xs, rfl, q1, b1, _⟩ := h1.isT
    obtain ⟨a2, ys, rfl, q2, b2, _⟩ := h2.isT
    refine op_catA pins s σ H _ _ v u Q I rx ry ⟨a1, a2, xs, ys, rfl, rfl, q1, q2, by rw [b1.len, b2.len]; exact hl, fun e => ?_, fun _ e => ?_, fun _ _ p hp => fresh hq hp (.tup (fun m => hm p m hp) upd_same ((b1.app b2).mono (Ex.of (same_new hp))))⟩
    · subst e
      cases b1
      exact plain hq h2
    · subst e
      cases b2
      rw [List.append_nil] at hq
      exact plain hq h1
def subD : PyData → PyData → Option PyData
  | .int i, .int j => some (.int (i - j))
  | .int i, .bool j => some (.int (i - b2 j))
  | .bool i, .int j => some (.int (b2 i - j))
  | _, _ => none
theorem op_subD : OpR X (binaryOp .Sub) (rD X.K subD) := by
  intro pins s σ H x y v u Q I rx ry ⟨M, d, e, z, hm, h1, h2, hz, hq⟩
  match d, e, hz, h1, h2 with
  | .int i, .int j, hz, .int _, .int _ => cases hz; exact op_sub pins s σ H _ _ v u Q I rx ry ⟨i, j, rfl, rfl, plain hq (.int _)⟩
  | .int i, .bool j, hz, .int _, .bl _ =>
    cases hz
    cases ry
    obtain ⟨t, rfl⟩ := rx
    exact PySem.IntBool.sub_int_bool ⟨.int _, H, I.tok _, ⟨_, rfl⟩, plain hq (.int _)⟩
  | .bool i, .int j, hz, .bl _, .int _ =>
    cases hz
    cases rx
    obtain ⟨t, rfl⟩ := ry
    exact PySem.IntBool.sub_bool_int ⟨.int _, H, I.tok _, ⟨_, rfl⟩, plain hq (.int _)⟩
/-! ### comparisons -/
theorem op_intsD {op : CmpOp} {p : Int → Int → Bool} (ho : OpR X (compareOp op) (rI0 fun i j => .bl (p i j))) : OpR X (compareOp op) (rD X.K fun d e => match d, e with | .int i, .int j => some (.bool (p i j)) | _, _ => none) := by
  intro pins s σ H x y v u Q I rx ry ⟨M, d, e, z, hm, h1, h2, hz, hq⟩
  match d, e, hz, h1, h2 with
  | .int i, .int j, hz, .int _, .int _ => cases hz; exact ho pins s σ H _ _ v u Q I rx ry ⟨i, j, rfl, rfl, plain hq (.bl _)⟩
def ltD : PyData → PyData → Option PyData
  | .int i, .int j => some (.bool (decide (i < j)))
  | .str i, .str j => some (.bool (decide (i.cps.toList < j.cps.toList)))
  | _, _ => none
theorem op_ltD : OpR X (compareOp .Lt) (rD X.K ltD) := by
  intro pins s σ H x y v u Q I rx ry ⟨M, d, e, z, hm, h1, h2, hz, hq⟩
  match d, e, hz, h1, h2 with
  | .int i, .int j, hz, .int _, .int _ => cases hz; exact op_lt pins s σ H _ _ v u Q I rx ry ⟨i, j, rfl, rfl, plain hq (.bl _)⟩
  | .str i, .str j, hz, .str _, .str _ => cases hz; exact op_lt_str pins s σ H _ _ v u Q I rx ry ⟨i, j, rfl, rfl, plain hq (.bl _)⟩
def gtD : PyData → PyData → Option PyData
  | .int i, .int j => some (.bool (decide (j < i)))
  | .str i, .str j => some (.bool (decide (j.cps.toList < i.cps.toList)))
  | _, _ => none
theorem op_gtD : OpR X (compareOp .Gt) (rD X.K gtD) := by
  intro pins s σ H x y v u Q I rx ry ⟨M, d, e, z, hm, h1, h2, hz, hq⟩
  match d, e, hz, h1, h2 with
  | .int i, .int j, hz, .int _, .int _ => cases hz; exact op_gt pins s σ H _ _ v u Q I rx ry ⟨i, j, rfl, rfl, plain hq (.bl _)⟩
  | .str i, .str j, hz, .str _, .str _ => cases hz; exact op_gt_str pins s σ H _ _ v u Q I rx ry ⟨i, j, rfl, rfl, plain hq (.bl _)⟩
def leD : PyData → PyData → Option PyData
  | .int i, .int j => some (.bool (decide (i ≤ j)))
  | _, _ => none
theorem op_leD : OpR X (compareOp .LtE) (rD X.K leD) := by
  intro pins s σ H x y v u Q I rx ry ⟨M, d, e, z, hm, h1, h2, hz, hq⟩
  match d, e, hz, h1, h2 with
  | .int i, .int j, hz, .int _, .int _ => cases hz; exact op_le pins s σ H _ _ v u Q I rx ry ⟨i, j, rfl, rfl, plain hq (.bl _)⟩
def geD : PyData → PyData → Option PyData
  | .int i, .int j => some (.bool (decide (j ≤ i)))
  | _, _ => none
theorem op_geD : OpR X (compareOp .GtE) (rD X.K geD) := by
  intro pins s σ H x y v u Q I rx ry ⟨M, d, e, z, hm, h1, h2, hz, hq⟩
  match d, e, hz, h1, h2 with
  | .int i, .int j, hz, .int _, .int _ => cases hz; exact op_ge pins s σ H _ _ v u Q I rx ry ⟨i, j, rfl, rfl, plain hq (.bl _)⟩
/-! ### == -/
def flatD : PyData → Bool
  | .none | .bool _ | .int _ | .str _ => true
  | _ => false
theorem rc_flat {A : Around} {s : Shared} {K : PySem.W.Frag} {M : Addr → Prop} {H : Hp} {x y : V} {d e : PyData} {u v : Value} (h1 : Dt K M H x d) (h2 : Dt K M H y e) (f1 : flatD d = true) (f2 : flatD e = true) (rx : L2.RelV x v) (ry : L2.RelV y u) : SeqAt.RcAt A s v u (PyData.eqv d e) := by
  cases h1 with
  | non =>
    cases rx
    cases h2 with
    | non => cases ry; simpa [PyData.eqv] using SeqAt.RcAt.none_none
    | bl b => cases ry; simpa [PyData.eqv] using SeqAt.RcAt.none_bool b
    | int b => obtain ⟨t, rfl⟩ := ry; simpa [PyData.eqv] using SeqAt.RcAt.none_int b t
    | str b => obtain ⟨t, rfl⟩ := ry; simpa [PyData.eqv] using SeqAt.RcAt.none_str b t
    | _ => cases f2
  | bl a =>
    cases rx
    cases h2 with
    | non => cases ry; simpa [PyData.eqv] using SeqAt.RcAt.bool_none a
    | bl b => cases ry; simpa [PyData.eqv] using SeqAt.RcAt.bool_bool a b
    | int b => obtain ⟨t, rfl⟩ := ry; simpa [PyData.eqv] using SeqAt.RcAt.bool_int a b t
    | str b => obtain ⟨t, rfl⟩ := ry; simpa [PyData.eqv] using SeqAt.RcAt.bool_str a b t
    | _ => cases f2
  | int a =>
    obtain ⟨t1, rfl⟩ := rx
    cases h2 with
    | non => cases ry; simpa [PyData.eqv] using SeqAt.RcAt.int_none a t1
    | bl b => cases ry; simpa [PyData.eqv] using SeqAt.RcAt.int_bool a t1 b
    | int b => obtain ⟨t, rfl⟩ := ry; simpa [PyData.eqv] using SeqAt.RcAt.int_int a t1 b t
    | str b => obtain ⟨t, rfl⟩ := ry; simpa [PyData.eqv] using SeqAt.RcAt.int_str a t1 b t
    | _ => cases f2
  | str a =>
    obtain ⟨t1, rfl⟩ := rx
    cases h2 with
    | non => cases ry; simpa [PyData.eqv] using SeqAt.RcAt.str_none a t1
    | bl b => cases ry; simpa [PyData.eqv] using SeqAt.RcAt.str_bool a t1 b
    | int b => obtain ⟨t, rfl⟩ := ry; simpa [PyData.eqv] using SeqAt.RcAt.str_int a t1 b t
    | str b => obtain ⟨t, rfl⟩ := ry; simpa [PyData.eqv] using SeqAt.RcAt.str_str a t1 b t
    | _ => cases f2
  | _ => cases f1
end
end Fw

set_option Elab.async false
set_option linter.all false
set_option maxRecDepth 100000
set_option maxHeartbeats 2000000
namespace Fw
open PySem PySem.Spec PyProof.Rows
section
variable {A : Around} {s : Shared}
theorem str_eq_dict (b : Str) (u : Tok) (l : Addr) (c : Value) (es : Array DictEntry) (n : Nat) (dd : Option Addr) (sl : Array (Option Value)) :
    Meets (Builtin.«str.__eq__» ⟨[.str b u, .ref l], []⟩) (fun _ R s => s.heap.get? l = some { cls := c, dict := dd, data := .dict es n, slots := sl } ∧ R (.ok (.ret .notImplemented)) s) :=
  .of_wp fun prog w A R s h => by obtain ⟨hp, g, d, tk, os⟩ := s; obtain ⟨hl, h⟩ := h; wp_walk using wpAny_loadPart' hl, wpAny_load hl; exact ⟨_, rfl, h⟩
theorem rc_dict_str {a : Addr} {o : Obj} {es : Array DictEntry} {n : Nat} (x : Str) (u : Tok) (ho : s.heap.get? a = some o) (hc : o.cls = .type "dict") (hd : o.data = .dict es n) (hu : A.units < cLine) : SeqAt.RcAt A s (.ref a) (.str x u) false := fun prog w E Q h => by
  obtain ⟨cls, dd, data, sl⟩ := o
  simp only at hc hd
  subst hc hd
  have ht : s.TypeIs (.ref a) "dict" := ⟨_, ho, rfl⟩
  refine SeqAt.rc_eq_decline_or (k := false) ht (typeIs_str s x u) (by decide) F.sub_str_dict F.slot_dict_eq F.slot_str_eq_refl
    (fun Q' hq => wpAny_call_entry F.slot_dict_eq ht F.entry_dict_eq ?_ (F.args_dict_eq_2 _ _))
    (fun _ hq => call_meets F.slot_str_eq_refl (typeIs_str s x u) F.entry_str_eq (F.args_str_eq_2 _ _) (str_eq_dict x u a _ es n dd sl) ⟨ho, hq⟩)
    (fun _ hq => wpAny_of_eq (rfl : isSame (.ref a) (.str x u) = pure false) hq) (.inr hu) h
  show wpAny _ _ (Builtin.Dict.dictSlotArgs "__eq__" ⟨[.ref a, .str x u], []⟩ >>= _) _ _ s
  refine wpAny_bind ?_
  unfold Builtin.Dict.dictSlotArgs
  refine wpAny_bind (wpAny_notOrdered_dict ht ?_)
  show wpAny _ _ (pure (Value.ref a, Value.str x u)) _ _ s
  refine wpAny_pure ?_
  refine wpAny_bind (wpAny_isInstance (typeIs_str s x u) F.sub_str_dict ?_)
  simp only [Bool.not_false, if_true]
  refine wpAny_bind (wpAny_rule ?_)
  exact wpAny_pure ⟨_, rfl, hq⟩
end
end Fw
namespace Fw
open PySem PySem.Spec PyProof.Rows L2
def okEq : PyData → PyData → Bool
  | .dict _, .str _ => true
  | .dict _, _ => false
  | _, .dict _ => false
  | d, e => flatD d || flatD e
/-- == where one of both is flat -/
theorem rc_half {X : Cx} {pins : List (Addr × Obj)} {σ : L2.St} {sh : Shared} {A : Around} {M : Addr → Prop} {H : Hp} {x y : V} {d e : PyData} {u v : Value} (I : Inv X pins σ H sh) (hu : A.units < cLine) (h1 : Dt X.K M H x d) (h2 : Dt X.K M H y e) (f : okEq d e = true) (rx : L2.RelV x v) (ry : L2.RelV y u) : SeqAt.RcAt A sh v u (PyData.eqv d e) := by
  have ls : ∀ {v : V} {l : List PyData} {u : Value}, Dt X.K M H v (.list l) → L2.RelV v u → ∃ a its, u = .ref a ∧ sh.heap.IsList a its := fun {v l u} h r => by
    cases h with
    | lst n a1 b1 =>
      cases r
      obtain ⟨its, _, q, _⟩ := I.list (SqL.of a1)
      exact ⟨_, _, rfl, q.isList⟩
  have tp : ∀ {v : V} {l : List PyData} {u : Value}, Dt X.K M H v (.tuple l) → L2.RelV v u → ∃ a its, u = .ref a ∧ sh.heap.IsTuple a its := fun {v l u} h r => by
    obtain ⟨a, xs, rfl, a1, _, _⟩ := h.isT
    cases r
    obtain ⟨its, _, q, _⟩ := I.tuple a1
    exact ⟨_, _, rfl, q⟩
  cases d with
  | none => cases e with
    | list l => cases h1; cases rx; obtain ⟨a, its, rfl, q⟩ := ls h2 ry; simpa [PyData.eqv] using SeqAt.RcAt.none_list q hu
    | tuple l => cases h1; cases rx; obtain ⟨a, its, rfl, q⟩ := tp h2 ry; simpa [PyData.eqv] using SeqAt.RcAt.none_tuple q hu
    | dict l => exact absurd (show false = true from f) Bool.false_ne_true
    | _ => exact rc_flat h1 h2 rfl rfl rx ry
  | bool b => cases e with
    | list l => cases h1; cases rx; obtain ⟨a, its, rfl, q⟩ := ls h2 ry; simpa [PyData.eqv] using SeqAt.RcAt.bool_list b q hu
    | tuple l => cases h1; cases rx; obtain ⟨a, its, rfl, q⟩ := tp h2 ry; simpa [PyData.eqv] using SeqAt.RcAt.bool_tuple b q hu
    | dict l => exact absurd (show false = true from f) Bool.false_ne_true
    | _ => exact rc_flat h1 h2 rfl rfl rx ry
  | int b => cases e with
    | list l => cases h1; obtain ⟨t, rfl⟩ := rx; obtain ⟨a, its, rfl, q⟩ := ls h2 ry; simpa [PyData.eqv] using SeqAt.RcAt.int_list b t q hu
    | tuple l => cases h1; obtain ⟨t, rfl⟩ := rx; obtain ⟨a, its, rfl, q⟩ := tp h2 ry; simpa [PyData.eqv] using SeqAt.RcAt.int_tuple b t q hu
    | dict l => exact absurd (show false = true from f) Bool.false_ne_true
    | _ => exact rc_flat h1 h2 rfl rfl rx ry
  | str b => cases e with
    | list l => cases h1; obtain ⟨t, rfl⟩ := rx; obtain ⟨a, its, rfl, q⟩ := ls h2 ry; simpa [PyData.eqv] using SeqAt.RcAt.str_list b t q hu
    | tuple l => cases h1; obtain ⟨t, rfl⟩ := rx; obtain ⟨a, its, rfl, q⟩ := tp h2 ry; simpa [PyData.eqv] using SeqAt.RcAt.str_tuple b t q hu
    | dict l => exact absurd (show false = true from f) Bool.false_ne_true
    | _ => exact rc_flat h1 h2 rfl rfl rx ry
  | list l =>
    obtain ⟨a, its, rfl, q⟩ := ls h1 rx
    cases e with
    | none => cases h2; cases ry; simpa [PyData.eqv] using SeqAt.RcAt.list_none q hu
    | bool b => cases h2; cases ry; simpa [PyData.eqv] using SeqAt.RcAt.list_bool b q hu
    | int b => cases h2; obtain ⟨t, rfl⟩ := ry; simpa [PyData.eqv] using SeqAt.RcAt.list_int b t q hu
    | str b => cases h2; obtain ⟨t, rfl⟩ := ry; simpa [PyData.eqv] using SeqAt.RcAt.list_str b t q hu
    | _ => exact absurd (show false = true from f) Bool.false_ne_true
  | tuple l =>
    obtain ⟨a, its, rfl, q⟩ := tp h1 rx
    cases e with
    | none => cases h2; cases ry; simpa [PyData.eqv] using SeqAt.RcAt.tuple_none q hu
    | bool b => cases h2; cases ry; simpa [PyData.eqv] using SeqAt.RcAt.tuple_bool b q hu
    | int b => cases h2; obtain ⟨t, rfl⟩ := ry; simpa [PyData.eqv] using SeqAt.RcAt.tuple_int b t q hu
    | str b => cases h2; obtain ⟨t, rfl⟩ := ry; simpa [PyData.eqv] using SeqAt.RcAt.tuple_str b t q hu
    | _ => exact absurd (show false = true from f) Bool.false_ne_true
  | dict l => cases e with
    | str b =>
      cases h2
      obtain ⟨t, rfl⟩ := ry
      cases h1 with
      | @dic a kvs ds n a1 b1 =>
        cases rx
        obtain ⟨_, _, vs, _, o, es, ep, ho, ex, hdat, _⟩ := (show ObjOk X.prog X.w H sh.heap a (.dK kvs) from I.hok a _ a1)
        simpa [PyData.eqv] using rc_dict_str b t ho ex.1 hdat hu
    | _ => exact absurd (show false = true from f) Bool.false_ne_true
def nilE : PyData → Bool
  | .list [] => true
  | .tuple [] => true
  | _ => false
def sameSeq : PyData → PyData → Bool
  | .list _, .list _ => true
  | .tuple _, .tuple _ => true
  | _, _ => false
/-- two lists, two tuples, the right one empty -/
theorem rc_nil {X : Cx} {pins : List (Addr × Obj)} {σ : L2.St} {sh : Shared} {A : Around} {M : Addr → Prop} {H : Hp} {x y : V} {d e : PyData} {u v : Value} (I : Inv X pins σ H sh) (hu : A.units < cLine) (h1 : Dt X.K M H x d) (h2 : Dt X.K M H y e) (f : sameSeq d e = true) (g : nilE e = true) (rx : L2.RelV x v) (ry : L2.RelV y u) :
    SeqAt.RcAt A sh v u (nilE d) ∧ SeqAt.RcNeAt A sh v u (!nilE d) := by
  cases e with
  | list l2 =>
    cases l2 with
    | cons _ _ => exact absurd (show false = true from g) Bool.false_ne_true
    | nil =>
      cases d with
      | list l1 =>
        cases h1 with
        | lst n1 a1 b1 =>
          cases h2 with
          | lst n2 a2 b2 =>
            cases b2
            cases rx
            cases ry
            obtain ⟨its, r1, q1, _⟩ := I.list (SqL.of a1)
            obtain ⟨its2, r2, q2, _⟩ := I.list (SqL.of a2)
            cases r2
            cases b1 with
            | nil =>
              cases r1
              have z1 := SeqAt.RcAt.lists (A := A) (e := fun _ => true) q1.isList q2.isList rfl hu (fun j h _ => absurd h (Nat.not_lt_zero j))
              have z2 := SeqAt.RcNeAt.lists (A := A) (e := fun _ => true) q1.isList q2.isList rfl hu (fun j h _ => absurd h (Nat.not_lt_zero j))
              exact ⟨z1, z2⟩
            | cons c1 c2 =>
              cases r1
              exact ⟨SeqAt.RcAt.lists_lengths q1.isList q2.isList (by simp) hu, SeqAt.RcNeAt.lists_lengths q1.isList q2.isList (by simp) hu⟩
      | _ => exact absurd (show false = true from f) Bool.false_ne_true
  | tuple l2 =>
    cases l2 with
    | cons _ _ => exact absurd (show false = true from g) Bool.false_ne_true
    | nil =>
      cases d with
      | tuple l1 =>
        obtain ⟨a, xs, rfl, q1, b1, _⟩ := h1.isT
        obtain ⟨b, ys, rfl, q2, b2, _⟩ := h2.isT
        cases b2
        cases rx
        cases ry
        obtain ⟨its, r1, p1, _⟩ := I.tuple q1
        obtain ⟨its2, r2, p2, _⟩ := I.tuple q2
        cases r2
        have z1 := SeqAt.RcAt.tuples (A := A) (e := fun _ => true) (show sh.heap.IsTuple a its.toArray from p1) (show sh.heap.IsTuple b _ from p2) hu (fun j _ h => absurd h (Nat.not_lt_zero j))
        have z2 := SeqAt.RcNeAt.tuples (A := A) (e := fun _ => true) (show sh.heap.IsTuple a its.toArray from p1) (show sh.heap.IsTuple b _ from p2) hu (fun j _ h => absurd h (Nat.not_lt_zero j))
        cases b1 with
        | nil => cases r1; exact ⟨z1, z2⟩
        | cons c1 c2 =>
          cases r1
          refine ⟨?_, ?_⟩
          · show SeqAt.RcAt A sh _ _ false
            simpa using z1
          · show SeqAt.RcNeAt A sh _ _ true
            simpa using z2
      | _ => exact absurd (show false = true from f) Bool.false_ne_true
  | _ => exact absurd (show false = true from g) Bool.false_ne_true
end Fw

set_option Elab.async false
set_option linter.all false
set_option maxRecDepth 100000
set_option maxHeartbeats 2000000
namespace Fw
open PySem PySem.Spec PyProof.Rows L2
section
variable {X : Cx}
/-- where one of both is flat, or such data as the library's == takes -/
def eqB (d e : PyData) : Option Bool := if okEq d e then some (PyData.eqv d e) else if sameSeq d e && nilE e then some (nilE d) else if SeqAt.shaped d && SeqAt.shaped e then some (PyData.eqv d e) else none
def eqD (d e : PyData) : Option PyData := (eqB d e).map .bool
theorem op_eqDD (R : Rm X) : OpR X (compareOp .Eq) (rD X.K eqD) := by
  intro pins s σ H x y v u Q I rx ry ⟨M, d, e, z, hm, h1, h2, hz, hq⟩
  unfold eqD eqB at hz
  split at hz
  · rename_i hf
    cases hz
    exact rc_half I (by have := R.u; omega) h1 h2 hf rx ry X.prog X.w X.xe _ ⟨.bl _, H, I, rfl, plain hq (.bl _)⟩
  · split at hz
    · rename_i hf
      obtain ⟨f1, f2⟩ := Bool.and_eq_true_iff.mp hf
      cases hz
      exact (rc_nil I (by have := R.u; omega) h1 h2 f1 f2 rx ry).1 X.prog X.w X.xe _ ⟨.bl _, H, I, rfl, plain hq (.bl _)⟩
    split at hz
    · rename_i hf
      obtain ⟨f1, f2⟩ := Bool.and_eq_true_iff.mp hf
      cases hz
      obtain ⟨as, r1, _⟩ := Dt.reads I (R.sys I) h1 rx
      obtain ⟨bs, r2, _⟩ := Dt.reads I (R.sys I) h2 ry
      exact SeqAt.compareEq_shaped r1 r2 f1 f2 (by have := R.u; omega) ⟨.bl _, H, I, rfl, plain hq (.bl _)⟩
    · cases hz
/-- the same kind of flat values, or none of them an int or a bool -/
def scD : PyData → PyData → Bool
  | .bool _, .int _ => false
  | .int _, .bool _ => false
  | d, e => flatD d && flatD e
def neB (d e : PyData) : Option Bool := if scD d e then some (PyData.eqv d e) else if sameSeq d e && nilE e then some (nilE d) else if SeqAt.shaped d && SeqAt.shaped e then some (PyData.eqv d e) else none
def neDD (d e : PyData) : Option PyData := (neB d e).map fun b => .bool (!b)
theorem sc_eq {K : PySem.W.Frag} {M : Addr → Prop} {H : Hp} {x y : V} {d e : PyData} (h1 : Dt K M H x d) (h2 : Dt K M H y e) (f : scD d e = true) : scal x y = true ∧ decide (x = y) = PyData.eqv d e := by
  cases h1 with
  | non => cases h2 <;> first | exact absurd (show false = true from f) Bool.false_ne_true | exact ⟨rfl, by simp [PyData.eqv]⟩
  | bl a => cases h2 <;> first | exact absurd (show false = true from f) Bool.false_ne_true | (refine ⟨rfl, ?_⟩; first | (simp only [PyData.eqv, dec_bl]; done) | (simp [PyData.eqv]; done))
  | int a => cases h2 <;> first | exact absurd (show false = true from f) Bool.false_ne_true | (refine ⟨rfl, ?_⟩; first | (simp only [PyData.eqv, dec_int]; done) | (simp [PyData.eqv]; done))
  | str a => cases h2 <;> first | exact absurd (show false = true from f) Bool.false_ne_true | (refine ⟨rfl, ?_⟩; first | (simp only [PyData.eqv, dec_str]; done) | (simp [PyData.eqv]; done))
  | _ => cases h2 <;> exact absurd (show false = true from f) Bool.false_ne_true
theorem op_neDD (R : Rm X) : OpR X (compareOp .NotEq) (rD X.K neDD) := by
  intro pins s σ H x y v u Q I rx ry ⟨M, d, e, z, hm, h1, h2, hz, hq⟩
  unfold neDD neB at hz
  split at hz
  · rename_i hf
    obtain ⟨f1, f2⟩ := sc_eq h1 h2 hf
    cases hz
    exact op_ne pins s σ H x y v u Q I rx ry ⟨f1, by rw [f2]; exact plain hq (.bl _)⟩
  · split at hz
    · rename_i hf
      obtain ⟨f1, f2⟩ := Bool.and_eq_true_iff.mp hf
      cases hz
      exact (rc_nil I (by have := R.u; omega) h1 h2 f1 f2 rx ry).2 X.prog X.w X.xe _ ⟨.bl _, H, I, rfl, plain hq (.bl _)⟩
    split at hz
    · rename_i hf
      obtain ⟨f1, f2⟩ := Bool.and_eq_true_iff.mp hf
      cases hz
      obtain ⟨as, r1, _⟩ := Dt.reads I (R.sys I) h1 rx
      obtain ⟨bs, r2, _⟩ := Dt.reads I (R.sys I) h2 ry
      exact SeqAt.compareNe_shaped r1 r2 f1 f2 (by have := R.u; omega) ⟨.bl _, H, I, rfl, plain hq (.bl _)⟩
    · cases hz

/-! ### in -/
theorem flat_V {K : PySem.W.Frag} {M : Addr → Prop} {H : Hp} {x : V} {d : PyData} (h : Dt K M H x d) (f : flatD d = true) : flatV x = true := by
  cases h <;> first | rfl | exact absurd (show false = true from f) Bool.false_ne_true
theorem eqV_eqv {K : PySem.W.Frag} {M : Addr → Prop} {H : Hp} {x y : V} {d e : PyData} (h1 : Dt K M H x d) (h2 : Dt K M H y e) (f1 : flatD d = true) (f2 : flatD e = true) : eqV x y = PyData.eqv d e := by
  cases h1 <;> first | exact absurd (show false = true from f1) Bool.false_ne_true | (cases h2 <;> first | exact absurd (show false = true from f2) Bool.false_ne_true | simp [eqV, PyData.eqv])
theorem inV_any {K : PySem.W.Frag} {M : Addr → Prop} {H : Hp} {x : V} {d : PyData} (h : Dt K M H x d) (f : flatD d = true) : ∀ {vs : List V} {ds : List PyData}, DtA K M H vs ds → ds.all flatD = true → vs.all flatV = true ∧ inV x vs = ds.any fun e => PyData.eqv e d
  | _, _, .nil, _ => ⟨rfl, rfl⟩
  | _, _, .cons a b, g => by
    obtain ⟨g1, g2⟩ := Bool.and_eq_true_iff.mp (show (flatD _ && List.all _ flatD) = true from g)
    obtain ⟨q1, q2⟩ := inV_any h f b g2
    refine ⟨by simp [flat_V a g1]; simpa using q1, ?_⟩
    unfold inV at q2 ⊢
    rw [List.any_cons, List.any_cons, q2, eqV_eqv a h g1 f]
def seqD : PyData → Option (List PyData)
  | .list ds => some ds
  | .tuple ds => some ds
  | _ => none
def isSt : PyData → Bool
  | .str _ => true
  | _ => false
/-- in a row of data: flat ones, or a list or tuple among texts -/
def inRow (d : PyData) (ds : List PyData) : Option Bool := if flatD d && ds.all flatD then some (ds.any fun e => PyData.eqv e d) else if (seqD d).isSome && ds.all isSt then some false else none
def inB (d e : PyData) : Option Bool := match d, e with
  | .str a, .str z => (match a.cps.toList with
    | [c] => some (decide (c ∈ z.cps.toList))
    | _ => none)
  | d, .list ds => inRow d ds
  | d, .tuple ds => inRow d ds
  | _, _ => none
def inD (d e : PyData) : Option PyData := (inB d e).map .bool
def ninD (d e : PyData) : Option PyData := (inB d e).map fun b => .bool (!b)
theorem one_sign {a : Str} {c : Nat} (h : a.cps.toList = [c]) : a = ⟨#[c]⟩ := by
  obtain ⟨l⟩ := a
  congr
  exact Array.ext' (by simpa using h)
/-- the places in which 'in' looks -/
theorem in_cases {K : PySem.W.Frag} {M : Addr → Prop} {H : Hp} {x y : V} {d e : PyData} {b : Bool} (h1 : Dt K M H x d) (h2 : Dt K M H y e) (hz : inB d e = some b) :
    (∃ c z, x = .str ⟨#[c]⟩ ∧ y = .str z ∧ b = decide (c ∈ z.cps.toList)) ∨ (∃ p xs, y = .ref p ∧ (SqL K H p xs ∨ SqT K H p xs) ∧ ((flatV x = true ∧ xs.all flatV = true ∧ b = inV x xs) ∨ (∃ ds, DtA K M H xs ds ∧ (seqD d).isSome = true ∧ ds.all isSt = true ∧ b = false))) := by
  have seq : ∀ {ds : List PyData} {xs : List V}, DtA K M H xs ds → inRow d ds = some b → (flatV x = true ∧ xs.all flatV = true ∧ b = inV x xs) ∨ (∃ ds, DtA K M H xs ds ∧ (seqD d).isSome = true ∧ ds.all isSt = true ∧ b = false) := fun {ds xs} hd hc => by
    unfold inRow at hc
    split at hc
    · rename_i hf
      obtain ⟨f1, f2⟩ := Bool.and_eq_true_iff.mp hf
      obtain ⟨q1, q2⟩ := inV_any h1 f1 hd f2
      cases hc
      exact .inl ⟨flat_V h1 f1, q1, q2.symm⟩
    · split at hc
      · rename_i hf
        obtain ⟨f1, f2⟩ := Bool.and_eq_true_iff.mp hf
        cases hc
        exact .inr ⟨ds, hd, f1, f2, rfl⟩
      · cases hc
  cases e with
  | list ds =>
    cases h2 with
    | lst n a1 b1 =>
      have hz' : inRow d ds = some b := by
        cases d <;> exact hz
      exact .inr ⟨_, _, rfl, .inl (SqL.of a1), seq b1 hz'⟩
  | tuple ds =>
    obtain ⟨a, xs, rfl, q1, b1, _⟩ := h2.isT
    have hz' : inRow d ds = some b := by
      cases d <;> exact hz
    exact .inr ⟨_, _, rfl, .inr q1, seq b1 hz'⟩
  | str z =>
    cases h2
    cases h1 with
    | str a =>
      refine .inl ?_
      have hz' : (match a.cps.toList with | [c] => some (decide (c ∈ z.cps.toList)) | _ => none) = some b := hz
      split at hz'
      · rename_i c hc
        cases hz'
        exact ⟨c, z, by rw [one_sign hc], rfl, rfl⟩
      · cases hz'
    | _ => cases hz
  | none => cases d <;> cases hz
  | bool _ => cases d <;> cases hz
  | int _ => cases d <;> cases hz
  | dict _ => cases d <;> cases hz
/-- texts beside a list or a tuple -/
theorem eq_texts {pins : List (Addr × Obj)} {σ : L2.St} {H : Hp} {sh : Shared} {A : Around} {M : Addr → Prop} {x : V} {d : PyData} {v : Value} (I : Inv X pins σ H sh) (hu : A.units < cLine) (h1 : Dt X.K M H x d) (f : (seqD d).isSome = true) (rx : L2.RelV x v) :
    ∀ {vs : List V} {ds : List PyData} {us : List Value}, DtA X.K M H vs ds → ds.all isSt = true → Vals vs us → ∀ u ∈ us, SeqAt.EqAt A sh u v false
  | _, _, _, .nil, _, r, u, hm => by cases r; exact absurd hm List.not_mem_nil
  | _, _, _, .cons a b, g, r, u, hm => by
    obtain ⟨g1, g2⟩ := Bool.and_eq_true_iff.mp (show (isSt _ && List.all _ isSt) = true from g)
    cases r with
    | cons r1 r2 =>
      rcases List.mem_cons.mp hm with z | z
      · subst z
        cases a with
        | str y =>
          obtain ⟨t, rfl⟩ := r1
          cases d with
          | list l =>
            cases h1 with
            | lst n a1 b1 =>
              cases rx
              obtain ⟨its, _, q, _⟩ := I.list (SqL.of a1)
              exact SeqAt.EqAt.str_list y t q.isList hu
          | tuple l =>
            obtain ⟨a, xs, rfl, a1, _, _⟩ := h1.isT
            cases rx
            obtain ⟨its, _, q, _⟩ := I.tuple a1
            exact SeqAt.EqAt.str_tuple y t q hu
          | _ => exact absurd (show false = true from f) Bool.false_ne_true
        | _ => exact absurd (show false = true from g1) Bool.false_ne_true
      · exact eq_texts I hu h1 f rx b g2 r2 u z
theorem op_inD (R : Rm X) : OpR X (compareOp .In) (rD X.K inD) := by
  intro pins s σ H x y v u Q I rx ry ⟨M, d, e, z, hm, h1, h2, hz, hq⟩
  obtain ⟨b, hb, rfl⟩ := Option.map_eq_some_iff.mp hz
  rcases in_cases h1 h2 hb with ⟨c, z, rfl, rfl, rfl⟩ | ⟨p, xs, rfl, q1, ⟨q2, q3, rfl⟩ | ⟨ds, q2, q3, q4, rfl⟩⟩
  · exact op_in_sign pins s σ H _ _ v u Q I rx ry ⟨c, z, rfl, rfl, plain hq (.bl _)⟩
  · exact op_in_seq pins s σ H _ _ v u Q I rx ry ⟨p, xs, rfl, q1, q2, q3, plain hq (.bl _)⟩
  · cases ry
    have hu : X.A.in1.units < cLine := by show X.A.units + 1 < cLine; have := R.u; omega
    rcases q1 with q1 | q1
    · obtain ⟨its, rv, p1, _⟩ := I.list q1
      refine SeqAt.in_listAt (fun _ => false) p1.isList (fun y hy => eq_texts I hu h1 q3 rx q2 q4 rv y (by simpa using hy)) ⟨.bl _, H, I, (by show Value.bool _ = Value.bool _; congr 1; simp), plain hq (.bl _)⟩
    · obtain ⟨its, rv, p1, _⟩ := I.tuple q1
      refine SeqAt.in_tupleAt (fun _ => false) p1 (fun y hy => eq_texts I hu h1 q3 rx q2 q4 rv y (by simpa using hy)) ⟨.bl _, H, I, (by show Value.bool _ = Value.bool _; congr 1; simp), plain hq (.bl _)⟩
theorem op_ninD (R : Rm X) : OpR X (compareOp .NotIn) (rD X.K ninD) := by
  intro pins s σ H x y v u Q I rx ry ⟨M, d, e, z, hm, h1, h2, hz, hq⟩
  obtain ⟨b, hb, rfl⟩ := Option.map_eq_some_iff.mp hz
  rcases in_cases h1 h2 hb with ⟨c, z, rfl, rfl, rfl⟩ | ⟨p, xs, rfl, q1, ⟨q2, q3, rfl⟩ | ⟨ds, q2, q3, q4, rfl⟩⟩
  · exact op_notIn_sign pins s σ H _ _ v u Q I rx ry ⟨c, z, rfl, rfl, plain hq (.bl _)⟩
  · exact op_notIn_seq pins s σ H _ _ v u Q I rx ry ⟨p, xs, rfl, q1, q2, q3, plain hq (.bl _)⟩
  · cases ry
    have hu : X.A.in1.units < cLine := by show X.A.units + 1 < cLine; have := R.u; omega
    rcases q1 with q1 | q1
    · obtain ⟨its, rv, p1, _⟩ := I.list q1
      refine SeqAt.notIn_listAt (fun _ => false) p1.isList (fun y hy => eq_texts I hu h1 q3 rx q2 q4 rv y (by simpa using hy)) ⟨.bl _, H, I, (by show Value.bool _ = Value.bool _; congr 1; simp), plain hq (.bl _)⟩
    · obtain ⟨its, rv, p1, _⟩ := I.tuple q1
      refine SeqAt.notIn_tupleAt (fun _ => false) p1 (fun y hy => eq_texts I hu h1 q3 rx q2 q4 rv y (by simpa using hy)) ⟨.bl _, H, I, (by show Value.bool _ = Value.bool _; congr 1; simp), plain hq (.bl _)⟩
/-! ### is None -/
def isNon : PyData → Bool
  | .none => true
  | _ => false
def isD (neg : Bool) (d e : PyData) : Option PyData := if isNon e then some (.bool (neg != isNon d)) else none
theorem non_iff {K : PySem.W.Frag} {M : Addr → Prop} {H : Hp} {x : V} {d : PyData} (h : Dt K M H x d) : decide (x = .non) = isNon d := by
  cases h <;> rfl
theorem op_isD : OpR X (compareOp .Is) (rD X.K (isD false)) := by
  intro pins s σ H x y v u Q I rx ry ⟨M, d, e, z, hm, h1, h2, hz, hq⟩
  unfold isD at hz
  split at hz
  · rename_i he
    cases hz
    have hy : y = .non := of_decide_eq_true ((non_iff h2).trans he)
    refine op_isN pins s σ H _ _ v u Q I rx ry ⟨hy, ?_⟩
    rw [non_iff h1]
    exact plain hq (by rw [show ∀ b, (false != b) = b by decide]; exact .bl _)
  · cases hz
theorem op_isntD : OpR X (compareOp .IsNot) (rD X.K (isD true)) := by
  intro pins s σ H x y v u Q I rx ry ⟨M, d, e, z, hm, h1, h2, hz, hq⟩
  unfold isD at hz
  split at hz
  · rename_i he
    cases hz
    have hy : y = .non := of_decide_eq_true ((non_iff h2).trans he)
    refine op_notN pins s σ H _ _ v u Q I rx ry ⟨hy, ?_⟩
    rw [non_iff h1]
    exact plain hq (by rw [show ∀ b, (true != b) = !b by decide]; exact .bl _)
  · cases hz
/-! ### subscripts, slices -/
def ixD : PyData → PyData → Option PyData
  | .list ds, .int i => atI ds i
  | .tuple ds, .int i => atI ds i
  | .str z, .int i => if z.length ≤ sizeLine then (atI z.cps.toList i).map fun c => .str ⟨#[c]⟩ else none
  | _, _ => none
theorem atI_V {K : PySem.W.Frag} {M : Addr → Prop} {H : Hp} {vs : List V} {ds : List PyData} {i : Int} {d : PyData} (h : DtA K M H vs ds) (e : atI ds i = some d) : ∃ v, atI vs i = some v ∧ Dt K M H v d := by
  unfold atI at e ⊢
  rw [h.len]
  cases q : ixN ds.length i with
  | none => rw [q] at e; cases e
  | some j =>
    rw [q] at e
    obtain ⟨v, q1, q2⟩ := h.get (show ds[j]? = some d from e)
    exact ⟨v, q1, q2⟩
theorem ix_D : IxR X (rD X.K ixD) := by
  intro ve se pins s σ H x y v u Q I rx ry ⟨M, d, e, z, hm, h1, h2, hz, hq⟩ hs
  match d, e, hz, h1, h2 with
  | .list ds, .int i, hz, .lst n a1 b1, .int _ =>
    obtain ⟨w, q1, q2⟩ := atI_V b1 (show atI ds i = some z from hz)
    exact ix_list ve se pins s σ H _ _ v u Q I rx ry ⟨_, _, i, w, rfl, rfl, SqL.of a1, q1, plain hq q2⟩ hs
  | .tuple ds, .int i, hz, h1, .int _ =>
    obtain ⟨a, xs, rfl, a1, b1, _⟩ := h1.isT
    obtain ⟨w, q1, q2⟩ := atI_V b1 (show atI ds i = some z from hz)
    exact ix_tup ve se pins s σ H _ _ v u Q I rx ry ⟨a, xs, i, w, rfl, rfl, a1, q1, plain hq q2⟩ hs
  | .str t, .int i, hz, .str _, .int _ =>
    have hz' : (if t.length ≤ sizeLine then (atI t.cps.toList i).map fun c => PyData.str ⟨#[c]⟩ else none) = some z := hz
    split at hz'
    · rename_i hl
      obtain ⟨c, q1, rfl⟩ := Option.map_eq_some_iff.mp hz'
      exact ix_str ve se pins s σ H _ _ v u Q I rx ry ⟨t, i, c, rfl, rfl, hl, q1, plain hq (.str _)⟩ hs
    · cases hz'
def cutD (ds : List PyData) (lo hi : Option Int) : List PyData := (ds.drop (HT.sIx ds.length 0 lo)).take (HT.sIx ds.length ds.length hi - HT.sIx ds.length 0 lo)
def slD : PyData → Option Int → Option Int → Option PyData
  | .list ds, lo, hi => some (.list (cutD ds lo hi))
  | .tuple ds, lo, hi => some (.tuple (cutD ds lo hi))
  | .str z, lo, hi => lim z.length (.str (cutS z lo hi))
  | _, _, _ => none
theorem cut_DA {K : PySem.W.Frag} {M : Addr → Prop} {H : Hp} {vs : List V} {ds : List PyData} (h : DtA K M H vs ds) (lo hi : Option Int) : DtA K M H (cutV vs lo hi) (cutD ds lo hi) := by
  unfold cutV cutD
  rw [h.len]
  exact (h.drop _).take _
theorem cut_all {ds : List PyData} {lo hi : Option Int} (h : HT.sIx ds.length 0 lo = 0 ∧ HT.sIx ds.length ds.length hi = ds.length) : cutD ds lo hi = ds := by
  unfold cutD
  rw [h.1, h.2]
  simp
theorem sl_D : SlR X (rDs X.K slD) := by
  intro pins s σ H x v vl vu lo hi sl Q I rx hs pl pu ⟨M, d, z, hm, h1, hz, hq⟩
  match d, hz, h1 with
  | .list ds, hz, .lst n a1 b1 =>
    cases hz
    exact sl_list pins s σ H _ v vl vu lo hi sl Q I rx hs pl pu ⟨_, _, rfl, SqL.of a1, fun p hp => fresh hq hp (.lst (fun m => hm p m hp) upd_same ((cut_DA b1 lo hi).mono (Ex.of (same_new hp))))⟩
  | .tuple ds, hz, h1 =>
    cases hz
    obtain ⟨a, xs, rfl, a1, b1, _⟩ := h1.isT
    refine sl_tupA pins s σ H _ v vl vu lo hi sl Q I rx hs pl pu ⟨_, _, rfl, a1, fun hw => ?_, fun _ p hp => fresh hq hp (.tup (fun m => hm p m hp) upd_same ((cut_DA b1 lo hi).mono (Ex.of (same_new hp))))⟩
    rw [b1.len] at hw
    rw [cut_all hw] at hq
    exact plain hq h1
  | .str t, hz, .str _ =>
    obtain ⟨hl, rfl⟩ := lim_some hz
    exact sl_str pins s σ H _ v vl vu lo hi sl Q I rx hs pl pu ⟨t, rfl, hl, plain hq (.str _)⟩
/-! ### built-in calls -/
def lenD : List PyData → Option PyData
  | [.str z] => lim z.length (.int z.length)
  | [.list ds] => some (.int ds.length)
  | [.tuple ds] => some (.int ds.length)
  | _ => none
theorem one_DA {K : PySem.W.Frag} {M : Addr → Prop} {H : Hp} {vs : List V} {d : PyData} (h : DtA K M H vs [d]) : ∃ v, vs = [v] ∧ Dt K M H v d := by
  cases h with
  | cons a b => cases b; exact ⟨_, rfl, a⟩
theorem call_lenDD : CallR X (.builtin "len") (rDc X.K lenD) := by
  intro pins s σ H xs us Q I r ⟨M, ds, z, hm, h1, hz, hq⟩
  match ds, hz, h1 with
  | [.str t], hz, h1 =>
    obtain ⟨hl, rfl⟩ := lim_some hz
    obtain ⟨v, rfl, q⟩ := one_DA h1
    cases q
    exact call_len_str pins s σ H _ us Q I r ⟨t, rfl, hl, plain hq (.int _)⟩
  | [.list l], hz, h1 =>
    cases hz
    obtain ⟨v, rfl, q⟩ := one_DA h1
    cases q with
    | lst n a1 b1 => exact call_len_seq pins s σ H _ us Q I r ⟨_, _, rfl, .inl (SqL.of a1), plain hq (by rw [b1.len]; exact .int _)⟩
  | [.tuple l], hz, h1 =>
    cases hz
    obtain ⟨v, rfl, q⟩ := one_DA h1
    obtain ⟨a, xs, rfl, a1, b1, _⟩ := q.isT
    exact call_len_seq pins s σ H _ us Q I r ⟨_, _, rfl, .inr a1, plain hq (by rw [b1.len]; exact .int _)⟩
def reprD : List PyData → Option PyData
  | [d] => if d.showable && decide (d.depth ≤ 64) then lim d.shown.length (.str d.shown) else none
  | _ => none
theorem call_reprD (R : Rm X) : CallR X (.builtin "repr") (rDc X.K reprD) := by
  intro pins s σ H xs us Q I r ⟨M, ds, z, hm, h1, hz, hq⟩
  match ds, hz, h1 with
  | [d], hz, h1 =>
    obtain ⟨v, rfl, q⟩ := one_DA h1
    have hz' : (if d.showable && decide (d.depth ≤ 64) then lim d.shown.length (.str d.shown) else none) = some z := hz
    split at hz'
    · rename_i hf
      obtain ⟨f1, f2⟩ := Bool.and_eq_true_iff.mp hf
      have f2 := of_decide_eq_true f2
      obtain ⟨hl, rfl⟩ := lim_some hz'
      obtain ⟨u, rfl, ru⟩ := vals1 r
      have big : ∀ a, v = .ref a → wpAny (model X.prog X.w) X.A (call (.builtin "repr") [u]) (EP X pins σ Q) X.xe s := fun a e => by
        subst e
        cases ru
        obtain ⟨as, r1, r2⟩ := Dt.reads I (R.sys I) q rfl
        exact repr_of_reads' r1 f1 (fun _ => r2) R.g (by have := R.u; omega) (fun _ _ e => e) (fun h' t tk k => ⟨.str _, H, I.kept k, ⟨_, rfl⟩, plain hq (.str _)⟩) hl
      cases q with
      | non => cases ru; exact PySem.P.repr_of_none ⟨.str _, H, I.tok _, ⟨_, rfl⟩, plain hq (.str _)⟩
      | bl b => cases ru; exact PySem.P.repr_of_bool ⟨.str _, H, I.tok _, ⟨_, rfl⟩, plain hq (by simp only [PyData.shown]; cases b <;> exact .str _)⟩
      | int i => obtain ⟨t, rfl⟩ := ru; exact PySem.P.repr_of_int (by simpa [PyData.showable] using f1) ⟨.str _, H, I.tok _, ⟨_, rfl⟩, plain hq (.str _)⟩
      | str b => obtain ⟨t, rfl⟩ := ru; exact PySem.P.repr_of_str ⟨.str _, H, I.tok _, ⟨_, rfl⟩, plain hq (.str _)⟩ hl
      | lst => exact big _ rfl
      | tup => exact big _ rfl
      | wtp => exact big _ rfl
      | dic => exact big _ rfl
    · cases hz'
def boolD : PyData → Option Bool
  | .bool b => some b
  | _ => none
def boolsD : List PyData → Option (List Bool)
  | [] => some []
  | d :: ds => (boolD d).bind fun b => (boolsD ds).map (b :: ·)
theorem bools_V {K : PySem.W.Frag} {M : Addr → Prop} {H : Hp} : ∀ {vs : List V} {ds : List PyData} {bs : List Bool}, DtA K M H vs ds → boolsD ds = some bs → vs = bs.map V.bl
  | _, _, _, .nil, h => by cases h; rfl
  | _, _, _, .cons a b, h => by
    obtain ⟨c, h1, h2⟩ := Option.bind_eq_some_iff.mp h
    obtain ⟨cs, h3, rfl⟩ := Option.map_eq_some_iff.mp h2
    rw [bools_V b h3]
    cases a <;> first | cases h1
    rfl
def allB : List PyData → Option PyData
  | [.list ds] => (boolsD ds).map fun bs => .bool (bs.all id)
  | _ => none
def anyB : List PyData → Option PyData
  | [.list ds] => (boolsD ds).map fun bs => .bool (bs.any id)
  | _ => none
theorem call_allD (R : Rm X) : CallR X (.builtin "all") (rDc X.K allB) := by
  intro pins s σ H xs us Q I r ⟨M, ds, z, hm, h1, hz, hq⟩
  match ds, hz, h1 with
  | [.list l], hz, h1 =>
    obtain ⟨bs, e1, rfl⟩ := Option.map_eq_some_iff.mp hz
    obtain ⟨v, rfl, q⟩ := one_DA h1
    cases q with
    | lst n a1 b1 =>
      have e2 := bools_V b1 e1
      subst e2
      exact cr_all R.c pins s σ H _ us Q I r ⟨_, bs, rfl, SqL.of a1, plain hq (.bl _)⟩
theorem call_anyD (R : Rm X) : CallR X (.builtin "any") (rDc X.K anyB) := by
  intro pins s σ H xs us Q I r ⟨M, ds, z, hm, h1, hz, hq⟩
  match ds, hz, h1 with
  | [.list l], hz, h1 =>
    obtain ⟨bs, e1, rfl⟩ := Option.map_eq_some_iff.mp hz
    obtain ⟨v, rfl, q⟩ := one_DA h1
    cases q with
    | lst n a1 b1 =>
      have e2 := bools_V b1 e1
      subst e2
      exact cr_any R.c pins s σ H _ us Q I r ⟨_, bs, rfl, SqL.of a1, plain hq (.bl _)⟩
end
end Fw

set_option Elab.async false
set_option linter.all false
set_option maxRecDepth 100000
set_option maxHeartbeats 2000000
namespace Fw
open PySem PySem.Spec PyProof.Rows L2
/-! ### isinstance of data -/
def tyD : PyData → String
  | .none => "NoneType"
  | .bool _ => "bool"
  | .int _ => "int"
  | .str _ => "str"
  | .list _ => "list"
  | .tuple _ => "tuple"
  | .dict _ => "dict"
theorem Dt.ty {K : PySem.W.Frag} {M : Addr → Prop} {H : Hp} {v : V} {d : PyData} (h : Dt K M H v d) : TyX K H v (.type (tyD d)) := by
  cases h with
  | non => exact .base .non
  | bl b => exact .base (.bl b)
  | int b => exact .base (.int b)
  | str b => exact .base (.str b)
  | lst n h1 h2 => exact .base (.lst h1)
  | tup n h1 h2 => exact .base (.tup h1)
  | wtp h1 h2 =>
    rcases h1 with (h1 | ⟨o, h1⟩) | ⟨o, its, n, h1, h3, _⟩
    · cases h1
    · cases h1
    · exact .kTuple h1 h3
  | dic n h1 h2 => exact .base (.dK h1)
def isStr : PyData → Bool
  | .str _ => true
  | _ => false
def isBl : PyData → Bool
  | .bool _ => true
  | _ => false
def isIn' : PyData → Bool
  | .bool _ => true
  | .int _ => true
  | _ => false
def isTu : PyData → Bool
  | .tuple _ => true
  | _ => false
def isLs : PyData → Bool
  | .list _ => true
  | _ => false
def isDi : PyData → Bool
  | .dict _ => true
  | _ => false
theorem kit_str (d : PyData) : kitB (tyD d) "str" = some (isStr d) := by cases d <;> (simp only [tyD, isStr]; decide +kernel)
theorem kit_bool (d : PyData) : kitB (tyD d) "bool" = some (isBl d) := by cases d <;> (simp only [tyD, isBl]; decide +kernel)
theorem kit_int (d : PyData) : kitB (tyD d) "int" = some (isIn' d) := by cases d <;> (simp only [tyD, isIn']; decide +kernel)
theorem kit_tuple (d : PyData) : kitB (tyD d) "tuple" = some (isTu d) := by cases d <;> (simp only [tyD, isTu]; decide +kernel)
theorem kit_list (d : PyData) : kitB (tyD d) "list" = some (isLs d) := by cases d <;> (simp only [tyD, isLs]; decide +kernel)
theorem kit_dict (d : PyData) : kitB (tyD d) "dict" = some (isDi d) := by cases d <;> (simp only [tyD, isDi]; decide +kernel)
section
variable {S : Type} {X : Cx} {W : Wd S} {ρ : Rho} {s : S} {Φ : Vl → S → Prop} {a b c e : Expr} {es : List Expr} {pos p p2 : Pos} {x : Str} {kws : List Keyword} {Ω : List Vl → S → Prop}
theorem de_isi {t : String} {tn : Str} {f : PyData → Bool} (hk : ∀ d, kitB (tyD d) t = some (f d)) (hm1 : X.mg "isinstance" = none) (hm2 : X.mg tn = none) (h : dE X W ρ s a fun x s1 => ∃ d, x = .d d ∧ Φ (.d (.bool (f d))) s1)
    (hv1 : bootBuiltins tn = some (.type t) := by decide +kernel) (hg1 : Gl X "isinstance" := by rfl) (hg2 : Gl X tn := by rfl) (hn : tn ≠ "__name__" := by decide) (hd : (tn == ("__debug__" : Str)) = false := by decide)
    (h1 : starEach [a, .Name tn p2] X.env = (false, eval a X.env) :: starEach [.Name tn p2] X.env := by rfl) (h2 : (backTo pos (starEach [.Name tn p2] X.env)).any (·.1) = false := by rfl) : dE X W ρ s (.Call (.Name "isinstance" p) [a, .Name tn p2] [] pos) Φ := .mk fun σ H Q en j kn =>
  toE (pe_callB call_isi hg1 hm1 (by decide +kernel) (pa_cons pw (pa_cons (pe_bltn (v := .ty t) hg2 hm2 hv1 rfl hn hd) pa_nil) h1) (by decide) (by decide) h1 h2) (h.go σ H _ en j fun v H1 x s1 e1 j1 v1 ⟨d, hx, q⟩ => by
    subst hx
    exact ⟨v, .ty t, .type (tyD d), .type t, f d, rfl, .ty t, v1.ty, kit_ty (hk d), kn (.bl (f d)) H1 (.d (.bool (f d))) s1 e1 j1 (.bl _) q⟩)
/-! ### keyword values -/
def wK (X : Cx) (kws : List Keyword) : TA := fun σ H Q => ∀ (pos : Pos) (pins : List (Addr × Obj)) (s : Shared), Inv X pins σ H s → wpAny (model X.prog X.w) X.A (evalAll ((backToKw pos (keywordEach kws X.env)).map (·.2))) (AP X pins σ Q) X.xe s
theorem kw : PK X kws (wK X kws) := ⟨fun pos pins s _ _ _ I h => h pos pins s I⟩
structure dK (X : Cx) (W : Wd S) (ρ : Rho) (s : S) (kws : List Keyword) (Φ : List Vl → S → Prop) : Prop where
  go : ∀ σ H Q, En X.K W.M H σ ρ → W.At s H → KnA X W H Φ Q → wK X kws σ H Q
theorem dk_nil (h : Ω [] s) : dK X W ρ s [] Ω := .mk fun σ H Q en j kn pos pins sh I => pk_nil.run pos pins sh σ H Q I (kn [] H [] s Ex.rfl' j .nil h)
theorem dk_cons {nm : Option Str} {kp : Pos} (h : dE X W ρ s e fun x s1 => dK X W ρ s1 kws fun xs s2 => Ω (x :: xs) s2) : dK X W ρ s (⟨nm, e, kp⟩ :: kws) Ω := .mk fun σ H Q en j kn pos pins sh I =>
  (pk_cons pw kw).run pos pins sh σ H Q I (h.go σ H _ en j fun v H1 x s1 e1 j1 v1 hr => hr.go σ H1 _ (W.em e1 en) j1 fun vs H2 xs s2 e2 j2 v2 q => kn (v :: vs) H2 (x :: xs) s2 (e1.trans e2) j2 (.cons (W.vm e2 v1) v2) q)
/-! ### pure defs -/
/-- from data to a datum; nothing that stood is changed -/
def spD (K : PySem.W.Frag) (pre : List PyData → Prop) (f : List PyData → PyData) : Sp := fun vs H Q _ => ∃ (M : Addr → Prop) (ds : List PyData), (∀ b, M b → H b ≠ none) ∧ DtA K M H vs ds ∧ pre ds ∧ ∀ v H', Same H H' → Dt K M H' v (f ds) → Q v H'
/-- the world of a pure def -/
def Wp (M : Addr → Prop) : Wd Unit where
  M := M
  C := fun _ => False
  J := fun _ _ _ => True
  sub := fun h => h.elim
  keep := fun h _ => h
  more := fun h _ => h
  less := fun h _ => h
def rho (N : List Str) (ds : List PyData) : Rho := ds.map (fun d => some (.d d)) ++ List.replicate (N.length - ds.length) none
theorem en_start {K : PySem.W.Frag} {M : Addr → Prop} {H : Hp} {N : List Str} {vs : List V} {ds : List PyData} (h : DtA K M H vs ds) : En K M H (L2.start N vs) (rho N ds) := by
  have q := En.start (K := K) (M := M) (H := H) (N := N) (vs := vs) (xs := ds.map .d) (by simp [h.len]) fun i x e => by
    rw [List.getElem?_map] at e
    obtain ⟨d, e1, rfl⟩ := Option.map_eq_some_iff.mp e
    exact h.get e1
  rw [List.map_map, List.length_map] at q
  exact q
theorem same_ex {H H' : Hp} (e : Ex (fun _ => False) H H') : Same H H' := fun b o q => e b o (fun z => z) q
theorem _root_.Fw.Src.pure {P : Program} {w : World} {K : PySem.W.Frag} {mg : Str → Option Value} {base : Heap} {CX : CXT} {k : Nat} {ps : List Str} {st : Stmt} {N : List Str} {pre : List PyData → Prop} {f : List PyData → PyData} (F : Src K mg x st) (S : FnScope N ps (defScope st)) (hl : ∀ ds, pre ds → ds.length = ps.length)
    (hbd : ∀ (kV doc pm : Value) (an : Option Addr) (cd ct : Value) (us : List Value), us.length = ps.length → bindArgs (PySem.W.fnOf x x (defArgs st) (defBody st) (defScope st) .none kV doc pm an cd ct) ⟨us, []⟩ = pure (ps.zip us))
    (hs : base.get? sysModules ≠ none)
    (hb : ∀ (fa : Addr) (cd : Value) (A : Around) (fr : List Env) (s : Shared) (H : Hp) (E : XK) (M : Addr → Prop) (ds : List PyData), Rm (cxOf CX P w K mg base N x (defScope st) fa cd A fr s H E).nox → Room k (cxOf CX P w K mg base N x (defScope st) fa cd A fr s H E).nox.A → pre ds →
      dB (cxOf CX P w K mg base N x (defScope st) fa cd A fr s H E).nox (Wp M) (rho N ds) () (defBody st) { nx := fun _ _ => f ds = .none, rt := fun y _ => y = .d (f ds) }) : Dfn P w K mg base CX (k + 1) x st ps (spD K pre f) := by
  refine F.ok S (fun vs H Q E h => ?_) hbd fun fa cd A fr s vs H Q E g r h => ?_
  · obtain ⟨M, ds, _, h1, h2, _⟩ := h
    rw [h1.len]
    exact hl ds h2
  · obtain ⟨M, ds, hm, h1, h2, hq⟩ := h
    refine ⟨wB _ (defBody st), bw, (hb fa cd A fr s H E M ds (Rm.of g r hs rfl) r h2).go _ H _ (en_start h1) ⟨trivial, hm⟩ ⟨fun σ H2 ρ s' e1 j1 en z => ?_, fun v H2 y s' e1 j1 v1 z => ?_, fun _ _ _ _ _ _ _ z => z, fun _ _ _ _ _ _ _ z => z⟩⟩
    · refine hq .non H2 (same_ex e1) ?_
      rw [show f ds = .none from z]
      exact .non
    · have z' : y = .d (f ds) := z
      subst z'
      exact hq v H2 (same_ex e1) v1
/-- a call of a pure def -/
theorem de_go {CX : CXT} {k : Nat} {st : Stmt} {ps : List Str} {pre : List PyData → Prop} {f : List PyData → PyData} (F : Dfn X.prog X.w X.K X.mg X.base CX k x st ps (spD X.K pre f)) (R : Rm X) (r : Room k X.A) (hx : Passes CX X E0)
    (h : dA X W ρ s (e :: es) fun xs s1 => AllD xs fun ds => pre ds ∧ Φ (.d (f ds)) s1) (hg : Gl X x := by rfl)
    (h1 : (x == ("__debug__" : Str)) = false := by decide) (h2 : starEach (e :: es) X.env = (false, eval e X.env) :: starEach es X.env := by rfl) (h3 : (backTo pos (starEach es X.env)).any (·.1) = false := by rfl) : dE X W ρ s (.Call (.Name x p) (e :: es) [] pos) Φ := .mk fun σ H Q en j kn =>
  toE (pe_go F R.g r hx aw hg h1 h2 h3) (h.go σ H _ en j fun vs H1 xs s1 e1 j1 v1 ⟨ds, hd, hp, q⟩ =>
    ⟨W.M, ds, j1.2, allD_ok hd v1, hp, fun v H2 sm dt => kn v H2 (.d (f ds)) s1 (e1.trans (Ex.of sm)) (j1.same sm) dt q⟩)
theorem de_go0 {CX : CXT} {k : Nat} {st : Stmt} {ps : List Str} {pre : List PyData → Prop} {f : List PyData → PyData} (F : Dfn X.prog X.w X.K X.mg X.base CX k x st ps (spD X.K pre f)) (R : Rm X) (r : Room k X.A) (hx : Passes CX X E0)
    (h : pre [] ∧ Φ (.d (f [])) s) (hg : Gl X x := by rfl) (h1 : (x == ("__debug__" : Str)) = false := by decide) : dE X W ρ s (.Call (.Name x p) [] [] pos) Φ := .mk fun σ H Q en j kn =>
  toE (pe_go0 F R.g r hx hg h1) ⟨W.M, [], j.2, .nil, h.1, fun v H2 sm dt => kn v H2 (.d (f [])) s (Ex.of sm) (j.same sm) dt h.2⟩
theorem DtA.perm {K : PySem.W.Frag} {M : Addr → Prop} {H : Hp} {vs : List V} {ds : List PyData} (h : DtA K M H vs ds) (js : List Nat) (hj : ∀ i ∈ js, i < ds.length) : DtA K M H (js.map fun i => vs.getD i .non) (js.map fun i => ds.getD i .none) := by
  induction js with
  | nil => exact .nil
  | cons i js ih =>
    have hi := hj i List.mem_cons_self
    obtain ⟨v, q1, q2⟩ := h.get (List.getElem?_eq_getElem hi)
    refine .cons ?_ (ih fun k hk => hj k (List.mem_cons_of_mem _ hk))
    simp only [List.getD_eq_getElem?_getD, q1, List.getElem?_eq_getElem hi, Option.getD_some]
    exact q2
/-- keywords alone, in the order js -/
theorem de_goK {CX : CXT} {k : Nat} {st : Stmt} {ps ks : List Str} {pre : List PyData → Prop} {f : List PyData → PyData} (js : List Nat) (F : Dfn X.prog X.w X.K X.mg X.base CX k x st ps (spD X.K pre f)) (R : Rm X) (r : Room k X.A) (hx : Passes CX X E0)
    (hbk : ∀ (kV doc pm : Value) (an : Option Addr) (cd ct : Value) (us : List Value), us.length = ks.length → bindArgs (PySem.W.fnOf x x (defArgs st) (defBody st) (defScope st) .none kV doc pm an cd ct) ⟨[], ks.zip us⟩ = pure (ps.zip (js.map fun i => us.getD i .none)))
    (hjs : ∀ i ∈ js, i < ks.length) (h : dK X W ρ s kws fun xs s1 => AllD xs fun ds => ds.length = ks.length ∧ pre (js.map fun i => ds.getD i .none) ∧ Φ (.d (f (js.map fun i => ds.getD i .none))) s1) (hg : Gl X x := by rfl)
    (hall : (backToKw pos (keywordEach kws X.env)).all (·.1.isSome) = true := by rfl) (hks : (backToKw pos (keywordEach kws X.env)).filterMap (·.1) = ks := by rfl)
    (h1 : (x == ("__debug__" : Str)) = false := by decide) (h3 : ((backTo pos (starEach [] X.env)).any (·.1) || (backToKw pos (keywordEach kws X.env)).any (·.1.isNone)) = false := by rfl) :
    dE X W ρ s (.Call (.Name x p) [] kws pos) Φ := .mk fun σ H Q en j kn =>
  toE (pe_goK (gs := fun us => js.map fun i => us.getD i .none) (gV := fun vs => js.map fun i => vs.getD i .non) F R.g r hx kw hbk (fun vs us rv hl => by
      clear h hbk
      induction js with
      | nil => exact .nil
      | cons i js ih =>
        have hi : i < vs.length := by rw [hl]; exact hjs i List.mem_cons_self
        obtain ⟨u, q1, q2⟩ := rv.get (List.getElem?_eq_getElem hi)
        refine .cons ?_ (ih fun k hk => hjs k (List.mem_cons_of_mem _ hk))
        simp only [List.getD_eq_getElem?_getD, q1, List.getElem?_eq_getElem hi, Option.getD_some]
        exact q2) hg hall hks h1 h3) (h.go σ H _ en j fun vs H1 xs s1 e1 j1 v1 ⟨ds, hd, hl, hp, q⟩ => by
    have da := allD_ok hd v1
    exact ⟨da.len.trans hl, W.M, _, j1.2, da.perm js fun i hi => by rw [hl]; exact hjs i hi, hp, fun v H2 sm dt => kn v H2 (.d (f _)) s1 (e1.trans (Ex.of sm)) (j1.same sm) dt q⟩)
end
end Fw

set_option Elab.async false
set_option linter.all false
set_option maxRecDepth 100000
set_option maxHeartbeats 2000000
namespace Fw
open PySem PyProof.Rows
mutual
/-- a bound of the length of what repr shows -/
def cost : PyData → Nat
  | .none => 4
  | .bool _ => 5
  | .int i => i.natAbs.log2 + 2
  | .str z => 10 * z.length + 2
  | .list ds => costA ds + 3
  | .tuple ds => costA ds + 3
  | .dict kvs => costK kvs + 3
def costA : List PyData → Nat
  | [] => 0
  | d :: ds => cost d + 2 + costA ds
def costK : List (PyData × PyData) → Nat
  | [] => 0
  | (k, v) :: r => cost k + cost v + 4 + costK r
end
mutual
/-- ints of some size, texts of signs -/
def nice : PyData → Bool
  | .none => true
  | .bool _ => true
  | .int i => decide (i.natAbs < 2 ^ 1000)
  | .str z => z.cps.all (· < 128)
  | .list ds => niceA ds
  | .tuple ds => niceA ds
  | .dict kvs => niceK kvs
def niceA : List PyData → Bool
  | [] => true
  | d :: ds => nice d && niceA ds
def niceK : List (PyData × PyData) → Bool
  | [] => true
  | (k, v) :: r => nice k && nice v && niceK r
end
theorem strlen (a b : Str) : (a ++ b).length = a.length + b.length := strLen_append a b
theorem listText_le (ts : List Str) : (listText ts).length ≤ piled ts + 2 := by
  have e1 : (("]" : String) : Str).length = 1 := rfl
  have e2 : (("[" : String) : Str).length = 1 := rfl
  unfold listText
  rw [strlen, e1]
  cases ts with
  | nil => show (("[" : String) : Str).length + 1 ≤ _; rw [e2]; omega
  | cons t r =>
    have q := textFrom_length_pos r 1 ((("[" : String) : Str) ++ (("" : String) : Str) ++ t) (by decide)
    have q' : (textFrom 0 (("[" : String) : Str) (t :: r)).length = ((("[" : String) : Str) ++ (("" : String) : Str) ++ t).length + piled r := q
    rw [q', strlen, strlen, piled_cons, e2]
    show 1 + 0 + _ + _ + 1 ≤ _
    omega
theorem join_le (ts : List Str) : (Str.join (", " : String) ts).length ≤ piled ts := by
  by_cases h : ts = []
  · subst h; decide +kernel
  · have := join_length_add ts h
    omega
theorem tupleText_le (ts : List Str) : (tupleText ts).length ≤ piled ts + 3 := by
  have e3 : (((if ts.length == 1 then ",)" else ")" : String) : Str)).length ≤ 2 := by split <;> decide +kernel
  have e2 : (("(" : String) : Str).length = 1 := rfl
  have := join_le ts
  unfold tupleText
  rw [strlen, strlen, e2]
  omega
theorem dictText_le (ts : List Str) : (dictText ts).length ≤ piled ts + 3 := by
  have e3 : (("}" : String) : Str).length = 1 := rfl
  have e2 : (("{" : String) : Str).length = 1 := rfl
  have := join_le ts
  unfold dictText
  rw [strlen, strlen, e2, e3]
  omega
theorem log_of {i : Int} (h : i.natAbs < 2 ^ 1000) : i.natAbs.log2 < 1920 := by
  by_cases z : i.natAbs = 0
  · rw [z]; decide
  · have q := (Nat.log2_lt z).mpr h
    omega
mutual
theorem shown_le : ∀ d : PyData, nice d = true → d.shown.length ≤ cost d ∧ d.showable = true
  | .none, _ => by refine ⟨?_, by simp [PyData.showable]⟩; simp only [PyData.shown, cost]; decide +kernel
  | .bool b, _ => by refine ⟨?_, by simp [PyData.showable]⟩; simp only [PyData.shown, cost]; cases b <;> decide +kernel
  | .int i, h => by
    have q := log_of (of_decide_eq_true (by simpa only [nice] using h))
    refine ⟨?_, by simpa [PyData.showable] using q⟩
    simp only [PyData.shown, cost]
    rw [PySem.ofString_length]
    exact PySem.int_text_length_le (k := i.natAbs.log2 + 1) (Nat.succ_pos _) (Nat.lt_succ_self _)
  | .str z, h => by
    refine ⟨?_, by simp [PyData.showable]⟩
    simp only [PyData.shown, cost]
    refine StrLaws.reprText_len z fun c hc => ?_
    have q : z.cps.all (· < 128) = true := by simpa only [nice] using h
    rw [Array.all_eq_true'] at q
    have := of_decide_eq_true (q c (by simpa using hc))
    exact Nat.lt_of_lt_of_le this (by decide)
  | .list ds, h => by
    obtain ⟨q1, q2⟩ := shownA_le ds (by simpa only [nice] using h)
    refine ⟨?_, by simpa [PyData.showable] using q2⟩
    simp only [PyData.shown, cost]
    have := listText_le (PyData.shownAll ds)
    omega
  | .tuple ds, h => by
    obtain ⟨q1, q2⟩ := shownA_le ds (by simpa only [nice] using h)
    refine ⟨?_, by simpa [PyData.showable] using q2⟩
    simp only [PyData.shown, cost]
    have := tupleText_le (PyData.shownAll ds)
    omega
  | .dict kvs, h => by
    obtain ⟨q1, q2⟩ := shownK_le kvs (by simpa only [nice] using h)
    refine ⟨?_, by simpa [PyData.showable] using q2⟩
    simp only [PyData.shown, cost]
    have := dictText_le (PyData.shownKv kvs)
    omega
theorem shownA_le : ∀ ds : List PyData, niceA ds = true → piled (PyData.shownAll ds) ≤ costA ds ∧ PyData.showableAll ds = true
  | [], _ => ⟨by simp [PyData.shownAll, piled, costA], by simp [PyData.showableAll]⟩
  | d :: ds, h => by
    obtain ⟨h1, h2⟩ := Bool.and_eq_true_iff.mp (show (nice d && niceA ds) = true by simpa only [niceA] using h)
    obtain ⟨q1, q2⟩ := shown_le d h1
    obtain ⟨q3, q4⟩ := shownA_le ds h2
    refine ⟨?_, by simp [PyData.showableAll, q2, q4]⟩
    simp only [PyData.shownAll, piled_cons, costA]
    omega
theorem shownK_le : ∀ ds : List (PyData × PyData), niceK ds = true → piled (PyData.shownKv ds) ≤ costK ds ∧ PyData.showableKv ds = true
  | [], _ => ⟨by simp [PyData.shownKv, piled, costK], by simp [PyData.showableKv]⟩
  | (k, v) :: ds, h => by
    obtain ⟨h1, h2⟩ := Bool.and_eq_true_iff.mp (show (nice k && nice v && niceK ds) = true by simpa only [niceK] using h)
    obtain ⟨h0, h1⟩ := Bool.and_eq_true_iff.mp h1
    obtain ⟨q1, q2⟩ := shown_le k h0
    obtain ⟨q5, q6⟩ := shown_le v h1
    obtain ⟨q3, q4⟩ := shownK_le ds h2
    refine ⟨?_, by simp [PyData.showableKv, q2, q4, q6]⟩
    simp only [PyData.shownKv, piled_cons, costK]
    have e2 : ((": " : String) : Str).length = 2 := rfl
    rw [strlen, strlen, e2]
    omega
end
/-- a datum of a size that the rules take -/
structure Nc (n : Nat) (d : PyData) : Prop where
  ok : nice d = true
  sz : cost d ≤ n
  dp : d.depth ≤ 40
theorem Nc.up {n m : Nat} {d : PyData} (h : Nc n d) (hm : n ≤ m) : Nc m d := ⟨h.ok, Nat.le_trans h.sz hm, h.dp⟩
theorem repr_ok {n : Nat} {d : PyData} (h : Nc n d) (hn : n ≤ 1000000 := by decide) : reprD [d] = some (.str d.shown) := by
  obtain ⟨q1, q2⟩ := shown_le d h.ok
  have h1 := h.sz
  have h2 := h.dp
  show (if (d.showable && decide (d.depth ≤ 64)) = true then lim d.shown.length (PyData.str d.shown) else none) = _
  rw [if_pos (by simp [q2]; omega)]
  exact lim_ok (by omega)
end Fw

set_option Elab.async false
set_option linter.all false
set_option maxRecDepth 100000
set_option maxHeartbeats 2000000
namespace Fw
open PySem PySem.Spec PyProof.Rows L2
section
variable {S : Type} {X : Cx} {W : Wd S} {ρ : Rho} {s : S} {Φ : Vl → S → Prop} {a b c e : Expr} {es : List Expr} {pos p p2 : Pos} {x : Str}
theorem de_isiS (m1 : X.mg "isinstance" = none) (m2 : X.mg "str" = none) (h : dE X W ρ s a fun x s1 => ∃ d, x = .d d ∧ Φ (.d (.bool (isStr d))) s1) (g1 : Gl X "isinstance" := by rfl) (g2 : Gl X "str" := by rfl)
    (h1 : starEach [a, .Name "str" p2] X.env = (false, eval a X.env) :: starEach [.Name "str" p2] X.env := by rfl) : dE X W ρ s (.Call (.Name "isinstance" p) [a, .Name "str" p2] [] pos) Φ := de_isi kit_str m1 m2 h (by decide +kernel) g1 g2 (by decide) (by decide) h1 rfl
theorem de_isiI (m1 : X.mg "isinstance" = none) (m2 : X.mg "int" = none) (h : dE X W ρ s a fun x s1 => ∃ d, x = .d d ∧ Φ (.d (.bool (isIn' d))) s1) (g1 : Gl X "isinstance" := by rfl) (g2 : Gl X "int" := by rfl)
    (h1 : starEach [a, .Name "int" p2] X.env = (false, eval a X.env) :: starEach [.Name "int" p2] X.env := by rfl) : dE X W ρ s (.Call (.Name "isinstance" p) [a, .Name "int" p2] [] pos) Φ := de_isi kit_int m1 m2 h (by decide +kernel) g1 g2 (by decide) (by decide) h1 rfl
theorem de_isiB (m1 : X.mg "isinstance" = none) (m2 : X.mg "bool" = none) (h : dE X W ρ s a fun x s1 => ∃ d, x = .d d ∧ Φ (.d (.bool (isBl d))) s1) (g1 : Gl X "isinstance" := by rfl) (g2 : Gl X "bool" := by rfl)
    (h1 : starEach [a, .Name "bool" p2] X.env = (false, eval a X.env) :: starEach [.Name "bool" p2] X.env := by rfl) : dE X W ρ s (.Call (.Name "isinstance" p) [a, .Name "bool" p2] [] pos) Φ := de_isi kit_bool m1 m2 h (by decide +kernel) g1 g2 (by decide) (by decide) h1 rfl
theorem de_isiT (m1 : X.mg "isinstance" = none) (m2 : X.mg "tuple" = none) (h : dE X W ρ s a fun x s1 => ∃ d, x = .d d ∧ Φ (.d (.bool (isTu d))) s1) (g1 : Gl X "isinstance" := by rfl) (g2 : Gl X "tuple" := by rfl)
    (h1 : starEach [a, .Name "tuple" p2] X.env = (false, eval a X.env) :: starEach [.Name "tuple" p2] X.env := by rfl) : dE X W ρ s (.Call (.Name "isinstance" p) [a, .Name "tuple" p2] [] pos) Φ := de_isi kit_tuple m1 m2 h (by decide +kernel) g1 g2 (by decide) (by decide) h1 rfl
theorem de_isiL (m1 : X.mg "isinstance" = none) (m2 : X.mg "list" = none) (h : dE X W ρ s a fun x s1 => ∃ d, x = .d d ∧ Φ (.d (.bool (isLs d))) s1) (g1 : Gl X "isinstance" := by rfl) (g2 : Gl X "list" := by rfl)
    (h1 : starEach [a, .Name "list" p2] X.env = (false, eval a X.env) :: starEach [.Name "list" p2] X.env := by rfl) : dE X W ρ s (.Call (.Name "isinstance" p) [a, .Name "list" p2] [] pos) Φ := de_isi kit_list m1 m2 h (by decide +kernel) g1 g2 (by decide) (by decide) h1 rfl
theorem de_len (m : X.mg "len" = none) (h : dE X W ρ s e fun x s1 => ∃ d z, x = .d d ∧ lenD [d] = some z ∧ Φ (.d z) s1) (g : Gl X "len" := by rfl) (he : starEach [e] X.env = (false, eval e X.env) :: starEach [] X.env := by rfl) :
    dE X W ρ s (.Call (.Name "len" p) [e] [] pos) Φ := de_callB call_lenDD m (da_cons (de_imp h fun y s1 ⟨d, z, hx, hz, q⟩ => da_nil ⟨[d], by subst hx; rfl, z, hz, q⟩) he) (by decide +kernel) g (by decide) (by decide) he rfl
theorem de_repr (R : Rm X) (m : X.mg "repr" = none) (h : dE X W ρ s e fun x s1 => ∃ d z, x = .d d ∧ reprD [d] = some z ∧ Φ (.d z) s1) (g : Gl X "repr" := by rfl) (he : starEach [e] X.env = (false, eval e X.env) :: starEach [] X.env := by rfl) :
    dE X W ρ s (.Call (.Name "repr" p) [e] [] pos) Φ := de_callB (call_reprD R) m (da_cons (de_imp h fun y s1 ⟨d, z, hx, hz, q⟩ => da_nil ⟨[d], by subst hx; rfl, z, hz, q⟩) he) (by decide +kernel) g (by decide) (by decide) he rfl
theorem de_all (R : Rm X) (m : X.mg "all" = none) (h : dE X W ρ s e fun x s1 => ∃ d z, x = .d d ∧ allB [d] = some z ∧ Φ (.d z) s1) (g : Gl X "all" := by rfl) (he : starEach [e] X.env = (false, eval e X.env) :: starEach [] X.env := by rfl) :
    dE X W ρ s (.Call (.Name "all" p) [e] [] pos) Φ := de_callB (call_allD R) m (da_cons (de_imp h fun y s1 ⟨d, z, hx, hz, q⟩ => da_nil ⟨[d], by subst hx; rfl, z, hz, q⟩) he) (by decide +kernel) g (by decide) (by decide) he rfl
theorem de_any (R : Rm X) (m : X.mg "any" = none) (h : dE X W ρ s e fun x s1 => ∃ d z, x = .d d ∧ anyB [d] = some z ∧ Φ (.d z) s1) (g : Gl X "any" := by rfl) (he : starEach [e] X.env = (false, eval e X.env) :: starEach [] X.env := by rfl) :
    dE X W ρ s (.Call (.Name "any" p) [e] [] pos) Φ := de_callB (call_anyD R) m (da_cons (de_imp h fun y s1 ⟨d, z, hx, hz, q⟩ => da_nil ⟨[d], by subst hx; rfl, z, hz, q⟩) he) (by decide +kernel) g (by decide) (by decide) he rfl
theorem eqD_str (a : PyData) (x : Str) : eqD a (.str x) = some (.bool (PyData.eqv a (.str x))) := by cases a <;> rfl
theorem Rm.blk {X : Cx} (R : Rm X) {scope : Scope} {b : Bk} : Rm (bx X scope b) := ⟨R.g, R.u, R.b, R.c⟩
theorem boolsD_map (g : PyData → Bool) : ∀ ds : List PyData, boolsD (ds.map fun d => .bool (g d)) = some (ds.map g)
  | [] => rfl
  | d :: ds => by
    show (some (g d)).bind (fun b => (boolsD (ds.map fun d => .bool (g d))).map (b :: ·)) = _
    rw [boolsD_map g ds]
    rfl
theorem allB_map (g : PyData → Bool) (ds : List PyData) : allB [.list (ds.map fun d => .bool (g d))] = some (.bool (ds.all g)) := by
  show (boolsD (ds.map fun d => .bool (g d))).map _ = _
  rw [boolsD_map]
  simp [List.all_map]
theorem anyB_map (g : PyData → Bool) (ds : List PyData) : anyB [.list (ds.map fun d => .bool (g d))] = some (.bool (ds.any g)) := by
  show (boolsD (ds.map fun d => .bool (g d))).map _ = _
  rw [boolsD_map]
  simp [List.any_map]
/-- the marks of a comparison -/
theorem mkC (op : CmpOp) (b : Expr) (h1 : op ≠ .In := by decide) (h2 : op ≠ .NotIn := by decide) : behindInMarks op b = false := nobehind b h1 h2
variable {scope : Scope} {i : Nat} {tg elt : Expr}
/-- [elt for ..]: each element g of its item, the state as it was -/
theorem Lc.map (g : PyData → PyData) (h : dI X W ρ s tg e fun ds s1 => ds.length < sizeLine ∧ (∀ D d, d ∈ ds → ∀ b : Bk, dE (bx X scope b) (W.plus D) ((wipR ρ [i]).set i (some (.d d))) s1 elt fun x s4 => x = .d (g d) ∧ s4 = s1) ∧ Φ (.d (.list (ds.map g))) s1) :
    Lc X W ρ s scope i tg e elt [] Φ := .mk fun σ H R en j kn => h.go σ H R en j fun J H1 ds s1 e1 j1 it ⟨hl, he, q⟩ => kn J H1 ds s1 e1 j1 it ⟨hl, fun k acc s2 => acc = (ds.take k).map g ∧ s2 = s1, ⟨by simp, rfl⟩, fun D k d acc s2 hd hi b => by
    obtain ⟨rfl, rfl⟩ := hi
    refine ⟨fun _ b => de_imp (he D d (List.mem_of_getElem? hd) b) fun x s4 ⟨hx, hs⟩ => ⟨g d, hx, ?_, hs⟩, fun z => Bool.noConfusion z⟩
    rw [List.take_add_one, hd]
    simp, fun acc s2 ⟨h1, h2⟩ => by subst h1 h2; simpa using q⟩
/-- [elt for .. if c] -/
theorem Lc.filt (f : PyData → Bool) (g : PyData → PyData) (h : dI X W ρ s tg e fun ds s1 => ds.length < sizeLine ∧ (∀ D d, d ∈ ds → ∀ b : Bk, dT (bx X scope b) (W.plus D) ((wipR ρ [i]).set i (some (.d d))) s1 c fun t s4 => t = f d ∧ s4 = s1) ∧
      (∀ D d, d ∈ ds → f d = true → ∀ b : Bk, dE (bx X scope b) (W.plus D) ((wipR ρ [i]).set i (some (.d d))) s1 elt fun x s4 => x = .d (g d) ∧ s4 = s1) ∧ Φ (.d (.list ((ds.filter f).map g))) s1) :
    Lc X W ρ s scope i tg e elt [c] Φ := .mk fun σ H R en j kn => h.go σ H R en j fun J H1 ds s1 e1 j1 it ⟨hl, hc, he, q⟩ => kn J H1 ds s1 e1 j1 it ⟨hl, fun k acc s2 => acc = ((ds.take k).filter f).map g ∧ s2 = s1, ⟨by simp, rfl⟩, fun D k d acc s2 hd hi b => by
    obtain ⟨rfl, rfl⟩ := hi
    refine dT.mk fun σ' H' Q' en' j' kn' => (hc D d (List.mem_of_getElem? hd) b).go σ' H' Q' en' j' fun t H2 s3 e2 j2 ⟨ht, hs⟩ => kn' t H2 s3 e2 j2 ?_
    subst hs
    refine ⟨fun z b => ?_, fun z => ⟨?_, rfl⟩⟩
    · have z' : f d = true := ht.symm.trans z
      refine de_imp (he D d (List.mem_of_getElem? hd) z' b) fun x s4 ⟨hx, hs⟩ => ⟨g d, hx, ?_, hs⟩
      rw [List.take_add_one, hd]
      simp [z']
    · have z' : f d = false := ht.symm.trans z
      rw [List.take_add_one, hd]
      simp [z'], fun acc s2 ⟨h1, h2⟩ => by subst h1 h2; simpa using q⟩
end
end Fw

set_option Elab.async false
set_option linter.all false
set_option maxRecDepth 100000
set_option maxHeartbeats 2000000
namespace Fw
open PySem PySem.Spec PyProof.Rows L2
section
variable {X : Cx}
/-! ### more arithmetic -/
/-- z, if c -/
def onlyB (c : Bool) (z : PyData) : Option PyData := if c then some z else none
theorem onlyB_some {c : Bool} {z w : PyData} (h : onlyB c z = some w) : c = true ∧ z = w := by
  unfold onlyB at h
  split at h
  · exact ⟨by assumption, Option.some.inj h⟩
  · cases h
theorem onlyB_ok {c : Bool} {z : PyData} (h : c = true) : onlyB c z = some z := if_pos h
def modD : PyData → PyData → Option PyData
  | .int i, .int j => onlyB (decide (0 < j)) (.int (i % j))
  | _, _ => none
theorem op_modD : OpR X (binaryOp .Mod) (rD X.K modD) := by
  intro pins s σ H x y v u Q I rx ry ⟨M, d, e, z, hm, h1, h2, hz, hq⟩
  match d, e, hz, h1, h2 with
  | .int i, .int j, hz, .int _, .int _ =>
    obtain ⟨hc, rfl⟩ := onlyB_some hz
    exact op_mod pins s σ H _ _ v u Q I rx ry ⟨i, j, rfl, rfl, of_decide_eq_true hc, plain hq (.int _)⟩
def divD : PyData → PyData → Option PyData
  | .int i, .int j => onlyB (decide (0 < j) && decide (j < 1073741824)) (.int (i / j))
  | _, _ => none
theorem op_divD : OpR X (binaryOp .FloorDiv) (rD X.K divD) := by
  intro pins s σ H x y v u Q I rx ry ⟨M, d, e, z, hm, h1, h2, hz, hq⟩
  match d, e, hz, h1, h2 with
  | .int i, .int j, hz, .int _, .int _ =>
    obtain ⟨hc, rfl⟩ := onlyB_some hz
    obtain ⟨c1, c2⟩ := Bool.and_eq_true_iff.mp hc
    exact op_fdiv pins s σ H _ _ v u Q I rx ry ⟨i, j, rfl, rfl, ⟨of_decide_eq_true c1, of_decide_eq_true c2⟩, plain hq (.int _)⟩
def powD : PyData → PyData → Option PyData
  | .int i, .int j => onlyB (decide (0 ≤ j) && (decide (j ≤ 1000000) && decide (i.natAbs < 18446744073709551616))) (.int (i ^ j.toNat))
  | _, _ => none
theorem op_powD : OpR X (binaryOp .Pow) (rD X.K powD) := by
  intro pins s σ H x y v u Q I rx ry ⟨M, d, e, z, hm, h1, h2, hz, hq⟩
  match d, e, hz, h1, h2 with
  | .int i, .int j, hz, .int _, .int _ =>
    obtain ⟨hc, rfl⟩ := onlyB_some hz
    obtain ⟨c1, c2⟩ := Bool.and_eq_true_iff.mp hc
    obtain ⟨c2, c3⟩ := Bool.and_eq_true_iff.mp c2
    exact op_pow pins s σ H _ _ v u Q I rx ry ⟨i, j, rfl, rfl, ⟨of_decide_eq_true c1, of_decide_eq_true c2, of_decide_eq_true c3⟩, plain hq (.int _)⟩
/-- a text n times -/
def strRep (x : Str) (n : Int) : Str := if x.length = 0 then x else ⟨(List.replicate n.toNat x.cps).foldl (· ++ ·) #[]⟩
def mulOk (i j : Int) : Bool := decide (i.natAbs < 18446744073709551616) || decide (j.natAbs < 18446744073709551616)
def mulD : PyData → PyData → Option PyData
  | .int i, .int j => onlyB (mulOk i j) (.int (i * j))
  | .str x, .int n => onlyB (decide (2 ≤ n) && (decide (n ≤ 100) && decide (x.length ≤ 10000))) (.str (strRep x n))
  | .list xs, .int n => onlyB (decide (0 ≤ n) && (decide (n ≤ 100) && decide (xs.length ≤ 10000))) (.list (List.replicate n.toNat xs).flatten)
  | .tuple xs, .int n => onlyB (decide (2 ≤ n) && (decide (n ≤ 100) && (decide (xs.length ≤ 1000) && decide (0 < xs.length)))) (.tuple (List.replicate n.toNat xs).flatten)
  | _, _ => none
theorem op_mulD : OpR X (binaryOp .Mult) (rD X.K mulD) := by
  intro pins s σ H x y v u Q I rx ry ⟨M, d, e, z, hm, h1, h2, hz, hq⟩
  match d, e, hz, h1, h2 with
  | .int i, .int j, hz, .int _, .int _ =>
    obtain ⟨hc, rfl⟩ := onlyB_some hz
    refine op_mul pins s σ H _ _ v u Q I rx ry ⟨i, j, rfl, rfl, ?_, plain hq (.int _)⟩
    rcases Bool.or_eq_true_iff.mp hc with c | c
    · have c := of_decide_eq_true c
      exact .inl ⟨by omega, by omega⟩
    · have c := of_decide_eq_true c
      exact .inr ⟨by omega, by omega⟩
  | .str x, .int n, hz, .str _, .int _ =>
    obtain ⟨hc, rfl⟩ := onlyB_some hz
    obtain ⟨c1, c2⟩ := Bool.and_eq_true_iff.mp hc
    obtain ⟨c2, c3⟩ := Bool.and_eq_true_iff.mp c2
    have c1 := of_decide_eq_true c1
    have c2 := of_decide_eq_true c2
    have c3 := of_decide_eq_true c3
    obtain ⟨t, rfl⟩ := rx
    obtain ⟨t', rfl⟩ := ry
    have hn1 : ¬ n < 1 := by omega
    have hp : x.length * n.toNat ≤ 1000000 := Nat.le_trans (Nat.mul_le_mul c3 (show n.toNat ≤ 100 by omega)) (by decide)
    refine PySem.P.mul_str (by rw [decide_eq_false (by omega), decide_eq_false (by omega)]; rfl) (fun _ _ q => ?_) (fun _ _ => ?_) ?_
    · have q1 : (2 ^ 63 - 1) / n ≥ (2 ^ 63 - 1) / 100 := by
        refine Int.le_ediv_of_mul_le (by omega) ?_
        have : (2 ^ 63 - 1) / 100 * n ≤ (2 ^ 63 - 1) / 100 * 100 := Int.mul_le_mul_of_nonneg_left c2 (by decide)
        have e : ((2 : Int) ^ 63 - 1) / 100 * 100 ≤ 2 ^ 63 - 1 := by decide
        omega
      have e : ((2 : Int) ^ 63 - 1) / 100 ≥ 10000 := by decide
      omega
    · unfold PySem.Builtin.Str.tooLong
      exact decide_eq_false (by have := sizeLine_eq; omega)
    · rw [if_neg hn1]
      have q := hq
      unfold strRep at q
      by_cases hx : x.length = 0
      · rw [if_pos hx] at q
        rw [if_pos (by simp [hx])]
        exact ⟨.str x, H, I, ⟨_, rfl⟩, plain q (.str _)⟩
      · rw [if_neg hx] at q
        rw [if_neg (by simp [hx]; omega)]
        refine ⟨?_, .str _, H, I.tok _, ⟨_, rfl⟩, plain q (.str _)⟩
        show (Str.length _) ≤ _
        have e : ∀ (k : Nat) (a : Array Nat), ((List.replicate k x.cps).foldl (· ++ ·) a).size = a.size + k * x.cps.size := by
          intro k
          induction k with
          | zero => intro a; simp
          | succ k ih =>
            intro a
            rw [List.replicate_succ, List.foldl_cons, ih, Array.size_append, Nat.succ_mul]
            omega
        have e2 := e n.toNat #[]
        have e3 : Str.length ⟨(List.replicate n.toNat x.cps).foldl (· ++ ·) #[]⟩ = n.toNat * x.cps.size := by
          show Array.size _ = _
          rw [e2]
          simp
        rw [e3]
        have e4 : n.toNat * x.cps.size = x.length * n.toNat := Nat.mul_comm _ _
        rw [e4]
        have := sizeLine_eq
        omega
  | .list xs, .int n, hz, .lst n1 a1 b1, .int _ =>
    obtain ⟨hc, rfl⟩ := onlyB_some hz
    obtain ⟨c1, c2⟩ := Bool.and_eq_true_iff.mp hc
    obtain ⟨c2, c3⟩ := Bool.and_eq_true_iff.mp c2
    have c1 := of_decide_eq_true c1
    have c2 := of_decide_eq_true c2
    have c3 := of_decide_eq_true c3
    refine op_rep pins s σ H _ _ v u Q I rx ry ⟨_, n, _, rfl, rfl, a1, by omega, by omega, ?_, fun p hp => fresh hq hp (.lst (fun m => hm p m hp) upd_same ((b1.rep _).mono (Ex.of (same_new hp))))⟩
    rw [b1.len]
    have hp : xs.length * n.toNat ≤ 1000000 := Nat.le_trans (Nat.mul_le_mul c3 (show n.toNat ≤ 100 by omega)) (by decide)
    have := sizeLine_eq
    omega
  | .tuple xs, .int n, hz, h1, .int _ =>
    obtain ⟨hc, rfl⟩ := onlyB_some hz
    obtain ⟨c1, c2⟩ := Bool.and_eq_true_iff.mp hc
    obtain ⟨c2, c3⟩ := Bool.and_eq_true_iff.mp c2
    obtain ⟨c3, c4⟩ := Bool.and_eq_true_iff.mp c3
    have c1 := of_decide_eq_true c1
    have c2 := of_decide_eq_true c2
    have c3 := of_decide_eq_true c3
    have c4 := of_decide_eq_true c4
    obtain ⟨a, ys, rfl, a1, b1, _⟩ := h1.isT
    refine op_repT pins s σ H _ _ v u Q I rx ry ⟨a, n, ys, rfl, rfl, a1, fun e => ?_, c1, by omega, by rw [b1.len]; exact c3, fun p hp => fresh hq hp (.tup (fun m => hm p m hp) upd_same ((b1.rep _).mono (Ex.of (same_new hp))))⟩
    have := b1.len
    rw [e] at this
    simp at this
    omega
/-! ### str, list, tuple -/
def strC : List PyData → Option PyData
  | [.int i] => onlyB (decide (i.natAbs.log2 < 1920)) (.str (toString i))
  | [.bool b] => some (.str (if b then "True" else "False"))
  | _ => none
theorem call_strC : CallR X (.type "str") (rDc X.K strC) := by
  intro pins s σ H xs us Q I r ⟨M, ds, z, hm, h1, hz, hq⟩
  match ds, hz, h1 with
  | [.int i], hz, h1 =>
    obtain ⟨hl, rfl⟩ := onlyB_some hz
    obtain ⟨v, rfl, q⟩ := one_DA h1
    cases q
    exact call_str_int pins s σ H _ us Q I r ⟨i, rfl, of_decide_eq_true hl, plain hq (.str _)⟩
  | [.bool b], hz, h1 =>
    cases hz
    obtain ⟨v, rfl, q⟩ := one_DA h1
    cases q
    obtain ⟨u, rfl, ru⟩ := vals1 r
    cases ru
    exact PySem.P.str_of_bool ⟨.str _, H, I.tok _, ⟨_, rfl⟩, plain hq (by cases b <;> exact .str _)⟩
def listC : List PyData → Option PyData
  | [.list l] => some (.list l)
  | [.tuple l] => some (.list l)
  | _ => none
theorem call_listC : CallR X (.type "list") (rDc X.K listC) := by
  intro pins s σ H xs us Q I r ⟨M, ds, z, hm, h1, hz, hq⟩
  match ds, hz, h1 with
  | [.list l], hz, h1 =>
    cases hz
    obtain ⟨v, rfl, q⟩ := one_DA h1
    cases q with
    | lst n a1 b1 => exact call_list_of pins s σ H _ us Q I r ⟨_, _, rfl, .inl (SqL.of a1), fun p hp => fresh hq hp (.lst (fun m => hm p m hp) upd_same (b1.mono (Ex.of (same_new hp))))⟩
  | [.tuple l], hz, h1 =>
    cases hz
    obtain ⟨v, rfl, q⟩ := one_DA h1
    obtain ⟨a, ys, rfl, a1, b1, _⟩ := q.isT
    exact call_list_of pins s σ H _ us Q I r ⟨_, _, rfl, .inr a1, fun p hp => fresh hq hp (.lst (fun m => hm p m hp) upd_same (b1.mono (Ex.of (same_new hp))))⟩
def tupleC : List PyData → Option PyData
  | [.list l] => some (.tuple l)
  | [.tuple l] => some (.tuple l)
  | _ => none
theorem call_tupleC : CallR X (.type "tuple") (rDc X.K tupleC) := by
  intro pins s σ H xs us Q I r ⟨M, ds, z, hm, h1, hz, hq⟩
  match ds, hz, h1 with
  | [.list l], hz, h1 =>
    cases hz
    obtain ⟨v, rfl, q⟩ := one_DA h1
    cases q with
    | lst n a1 b1 => exact call_tuple_of pins s σ H _ us Q I r ⟨_, _, rfl, .inl ⟨SqL.of a1, fun p hp => fresh hq hp (.tup (fun m => hm p m hp) upd_same (b1.mono (Ex.of (same_new hp))))⟩⟩
  | [.tuple l], hz, h1 =>
    cases hz
    obtain ⟨v, rfl, q⟩ := one_DA h1
    obtain ⟨a, ys, rfl, a1, b1, _⟩ := q.isT
    exact call_tuple_of pins s σ H _ us Q I r ⟨_, _, rfl, .inr ⟨a1, plain hq q⟩⟩
end
section
variable {S : Type} {X : Cx} {W : Wd S} {ρ : Rho} {s : S} {Φ : Vl → S → Prop} {a b c e o : Expr} {es : List Expr} {pos p p2 apos : Pos} {x : Str}
theorem de_strC (m : X.mg "str" = none) (h : dE X W ρ s e fun x s1 => ∃ d z, x = .d d ∧ strC [d] = some z ∧ Φ (.d z) s1) (g : Gl X "str" := by rfl) (he : starEach [e] X.env = (false, eval e X.env) :: starEach [] X.env := by rfl) :
    dE X W ρ s (.Call (.Name "str" p) [e] [] pos) Φ := de_callTy call_strC m (da_cons (de_imp h fun y s1 ⟨d, z, hx, hz, q⟩ => da_nil ⟨[d], by subst hx; rfl, z, hz, q⟩) he) (by decide +kernel) g (by decide) (by decide) he rfl
theorem de_listC (m : X.mg "list" = none) (h : dE X W ρ s e fun x s1 => ∃ d z, x = .d d ∧ listC [d] = some z ∧ Φ (.d z) s1) (g : Gl X "list" := by rfl) (he : starEach [e] X.env = (false, eval e X.env) :: starEach [] X.env := by rfl) :
    dE X W ρ s (.Call (.Name "list" p) [e] [] pos) Φ := de_callTy call_listC m (da_cons (de_imp h fun y s1 ⟨d, z, hx, hz, q⟩ => da_nil ⟨[d], by subst hx; rfl, z, hz, q⟩) he) (by decide +kernel) g (by decide) (by decide) he rfl
theorem de_tupleC (m : X.mg "tuple" = none) (h : dE X W ρ s e fun x s1 => ∃ d z, x = .d d ∧ tupleC [d] = some z ∧ Φ (.d z) s1) (g : Gl X "tuple" := by rfl) (he : starEach [e] X.env = (false, eval e X.env) :: starEach [] X.env := by rfl) :
    dE X W ρ s (.Call (.Name "tuple" p) [e] [] pos) Φ := de_callTy call_tupleC m (da_cons (de_imp h fun y s1 ⟨d, z, hx, hz, q⟩ => da_nil ⟨[d], by subst hx; rfl, z, hz, q⟩) he) (by decide +kernel) g (by decide) (by decide) he rfl
/-! ### texts -/
theorem de_upper (h : dE X W ρ s o fun x s1 => ∃ z : Str, x = .d (.str z) ∧ z.length ≤ 100000 ∧ Φ (.d (.str (Txt.upper z))) s1) (hb : attributeBase o "upper" X.env (eval o X.env) = eval o X.env := by rfl) (hl : (apos.endLine == pos.line) = true := by rfl) :
    dE X W ρ s (.Call (.Attribute o "upper" apos) [] [] pos) Φ := .mk fun σ H Q en j kn => toE (pe_upper pw hb hl) (h.go σ H _ en j fun v H1 y s1 e1 j1 v1 ⟨z, hx, hz, q⟩ => by
      subst hx
      cases v1
      exact ⟨⟨z, rfl⟩, z, rfl, rfl, by omega, kn _ H1 (.d (.str (Txt.upper z))) s1 e1 j1 (.str _) q⟩)
theorem strs_V {K : PySem.W.Frag} {M : Addr → Prop} {H : Hp} : ∀ {vs : List V} {ys : List Str}, DtA K M H vs (ys.map PyData.str) → vs = ys.map V.str
  | _, [], .nil => rfl
  | _, y :: ys, .cons a b => by
    cases a
    rw [strs_V b]
    rfl
theorem de_join (h : dE X W ρ s o fun x s1 => ∃ z : Str, x = .d (.str z) ∧ dE X W ρ s1 e fun y s2 => ∃ ys : List Str, y = .d (.list (ys.map PyData.str)) ∧ (ys.map (·.length)).sum + ys.length * z.length ≤ 100000 ∧ Φ (.d (.str (Txt.join z ys))) s2)
    (hs : starEach [e] X.env = [(false, eval e X.env)] := by rfl) (hb : attributeBase o "join" X.env (eval o X.env) = eval o X.env := by rfl) (hl : (apos.endLine == pos.line) = true := by rfl) :
    dE X W ρ s (.Call (.Attribute o "join" apos) [e] [] pos) Φ := .mk fun σ H Q en j kn => toE (pe_join pw pw hs hb hl) (h.go σ H _ en j fun v H1 x s1 e1 j1 v1 ⟨z, hx, h2⟩ => by
      subst hx
      cases v1
      refine ⟨⟨z, rfl⟩, h2.go σ H1 _ (W.em e1 en) j1 fun u H2 y s2 e2 j2 v2 ⟨ys, hy, hz, q⟩ => ?_⟩
      subst hy
      cases (show Dt X.K W.M H2 u (.list (ys.map PyData.str)) from v2) with
      | lst n a1 b1 =>
        have e3 := strs_V b1
        subst e3
        exact ⟨z, _, ys, rfl, rfl, .inl (SqL.of a1), by omega, kn _ H2 (.d (.str (Txt.join z ys))) s2 (e1.trans e2) j2 (.str _) q⟩)
/-! ### dicts, [::-1] -/
theorem de_dic0 (h : Φ (.d (.dict [])) s) : dE X W ρ s (.Dict [] [] pos) Φ := .mk fun σ H Q en j kn => toE pe_dnewK fun q hq => kn _ _ (.d (.dict [])) s (Ex.of (same_new hq)) (j.same (same_new hq)) (Dt.dic (kvs := []) (j.new hq) upd_same .nil) h
theorem de_dicC {z : Str} {i : Int} {k1 k2 : Nat} {q1 q2 : Pos} (h : Φ (.d (.dict [(.str z, .int i)])) s) : dE X W ρ s (.Dict [some (.Constant (.str z) k1 q1)] [.Constant (.int i) k2 q2] pos) Φ := .mk fun σ H Q en j kn =>
  toE (pe_disp (pps_cons pe_str pe_int pps_nil) rfl rfl (by simp) (by simp)) fun q hq => ⟨upd_same, [(.inr z, .int i)], rfl, by simp, by
    have e : Same H (upd (upd H q (.dK [])) q (.dK (mergeK [] [((Sum.inr z : Key), V.int i)]))) := fun b o eb => by
      rw [upd_ne (ne_of_none eb hq), upd_ne (ne_of_none eb hq)]
      exact eb
    exact kn _ _ (.d (.dict [(.str z, .int i)])) s (Ex.of e) (j.same e) (Dt.dic (kvs := [(.inr z, .int i)]) (ds := [.int i]) (j.new hq) upd_same (.cons (.int i) .nil)) h⟩
theorem de_revL {k : Nat} {q1 q2 q3 : Pos} (h : dE X W ρ s e fun x s1 => ∃ ds, x = .d (.list ds) ∧ Φ (.d (.list ds.reverse)) s1) : dE X W ρ s (.Subscript e (.Slice none none (some (.UnaryOp .USub (.Constant (.int 1) k q1) q2)) q3) pos) Φ := .mk fun σ H Q en j kn =>
  toE (pe_revL pw) (h.go σ H _ en j fun v H1 x s1 e1 j1 v1 ⟨ds, hx, q⟩ => by
    subst hx
    cases (show Dt X.K W.M H1 v (.list ds) from v1) with
    | lst n a1 b1 => exact ⟨_, _, rfl, SqL.of a1, fun p hp => kn _ _ (.d (.list ds.reverse)) s1 (e1.trans (Ex.of (same_new hp))) (j1.same (same_new hp)) (.lst (j1.new hp) upd_same (b1.rev.mono (Ex.of (same_new hp)))) q⟩)
end
end Fw

set_option Elab.async false
set_option linter.all false
set_option maxRecDepth 100000
set_option maxHeartbeats 2000000
namespace HT
open PySem PySem.Spec PyProof.Rows
section
variable {prog : Program} {w : World} {A : Around} {E : Value → Shared → Prop} {s : Shared}
theorem sliceApplied_rev {sl : Addr} {vl vu vs : Value} {n : Nat} {Q : Int × Int × Nat → Shared → Prop} (hn : 1 ≤ n) (hs : s.heap.IsSliceOf sl vl vu vs) (pl : IsPart vl none) (pu : IsPart vu none) (ps : IsPart vs (some (-1)))
    (h : Q ((n : Int) - 1, -1, n) s) : wpAny (model prog w) A (Builtin.Slice.sliceApplied (.ref sl) (pure (n : Int))) Q E s := by
  obtain ⟨os, hos, hcs, hds⟩ := id hs
  unfold Builtin.Slice.sliceApplied Builtin.Slice.sliceFields
  refine wpAny_bind (wpAny_bind (wpAny_field hos hds (x := vl) rfl (wpAny_bind (wpAny_field hos hds (x := vu) rfl (wpAny_bind (wpAny_field hos hds (x := vs) rfl (wpAny_pure ?_)))))))
  refine wpAny_bind (slicePart_ ps ?_)
  show wpAny _ _ (if ((-1 : Int) == 0) = true then _ else _) _ _ s
  rw [if_neg (by decide)]
  refine wpAny_bind (slicePart_ pl (wpAny_bind (slicePart_ pu (wpAny_bind (wpAny_pure ?_)))))
  have e : Builtin.Slice.slicePlaces ((n : Int) - 1) (-1) (-1) = n := by
    unfold Builtin.Slice.slicePlaces
    rw [if_neg (by decide), if_pos (by omega)]
    have : (-(-1) : Int) = 1 := rfl
    rw [this, Int.ediv_one]
    omega
  show wpAny _ _ (pure ((n : Int) - 1, (-1 : Int), Builtin.Slice.slicePlaces ((n : Int) - 1) (-1) (-1))) _ _ s
  rw [e]
  exact wpAny_pure h
theorem pick_rev (xs : Array Value) : ((List.range xs.size).filterMap fun (m : Nat) => xs[((xs.size : Int) - 1 + (m : Int) * (-1)).toNat]?).toArray = xs.toList.reverse.toArray := by
  congr 1
  apply List.ext_getElem?
  intro i
  have e : ∀ l : List Nat, (∀ m ∈ l, m < xs.size) → l.filterMap (fun (m : Nat) => xs[((xs.size : Int) - 1 + (m : Int) * (-1)).toNat]?) = l.map fun m => xs.toList.reverse.getD m .none := by
    intro l
    induction l with
    | nil => intro _; rfl
    | cons m l ih =>
      intro hm
      have hm0 := hm m List.mem_cons_self
      have e1 : ((xs.size : Int) - 1 + (m : Int) * (-1)).toNat = xs.size - 1 - m := by omega
      have e2 : xs.size - 1 - m < xs.size := by omega
      have e3 : xs[((xs.size : Int) - 1 + (m : Int) * (-1)).toNat]? = some (xs.toList.reverse.getD m .none) := by
        rw [e1, List.getD_eq_getElem?_getD, List.getElem?_reverse (by simpa using hm0), Array.length_toList, Array.getElem?_toList, Array.getElem?_eq_getElem e2]
        rfl
      rw [List.filterMap_cons, e3, List.map_cons, ih fun k hk => hm k (List.mem_cons_of_mem _ hk)]
  rw [e _ fun m hm => List.mem_range.mp hm]
  by_cases hi : i < xs.size
  · rw [List.getElem?_map, List.getElem?_range hi]
    have hi' : i < xs.toList.reverse.length := by simpa using hi
    show some (xs.toList.reverse.getD i .none) = _
    rw [List.getD_eq_getElem?_getD, List.getElem?_eq_getElem hi']
    rfl
  · rw [List.getElem?_eq_none (by simpa using hi), List.getElem?_eq_none (by simpa using hi)]
theorem getItem_tuple_rev {t sl : Addr} {items : Array Value} {vl vu vs : Value} {Q : Value → Shared → Prop} (ht : IsTup s.heap t items) (hn : 1 ≤ items.size) (hs : s.heap.IsSliceOf sl vl vu vs) (pl : IsPart vl none) (pu : IsPart vu none) (ps : IsPart vs (some (-1)))
    (h : Q (.ref s.heap.objs.size) { s with heap := s.heap.push { cls := .type "tuple", data := .seq items.toList.reverse.toArray } })
    (hsz : items.size ≤ sizeLine) : wpAny (model prog w) A (getItem (.ref t) (.ref sl)) Q E s := by
  have htake : sizeOk (.seq items.toList.reverse.toArray) := by
    show items.toList.reverse.toArray.size ≤ sizeLine
    simpa using hsz
  obtain ⟨os, hos, hcs, hds⟩ := id hs
  have hTs : s.TypeIs (.ref sl) "slice" := ⟨os, hos, hcs⟩
  unfold getItem
  try with_reducible refine wpAny_holding ?_
  first | refine wpAny_bind (wpAny_pure ?_) | skip
  refine wpAny_bind (wpAny_sequenceKey ht.typeIs (by decide) ?_)
  refine wpAny_bind (wpAny_callSpecial?_slot (name := Str.ofString "__getitem__") ht.typeIs PyProof.Rows.slot_tuple_getitem
    (wpAny_call_entry PyProof.Rows.slot_tuple_getitem ht.typeIs entry_tuple_getitem ?_ (args_tuple_getitem _ _)))
  show wpAny _ _ (Builtin.Tuple.tupleItemsOf (.ref t) >>= _) _ _ s
  refine wpAny_bind (tupleItemsOf_ ht ?_)
  refine wpAny_bind (wpAny_typeOf hTs ?_)
  rw [if_pos (by decide)]
  refine wpAny_bind (sliceApplied_rev hn hs pl pu ps ?_)
  show wpAny _ _ (if (((items.size : Int) - 1) == 0 && (-1 : Int) == 1 && items.size == items.size) = true then _ else _) _ _ s
  rw [if_neg (by simp), pick_rev]
  first
    | exact wpAny_bind (m := Builtin.Tuple.tupleExact _) (wpAny_newObj_type (wpAny_pure ⟨_, rfl, wpAny_pure h⟩) htake)
    | exact wpAny_bind (m := Builtin.Tuple.tupleExact _) (wpAny_newObj_type (wpAny_bind (wpAny_pure (wpAny_pure ⟨_, rfl, wpAny_pure h⟩))) htake)
    | exact wpAny_bind (wpAny_bind (m := Builtin.Tuple.tupleExact _) (wpAny_newObj_type (wpAny_pure (wpAny_pure ⟨_, rfl, wpAny_pure h⟩)) htake))
    | exact wpAny_bind (wpAny_bind (m := Builtin.Tuple.tupleExact _) (wpAny_newObj_type (wpAny_pure ⟨_, rfl, wpAny_pure h⟩) htake))
end
end HT
namespace Fw
open PySem PySem.Spec PyProof.Rows L2
section
variable {S : Type} {X : Cx} {W : Wd S} {ρ : Rho} {s : S} {Φ : Vl → S → Prop} {Δ : DE S} {a b c e o : Expr} {es : List Expr} {pos p p2 apos : Pos} {x : Str}
/-! ### t[::-1] -/
def tRevT (K : PySem.W.Frag) (te : TE) : TE := fun σ H Q => te σ H fun x H1 => ∃ a xs, x = .ref a ∧ SqT K H1 a xs ∧ 1 ≤ xs.length ∧ ∀ p, H1 p = none → Q (.ref p) (upd H1 p (.tup xs.reverse))
theorem pe_revT {e : Expr} {te : TE} {k : Nat} {p1 p2 p3 pos : Pos} (he : PE X e te) : PE X (.Subscript e (.Slice none none (some (.UnaryOp .USub (.Constant (.int 1) k p1) p2)) p3) pos) (tRevT X.K te) := by
  refine ⟨fun pins s σ H Q I h => ?_⟩
  refine Subscript_ (thn (he.run pins s σ H _ I h) fun v s1 ⟨x, H1, I1, r1, q1⟩ => ?_)
  obtain ⟨a, xs, ex, hx, hpos, q⟩ := q1
  subst ex
  cases r1
  have hst : PO X (some (.UnaryOp .USub (.Constant (.int 1) k p1) p2)) (tPart (tUn (rU fun i => .int (-i)) (tC (.int 1)))) := po_some (pe_un un_neg pe_int)
  refine wpAny_Slice (thn (po_none.run pins s1 σ H1 (fun o H2 => o = none ∧ H2 = H1) I1 ⟨rfl, rfl⟩) fun vl s2 ⟨l, H2, I2, pl, el, e2⟩ => ?_)
  subst el e2
  refine thn (po_none.run pins s2 σ H2 (fun o H3 => o = none ∧ H3 = H2) I2 ⟨rfl, rfl⟩) fun vu s3 ⟨u, H3, I3, pu, eu, e3⟩ => ?_
  subst eu e3
  refine thn (hst.run pins s3 σ H3 (fun o H4 => o = some (-1) ∧ H4 = H3) I3 ⟨1, rfl, -1, rfl, rfl, rfl⟩) fun vs s4 ⟨o, H4, I4, ps, eo, e4⟩ => ?_
  subst eo e4
  have I5 : Inv X pins σ H4 { s4 with heap := s4.heap.push { cls := .type "slice", data := .fields #[vl, vu, vs] } } := I4.kept (t' := s4.toks) fun b ob q => Heap.get?_push_of_some _ q
  obtain ⟨its, r, ht, hz⟩ := I5.tuple hx
  have hlen := r.length
  have hsz : its.toArray.size = xs.length := by rw [List.size_toArray]; exact hlen.symm
  show wpAny (model X.prog X.w) X.A (subscriptTail e (.Slice none none (some (.UnaryOp .USub (.Constant (.int 1) k p1) p2)) p3) (.ref a) (.ref s4.heap.objs.size)) (EP X pins σ Q) X.xe { s4 with heap := s4.heap.push { cls := .type "slice", data := .fields #[vl, vu, vs] } }
  refine tail_any (ops := [.ref a, .ref s4.heap.objs.size]) ht.typeIs (PyProof.Rows.slot_tuple_getitem.lookup) ?_ (by with_unfolding_all rfl)
  refine HT.getItem_tuple_rev ht (by rw [hsz]; exact hpos) (Heap.IsSliceOf.new _ vl vu vs) pl pu ps ?_ (by rw [hsz]; exact hz)
  refine ⟨.ref _, _, I5.laid (t' := s4.toks) (o := .tup xs.reverse) (fun b ob q => Heap.get?_push_of_some _ q) (Nat.le_refl _) ?_, rfl, q _ (I5.hok.fresh (Nat.le_refl _))⟩
  exact ⟨by rw [List.length_reverse]; exact hz, _, r.reverse, IsTup.new _ _⟩
theorem de_revT {k : Nat} {q1 q2 q3 : Pos} (h : dE X W ρ s e fun x s1 => ∃ ds, x = .d (.tuple ds) ∧ 1 ≤ ds.length ∧ Φ (.d (.tuple ds.reverse)) s1) : dE X W ρ s (.Subscript e (.Slice none none (some (.UnaryOp .USub (.Constant (.int 1) k q1) q2)) q3) pos) Φ := .mk fun σ H Q en j kn =>
  toE (pe_revT pw) (h.go σ H _ en j fun v H1 x s1 e1 j1 v1 ⟨ds, hx, hl, q⟩ => by
    subst hx
    obtain ⟨a, xs, rfl, a1, b1, _⟩ := (show Dt X.K W.M H1 v (.tuple ds) from v1).isT
    exact ⟨_, _, rfl, a1, by rw [b1.len]; exact hl, fun p hp => kn _ _ (.d (.tuple ds.reverse)) s1 (e1.trans (Ex.of (same_new hp))) (j1.same (same_new hp)) (.tup (j1.new hp) upd_same (b1.rev.mono (Ex.of (same_new hp)))) q⟩)
/-! ### objects that change: lists by their address -/
/-- a[i] of a list that the state tells -/
theorem de_ixV (h : dE X W ρ s a fun x s1 => dE X W ρ s1 b fun y s2 => ∃ (l : Addr) (i : Int) (vl : Vl), x = .v (.ref l) ∧ y = .d (.int i) ∧ (∀ H, W.J W.M s2 H → ∃ xs v, H l = some (.lst xs) ∧ atI xs i = some v ∧ Vt X.K W.M H v vl) ∧ Φ vl s2) (hs : PlainIx b := by intro _ _; rfl) :
    dE X W ρ s (.Subscript a b pos) Φ := .mk fun σ H Q en j kn => toE (pe_ix ix_list pw pw hs) (h.go σ H _ en j fun v H1 x s1 e1 j1 v1 hb => hb.go σ H1 _ (W.em e1 en) j1 fun u H2 y s2 e2 j2 v2 ⟨l, i, vl, hx, hy, hJ, q⟩ => by
      subst hx hy
      cases (show v = .ref l from v1)
      cases v2
      obtain ⟨xs, w, q1, q2, q3⟩ := hJ H2 j2.1
      exact ⟨l, xs, i, w, rfl, rfl, SqL.of q1, q2, kn w H2 vl s2 (e1.trans e2) j2 q3 q⟩)
/-- a[i] = e -/
theorem ds_setV {q1 : Pos} (h : dE X W ρ s e fun z s0 => dE X W ρ s0 a fun x s1 => dE X W ρ s1 b fun y s2 => ∃ (l : Addr) (i : Int) (s3 : S), x = .v (.ref l) ∧ y = .d (.int i) ∧ W.C l ∧
      (∀ H v, W.J W.M s2 H → Vt X.K W.M H v z → ∃ xs k, H l = some (.lst xs) ∧ ixN xs.length i = some k ∧ W.J W.M s3 (upd H l (.lst (xs.set k v)))) ∧ Δ.nx ρ s3)
    (hs : swapsWithSole [.Subscript a b q1] e pos.line X.env = pure false := by rfl) (hw : swappedStores [.Subscript a b q1] e X.env = pure none := by rfl) (h1 : (assignEach [.Subscript a b q1] X.env).map (·.2) = [assign (.Subscript a b q1) X.env] := by rfl)
    (ha : ∀ v, assign (.Subscript a b q1) X.env v = (do
      let ov ← holding [v] (eval a X.env)
      let iv ← holding [v, ov] (eval b X.env)
      standAt q1
      holding [v, ov, iv] (setItem ov iv v)
      release [v, ov, iv] []) := by intro _; rfl) : dS X W ρ s (.Assign [.Subscript a b q1] e pos) Δ := .mk fun σ H D en j kn =>
  toS (ps_asg pw (pg_sub pw pw set_list ha) hs hw h1) (h.go σ H _ en j fun z H0 vz s0 e0 j0 v0 ho => ho.go σ H0 _ (W.em e0 en) j0 fun v H1 x s1 e1 j1 v1 hb => hb.go σ H1 _ (W.em (e0.trans e1) en) j1 fun u H2 y s2 e2 j2 v2 ⟨l, i, s3, hx, hy, hC, hJ, q⟩ => by
    subst hx hy
    cases (show v = .ref l from v1)
    cases v2
    obtain ⟨xs, k, q1, q2, q3⟩ := hJ H2 z j2.1 (W.vm (e1.trans e2) v0)
    have e3 : Ex W.C H2 (upd H2 l (.lst (xs.set k z))) := fun b o n w => by rw [upd_ne (show b ≠ l from fun t => n (t ▸ hC))]; exact w
    have e4 := ((e0.trans e1).trans e2).trans e3
    exact ⟨l, xs, i, k, rfl, rfl, q1, q2, kn.nx σ _ ρ s3 e4 ⟨q3, fun b m w => by
      by_cases t : b = l
      · rw [t, upd_same] at w; cases w
      · rw [upd_ne t] at w; exact j2.2 b m w⟩ (W.em e4 en) q⟩)
theorem ex_upd {H : Hp} {l : Addr} {o : HO} {C : Addr → Prop} (hC : C l) : Ex C H (upd H l o) := fun b u n w => by rw [upd_ne (show b ≠ l from fun t => n (t ▸ hC))]; exact w
theorem at_upd {H : Hp} {l : Addr} {o : HO} {s3 : S} (j : ∀ b, W.M b → H b ≠ none) (q : W.J W.M s3 (upd H l o)) : W.At s3 (upd H l o) := ⟨q, fun b m w => by
  by_cases t : b = l
  · rw [t, upd_same] at w; cases w
  · rw [upd_ne t] at w; exact j b m w⟩
/-- o.pop() -/
theorem de_popV (h : dE X W ρ s o fun x s1 => ∃ (l : Addr) (vl : Vl) (s2 : S), x = .v (.ref l) ∧ W.C l ∧ (∀ H, W.J W.M s1 H → ∃ xs y, H l = some (.lst xs) ∧ xs[xs.length - 1]? = some y ∧ Vt X.K W.M H y vl ∧ W.J W.M s2 (upd H l (.lst xs.dropLast))) ∧ Φ vl s2)
    (hb : attributeBase o "pop" X.env (eval o X.env) = eval o X.env := by rfl) (hl : (apos.endLine == pos.line) = true := by rfl) : dE X W ρ s (.Call (.Attribute o "pop" apos) [] [] pos) Φ := .mk fun σ H Q en j kn =>
  toE (pe_bm0 PySem.F.plainAttrs_list PySem.F.slot_list_pop PySem.F.type_list_pop mt_pop pw hb hl) (h.go σ H _ en j fun v H1 x s1 e1 j1 v1 ⟨l, vl, s2, hx, hC, hJ, q⟩ => by
    subst hx
    cases (show v = .ref l from v1)
    obtain ⟨xs, y, q1, q2, q3, q4⟩ := hJ H1 j1.1
    have e2 : Ex W.C H1 (upd H1 l (.lst xs.dropLast)) := ex_upd hC
    exact ⟨.inl ⟨rfl, xs, SqL.of q1⟩, l, xs, y, rfl, rfl, q1, q2, kn y _ vl s2 (e1.trans e2) (at_upd j1.2 q4) (W.vm e2 q3) q⟩)
/-- o.append(e) -/
theorem de_appV (h : dE X W ρ s o fun x s1 => ∃ l : Addr, x = .v (.ref l) ∧ (∀ H, W.J W.M s1 H → ∃ xs, H l = some (.lst xs)) ∧ W.C l ∧ dE X W ρ s1 e fun y s2 => ∃ s3, (∀ H v, W.J W.M s2 H → Vt X.K W.M H v y → ∃ xs, H l = some (.lst xs) ∧ xs.length < sizeLine ∧ W.J W.M s3 (upd H l (.lst (xs ++ [v])))) ∧ Φ (.d .none) s3)
    (hb : attributeBase o "append" X.env (eval o X.env) = eval o X.env := by rfl) (hl : (apos.endLine == pos.line) = true := by rfl)
    (hfew : ((backTo pos (starEach [e] X.env)).all (fun x => !x.1) && (backToKw pos (keywordEach [] X.env)).all (fun x => x.1.isSome)
      && decide ([e].length + ([] : List Keyword).length + (if ([] : List Keyword).isEmpty then 0 else 1) < 30)) = true := by rfl)
    (hs : starEach [e] X.env = (false, eval e X.env) :: starEach [] X.env := by rfl) : dE X W ρ s (.Call (.Attribute o "append" apos) [e] [] pos) Φ := .mk fun σ H Q en j kn =>
  toE (pe_bm PySem.F.plainAttrs_list PySem.F.slot_list_append PySem.F.type_list_append mt_append pw (pa_cons pw pa_nil hs) hb hfew hl hs rfl) (h.go σ H _ en j fun v H1 x s1 e1 j1 v1 ⟨l, hx, hJ0, hC, he⟩ => by
    subst hx
    cases (show v = .ref l from v1)
    obtain ⟨xs0, q0⟩ := hJ0 H1 j1.1
    refine ⟨.inl ⟨rfl, xs0, SqL.of q0⟩, he.go σ H1 _ (W.em e1 en) j1 fun u H2 y s2 e2 j2 v2 ⟨s3, hJ, q⟩ => ?_⟩
    obtain ⟨xs, q1, q2, q3⟩ := hJ H2 u j2.1 v2
    have e3 : Ex W.C H2 (upd H2 l (.lst (xs ++ [u]))) := ex_upd hC
    exact ⟨l, xs, u, rfl, rfl, q1, q2, kn .non _ (.d .none) s3 ((e1.trans e2).trans e3) (at_upd j2.2 q3) .non q⟩)
/-- a comparison whose left side is a list that the state tells -/
theorem dt_cmpV {Ψ : Bool → S → Prop} {F : PyData → PyData → Option PyData} {op : CmpOp} (hop : OpR X (compareOp op) (rD X.K F)) (h : dE X W ρ s a fun x s1 => dE X W ρ s1 b fun y s2 => ∃ (u : V) (d e : PyData) (t : Bool), x = .v u ∧ y = .d e ∧ (∀ H, W.J W.M s2 H → Dt X.K (fun _ => False) H u d) ∧ F d e = some (.bool t) ∧ Ψ t s2)
    (hm : behindInMarks op b = false := by first | exact nomark _ | rfl) : dT X W ρ s (.Compare a [op] [b] pos) Ψ := .mk fun σ H Q en j kn =>
  toT (pt_cmpR hop pw pw hm) (h.go σ H _ en j fun v H1 x s1 e1 j1 v1 hb => hb.go σ H1 _ (W.em e1 en) j1 fun u H2 y s2 e2 j2 v2 ⟨u', d, e, t, hx, hy, hJ, hz, q⟩ => by
    subst hx hy
    cases (show v = u' from v1)
    exact ⟨fun _ => False, d, e, .bool t, fun _ m => m.elim, hJ H2 j2.1, Dt.less (fun _ m => m.elim) v2, hz, fun v' H3 sm dt => ⟨t, bool_of dt, kn t H3 s2 ((e1.trans e2).trans (Ex.of sm)) (j2.same sm) q⟩⟩)
/-- the state told otherwise -/
theorem dB_st {s' : S} {b : List Stmt} (h : dB X W ρ s' b Δ) (i : ∀ H, W.J W.M s H → W.J W.M s' H) : dB X W ρ s b Δ := .mk fun σ H D en j kn => h.go σ H D en ⟨i H j.1, j.2⟩ kn
theorem dE_st {s' : S} (h : dE X W ρ s' e Φ) (i : ∀ H, W.J W.M s H → W.J W.M s' H) : dE X W ρ s e Φ := .mk fun σ H D en j kn => h.go σ H D en ⟨i H j.1, j.2⟩ kn
end
end Fw

set_option Elab.async false
set_option linter.all false
set_option maxRecDepth 100000
set_option maxHeartbeats 2000000
namespace Fw
open PySem PySem.Spec PyProof.Rows L2
/-! ### sizes -/
structure Sz (n k : Nat) (d : PyData) : Prop where
  ok : nice d = true
  sz : cost d ≤ n
  dp : d.depth ≤ k
structure SzA (n k : Nat) (ds : List PyData) : Prop where
  ok : niceA ds = true
  sz : costA ds ≤ n
  dp : PyData.depthAll ds ≤ k
section
variable {n m k l : Nat} {d e : PyData} {ds es : List PyData}
theorem Sz.up (h : Sz n k d) (a : n ≤ m) (b : k ≤ l) : Sz m l d := ⟨h.ok, Nat.le_trans h.sz a, Nat.le_trans h.dp b⟩
theorem SzA.up (h : SzA n k ds) (a : n ≤ m) (b : k ≤ l) : SzA m l ds := ⟨h.ok, Nat.le_trans h.sz a, Nat.le_trans h.dp b⟩
theorem Sz.nc (h : Sz n k d) (a : n ≤ m) (b : k ≤ 40) : Nc m d := ⟨h.ok, Nat.le_trans h.sz a, Nat.le_trans h.dp b⟩
theorem SzA.nil : SzA n k [] := ⟨rfl, Nat.zero_le _, Nat.zero_le _⟩
theorem SzA.cons (h : Sz n k d) (g : SzA m k ds) : SzA (n + 2 + m) k (d :: ds) := by
  refine ⟨by simp only [niceA, h.ok, g.ok]; rfl, ?_, ?_⟩
  · have := h.sz; have := g.sz; simp only [costA]; omega
  · have := h.dp; have := g.dp; simp only [PyData.depthAll]; omega
theorem costA_app : ∀ a b : List PyData, costA (a ++ b) = costA a + costA b
  | [], b => by simp [costA]
  | d :: a, b => by rw [List.cons_append, costA, costA, costA_app a b]; omega
theorem niceA_app : ∀ a b : List PyData, niceA (a ++ b) = (niceA a && niceA b)
  | [], b => by simp [niceA]
  | d :: a, b => by rw [List.cons_append, niceA, niceA, niceA_app a b, Bool.and_assoc]
theorem depthA_app : ∀ a b : List PyData, PyData.depthAll (a ++ b) = max (PyData.depthAll a) (PyData.depthAll b)
  | [], b => by simp [PyData.depthAll]
  | d :: a, b => by rw [List.cons_append, PyData.depthAll, PyData.depthAll, depthA_app a b]; omega
theorem SzA.app (h : SzA n k ds) (g : SzA m k es) : SzA (n + m) k (ds ++ es) := by
  refine ⟨by rw [niceA_app, h.ok, g.ok]; rfl, ?_, ?_⟩
  · have := h.sz; have := g.sz; rw [costA_app]; omega
  · have := h.dp; have := g.dp; rw [depthA_app]; omega
theorem SzA.take (h : SzA n k ds) (i : Nat) : SzA n k (ds.take i) := by
  have e : ds.take i ++ ds.drop i = ds := List.take_append_drop i ds
  have h1 := h.ok; have h2 := h.sz; have h3 := h.dp
  rw [← e] at h1 h2 h3
  rw [niceA_app] at h1; rw [costA_app] at h2; rw [depthA_app] at h3
  exact ⟨(Bool.and_eq_true_iff.mp h1).1, by omega, by omega⟩
theorem SzA.drop (h : SzA n k ds) (i : Nat) : SzA n k (ds.drop i) := by
  have e : ds.take i ++ ds.drop i = ds := List.take_append_drop i ds
  have h1 := h.ok; have h2 := h.sz; have h3 := h.dp
  rw [← e] at h1 h2 h3
  rw [niceA_app] at h1; rw [costA_app] at h2; rw [depthA_app] at h3
  exact ⟨(Bool.and_eq_true_iff.mp h1).2, by omega, by omega⟩
theorem SzA.cut (h : SzA n k ds) (lo hi : Option Int) : SzA n k (cutD ds lo hi) := (h.drop _).take _
theorem costA_rev : ∀ a : List PyData, costA a.reverse = costA a ∧ niceA a.reverse = niceA a ∧ PyData.depthAll a.reverse = PyData.depthAll a
  | [] => ⟨rfl, rfl, rfl⟩
  | d :: a => by
    obtain ⟨h1, h2, h3⟩ := costA_rev a
    rw [List.reverse_cons, costA_app, niceA_app, depthA_app, h1, h2, h3]
    refine ⟨?_, ?_, ?_⟩
    · simp only [costA]; omega
    · rw [niceA, niceA, niceA, Bool.and_true, Bool.and_comm]
    · simp only [PyData.depthAll]; omega
theorem SzA.rev (h : SzA n k ds) : SzA n k ds.reverse := by
  obtain ⟨h1, h2, h3⟩ := costA_rev ds
  exact ⟨by rw [h2]; exact h.ok, by rw [h1]; exact h.sz, by rw [h3]; exact h.dp⟩
theorem SzA.rep (h : SzA n k ds) : ∀ i : Nat, SzA (i * n) k (List.replicate i ds).flatten
  | 0 => by rw [Nat.zero_mul]; exact .nil
  | i + 1 => by
    rw [List.replicate_succ, List.flatten_cons]
    exact (h.app (h.rep i)).up (by rw [Nat.succ_mul]; omega) (Nat.le_refl _)
theorem SzA.mem : ∀ {ds : List PyData}, SzA n k ds → d ∈ ds → Sz n k d
  | [], _, h => absurd h List.not_mem_nil
  | e :: ds, g, h => by
    have h1 := g.ok; have h2 := g.sz; have h3 := g.dp
    simp only [niceA, costA, PyData.depthAll] at h1 h2 h3
    obtain ⟨g1, g2⟩ := Bool.and_eq_true_iff.mp h1
    rcases List.mem_cons.mp h with z | z
    · subst z; exact ⟨g1, by omega, by omega⟩
    · exact SzA.mem (ds := ds) ⟨g2, by omega, by omega⟩ z
theorem SzA.len : ∀ {ds : List PyData} {n : Nat}, SzA n k ds → 2 * ds.length ≤ n
  | [], _, _ => Nat.zero_le _
  | e :: ds, n, g => by
    have h1 := g.ok; have h2 := g.sz; have h3 := g.dp
    simp only [niceA, costA, PyData.depthAll] at h1 h2 h3
    have q := SzA.len (show SzA (n - 2) k ds from ⟨(Bool.and_eq_true_iff.mp h1).2, by omega, by omega⟩)
    rw [List.length_cons]
    omega
theorem SzA.of : ∀ {ds : List PyData}, (∀ d ∈ ds, Sz n k d) → SzA (ds.length * (n + 2)) k ds
  | [], _ => .nil
  | d :: ds, h => by
    have q := SzA.cons (h d List.mem_cons_self) (SzA.of fun e he => h e (List.mem_cons_of_mem _ he))
    refine q.up ?_ (Nat.le_refl _)
    rw [List.length_cons, Nat.succ_mul]
    omega
theorem Sz.tup (h : SzA n k ds) : Sz (n + 3) (k + 1) (.tuple ds) := by
  refine ⟨by simp only [nice]; exact h.ok, ?_, ?_⟩
  · have := h.sz; simp only [cost]; omega
  · have := h.dp; simp only [PyData.depth]; omega
theorem Sz.lst (h : SzA n k ds) : Sz (n + 3) (k + 1) (.list ds) := by
  refine ⟨by simp only [nice]; exact h.ok, ?_, ?_⟩
  · have := h.sz; simp only [cost]; omega
  · have := h.dp; simp only [PyData.depth]; omega
theorem Sz.tupE (h : Sz n (k + 1) (.tuple ds)) : SzA n k ds := by
  have h1 := h.ok; have h2 := h.sz; have h3 := h.dp
  simp only [nice, cost, PyData.depth] at h1 h2 h3
  exact ⟨h1, by omega, by omega⟩
theorem Sz.tup0 (h : Sz n 0 (.tuple ds)) : False := by
  have h3 := h.dp
  simp only [PyData.depth] at h3
  omega
theorem Sz.non : Sz 4 0 .none := ⟨rfl, Nat.le_of_ble_eq_true rfl, Nat.le_of_ble_eq_true rfl⟩
theorem Sz.bl (b : Bool) : Sz 5 0 (.bool b) := ⟨rfl, Nat.le_of_ble_eq_true rfl, Nat.le_of_ble_eq_true rfl⟩
theorem log_le {i : Int} (h : i.natAbs < 2 ^ k) : i.natAbs.log2 ≤ k := by
  by_cases z : i.natAbs = 0
  · rw [z]
    have : Nat.log2 0 = 0 := by decide
    omega
  · exact Nat.le_of_lt ((Nat.log2_lt z).mpr h)
theorem Sz.int {i : Int} (h : i.natAbs < 2 ^ k) (hk : k ≤ 1000 := by decide) : Sz (k + 2) 0 (.int i) :=
  ⟨by simp only [nice]; exact decide_eq_true (Nat.lt_of_lt_of_le h (Nat.pow_le_pow_right (by decide) hk)), by simp only [cost]; have := log_le h; omega, by simp only [PyData.depth]; omega⟩
def okS (z : Str) : Prop := z.cps.all (· < 128) = true
theorem Sz.str {z : Str} (h : okS z) (hl : z.length ≤ l) : Sz (10 * l + 2) 0 (.str z) := ⟨by simp only [nice]; exact h, by simp only [cost]; omega, by simp only [PyData.depth]; omega⟩
theorem Sz.strE {z : Str} (h : Sz n k (.str z)) : okS z ∧ 10 * z.length + 2 ≤ n := by
  have h1 := h.ok; have h2 := h.sz
  simp only [nice, cost] at h1 h2
  exact ⟨h1, h2⟩
theorem Sz.intE {i : Int} (h : Sz n k (.int i)) : i.natAbs < 2 ^ 1000 := by
  have h1 := h.ok
  simp only [nice] at h1
  exact of_decide_eq_true h1
theorem okS_app {a b : Str} (h : okS a) (g : okS b) : okS (a ++ b) := by
  unfold okS at *
  show (Array.all (a.cps ++ b.cps) (· < 128)) = true
  rw [Array.all_append, h, g]
  rfl
end

/-! ### a deck: objects that a def changes, by a state that counts -/
structure Deck where
  D : Type
  adr : D → Addr
  C : D → Addr → Prop
  J : D → Nat → Hp → Prop
  keep : ∀ {t : D} {n : Nat} {H H' : Hp}, J t n H → (∀ b o, C t b → H b = some o → H' b = some o) → J t n H'
  more : ∀ {t : D} {n m : Nat} {H : Hp}, J t n H → n ≤ m → J t m H
abbrev deckLim : Nat := 1099511627776
def Wk (T : Deck) (M : Addr → Prop) (t : T.D) (sub : ∀ b, T.C t b → M b) : Wd Nat where
  M := M
  C := T.C t
  J := fun _ => T.J t
  sub := fun {b} h => sub b h
  keep := fun h k => T.keep h fun b o c => k b o (.inl c)
  more := fun h _ => h
  less := fun h _ => h
/-- a world that holds the deck t, by a part of its state -/
structure IsK (T : Deck) {S : Type} (W : Wd S) (t : T.D) where
  get : S → Nat
  put : S → Nat → S
  C : ∀ b, T.C t b → W.C b
  J : ∀ {N : Addr → Prop} {s : S} {H : Hp}, W.J N s H → T.J t (get s) H
  up : ∀ {N : Addr → Prop} {s : S} {n : Nat} {H H' : Hp}, W.J N s H → (∀ b, T.C t b → N b) → Ex (T.C t) H H' → T.J t n H' → W.J N (put s n) H'
def IsK.own {T : Deck} {M : Addr → Prop} {t : T.D} {sub : ∀ b, T.C t b → M b} : IsK T (Wk T M t sub) t := ⟨fun s => s, fun _ n => n, fun _ h => h, fun h => h, fun _ _ _ h => h⟩
def IsK.plus {T : Deck} {S : Type} {W : Wd S} {t : T.D} (h : IsK T W t) (D : Addr) : IsK T (W.plus D) t := ⟨h.get, h.put, h.C, h.J, h.up⟩
def spK (T : Deck) (K : PySem.W.Frag) (pre : List PyData → Prop) (post : List PyData → PyData → Prop) (c : Nat) : Sp := fun vs H Q _ =>
  ∃ (M : Addr → Prop) (t : T.D) (n : Nat) (us : List V) (ds : List PyData), (∀ b, M b → H b ≠ none) ∧ (∀ b, T.C t b → M b) ∧ T.J t n H ∧ vs = .ref (T.adr t) :: us ∧ DtA K M H us ds ∧ pre ds ∧ n + c ≤ deckLim ∧
    ∀ v H' z, Ex (T.C t) H H' → T.J t (n + c) H' → (∀ b, M b → H' b ≠ none) → Dt K M H' v z → post ds z → Q v H'
def rhoD (N : List Str) (a : Addr) (ds : List PyData) : Rho := (some (Vl.v (.ref a)) :: ds.map (fun d => some (.d d))) ++ List.replicate (N.length - (ds.length + 1)) none
theorem en_startD {K : PySem.W.Frag} {M : Addr → Prop} {H : Hp} {N : List Str} {vs : List V} {ds : List PyData} {a : Addr} (h : DtA K M H vs ds) : En K M H (L2.start N (.ref a :: vs)) (rhoD N a ds) := by
  have q := En.start (K := K) (M := M) (H := H) (N := N) (vs := .ref a :: vs) (xs := .v (.ref a) :: ds.map .d) (by simp [h.len]) fun i x e => by
    cases i with
    | zero => cases e; exact ⟨.ref a, rfl, rfl⟩
    | succ i =>
      rw [List.getElem?_cons_succ, List.getElem?_map] at e
      obtain ⟨d, e1, rfl⟩ := Option.map_eq_some_iff.mp e
      obtain ⟨v, q1, q2⟩ := h.get e1
      exact ⟨v, by rw [List.getElem?_cons_succ]; exact q1, q2⟩
  rw [List.map_cons, List.map_map, List.length_cons, List.length_map] at q
  exact q
section
variable {P : Program} {w : World} {K : PySem.W.Frag} {mg : Str → Option Value} {base : Heap} {CX : CXT} {k : Nat} {ps : List Str} {st : Stmt} {N : List Str} {x : Str} {T : Deck}
theorem Src.deck {pre : List PyData → Prop} {post : List PyData → PyData → Prop} {c : Nat} (F : Src K mg x st) (S : FnScope N ps (defScope st)) (hl : ∀ ds, pre ds → ds.length + 1 = ps.length)
    (hbd : ∀ (kV doc pm : Value) (an : Option Addr) (cd ct : Value) (us : List Value), us.length = ps.length → bindArgs (PySem.W.fnOf x x (defArgs st) (defBody st) (defScope st) .none kV doc pm an cd ct) ⟨us, []⟩ = Pure.pure (ps.zip us))
    (hs : base.get? sysModules ≠ none)
    (hb : ∀ (fa : Addr) (cd : Value) (A : Around) (fr : List Env) (s : Shared) (H : Hp) (E : XK) (M : Addr → Prop) (t : T.D) (sub : ∀ b, T.C t b → M b) (n : Nat) (ds : List PyData), Rm (cxOf CX P w K mg base N x (defScope st) fa cd A fr s H E).nox → Room k (cxOf CX P w K mg base N x (defScope st) fa cd A fr s H E).nox.A → pre ds → n + c ≤ deckLim →
      dB (cxOf CX P w K mg base N x (defScope st) fa cd A fr s H E).nox (Wk T M t sub) (rhoD N (T.adr t) ds) n (defBody st) { nx := fun _ n' => post ds .none ∧ n' ≤ n + c, rt := fun y n' => ∃ z, y = .d z ∧ post ds z ∧ n' ≤ n + c }) : Dfn P w K mg base CX (k + 1) x st ps (spK T K pre post c) := by
  refine F.ok S (fun vs H Q E h => ?_) hbd fun fa cd A fr s vs H Q E g r h => ?_
  · obtain ⟨M, t, n, us, ds, _, _, _, rfl, h1, h2, _⟩ := h
    rw [List.length_cons, h1.len]
    exact hl ds h2
  · obtain ⟨M, t, n, us, ds, hm, hc, hj, rfl, h1, h2, h3, hq⟩ := h
    refine ⟨wB _ (defBody st), bw, (hb fa cd A fr s H E M t hc n ds (Rm.of g r hs rfl) r h2 h3).go _ H _ (en_startD h1) ⟨hj, hm⟩ ⟨fun σ H2 ρ s' e1 j1 en z => ?_, fun v H2 y s' e1 j1 v1 z => ?_, fun _ _ _ _ _ _ _ z => z, fun _ _ _ _ _ _ _ z => z⟩⟩
    · exact hq .non H2 .none e1 (T.more j1.1 z.2) j1.2 .non z.1
    · obtain ⟨u, hy, hp, hle⟩ := z
      subst hy
      exact hq v H2 u e1 (T.more j1.1 hle) j1.2 v1 hp
end
section
variable {T : Deck} {S : Type} {X : Cx} {W : Wd S} {ρ : Rho} {s : S} {Φ : Vl → S → Prop} {e : Expr} {es : List Expr} {pos p : Pos} {x : Str} {t : T.D}
theorem de_goD {CX : CXT} {k c : Nat} {st : Stmt} {ps : List Str} {pre : List PyData → Prop} {post : List PyData → PyData → Prop} (F : Dfn X.prog X.w X.K X.mg X.base CX k x st ps (spK T X.K pre post c)) (R : Rm X) (r : Room k X.A) (hx : Passes CX X E0) (hK : IsK T W t)
    (h : dA X W ρ s (e :: es) fun xs s1 => ∃ ys ds, xs = .v (.ref (T.adr t)) :: ys ∧ allD ys = some ds ∧ pre ds ∧ hK.get s1 + c ≤ deckLim ∧ ∀ z, post ds z → Φ (.d z) (hK.put s1 (hK.get s1 + c))) (hg : Gl X x := by rfl)
    (h1 : (x == ("__debug__" : Str)) = false := by decide) (h2 : starEach (e :: es) X.env = (false, eval e X.env) :: starEach es X.env := by rfl) (h3 : (backTo pos (starEach es X.env)).any (·.1) = false := by rfl) : dE X W ρ s (.Call (.Name x p) (e :: es) [] pos) Φ := .mk fun σ H Q en j kn =>
  toE (pe_go F R.g r hx aw hg h1 h2 h3) (h.go σ H _ en j fun vs H1 xs s1 e1 j1 v1 ⟨ys, ds, hd, ha, hp, hc, q⟩ => by
    subst hd
    cases v1 with
    | @cons v _ us _ v1 v2 =>
      have v1' : v = .ref (T.adr t) := v1
      subst v1'
      refine ⟨W.M, t, hK.get s1, us, ds, j1.2, fun b hb => W.sub (hK.C b hb), hK.J j1.1, rfl, allD_ok ha v2, hp, hc, fun v H2 z e2 j2 m2 d2 hz => ?_⟩
      exact kn v H2 (.d z) _ (e1.trans fun b o n q => e2 b o (fun c => n (hK.C b c)) q) ⟨hK.up j1.1 (fun b hb => W.sub (hK.C b hb)) e2 j2, m2⟩ d2 (q z hz))
end
end Fw

set_option Elab.async false
set_option linter.all false
set_option maxRecDepth 100000
set_option maxHeartbeats 2000000
namespace Fw
open PySem PySem.Spec PyProof.Rows L2
/-! ### texts of plain signs, of a length -/
structure As (n : Nat) (z : Str) : Prop where
  ok : okS z
  len : z.length ≤ n
section
variable {n m : Nat} {a b z : Str}
theorem okS_of (h : z.cps.all (· < 128) = true) : okS z := h
theorem okS_iff : okS z ↔ ∀ c ∈ z.cps.toList, c < 128 := by
  unfold okS
  rw [Array.all_eq_true']
  exact ⟨fun h c hc => of_decide_eq_true (h c (by simpa using hc)), fun h c hc => decide_eq_true (h c (by simpa using hc))⟩
theorem As.up (h : As n z) (k : n ≤ m) : As m z := ⟨h.ok, Nat.le_trans h.len k⟩
theorem As.app (h : As n a) (g : As m b) : As (n + m) (a ++ b) := ⟨okS_app h.ok g.ok, by rw [strlen]; have := h.len; have := g.len; omega⟩
theorem As.sz (h : As n z) : Sz (10 * n + 2) 0 (.str z) := Sz.str h.ok h.len
theorem As.cut (h : As n z) (lo hi : Option Int) : As n (cutS z lo hi) := by
  refine ⟨okS_iff.mpr fun c hc => okS_iff.mp h.ok c ?_, ?_⟩
  · have hc : c ∈ ((z.cps.toList.drop (HT.sIx z.length 0 lo)).take (HT.sIx z.length z.length hi - HT.sIx z.length 0 lo)) := by simpa [cutS] using hc
    exact List.mem_of_mem_drop (List.mem_of_mem_take hc)
  · have e : (cutS z lo hi).length ≤ z.length := by
      unfold cutS
      show (List.toArray _).size ≤ _
      rw [List.size_toArray, List.length_take, List.length_drop]
      have : z.cps.toList.length = z.length := by simp [Str.length]
      omega
    exact Nat.le_trans e h.len
theorem as_one {c : Nat} (h : c < 128) : As 1 ⟨#[c]⟩ := ⟨okS_iff.mpr fun d hd => by
  have : d = c := by simpa using hd
  omega, Nat.le_refl _⟩
theorem As.mem (h : As n z) {d : PyData} (hd : d ∈ Fw.signs z) : ∃ y, d = .str y ∧ As 1 y := by
  obtain ⟨c, hc, rfl⟩ := List.mem_map.mp hd
  exact ⟨_, rfl, as_one (okS_iff.mp h.ok c hc)⟩
theorem as_upperL : ∀ l : List Nat, (∀ c ∈ l, c < 128) → As l.length (Txt.upper ⟨l.toArray⟩)
  | [], _ => by
    have e : Txt.upper ⟨([] : List Nat).toArray⟩ = Str.empty := by decide +kernel
    rw [e]
    exact ⟨okS_of (by decide +kernel), Nat.le_refl _⟩
  | c :: l, h => by
    have e : (⟨(c :: l).toArray⟩ : Str) = ⟨#[c]⟩ ++ ⟨l.toArray⟩ := PySem.Str.ext' (by rw [PySem.Str.cps_append]; simp)
    rw [e, PySem.W.KOpn.upper_app, PySem.W.KOpn.upper_one (h c List.mem_cons_self)]
    have q := (as_one (c := if 97 ≤ c ∧ c ≤ 122 then c - 32 else c) (by have := h c List.mem_cons_self; split <;> omega)).app (as_upperL l fun d hd => h d (List.mem_cons_of_mem _ hd))
    exact q.up (by rw [List.length_cons]; omega)
theorem As.upper (h : As n z) : As n (Txt.upper z) := by
  have q := as_upperL z.cps.toList (okS_iff.mp h.ok)
  have e : (⟨z.cps.toList.toArray⟩ : Str) = z := PySem.Str.ext' (by simp)
  rw [e] at q
  refine q.up (Nat.le_trans ?_ h.len)
  simp [Str.length]
theorem as_join : ∀ ys : List Str, (∀ y ∈ ys, As n y) → As (ys.length * n) (Txt.join ("" : Str) ys) := by
  intro ys
  rw [TL.join_eq]
  induction ys with
  | nil => intro _; exact ⟨okS_of (by decide +kernel), Nat.zero_le _⟩
  | cons y ys ih =>
    intro h
    cases ys with
    | nil => exact (h y List.mem_cons_self).up (by simp)
    | cons x ys =>
      have q := ih fun z hz => h z (List.mem_cons_of_mem _ hz)
      have e : Str.join ("" : Str) (y :: x :: ys) = y ++ ("" : Str) ++ Str.join ("" : Str) (x :: ys) := rfl
      rw [e]
      have e0 : As 0 ("" : Str) := ⟨okS_of (by decide +kernel), Nat.le_of_ble_eq_true rfl⟩
      refine (((h y List.mem_cons_self).app e0).app q).up ?_
      rw [List.length_cons (a := y), Nat.succ_mul]
      omega
theorem as_two (h : As n z) : As (2 * n) (strRep z 2) := by
  unfold strRep
  split
  · exact h.up (by omega)
  · have e : (⟨(List.replicate (2 : Int).toNat z.cps).foldl (· ++ ·) #[]⟩ : Str) = z ++ z := PySem.Str.ext' (by
      rw [PySem.Str.cps_append]
      show (#[] ++ z.cps) ++ z.cps = _
      simp)
    rw [e]
    exact (h.app h).up (by omega)
theorem as_int {i : Int} {k : Nat} (h : i.natAbs < 2 ^ k) (hk : 0 < k) : As (k + 1) (Str.ofString (toString i)) := ⟨okS_iff.mpr fun c hc => by
  by_cases hb : c < 128
  · exact hb
  · exact absurd hc (int_text_free' c ⟨by omega, .inr (by omega)⟩ i), by
  rw [PySem.ofString_length]
  exact PySem.int_text_length_le hk (by
    by_cases z : i.natAbs = 0
    · rw [z]
      have : Nat.log2 0 = 0 := by decide
      omega
    · exact (Nat.log2_lt z).mpr h)⟩
theorem as_bool (b : Bool) : As 5 (Str.ofString (if b then "True" else "False")) := by
  cases b <;> exact ⟨okS_of (by decide +kernel), by decide +kernel⟩
theorem lim_as {w : PyData} (h : As n a) (g : As m b) (k : n + m ≤ 1000000 := by decide) : lim (a.length + b.length) w = some w := lim_ok (by have := h.len; have := g.len; omega)
theorem lim_as1 {w : PyData} (h : As n a) (k : n ≤ 1000000 := by decide) : lim a.length w = some w := lim_ok (by have := h.len; omega)
/-- by a look at all of a written row -/
def asB (n : Nat) : PyData → Bool
  | .str z => z.cps.all (· < 128) && decide (z.length ≤ n)
  | _ => false
theorem asB_of {d : PyData} (h : asB n d = true) : ∃ y, d = .str y ∧ As n y := by
  cases d with
  | str z =>
    obtain ⟨h1, h2⟩ := Bool.and_eq_true_iff.mp (show (z.cps.all (· < 128) && decide (z.length ≤ n)) = true from h)
    exact ⟨z, rfl, h1, of_decide_eq_true h2⟩
  | _ => exact Bool.noConfusion (show false = true from h)
theorem asB_mem {l : List PyData} {d : PyData} (h : l.all (asB n) = true) (hd : d ∈ l) : ∃ y, d = .str y ∧ As n y := asB_of (List.all_eq_true.mp h d hd)
def inB' (lo hi : Int) : PyData → Bool
  | .int i => decide (lo ≤ i) && decide (i ≤ hi)
  | _ => false
theorem inB_mem {lo hi : Int} {l : List PyData} {d : PyData} (h : l.all (inB' lo hi) = true) (hd : d ∈ l) : ∃ i, d = .int i ∧ lo ≤ i ∧ i ≤ hi := by
  have h := List.all_eq_true.mp h d hd
  cases d with
  | int i =>
    obtain ⟨h1, h2⟩ := Bool.and_eq_true_iff.mp (show (decide (lo ≤ i) && decide (i ≤ hi)) = true from h)
    exact ⟨i, rfl, of_decide_eq_true h1, of_decide_eq_true h2⟩
  | _ => exact Bool.noConfusion (show false = true from h)
theorem sum_as : ∀ ys : List Str, (∀ y ∈ ys, As n y) → (ys.map (·.length)).sum ≤ ys.length * n
  | [], _ => Nat.zero_le _
  | y :: ys, h => by
    have q := sum_as ys fun z hz => h z (List.mem_cons_of_mem _ hz)
    have q2 := (h y List.mem_cons_self).len
    rw [List.map_cons, List.sum_cons, List.length_cons, Nat.succ_mul]
    omega
end
section
variable {S : Type} {X : Cx} {W : Wd S} {ρ : Rho} {s : S} {e : Expr}
theorem dO_none {Ψ : Option Int → S → Prop} (h : Ψ none s) : dO X W ρ s none Ψ := h
theorem dO_some {Ψ : Option Int → S → Prop} (h : dE X W ρ s e fun x s1 => ∃ i : Int, x = .d (.int i) ∧ Ψ (some i) s1) : dO X W ρ s (some e) Ψ := h
end
end Fw

set_option Elab.async false
set_option linter.all false
set_option maxRecDepth 100000
set_option maxHeartbeats 2000000
namespace Fw
open PySem PySem.Spec PyProof.Rows L2
section
variable {X : Cx} {W : Wd Nat} {ρ : Rho} {s : Nat} {Φ : Vl → Nat → Prop} {e tg elt : Expr} {scope : Scope} {i : Nat}
/-- [elt for ..]: each turn costs c, each element keeps p -/
theorem Lc.deck (p : PyData → Prop) (c : Nat) (h : dI X W ρ s tg e fun ds s1 => ds.length < sizeLine ∧
      (∀ D k d, ds[k]? = some d → ∀ b : Bk, dE (bx X scope b) (W.plus D) ((wipR ρ [i]).set i (some (.d d))) (s1 + k * c) elt fun x s4 => ∃ z, x = .d z ∧ p z ∧ s4 = s1 + k * c + c) ∧
      ∀ acc : List PyData, acc.length = ds.length → (∀ z ∈ acc, p z) → Φ (.d (.list acc)) (s1 + ds.length * c)) : Lc X W ρ s scope i tg e elt [] Φ := .mk fun σ H R en j kn => h.go σ H R en j fun J H1 ds s1 e1 j1 it ⟨hl, he, q⟩ =>
    kn J H1 ds s1 e1 j1 it ⟨hl, fun k acc s2 => acc.length = k ∧ (∀ z ∈ acc, p z) ∧ s2 = s1 + k * c, ⟨rfl, by simp, by simp⟩, fun D k d acc s2 hd hi b => by
      obtain ⟨h1, h2, rfl⟩ := hi
      refine ⟨fun _ b => de_imp (he D k d hd b) fun x s4 ⟨z, hx, hz, hs⟩ => ⟨z, hx, by simp [h1], fun y hy => ?_, by rw [hs, Nat.succ_mul]; omega⟩, fun z => Bool.noConfusion z⟩
      rcases List.mem_append.mp hy with w | w
      · exact h2 y w
      · have : y = z := by simpa using w
        rw [this]; exact hz, fun acc s2 ⟨h1, h2, h3⟩ => by subst h3; exact q acc h1 h2⟩
end
section
variable {S : Type} {X : Cx} {W : Wd S} {ρ : Rho} {s : S} {Φ : Vl → S → Prop} {Δ : DE S} {a b c e tg elt : Expr} {ifs : List Expr} {pos py px : Pos} {x y : Str}
/-- a target of any form: τ tells the slots behind it -/
theorem lcG {scope : Scope} {own : List (Str × Nat)} {g : TG} (τ : Rho → PyData → Rho) (okd : PyData → Prop)
    (hG : ∀ (M : Addr → Prop) (H : Hp) (σ : L2.St) (v : V) (d : PyData), okd d → En X.K M H (wipe σ (own.map (·.2))) (wipR ρ (own.map (·.2))) → Dt X.K M H v d → ∀ Q : L2.St → Hp → Prop, (∀ σ2, En X.K M H σ2 (τ (wipR ρ (own.map (·.2))) d) → wipe σ2 (own.map (·.2)) = wipe σ (own.map (·.2)) → Q σ2 H) → g v (wipe σ (own.map (·.2))) H Q)
    (h : dI X W ρ s tg e fun ds s1 => ds.length < sizeLine ∧ (∀ d ∈ ds, okd d) ∧ ∃ Iv : Nat → List PyData → S → Prop, Iv 0 [] s1 ∧
      (∀ D k d acc s2, ds[k]? = some d → Iv k acc s2 → ∀ b : Bk, dE (bx X scope b) (W.plus D) (τ (wipR ρ (own.map (·.2))) d) s2 elt fun x s4 => ∃ z, x = .d z ∧ Iv (k + 1) (acc ++ [z]) s4) ∧
      ∀ acc s2, Iv ds.length acc s2 → Φ (.d (.list acc)) s2) (σ : L2.St) (H : Hp) (Q : VK) (en : En X.K W.M H σ ρ) (j : W.At s H) (kn : Kn X W H Φ Q) :
    tLc (wI X tg e) g tYes (fun σ H Q => ∀ b : Bk, wE (bx X scope b) elt σ H Q) (own.map (·.2)) σ H Q := by
  refine h.go σ H _ en j fun J H1 ds s1 e1 j1 it ⟨hz, hok, Iv, h0, hb, hd⟩ D hD => ?_
  have nD : ¬ W.M D := j1.new hD
  have sD : ∀ {H2 : Hp} {o : HO}, Ex W.C H1 H2 → Ex W.C H1 (upd H2 D o) := fun {H2 o} q a u n z => by
    rw [upd_ne (ne_of_none z hD)]
    exact q a u n z
  refine ⟨fun k m H2 => m = ds.length - k ∧ k ≤ ds.length ∧ Ex W.C H1 H2 ∧ ∃ acc accV s2, (W.plus D).At s2 H2 ∧ H2 D = some (.lst accV) ∧ DtA X.K (W.plus D).M H2 accV acc ∧ acc.length ≤ k ∧ Iv k acc s2, ⟨ds.length, rfl, Nat.zero_le _, sD Ex.rfl', [], [], s1, ⟨W.keep (W.more j1.1 (N' := (W.plus D).M) fun a m n => by
      rcases m with m | m
      · exact absurd m n
      · rw [m]; exact hD) fun a o _ q => by rw [upd_ne (ne_of_none q hD)]; exact q, fun a m => ?_⟩, upd_same, .nil, Nat.le_refl _, h0⟩, ?_⟩
  · rcases m with m | m
    · intro z
      by_cases q : a = D
      · exact nD (q ▸ m)
      · rw [upd_ne q] at z
        exact j1.2 a m z
    · subst m
      intro z
      rw [upd_same] at z
      cases z
  rintro k m H2 ⟨rfl, hk, e2, acc, accV, s2, j2, hD2, dA2, hacc, iv⟩
  by_cases hl' : k < ds.length
  · refine .inr ⟨it.go k H2 e2 hl', fun H3 => Ex W.C H1 H3 ∧ ∃ acc accV s2, (W.plus D).At s2 H3 ∧ H3 D = some (.lst accV) ∧ DtA X.K (W.plus D).M H3 accV acc ∧ acc.length ≤ k + 1 ∧ Iv (k + 1) acc s2, fun H3 ⟨q1, q2⟩ => ⟨ds.length - (k + 1), by omega, rfl, hl', q1, q2⟩, fun v H3 yl => ?_⟩
    have m2 : ∀ a, (W.plus D).M a → ¬ W.M a → H1 a = none := fun a m n => by
      rcases m with m | m
      · exact absurd m n
      · rw [m]; exact hD
    obtain ⟨sm, d, q1, q2⟩ := it.yl (W.plus D).M k H2 v H3 (fun _ m => .inl m) m2 e2 j2.2 yl hl'
    have j3 : (W.plus D).At s2 H3 := j2.same sm
    have e3 : Ex W.C H1 H3 := e2.trans (Ex.of sm)
    have en1 : En X.K (W.plus D).M H1 σ ρ := (W.em e1 en).moreM m2
    refine hG (W.plus D).M H3 σ v d (hok d (List.mem_of_getElem? q1)) (((W.plus D).em e3 en1).wip _) q2 _ fun σ2 en3 hw => ⟨hw, ?_⟩
    refine fun (b : Bk) => ?_
    have hD3 : H3 D = some (.lst accV) := sm D _ hD2
    have nC : ¬ W.C D := fun c => nD (W.sub c)
    have hlen : accV.length = acc.length := dA2.len
    refine (hb D k d acc s2 q1 iv b).go _ H3 _ en3 j3 fun u H5 x s5 e5 j5 v5 ⟨z, hx, hp⟩ => ?_
    subst hx
    have hD5 : H5 D = some (.lst accV) := e5 D _ nC hD3
    refine ⟨accV, hD5, by omega, sD (e3.trans e5), acc ++ [z], accV ++ [u], s5, ⟨W.keep j5.1 fun a o c q => ?_, fun a m => ?_⟩, upd_same, ?_, by simp; omega, hp⟩
    · rw [upd_ne (show a ≠ D from fun w => c.elim (fun c => nC (w ▸ c)) fun c => c (.inr w))]
      exact q
    · by_cases w : a = D
      · rw [w, upd_same]
        exact fun z => nomatch z
      · rw [upd_ne w]
        exact j5.2 a m
    · have q5 : Ex (W.plus D).M H5 (upd H5 D (.lst (accV ++ [u]))) := fun a o n z => by
        rw [upd_ne (fun w => n (.inr w))]
        exact z
      exact (DtA.app (dA2.mono (fun a o n z => e5 a o (fun c => n (.inl (W.sub c))) (sm a o z))) (.cons v5 .nil)).mono q5
  · have ei : k = ds.length := by omega
    subst ei
    refine .inl ⟨it.st _ H2 e2 (Nat.le_refl _), kn _ H2 (.d (.list acc)) s2 (e1.trans e2) ⟨W.less (N := W.M) (N' := (W.plus D).M) j2.1 fun _ m => .inl m, fun a m => j2.2 a (.inl m)⟩ (.lst nD hD2 (dA2.less fun a m => .inl m)) (hd acc s2 iv)⟩
def isPr : PyData → Prop
  | .tuple [_, _] => True
  | _ => False
def prA : PyData → PyData
  | .tuple (a :: _) => a
  | _ => .none
def prB : PyData → PyData
  | .tuple (_ :: b :: _) => b
  | _ => .none
theorem wipe_two (σ : L2.St) (i j : Nat) (u v : V) (hij : i ≠ j) : wipe (((wipe σ [i, j]).set i (some u)).set j (some v)) [i, j] = wipe σ [i, j] := by
  apply List.ext_getElem?
  intro n
  simp only [wipe, List.getElem?_set, List.length_set]
  split
  · rfl
  · split
    · rfl
    · rfl
/-- [elt for x, y in e] -/
theorem de_lcP {scope : Scope} {kt : Nat} {pt : Pos} (h : dI X W ρ s (.Tuple [.Name x px, .Name y py] kt pt) e fun ds s1 => ds.length < sizeLine ∧ (∀ d ∈ ds, isPr d) ∧ ∃ Iv : Nat → List PyData → S → Prop, Iv 0 [] s1 ∧
      (∀ D k d acc s2, ds[k]? = some d → Iv k acc s2 → ∀ b : Bk, dE (bx X scope b) (W.plus D) (((wipR ρ [X.N.idxOf x, X.N.idxOf y]).set (X.N.idxOf x) (some (.d (prA d)))).set (X.N.idxOf y) (some (.d (prB d)))) s2 elt fun x s4 => ∃ z, x = .d z ∧ Iv (k + 1) (acc ++ [z]) s4) ∧
      ∀ acc s2, Iv ds.length acc s2 → Φ (.d (.list acc)) s2) (nd : X.N.Nodup) (ok : BlkOk X.N X.env.scope scope [(x, X.N.idxOf x), (y, X.N.idxOf y)]) (hij : X.N.idxOf x ≠ X.N.idxOf y) (hN1 : X.N[X.N.idxOf x]? = some x := by rfl) (hN2 : X.N[X.N.idxOf y]? = some y := by rfl) (hc : X.calm = true := by rfl)
    (hl1 : ∀ b : Bk, Loc (bx X scope b).env.scope x := by intro _; first | exact .inl rfl | exact .inr rfl) (hf1 : ∀ b : Bk, (bx X scope b).fn x = true ∨ (bx X scope b).env.scope.names.lookup x = some .local := by intro _; first | exact .inl rfl | exact .inr rfl)
    (hl2 : ∀ b : Bk, Loc (bx X scope b).env.scope y := by intro _; first | exact .inl rfl | exact .inr rfl) (hf2 : ∀ b : Bk, (bx X scope b).fn y = true ∨ (bx X scope b).env.scope.names.lookup y = some .local := by intro _; first | exact .inl rfl | exact .inr rfl)
    (hs : ∀ x, foldedSetIterable e X.env x = pure x := by intro _; rfl) (ha : ∀ b : Bk, (assignEach [.Name x px, .Name y py] (bx X scope b).env).map (·.2) = [assign (.Name x px) (bx X scope b).env, assign (.Name y py) (bx X scope b).env] := by intro _; rfl)
    (ha2 : ∀ b : Bk, (assignEach [.Name y py] (bx X scope b).env).map (·.2) = [assign (.Name y py) (bx X scope b).env] := by intro _; rfl)
    (hn : ∀ b : Bk, (assignEach [.Name x px, .Name y py] (bx X scope b).env).length = 2 := by intro _; rfl) (hst : ∀ b : Bk, (assignEach [.Name x px, .Name y py] (bx X scope b).env).findIdx? (·.1) = none := by intro _; rfl) :
    dE X W ρ s (.ListComp elt [⟨.Tuple [.Name x px, .Name y py] kt pt, e, [], 0⟩] scope pos) Φ := .mk fun σ H Q en j kn => by
  refine toE (pe_lc (own := [(x, X.N.idxOf x), (y, X.N.idxOf y)]) (g := gTup X.K 2 (gCons (gName (X.N.idxOf x)) (gCons (gName (X.N.idxOf y)) gNil))) (te := fun σ H Q => ∀ b : Bk, wE (bx X scope b) elt σ H Q) hc nd iw ok (fun a1 a2 a3 a4 a5 => ?_) (fun a1 a2 a3 a4 a5 => pts_nil) (fun a1 a2 a3 a4 a5 => ⟨fun pins s' _ _ _ I q => q ⟨a1, a2, a3, a4, a5⟩ pins s' I⟩) hs) ?_
  · have hcb : (bx X scope ⟨a1, a2, a3, a4, a5⟩).calm = true := hc
    exact pg_tup (X := bx X scope ⟨a1, a2, a3, a4, a5⟩) hcb (pgs_cons (pg_name nd hN1 (hl1 ⟨a1, a2, a3, a4, a5⟩) (hf1 ⟨a1, a2, a3, a4, a5⟩)) (pgs_cons (pg_name nd hN2 (hl2 ⟨a1, a2, a3, a4, a5⟩) (hf2 ⟨a1, a2, a3, a4, a5⟩)) pgs_nil (ha2 ⟨a1, a2, a3, a4, a5⟩)) (ha ⟨a1, a2, a3, a4, a5⟩)) (hn ⟨a1, a2, a3, a4, a5⟩) (hst ⟨a1, a2, a3, a4, a5⟩)
  · refine lcG (own := [(x, X.N.idxOf x), (y, X.N.idxOf y)]) (fun ρ d => (ρ.set (X.N.idxOf x) (some (.d (prA d)))).set (X.N.idxOf y) (some (.d (prB d)))) isPr ?_ h σ H Q en j kn
    intro M H σ v d hd en hv Q hQ
    cases d with
    | tuple ds =>
      match ds, hd with
      | [d1, d2], _ =>
        obtain ⟨l, xs, rfl, q1, q2, _⟩ := hv.isT
        cases q2 with
        | cons c1 c2 =>
          cases c2 with
          | cons c2 c3 =>
            cases c3
            refine ⟨l, _, rfl, q1, rfl, _, _, rfl, _, _, rfl, rfl, hQ _ ((en.set _ (x := .d d1) c1).set _ (x := .d d2) c2) (wipe_two σ _ _ _ _ hij)⟩
    | _ => exact hd.elim
end
end Fw

set_option Elab.async false
set_option linter.all false
set_option maxRecDepth 100000
set_option maxHeartbeats 2000000
namespace Fw
open PySem PySem.Spec PyProof.Rows L2
/-! ### objects that a body owns -/
structure Ow (K : PySem.W.Frag) (T : Type) where
  R : (Addr → Prop) → T → HO → Hp → Prop
  fz : Addr → T → Vl
  mono : ∀ {N : Addr → Prop} {t : T} {o : HO} {H H' : Hp}, Ex N H H' → R N t o H → R N t o H'
  more : ∀ {N N' : Addr → Prop} {t : T} {o : HO} {H : Hp}, R N t o H → (∀ b, N' b → ¬ N b → H b = none) → R N' t o H
  less : ∀ {N N' : Addr → Prop} {t : T} {o : HO} {H : Hp}, R N' t o H → (∀ b, N b → N' b) → R N t o H
  frz : ∀ {N : Addr → Prop} {t : T} {o : HO} {H : Hp} {a : Addr}, ¬ N a → H a = some o → R N t o H → Vt K N H (.ref a) (fz a t)
def Wd.own {S T : Type} {K : PySem.W.Frag} (W : Wd S) (a : Addr) (κ : Ow K T) : Wd (S × T) where
  M := fun b => W.M b ∨ b = a
  C := fun b => W.C b ∨ b = a
  J := fun N st H => W.J N st.1 H ∧ ∃ o, H a = some o ∧ κ.R N st.2 o H
  sub := fun h => h.imp_left W.sub
  keep := fun ⟨h, o, h1, h2⟩ k => ⟨W.keep h fun b o c => k b o (c.imp_left .inl), o, k a o (.inl (.inr rfl)) h1, κ.mono (fun b o n => k b o (.inr n)) h2⟩
  more := fun ⟨h, o, h1, h2⟩ k => ⟨W.more h k, o, h1, κ.more h2 k⟩
  less := fun ⟨h, o, h1, h2⟩ k => ⟨W.less h k, o, h1, κ.less h2 k⟩
/-- a list of data; a list of objects; an instance -/
def LD (K : PySem.W.Frag) : Ow K (List PyData) where
  R := fun N l o H => ∃ xs, o = .lst xs ∧ DtA K N H xs l
  fz := fun _ l => .d (.list l)
  mono := fun e ⟨xs, h1, h2⟩ => ⟨xs, h1, h2.mono e⟩
  more := fun ⟨xs, h1, h2⟩ k => ⟨xs, h1, h2.more k⟩
  less := fun ⟨xs, h1, h2⟩ k => ⟨xs, h1, h2.less k⟩
  frz := fun n h ⟨xs, h1, h2⟩ => Dt.lst n (by rw [h, h1]) h2
def LO (K : PySem.W.Frag) : Ow K (List Ob) where
  R := fun N l o H => ∃ xs, o = .lst xs ∧ OtA K N H xs l
  fz := fun _ l => .o (.lst l)
  mono := fun e ⟨xs, h1, h2⟩ => ⟨xs, h1, h2.mono e⟩
  more := fun ⟨xs, h1, h2⟩ k => ⟨xs, h1, h2.more k⟩
  less := fun ⟨xs, h1, h2⟩ k => ⟨xs, h1, h2.less k⟩
  frz := fun n h ⟨xs, h1, h2⟩ => Ot.lst n (by rw [h, h1]) h2
def IN (K : PySem.W.Frag) (C : Addr) : Ow K (List (Str × Ob)) where
  R := fun N l o H => ∃ dx xs, o = .ins C dx xs ∧ OtF K N H xs l
  fz := fun _ l => .o (.ins C l)
  mono := fun e ⟨dx, xs, h1, h2⟩ => ⟨dx, xs, h1, h2.mono e⟩
  more := fun ⟨dx, xs, h1, h2⟩ k => ⟨dx, xs, h1, h2.more k⟩
  less := fun ⟨dx, xs, h1, h2⟩ k => ⟨dx, xs, h1, h2.less k⟩
  frz := fun n h ⟨dx, xs, h1, h2⟩ => Ot.ins (dx := dx) n (by rw [h, h1]) h2
def IsK.over {T : Deck} {S U : Type} {K : PySem.W.Frag} {W : Wd S} {t : T.D} {κ : Ow K U} (h : IsK T W t) (a : Addr) (n : ¬ W.M a) : IsK T (W.own a κ) t where
  get := fun s => h.get s.1
  put := fun s m => (h.put s.1 m, s.2)
  C := fun b c => .inl (h.C b c)
  J := fun j => h.J j.1
  up := fun ⟨j, o, h1, h2⟩ c e q => ⟨h.up j c e q, o, e a o (fun z => n (W.sub (h.C a z))) h1, κ.mono (fun b o nb => e b o fun z => nb (c b z)) h2⟩
/-- what an owned object is when it is no longer changed -/
def Frz (a : Addr) (z x y : Vl) : Prop := y = x ∨ (x = .v (.ref a) ∧ y = z)
structure FrzR (a : Addr) (z : Vl) (ρ ρ' : Rho) : Prop where
  len : ρ'.length = ρ.length
  at_ : ∀ (i : Nat) y, ρ'[i]? = some (some y) → ∃ x, ρ[i]? = some (some x) ∧ Frz a z x y
/-- frozen slots, slot by slot -/
inductive FrzL (a : Addr) (z : Vl) : Rho → Rho → Prop
  | nil : FrzL a z [] []
  | same {x : Option Vl} {ρ ρ' : Rho} : FrzL a z ρ ρ' → FrzL a z (x :: ρ) (x :: ρ')
  | drop {x : Option Vl} {ρ ρ' : Rho} : FrzL a z ρ ρ' → FrzL a z (x :: ρ) (none :: ρ')
  | it {ρ ρ' : Rho} : FrzL a z ρ ρ' → FrzL a z (some (.v (.ref a)) :: ρ) (some z :: ρ')
theorem FrzL.r {a : Addr} {z : Vl} : ∀ {ρ ρ' : Rho}, FrzL a z ρ ρ' → FrzR a z ρ ρ'
  | _, _, .nil => ⟨rfl, fun i y e => by simp at e⟩
  | _, _, .same h => ⟨congrArg (· + 1) h.r.len, fun i y e => by
    cases i with
    | zero => exact ⟨y, e, .inl rfl⟩
    | succ i => exact h.r.at_ i y e⟩
  | _, _, .drop h => ⟨congrArg (· + 1) h.r.len, fun i y e => by
    cases i with
    | zero => cases e
    | succ i => exact h.r.at_ i y e⟩
  | _, _, .it h => ⟨congrArg (· + 1) h.r.len, fun i y e => by
    cases i with
    | zero => cases e; exact ⟨_, rfl, .inr ⟨rfl, rfl⟩⟩
    | succ i => exact h.r.at_ i y e⟩
def DE.own {S T : Type} {K : PySem.W.Frag} (Δ : DE S) (a : Addr) (κ : Ow K T) : DE (S × T) where
  nx := fun ρ st => ∃ ρ', FrzL a (κ.fz a st.2) ρ ρ' ∧ Δ.nx ρ' st.1
  rt := fun x st => ∃ y, Frz a (κ.fz a st.2) x y ∧ Δ.rt y st.1
  bk := fun ρ st => ∃ ρ', FrzL a (κ.fz a st.2) ρ ρ' ∧ Δ.bk ρ' st.1
  ct := fun ρ st => ∃ ρ', FrzL a (κ.fz a st.2) ρ ρ' ∧ Δ.ct ρ' st.1
section
variable {S T : Type} {X : Cx} {W : Wd S} {ρ : Rho} {s : S} {Φ : Vl → S → Prop} {Δ : DE S} {a b c e o : Expr} {es : List Expr} {pos p p2 apos : Pos} {x m f : Str} {st : Stmt} {sts rest : List Stmt}
theorem Wd.own_at {κ : Ow X.K T} {H H1 : Hp} {l : Addr} {ob : HO} {t : T} (j : W.At s H) (hl : H l = none) (hs : Same H H1) (h1 : H1 l = some ob) (hR : κ.R W.M t ob H1) (hN : ∀ b, W.M b → b ≠ l) (hR2 : κ.R (W.own l κ).M t ob H1) : (W.own l κ).At (s, t) H1 := by
  refine ⟨⟨?_, ob, h1, hR2⟩, fun b m => ?_⟩
  · have j1 : W.J (W.own l κ).M s H := W.more j.1 fun b m n => by
      rcases m with m | m
      · exact absurd m n
      · rw [m]; exact hl
    exact W.keep j1 fun b o _ q => hs b o q
  · rcases m with m | m
    · intro z
      cases q : H b with
      | none => exact j.2 b m q
      | some o => rw [hs b o q] at z; cases z
    · rw [m, h1]
      exact fun z => nomatch z
theorem frz_vt {κ : Ow X.K T} {H : Hp} {l : Addr} {v : V} {y y' : Vl} {t : T} {s : S} (n : ¬ W.M l) (j : (W.own l κ).At (s, t) H) (hv : Vt X.K (W.own l κ).M H v y) (h : Frz l (κ.fz l t) y y') : Vt X.K W.M H v y' := by
  rcases h with h | ⟨h1, h2⟩
  · subst h
    exact hv.less fun b m => .inl m
  · subst h1 h2
    obtain ⟨⟨_, ob, h3, h4⟩, _⟩ := j
    cases (show v = .ref l from hv)
    exact κ.frz n h3 (κ.less h4 fun b m => .inl m)
theorem frz_en {κ : Ow X.K T} {H : Hp} {l : Addr} {σ : L2.St} {ρ ρ' : Rho} {t : T} {s : S} (n : ¬ W.M l) (j : (W.own l κ).At (s, t) H) (en : En X.K (W.own l κ).M H σ ρ) (h : FrzL l (κ.fz l t) ρ ρ') : En X.K W.M H σ ρ' :=
  ⟨en.len.trans h.r.len.symm, fun i y q => by
    obtain ⟨x, q1, q2⟩ := h.r.at_ i y q
    obtain ⟨v, q3, q4⟩ := en.at_ i x q1
    exact ⟨v, q3, frz_vt n j q4 q2⟩⟩
theorem own_back {κ : Ow X.K T} {H : Hp} {l : Addr} {t : T} {s : S} (j : (W.own l κ).At (s, t) H) : W.At s H := ⟨W.less (N := W.M) j.1.1 fun _ m => .inl m, fun b m => j.2 b (.inl m)⟩
/-- a block in which the object at l, new, is owned -/
theorem own_block {κ : Ow X.K T} {H H1 : Hp} {l : Addr} {σ : L2.St} {D : Ends} {t : T} {s : S} (nM : ¬ W.M l) (hl : H l = none) (hs : Same H H1) (en : En X.K W.M H σ ρ) (h : dB X (W.own l κ) ρ (s, t) sts (Δ.own l κ)) (j : (W.own l κ).At (s, t) H1) (kn : KnS X W H Δ D) : wB X sts D σ H1 := by
  have en1 : En X.K (W.own l κ).M H σ ρ := en.moreM fun b m n => by
    rcases m with m | m
    · exact absurd m n
    · rw [m]; exact hl
  have ex : ∀ {H2 : Hp}, Ex (W.own l κ).C H1 H2 → Ex W.C H H2 := fun {H2} e b o n q => e b o (fun c => by
    rcases c with c | c
    · exact n c
    · rw [c, hl] at q; cases q) (hs b o q)
  refine h.go σ H1 D (en1.mono (Ex.of hs)) j ⟨?_, ?_, ?_, ?_⟩
  · rintro σ2 H2 ρ2 ⟨s2, t2⟩ e2 j2 en2 ⟨ρ3, f3, q⟩
    exact kn.nx σ2 H2 ρ3 s2 (ex e2) (own_back j2) (frz_en nM j2 en2 f3) q
  · rintro v H2 y ⟨s2, t2⟩ e2 j2 v2 ⟨y3, f3, q⟩
    exact kn.rt v H2 y3 s2 (ex e2) (own_back j2) (frz_vt nM j2 v2 f3) q
  · rintro σ2 H2 ρ2 ⟨s2, t2⟩ e2 j2 en2 ⟨ρ3, f3, q⟩
    exact kn.bk σ2 H2 ρ3 s2 (ex e2) (own_back j2) (frz_en nM j2 en2 f3) q
  · rintro σ2 H2 ρ2 ⟨s2, t2⟩ e2 j2 en2 ⟨ρ3, f3, q⟩
    exact kn.ct σ2 H2 ρ3 s2 (ex e2) (own_back j2) (frz_en nM j2 en2 f3) q
/-- x = [e, ..]: a list that is owned from here on -/
theorem db_ownL {p' : Pos} (h : dA X W ρ s es fun xs s1 => AllD xs fun ds => ds.length ≤ sizeLine ∧ ∀ l, ¬ W.M l → dB X (W.own l (LD X.K)) (ρ.set (X.N.idxOf x) (some (.v (.ref l)))) (s1, ds) rest (Δ.own l (LD X.K))) (nd : X.N.Nodup)
    (hN : X.N[X.N.idxOf x]? = some x := by rfl) (hx : Loc X.env.scope x := by first | exact .inl rfl | exact .inr rfl) (hs : swapsWith (.List es pos) (some (.Name x p')) p.line X.env = pure false := by rfl)
    (hf : X.fn x = true ∨ X.env.scope.names.lookup x = some .local := by first | exact .inl rfl | exact .inr rfl) : dB X W ρ s (.Assign [.Name x p'] (.List es pos) p :: rest) Δ := .mk fun σ H D en j kn =>
  toB (pss_cons (ps_set nd hN hx (pe_lst aw) hs hf) bw) (h.go σ H _ en j fun vs H1 xs s1 e1 j1 v1 ⟨ds, hd, hl, hb⟩ => by
    have q := allD_ok hd v1
    refine ⟨by rw [q.len]; exact hl, fun l nl => ?_⟩
    have nM := j1.new nl
    have sm := same_new (o := .lst vs) nl
    have m2 : ∀ b, (W.own l (LD X.K)).M b → ¬ W.M b → H1 b = none := fun b m n => by
      rcases m with m | m
      · exact absurd m n
      · rw [m]; exact nl
    refine own_block (κ := LD X.K) nM nl sm ((W.em e1 en).set _ (x := .v (.ref l)) rfl) (hb l nM) ?_ (kn.ex e1)
    exact Wd.own_at j1 nl sm upd_same ⟨vs, rfl, q.mono (Ex.of sm)⟩ (fun b m z => nM (z ▸ m)) ⟨vs, rfl, (q.more m2).mono (Ex.of sm)⟩)
/-- x = []: a list of objects -/
theorem db_ownO {p' : Pos} (h : ∀ l, ¬ W.M l → dB X (W.own l (LO X.K)) (ρ.set (X.N.idxOf x) (some (.v (.ref l)))) (s, []) rest (Δ.own l (LO X.K))) (nd : X.N.Nodup)
    (hN : X.N[X.N.idxOf x]? = some x := by rfl) (hx : Loc X.env.scope x := by first | exact .inl rfl | exact .inr rfl) (hs : swapsWith (.List [] pos) (some (.Name x p')) p.line X.env = pure false := by rfl)
    (hf : X.fn x = true ∨ X.env.scope.names.lookup x = some .local := by first | exact .inl rfl | exact .inr rfl) : dB X W ρ s (.Assign [.Name x p'] (.List [] pos) p :: rest) Δ := .mk fun σ H D en j kn =>
  toB (pss_cons (ps_set nd hN hx (pe_lst pa_nil) hs hf) bw) (by
    refine ⟨Nat.zero_le _, fun l nl => ?_⟩
    have nM := j.new nl
    have sm := same_new (o := .lst []) nl
    refine own_block (κ := LO X.K) nM nl sm (en.set _ (x := .v (.ref l)) rfl) (h l nM) ?_ kn
    exact Wd.own_at j nl sm upd_same ⟨[], rfl, .nil⟩ (fun b m z => nM (z ▸ m)) ⟨[], rfl, .nil⟩)
theorem execs_app {M : Model} {A : Around} {E : Value → Shared → Prop} {env : Env} {l1 l2 : List Stmt} {Q : Flow → Shared → Prop} {sh : Shared}
    (h : wpAny M A (execs l1 env) (fun f s' => match f with | .next => wpAny M A (execs l2 env) Q E s' | f => Q f s') E sh) : wpAny M A (execs (l1 ++ l2) env) Q E sh := by
  intro Γ p hΓ
  replace h := h Γ p hΓ
  induction l1 generalizing p sh with
  | nil =>
    have h' : wpAny M A (execs l2 env) Q E sh := h
    exact h' Γ p hΓ
  | cons t r ih =>
    rw [List.cons_append, execs_cons, Sem.wp_bind']
    rw [execs_cons, Sem.wp_bind'] at h
    refine Sem.wp_mono M Γ _ (fun f p' s' h' => ?_) (fun _ _ _ h' => h') _ _ h
    cases f with
    | next => exact ih p' h'
    | _ => exact h'
/-- the first n statements, then the others -/
theorem db_seq (n : Nat) (h : dB X W ρ s (sts.take n) { Δ with nx := fun ρ1 s1 => dB X W ρ1 s1 (sts.drop n) Δ }) : dB X W ρ s sts Δ := by
  have e : sts.take n ++ sts.drop n = sts := List.take_append_drop n sts
  rw [← e]
  refine .mk fun σ H D en j kn pins sh I => ?_
  refine execs_app (thn (h.go σ H { D with nx := fun σ1 H1 => wB X (sts.drop n) D σ1 H1 } en j ⟨fun σ2 H2 ρ2 s2 e2 j2 en2 q => q.go σ2 H2 D en2 j2 (kn.ex e2), kn.rt, kn.bk, kn.ct⟩ pins sh I) fun f s1 q => ?_)
  cases f with
  | next =>
    obtain ⟨σ', H', I', q⟩ := q
    exact q pins s1 I'
  | _ => exact q
end
end Fw

set_option Elab.async false
set_option linter.all false
set_option maxRecDepth 100000
set_option maxHeartbeats 2000000
namespace Fw
open PySem PySem.Spec PyProof.Rows L2
/-! ### promises over values of any form -/
def spP (K : PySem.W.Frag) (pre : List Vl → Prop) (f : List Vl → Vl) : Sp := fun vs H Q _ => ∃ (M : Addr → Prop) (xs : List Vl), (∀ b, M b → H b ≠ none) ∧ Paired (Vt K M H) vs xs ∧ pre xs ∧ ∀ v H', Same H H' → Vt K M H' v (f xs) → Q v H'
theorem pairedV_len {K : PySem.W.Frag} {M : Addr → Prop} {H : Hp} : ∀ {vs : List V} {xs : List Vl}, Paired (Vt K M H) vs xs → vs.length = xs.length
  | _, _, .nil => rfl
  | _, _, .cons _ h => congrArg (· + 1) (pairedV_len h)
theorem pairedV_get {K : PySem.W.Frag} {M : Addr → Prop} {H : Hp} : ∀ {vs : List V} {xs : List Vl} {i : Nat} {x : Vl}, Paired (Vt K M H) vs xs → xs[i]? = some x → ∃ v, vs[i]? = some v ∧ Vt K M H v x
  | _, _, _, _, .nil, e => by simp at e
  | _, _, 0, _, .cons a _, e => by simp at e; subst e; exact ⟨_, rfl, a⟩
  | _, _, i + 1, _, .cons _ b, e => by
    obtain ⟨v, h1, h2⟩ := pairedV_get (i := i) b (by simpa using e)
    exact ⟨v, by simpa using h1, h2⟩
def rhoV (N : List Str) (xs : List Vl) : Rho := xs.map some ++ List.replicate (N.length - xs.length) none
theorem en_startV {K : PySem.W.Frag} {M : Addr → Prop} {H : Hp} {N : List Str} {vs : List V} {xs : List Vl} (h : Paired (Vt K M H) vs xs) : En K M H (L2.start N vs) (rhoV N xs) :=
  En.start (pairedV_len h) fun _ _ e => pairedV_get h e
/-- where a def stands that is found by its address -/
structure SrcF (K : PySem.W.Frag) (f : Addr) (x qual : Str) (st : Stmt) (dvs : List V) : Prop where
  ex : ∃ fd : FuncData, FunD K x qual (defArgs st) (defBody st) (defScope st) dvs [] f fd
/-- a def by its address, its promise -/
structure FnA (P : Program) (w : World) (K : PySem.W.Frag) (mg : Str → Option Value) (base : Heap) (CX : CXT) (k : Nat) (f : Addr) (ps : List Str) (dvs : List V) (sp : Sp) : Prop where
  ex : ∃ (fd : FuncData) (ds : List Value), FnG P w K mg base CX k f fd ps sp ∧ Vals dvs ds ∧ Binds K fd ps [] ∧ Binds K fd ps ds
section
variable {P : Program} {w : World} {K : PySem.W.Frag} {mg : Str → Option Value} {base : Heap} {CX : CXT} {k : Nat} {ps : List Str} {sp : Sp} {x qual : Str} {st : Stmt} {f : Addr} {dvs : List V} {N : List Str}
theorem FnA.up {j : Nat} (F : FnA P w K mg base CX j f ps dvs sp) (h : j ≤ k) : FnA P w K mg base CX k f ps dvs sp :=
  let ⟨fd, ds, a, b, c, d⟩ := F.ex; ⟨fd, ds, a.up h, b, c, d⟩
theorem FnA.weak {sp' : Sp} (F : FnA P w K mg base CX k f ps dvs sp) (h : ∀ vs H Q E, sp' vs H Q E → sp vs H Q E) : FnA P w K mg base CX k f ps dvs sp' :=
  let ⟨fd, ds, a, b, c, d⟩ := F.ex; ⟨fd, ds, a.weak h, b, c, d⟩
/-- a def without defaults -/
theorem SrcF.ok (F : SrcF K f x qual st []) (S : FnScope N ps (defScope st)) (cnt : ∀ vs H Q E, sp vs H Q E → vs.length = ps.length)
    (hbd : ∀ (kV doc pm : Value) (an : Option Addr) (cd ct : Value) (us : List Value), us.length = ps.length → bindArgs (PySem.W.fnOf x qual (defArgs st) (defBody st) (defScope st) .none kV doc pm an cd ct) ⟨us, []⟩ = pure (ps.zip us))
    (hb : ∀ (cd : Value) (A : Around) (fr : List Env) (s : Shared) (vs : List V) (H : Hp) (Q : VK) (E : XK), (A.deeper (envOfC qual (defScope st) s.heap.objs.size f cd)).guards = some [] → Room k (A.deeper (envOfC qual (defScope st) s.heap.objs.size f cd)) → sp vs H Q E →
      ∃ t, PSs (cxOf CX P w K mg base N qual (defScope st) f cd A fr s H E).nox (defBody st) t ∧ t { nx := fun _ H' => Q .non H', rt := Q } (start N vs) H) : FnA P w K mg base CX (k + 1) f ps [] sp := by
  obtain ⟨fd, F⟩ := F.ex
  have hbs := FunD.bindsA (ps := ps) F hbd
  refine ⟨fd, [], FnG.of_body F S cnt (fun cd A fr s H vs Q E g r q => ?_), .nil, ?_, ?_⟩
  · obtain ⟨t, h1, h2⟩ := hb cd A fr s vs H Q E g r q
    exact ⟨t, h1.nox, h2⟩
  · intro s us _ hl
    rw [List.append_nil] at hl ⊢
    exact hbs s us hl
  · intro s us _ hl
    rw [List.append_nil] at hl ⊢
    exact hbs s us hl
end
section
variable {X : Cx} {CX : CXT} {k : Nat} {f C : Addr} {ps : List Str} {dvs : List V} {sp : Sp} {E : XK} {x m : Str} {p pos apos : Pos} {e o : Expr} {es : List Expr} {t : TA} {ta : TE}
/-- the callee runs, all arguments given -/
theorem FnA.run {pins : List (Addr × Obj)} {σ : L2.St} {H : Hp} {s : Shared} {Q : VK} {us : List Value} {vs : List V} (F : FnA X.prog X.w X.K X.mg X.base CX k f ps dvs sp) (g : X.A.guards = some []) (r : Room k X.A) (hx : Passes CX X E) (I : Inv X pins σ H s) (rv : Vals vs us) (h : sp vs H Q E) :
    wpAny (model X.prog X.w) X.A (call (.ref f) us) (EP X pins σ Q) X.xe s := by
  obtain ⟨fd, ds, G, _, b, _⟩ := F.ex
  have hl : us.length = ps.length := rv.length.symm.trans (G.cnt _ _ _ _ h)
  have hb := b s us I.kIn (by rw [List.append_nil]; exact hl)
  rw [List.append_nil] at hb
  exact goes G g r hb hx I rv h
theorem FnA.runD {pins : List (Addr × Obj)} {σ : L2.St} {H : Hp} {s : Shared} {Q : VK} {us : List Value} {vs : List V} (F : FnA X.prog X.w X.K X.mg X.base CX k f ps dvs sp) (g : X.A.guards = some []) (r : Room k X.A) (hx : Passes CX X E) (I : Inv X pins σ H s) (rv : Vals vs us) (h : sp (vs ++ dvs) H Q E) :
    wpAny (model X.prog X.w) X.A (call (.ref f) us) (EP X pins σ Q) X.xe s := by
  obtain ⟨fd, ds, G, rd, _, b⟩ := F.ex
  have rv2 := rv.append rd
  have hl : (us ++ ds).length = ps.length := rv2.length.symm.trans (G.cnt _ _ _ _ h)
  exact goes G g r (b s us I.kIn hl) hx I rv2 h
/-- o.m(e, ..) -/
theorem pe_mg {pl : Sem Bool} (he : PE X o ta) (c : Cls X.K C) (hm : Meth X.K C m f) (F : FnA X.prog X.w X.K X.mg X.base CX k f ps dvs sp) (g : X.A.guards = some []) (r : Room k X.A) (hx : Passes CX X E) (ha : PA X (e :: es) t)
    (h1 : starEach (e :: es) X.env = (false, eval e X.env) :: starEach es X.env := by rfl) (h2 : (backTo pos (starEach es X.env)).any (·.1) = false := by rfl)
    (h3 : eval (.Call (.Attribute o m apos) (e :: es) [] pos) X.env = (do let ov ← eval o X.env; standAt apos.atName; let (f, first) ← holding [ov] (getMethod ov m pl); callWith pos f first (backTo pos (starEach (e :: es) X.env)) (backToKw pos (keywordEach [] X.env))) := by rfl) :
    PE X (.Call (.Attribute o m apos) (e :: es) [] pos) (tMeth C m sp [] E ta t) := by
  refine ⟨fun pins s σ H Q I h => PySem.W.methodCall_KW (pl := pl) (thn (he.run pins s σ H _ I h) fun u s1 ⟨y, H1, J, ry, a, dx, fs, ey, ea, l, q⟩ => ?_) h3⟩
  subst ey; obtain rfl : u = Value.ref a := ry
  refine getmeth_ok J ea c hm l (PySem.W.callWith_K (first := [.ref a]) (h₀ := X.base) I.ok.mod.kin hm.kp (thn (ha.run pos pins s1 σ H1 _ J q) fun us s2 ⟨vs, H2, J2, rv, q2⟩ => ⟨J2.kIn, ?_⟩) h1 h2)
  have q3 : sp (.ref a :: (vs ++ [])) H2 Q E := q2
  rw [List.append_nil] at q3
  exact F.run (us := .ref a :: us) (vs := .ref a :: vs) g r hx J2 (.cons rfl rv) q3
theorem pe_mg0 {pl : Sem Bool} (he : PE X o ta) (c : Cls X.K C) (hm : Meth X.K C m f) (F : FnA X.prog X.w X.K X.mg X.base CX k f ps dvs sp) (g : X.A.guards = some []) (r : Room k X.A) (hx : Passes CX X E)
    (h3 : eval (.Call (.Attribute o m apos) [] [] pos) X.env = (do let ov ← eval o X.env; standAt apos.atName; let (f, first) ← holding [ov] (getMethod ov m pl); callWith pos f first (backTo pos (starEach [] X.env)) (backToKw pos (keywordEach [] X.env))) := by rfl) :
    PE X (.Call (.Attribute o m apos) [] [] pos) (tMeth C m sp [] E ta tNil) := by
  refine ⟨fun pins s σ H Q I h => PySem.W.methodCall_KW (pl := pl) (thn (he.run pins s σ H _ I h) fun u s1 ⟨y, H1, J, ry, a, dx, fs, ey, ea, l, q⟩ => ?_) h3⟩
  subst ey; obtain rfl : u = Value.ref a := ry
  exact getmeth_ok J ea c hm l (PySem.W.callWith_K0 (first := [.ref a]) J.kIn hm.kp (F.run (us := [.ref a]) (vs := [.ref a]) g r hx J (.cons rfl .nil) q))
theorem guards_make {A : Around} {C : Addr} {us : List Value} (g : A.guards = some []) : (A.under (.builtin "type.__call__" ⟨.ref C :: us, []⟩)).guards = some [] := by
  have e : (Code.builtin "type.__call__" { pos := Value.ref C :: us }).isGuard = false := by first | rfl | simp [Code.isGuard]
  simp [Around.under, g, Code.guards, pushGuards, e]
/-- a new instance -/
theorem FnA.make {pins : List (Addr × Obj)} {σ : L2.St} {H : Hp} {s : Shared} {Q : VK} {us : List Value} {vs : List V} (M : Mk X.K C f) (F : FnA X.prog X.w X.K X.mg X.base CX k f ps dvs sp) (g : X.A.guards = some []) (r : Room (k + 1) X.A) (hx : Passes CX X E) (I : Inv X pins σ H s) (rv : Vals vs us) (full : Bool)
    (h : ∀ x dx, H x = none → H dx = none → dx ≠ x → sp (.ref x :: (vs ++ if full = true then [] else dvs)) (upd (upd H dx (.own x)) x (.ins C dx [])) (fun v H2 => v = .non ∧ Q (.ref x) H2) E) :
    wpAny (model X.prog X.w) X.A (call (.ref C) us) (EP X pins σ Q) X.xe s := by
  have hq := h (s.heap.objs.size + 1) s.heap.objs.size (I.hok.fresh (Nat.le_succ _)) (I.hok.fresh (Nat.le_refl _)) (Nat.ne_of_lt (Nat.lt_succ_self _))
  have J := Inv.made (C := C) I
  obtain ⟨fd, ds, G, rd, b1, b2⟩ := F.ex
  have key : ∀ (dV : List V) (dU : List Value), Vals dV dU → Binds X.K fd ps dU → sp (.ref (s.heap.objs.size + 1) :: (vs ++ dV)) (upd (upd H s.heap.objs.size (.own (s.heap.objs.size + 1))) (s.heap.objs.size + 1) (.ins C s.heap.objs.size [])) (fun v H2 => v = .non ∧ Q (.ref (s.heap.objs.size + 1)) H2) E →
      wpAny (model X.prog X.w) X.A (call (.ref C) us) (EP X pins σ Q) X.xe s := by
    intro dV dU rd b hq
    have rv2 : Vals (V.ref (s.heap.objs.size + 1) :: (vs ++ dV)) (Value.ref (s.heap.objs.size + 1) :: (us ++ dU)) := .cons rfl (rv.append rd)
    have hl : (Value.ref (s.heap.objs.size + 1) :: us ++ dU).length = ps.length := by
      have e := rv2.length
      rw [G.cnt _ _ _ _ hq] at e
      exact e.symm
    refine wpAny_call (make_map (f := f) I.kIn M.makes M.init (beq_iff_eq.mp M.fn) (codeAny_mono (G.go _ X.stack _ _ ⟨Value.ref (s.heap.objs.size + 1) :: us, []⟩ (Value.ref (s.heap.objs.size + 1) :: (us ++ dU)) _ _ E (guards_make g) (r.make C us []) (J.env0.make C us []) (b _ (Value.ref (s.heap.objs.size + 1) :: us) J.kIn hl) rv2 hq) fun res s' z => ?_))
    match res, z with
    | .error er, z => exact hx pins σ _ _ er s' J z
    | .ok (.ret u), z =>
      obtain ⟨v, H', J3, rv3, ev, q3⟩ := J.after z
      subst ev
      exact ⟨rv3, ⟨V.ref (s.heap.objs.size + 1), H', J3, rfl, q3⟩⟩
  cases full with
  | true => exact key [] [] .nil b1 hq
  | false => exact key dvs ds rd b2 hq
/-- C(e, ..) -/
theorem pe_mk (M : Mk X.K C f) (F : FnA X.prog X.w X.K X.mg X.base CX k f ps dvs sp) (g : X.A.guards = some []) (r : Room (k + 1) X.A) (hx : Passes CX X E) (hm : X.mg x = some (.ref C)) (full : Bool) (ha : PA X (e :: es) t) (hg : Gl X x := by rfl)
    (h1 : (x == ("__debug__" : Str)) = false := by decide) (h2 : starEach (e :: es) X.env = (false, eval e X.env) :: starEach es X.env := by rfl) (h3 : (backTo pos (starEach es X.env)).any (·.1) = false := by rfl) :
    PE X (.Call (.Name x p) (e :: es) [] pos) (tMake C sp (if full = true then [] else dvs) E t) := by
  refine ⟨fun pins s σ H Q I h => wpAny_Call_Name_kw (ld_glob I hg hm ?_ h1)⟩
  exact PySem.W.callWith_K (h₀ := X.base) I.ok.mod.kin M.kp (thn (ha.run pos pins s σ H _ I h) fun us s1 ⟨vs, H1, J, rv, q⟩ => ⟨J.kIn, F.make M g r hx J rv full q⟩) h2 h3
/-- C() -/
theorem pe_mk0 (M : Mk X.K C f) (F : FnA X.prog X.w X.K X.mg X.base CX k f ps dvs sp) (g : X.A.guards = some []) (r : Room (k + 1) X.A) (hx : Passes CX X E) (hm : X.mg x = some (.ref C)) (hg : Gl X x := by rfl) (h1 : (x == ("__debug__" : Str)) = false := by decide) :
    PE X (.Call (.Name x p) [] [] pos) (tMake C sp dvs E tNil) := by
  refine ⟨fun pins s σ H Q I h => wpAny_Call_Name_kw (ld_glob I hg hm ?_ h1)⟩
  exact PySem.W.callWith_K0 I.kIn M.kp (F.make (us := []) M g r hx I .nil false h)
/-- e.f, a property -/
theorem pe_prp {pp : Addr} (he : PE X e ta) (c : Cls X.K C) (hp : PropOf X.K C m pp f) (F : FnA X.prog X.w X.K X.mg X.base CX k f ps dvs sp) (g : X.A.guards = some []) (r : Room (k + 1) X.A) (hx : Passes CX X.nox E) (hab : attributeBase e m X.env (eval e X.env) = eval e X.env := by rfl) :
    PE X (.Attribute e m pos) (tProp C sp [] E ta) := by
  refine ⟨fun pins s σ H Q I h => attr_of hab (thn (he.run pins s σ H _ I h) fun u s1 ⟨y, H1, J, ry, a, dx, fs, ey, ea, q⟩ => ?_)⟩
  subst ey; obtain rfl : u = Value.ref a := ry
  obtain ⟨mA, O, _, _, _, _⟩ := ins_get J.hok ea
  obtain ⟨od, JJ, _⟩ := O.look
  obtain ⟨rest, hrec⟩ := hp.rec_
  obtain ⟨fd, ds, G, _, b, _⟩ := F.ex
  have J1 := J.tok (s1.toks + 1)
  have hl : ([Value.ref a] ++ []).length = ps.length := (G.cnt _ _ _ _ q)
  have hc : (PySem.W.clsIn X.K C).isSome = true := let ⟨cd, hc, _⟩ := PySem.W.any_some c.hd; by rw [hc]; rfl
  have hpg := PySem.W.plainGet_of (c.get m)
  refine PySem.W.get_bind J.kIn JJ hpg.1 (PySem.W.findObj_data hc hp.at_ hp.get hp.tak) hpg.2 (wpAny_call (PySem.W.prop_get (s := { s1 with toks := s1.toks + 1 }) J.kIn hrec ?_))
  refine codeAny_mono (G.go X.A.in1 X.stack { s1 with toks := s1.toks + 1 } H1 ⟨[.ref a], []⟩ [.ref a] [.ref a] Q E (by rw [Around.in1_guards]; exact g) r.in1 J1.env0.in1 (b _ [.ref a] J1.kIn hl) (.cons rfl .nil) q) fun res s' z => ?_
  match res, z with
  | .error er, z => exact (hx pins σ H1 { s1 with toks := s1.toks + 1 } er s' (J1.wish _) z).elim
  | .ok (.ret u), z =>
    obtain ⟨v, H', J3, rv, q3⟩ := J1.after z
    show wpAny _ _ (handedOut u) _ _ _
    rw [PySem.W.handedOut_of (handed_of rv)]
    exact wpAny_pure ⟨v, H', J3, rv, q3⟩
end
end Fw

set_option Elab.async false
set_option linter.all false
set_option maxRecDepth 100000
set_option maxHeartbeats 2000000
namespace Fw
open PySem PySem.Spec PyProof.Rows L2
section
variable {P : Program} {w : World} {K : PySem.W.Frag} {mg : Str → Option Value} {base : Heap} {CX : CXT} {k : Nat} {ps : List Str} {x qual : Str} {st : Stmt} {fa C : Addr} {N : List Str} {pre : List Vl → Prop}
theorem Src.pureV {f : List Vl → Vl} (F : Src K mg x st) (S : FnScope N ps (defScope st)) (hl : ∀ xs, pre xs → xs.length = ps.length)
    (hbd : ∀ (kV doc pm : Value) (an : Option Addr) (cd ct : Value) (us : List Value), us.length = ps.length → bindArgs (PySem.W.fnOf x x (defArgs st) (defBody st) (defScope st) .none kV doc pm an cd ct) ⟨us, []⟩ = Pure.pure (ps.zip us))
    (hs : base.get? sysModules ≠ none)
    (hb : ∀ (fa : Addr) (cd : Value) (A : Around) (fr : List Env) (s : Shared) (H : Hp) (E : XK) (M : Addr → Prop) (xs : List Vl), Rm (cxOf CX P w K mg base N x (defScope st) fa cd A fr s H E).nox → Room k (cxOf CX P w K mg base N x (defScope st) fa cd A fr s H E).nox.A → pre xs →
      dB (cxOf CX P w K mg base N x (defScope st) fa cd A fr s H E).nox (Wp M) (rhoV N xs) () (defBody st) { nx := fun _ _ => f xs = .d .none, rt := fun y _ => y = f xs }) : Dfn P w K mg base CX (k + 1) x st ps (spP K pre f) := by
  refine F.ok S (fun vs H Q E h => ?_) hbd fun fa cd A fr s vs H Q E g r h => ?_
  · obtain ⟨M, xs, _, h1, h2, _⟩ := h
    rw [pairedV_len h1]
    exact hl xs h2
  · obtain ⟨M, xs, hm, h1, h2, hq⟩ := h
    refine ⟨wB _ (defBody st), bw, (hb fa cd A fr s H E M xs (Rm.of g r hs rfl) r h2).go _ H _ (en_startV h1) ⟨trivial, hm⟩ ⟨fun σ H2 ρ s' e1 j1 en z => ?_, fun v H2 y s' e1 j1 v1 z => ?_, fun _ _ _ _ _ _ _ z => z, fun _ _ _ _ _ _ _ z => z⟩⟩
    · refine hq .non H2 (same_ex e1) ?_
      rw [show f xs = .d .none from z]
      exact Dt.non
    · have z' : y = f xs := z
      subst z'
      exact hq v H2 (same_ex e1) v1
theorem SrcF.pureV {f : List Vl → Vl} (F : SrcF K fa x qual st []) (S : FnScope N ps (defScope st)) (hl : ∀ xs, pre xs → xs.length = ps.length)
    (hbd : ∀ (kV doc pm : Value) (an : Option Addr) (cd ct : Value) (us : List Value), us.length = ps.length → bindArgs (PySem.W.fnOf x qual (defArgs st) (defBody st) (defScope st) .none kV doc pm an cd ct) ⟨us, []⟩ = Pure.pure (ps.zip us))
    (hs : base.get? sysModules ≠ none)
    (hb : ∀ (cd : Value) (A : Around) (fr : List Env) (s : Shared) (H : Hp) (E : XK) (M : Addr → Prop) (xs : List Vl), Rm (cxOf CX P w K mg base N qual (defScope st) fa cd A fr s H E).nox → Room k (cxOf CX P w K mg base N qual (defScope st) fa cd A fr s H E).nox.A → pre xs →
      dB (cxOf CX P w K mg base N qual (defScope st) fa cd A fr s H E).nox (Wp M) (rhoV N xs) () (defBody st) { nx := fun _ _ => f xs = .d .none, rt := fun y _ => y = f xs }) : FnA P w K mg base CX (k + 1) fa ps [] (spP K pre f) := by
  refine F.ok S (fun vs H Q E h => ?_) hbd fun cd A fr s vs H Q E g r h => ?_
  · obtain ⟨M, xs, _, h1, h2, _⟩ := h
    rw [pairedV_len h1]
    exact hl xs h2
  · obtain ⟨M, xs, hm, h1, h2, hq⟩ := h
    refine ⟨wB _ (defBody st), bw, (hb cd A fr s H E M xs (Rm.of g r hs rfl) r h2).go _ H _ (en_startV h1) ⟨trivial, hm⟩ ⟨fun σ H2 ρ s' e1 j1 en z => ?_, fun v H2 y s' e1 j1 v1 z => ?_, fun _ _ _ _ _ _ _ z => z, fun _ _ _ _ _ _ _ z => z⟩⟩
    · refine hq .non H2 (same_ex e1) ?_
      rw [show f xs = .d .none from z]
      exact Dt.non
    · have z' : y = f xs := z
      subst z'
      exact hq v H2 (same_ex e1) v1
/-- what an __init__ promises: the attributes of the new instance -/
def spI (K : PySem.W.Frag) (C : Addr) (pre : List Vl → Prop) (f : List Vl → List (Str × Ob)) : Sp := fun vs H Q _ => ∃ (M : Addr → Prop) (x dx : Addr) (us : List V) (xs : List Vl), vs = .ref x :: us ∧ (∀ b, M b → H b ≠ none) ∧ ¬ M x ∧ H x = some (.ins C dx []) ∧
  Paired (Vt K (fun b => M b ∨ b = x) H) us xs ∧ pre xs ∧ ∀ H' d kvs, Ex (fun b => b = x) H H' → H' x = some (.ins C d kvs) → OtF K (fun b => M b ∨ b = x) H' kvs (f xs) → Q .non H'
theorem SrcF.init {f : List Vl → List (Str × Ob)} (F : SrcF K fa x qual st []) (S : FnScope N ps (defScope st)) (hl : ∀ xs, pre xs → xs.length + 1 = ps.length)
    (hbd : ∀ (kV doc pm : Value) (an : Option Addr) (cd ct : Value) (us : List Value), us.length = ps.length → bindArgs (PySem.W.fnOf x qual (defArgs st) (defBody st) (defScope st) .none kV doc pm an cd ct) ⟨us, []⟩ = Pure.pure (ps.zip us))
    (hs : base.get? sysModules ≠ none)
    (hb : ∀ (cd : Value) (A : Around) (fr : List Env) (s : Shared) (H : Hp) (E : XK) (M : Addr → Prop) (l : Addr) (xs : List Vl), Rm (cxOf CX P w K mg base N qual (defScope st) fa cd A fr s H E).nox → Room k (cxOf CX P w K mg base N qual (defScope st) fa cd A fr s H E).nox.A → pre xs →
      dB (cxOf CX P w K mg base N qual (defScope st) fa cd A fr s H E).nox ((Wp M).own l (IN K C)) (rhoV N (.v (.ref l) :: xs)) ((), []) (defBody st) { nx := fun _ st => st.2 = f xs, rt := fun y st => y = .d .none ∧ st.2 = f xs }) : FnA P w K mg base CX (k + 1) fa ps [] (spI K C pre f) := by
  refine F.ok S (fun vs H Q E h => ?_) hbd fun cd A fr s vs H Q E g r h => ?_
  · obtain ⟨M, l, dx, us, xs, rfl, _, _, _, h1, h2, _⟩ := h
    rw [List.length_cons, pairedV_len h1]
    exact hl xs h2
  · obtain ⟨M, l, dx, us, xs, rfl, hm, nM, hx, h1, h2, hq⟩ := h
    have fin : ∀ {H2 : Hp} {st : Unit × List (Str × Ob)}, Ex ((Wp M).own l (IN K C)).C H H2 → ((Wp M).own l (IN K C)).At st H2 → st.2 = f xs → Q .non H2 := by
      intro H2 st e2 j2 e
      obtain ⟨⟨_, o, q1, d2, kvs, q2, q3⟩, _⟩ := j2
      subst q2
      rw [e] at q3
      exact hq H2 d2 kvs (fun b o n z => e2 b o (fun c => c.elim (fun c => c) n) z) q1 q3
    refine ⟨wB _ (defBody st), bw, (hb cd A fr s H E M l xs (Rm.of g r hs rfl) r h2).go _ H _ (en_startV (.cons rfl h1)) ⟨⟨trivial, _, hx, dx, [], rfl, .nil⟩, fun b m => ?_⟩ ⟨fun σ H2 ρ s' e1 j1 en z => fin e1 j1 z, fun v H2 y s' e1 j1 v1 z => ?_, fun _ _ _ _ _ _ _ z => z, fun _ _ _ _ _ _ _ z => z⟩⟩
    · rcases m with m | m
      · exact hm b m
      · rw [m, hx]; exact fun z => nomatch z
    · obtain ⟨rfl, z⟩ := (show y = .d .none ∧ _ from z)
      cases (show Dt K _ H2 v .none from v1)
      exact fin e1 j1 (show _ ∧ _ from z).2
end
section
variable {S : Type} {X : Cx} {W : Wd S} {ρ : Rho} {s : S} {Φ : Vl → S → Prop} {Δ : DE S} {a b c e o : Expr} {es : List Expr} {pos p p2 apos : Pos} {x m f : Str} {CX : CXT} {k : Nat} {st : Stmt} {ps : List Str} {fa C : Addr} {pre : List Vl → Prop} {Ω : List Vl → S → Prop}
/-- a def of the module -/
theorem de_goV {f : List Vl → Vl} (F : Dfn X.prog X.w X.K X.mg X.base CX k x st ps (spP X.K pre f)) (R : Rm X) (r : Room k X.A) (hx : Passes CX X E0)
    (h : dA X W ρ s (e :: es) fun xs s1 => pre xs ∧ Φ (f xs) s1) (hg : Gl X x := by rfl)
    (h1 : (x == ("__debug__" : Str)) = false := by decide) (h2 : starEach (e :: es) X.env = (false, eval e X.env) :: starEach es X.env := by rfl) (h3 : (backTo pos (starEach es X.env)).any (·.1) = false := by rfl) : dE X W ρ s (.Call (.Name x p) (e :: es) [] pos) Φ := .mk fun σ H Q en j kn =>
  toE (pe_go F R.g r hx aw hg h1 h2 h3) (h.go σ H _ en j fun vs H1 xs s1 e1 j1 v1 ⟨hp, q⟩ =>
    ⟨W.M, xs, j1.2, v1, hp, fun v H2 sm dt => kn v H2 (f xs) s1 (e1.trans (Ex.of sm)) (j1.same sm) dt q⟩)
theorem de_goV0 {f : List Vl → Vl} (F : Dfn X.prog X.w X.K X.mg X.base CX k x st ps (spP X.K pre f)) (R : Rm X) (r : Room k X.A) (hx : Passes CX X E0)
    (h : pre [] ∧ Φ (f []) s) (hg : Gl X x := by rfl) (h1 : (x == ("__debug__" : Str)) = false := by decide) : dE X W ρ s (.Call (.Name x p) [] [] pos) Φ := .mk fun σ H Q en j kn =>
  toE (pe_go0 F R.g r hx hg h1) ⟨W.M, [], j.2, .nil, h.1, fun v H2 sm dt => kn v H2 (f []) s (Ex.of sm) (j.same sm) dt h.2⟩
/-- by keywords alone, in the order js -/
theorem pairedV_perm {K : PySem.W.Frag} {M : Addr → Prop} {H : Hp} {vs : List V} {xs : List Vl} (h : Paired (Vt K M H) vs xs) (js : List Nat) (hj : ∀ i ∈ js, i < xs.length) : Paired (Vt K M H) (js.map fun i => vs.getD i .non) (js.map fun i => xs.getD i (.d .none)) := by
  induction js with
  | nil => exact .nil
  | cons i js ih =>
    have hi := hj i List.mem_cons_self
    obtain ⟨v, q1, q2⟩ := pairedV_get h (List.getElem?_eq_getElem hi)
    refine .cons ?_ (ih fun k hk => hj k (List.mem_cons_of_mem _ hk))
    simp only [List.getD_eq_getElem?_getD, q1, List.getElem?_eq_getElem hi, Option.getD_some]
    exact q2
theorem de_goVK {kws : List Keyword} {ks : List Str} {f : List Vl → Vl} (js : List Nat) (F : Dfn X.prog X.w X.K X.mg X.base CX k x st ps (spP X.K pre f)) (R : Rm X) (r : Room k X.A) (hx : Passes CX X E0)
    (hbk : ∀ (kV doc pm : Value) (an : Option Addr) (cd ct : Value) (us : List Value), us.length = ks.length → bindArgs (PySem.W.fnOf x x (defArgs st) (defBody st) (defScope st) .none kV doc pm an cd ct) ⟨[], ks.zip us⟩ = pure (ps.zip (js.map fun i => us.getD i .none)))
    (hjs : ∀ i ∈ js, i < ks.length) (h : dK X W ρ s kws fun xs s1 => xs.length = ks.length ∧ pre (js.map fun i => xs.getD i (.d .none)) ∧ Φ (f (js.map fun i => xs.getD i (.d .none))) s1) (hg : Gl X x := by rfl)
    (hall : (backToKw pos (keywordEach kws X.env)).all (·.1.isSome) = true := by rfl) (hks : (backToKw pos (keywordEach kws X.env)).filterMap (·.1) = ks := by rfl)
    (h1 : (x == ("__debug__" : Str)) = false := by decide) (h3 : ((backTo pos (starEach [] X.env)).any (·.1) || (backToKw pos (keywordEach kws X.env)).any (·.1.isNone)) = false := by rfl) :
    dE X W ρ s (.Call (.Name x p) [] kws pos) Φ := .mk fun σ H Q en j kn =>
  toE (pe_goK (gs := fun us => js.map fun i => us.getD i .none) (gV := fun vs => js.map fun i => vs.getD i .non) F R.g r hx kw hbk (fun vs us rv hl => by
      clear h hbk
      induction js with
      | nil => exact .nil
      | cons i js ih =>
        have hi : i < vs.length := by rw [hl]; exact hjs i List.mem_cons_self
        obtain ⟨u, q1, q2⟩ := rv.get (List.getElem?_eq_getElem hi)
        refine .cons ?_ (ih fun k hk => hjs k (List.mem_cons_of_mem _ hk))
        simp only [List.getD_eq_getElem?_getD, q1, List.getElem?_eq_getElem hi, Option.getD_some]
        exact q2) hg hall hks h1 h3) (h.go σ H _ en j fun vs H1 xs s1 e1 j1 v1 ⟨hl, hp, q⟩ => by
    exact ⟨(pairedV_len v1).trans hl, W.M, _, j1.2, pairedV_perm v1 js fun i hi => by rw [hl]; exact hjs i hi, hp, fun v H2 sm dt => kn v H2 (f _) s1 (e1.trans (Ex.of sm)) (j1.same sm) dt q⟩)
/-- a frozen instance in hand -/
def Vl.dat : Vl → PyData
  | .d x => x
  | _ => .none
def IsIns (C : Addr) (x : Vl) (Ψ : List (Str × Ob) → Prop) : Prop := ∃ fs, x = .o (.ins C fs) ∧ Ψ fs
theorem ins_of {K : PySem.W.Frag} {M : Addr → Prop} {H : Hp} {v : V} {C : Addr} {fs : List (Str × Ob)} (h : Vt K M H v (.o (.ins C fs))) : ∃ a dx kvs, v = .ref a ∧ ¬ M a ∧ H a = some (.ins C dx kvs) ∧ OtF K M H kvs fs := by
  cases (show Ot K M H v (.ins C fs) from h) with
  | ins n h1 h2 => exact ⟨_, _, _, rfl, n, h1, h2⟩
/-- e.f -/
theorem de_fld (na : NoAttr X.K C f) (cl : Cls X.K C) (h : dE X W ρ s e fun x s1 => IsIns C x fun fs => ∃ ob, fs.lookup f = some ob ∧ Φ ob.vl s1) (hb : attributeBase e f X.env (eval e X.env) = eval e X.env := by rfl) : dE X W ρ s (.Attribute e f pos) Φ := .mk fun σ H Q en j kn =>
  toE (pe_fld pw hb) (h.go σ H _ en j fun v H1 y s1 e1 j1 v1 ⟨fs, hy, ob, hl, q⟩ => by
    subst hy
    obtain ⟨a, dx, kvs, rfl, n, h1, h2⟩ := ins_of v1
    obtain ⟨u, q1, q2⟩ := h2.get hl
    exact ⟨a, C, dx, kvs, u, rfl, h1, cl, na, q1, kn u H1 ob.vl s1 e1 j1 (Ob.vt q2) q⟩)
/-- o.m(e, ..) -/
theorem de_mth {g : List Vl → Vl} {pl : Sem Bool} (hm : Meth X.K C m fa) (cl : Cls X.K C) (F : FnA X.prog X.w X.K X.mg X.base CX k fa ps [] (spP X.K pre g)) (R : Rm X) (r : Room k X.A) (hx : Passes CX X E0)
    (h : dE X W ρ s o fun y s1 => IsIns C y fun fs => fs.lookup m = none ∧ dA X W ρ s1 (e :: es) fun xs s2 => pre (y :: xs) ∧ Φ (g (y :: xs)) s2)
    (h1 : starEach (e :: es) X.env = (false, eval e X.env) :: starEach es X.env := by rfl) (h2 : (backTo pos (starEach es X.env)).any (·.1) = false := by rfl)
    (h3 : eval (.Call (.Attribute o m apos) (e :: es) [] pos) X.env = (do let ov ← eval o X.env; standAt apos.atName; let (f, first) ← holding [ov] (getMethod ov m pl); callWith pos f first (backTo pos (starEach (e :: es) X.env)) (backToKw pos (keywordEach [] X.env))) := by rfl) :
    dE X W ρ s (.Call (.Attribute o m apos) (e :: es) [] pos) Φ := .mk fun σ H Q en j kn =>
  toE (pe_mg pw cl hm F R.g r hx aw h1 h2 h3) (h.go σ H _ en j fun v H1 y s1 e1 j1 v1 ⟨fs, hy, hl, ha⟩ => by
    subst hy
    obtain ⟨a, dx, kvs, rfl, n, q1, q2⟩ := ins_of v1
    refine ⟨a, dx, kvs, rfl, q1, q2.none hl, ha.go σ H1 _ (W.em e1 en) j1 fun vs H2 xs s2 e2 j2 v2 ⟨hp, q⟩ => ?_⟩
    refine ⟨W.M, _ :: xs, j2.2, ?_, hp, fun v H3 sm dt => kn v H3 _ s2 ((e1.trans e2).trans (Ex.of sm)) (j2.same sm) dt q⟩
    rw [List.append_nil]
    exact .cons (W.vm e2 v1) v2)
theorem de_mth0 {g : List Vl → Vl} {pl : Sem Bool} (hm : Meth X.K C m fa) (cl : Cls X.K C) (F : FnA X.prog X.w X.K X.mg X.base CX k fa ps [] (spP X.K pre g)) (R : Rm X) (r : Room k X.A) (hx : Passes CX X E0)
    (h : dE X W ρ s o fun y s1 => IsIns C y fun fs => fs.lookup m = none ∧ pre [y] ∧ Φ (g [y]) s1)
    (h3 : eval (.Call (.Attribute o m apos) [] [] pos) X.env = (do let ov ← eval o X.env; standAt apos.atName; let (f, first) ← holding [ov] (getMethod ov m pl); callWith pos f first (backTo pos (starEach [] X.env)) (backToKw pos (keywordEach [] X.env))) := by rfl) :
    dE X W ρ s (.Call (.Attribute o m apos) [] [] pos) Φ := .mk fun σ H Q en j kn =>
  toE (pe_mg0 pw cl hm F R.g r hx h3) (h.go σ H _ en j fun v H1 y s1 e1 j1 v1 ⟨fs, hy, hl, hp, q⟩ => by
    subst hy
    obtain ⟨a, dx, kvs, rfl, n, q1, q2⟩ := ins_of v1
    exact ⟨a, dx, kvs, rfl, q1, q2.none hl, W.M, [_], j1.2, .cons v1 .nil, hp, fun v H3 sm dt => kn v H3 _ s1 (e1.trans (Ex.of sm)) (j1.same sm) dt q⟩)
/-- e.f, a property -/
theorem de_prp {g : List Vl → Vl} {pp : Addr} (hm : PropOf X.K C m pp fa) (cl : Cls X.K C) (F : FnA X.prog X.w X.K X.mg X.base CX k fa ps [] (spP X.K pre g)) (R : Rm X) (r : Room (k + 1) X.A) (hx : Passes CX X.nox E0)
    (h : dE X W ρ s e fun y s1 => IsIns C y fun fs => pre [y] ∧ Φ (g [y]) s1) (hab : attributeBase e m X.env (eval e X.env) = eval e X.env := by rfl) : dE X W ρ s (.Attribute e m pos) Φ := .mk fun σ H Q en j kn =>
  toE (pe_prp pw cl hm F R.g r hx hab) (h.go σ H _ en j fun v H1 y s1 e1 j1 v1 ⟨fs, hy, hp, q⟩ => by
    subst hy
    obtain ⟨a, dx, kvs, rfl, n, q1, q2⟩ := ins_of v1
    exact ⟨a, dx, kvs, rfl, q1, W.M, [_], j1.2, .cons v1 .nil, hp, fun v H3 sm dt => kn v H3 _ s1 (e1.trans (Ex.of sm)) (j1.same sm) dt q⟩)
theorem made_vt {K : PySem.W.Frag} {M : Addr → Prop} {H : Hp} {x dx : Addr} {vs : List V} {xs : List Vl} (hx : H x = none) (hd : H dx = none) (h : Paired (Vt K M H) vs xs) : Paired (Vt K (fun b => M b ∨ b = x) (upd (upd H dx (.own x)) x (.ins C dx []))) vs xs := by
  have sm : Same H (upd (upd H dx (.own x)) x (.ins C dx [])) := fun b o z => by
    rw [upd_ne (ne_of_none z hx), upd_ne (ne_of_none z hd)]
    exact z
  induction h with
  | nil => exact .nil
  | cons h1 _ ih => exact .cons ((h1.more fun b m n => by
      rcases m with m | m
      · exact absurd m n
      · rw [m]; exact hx).mono (Ex.of sm)) ih
/-- C(e, ..) -/
theorem made_ok {g : List Vl → List (Str × Ob)} {H H1 : Hp} {Q : VK} {E : XK} {vs : List V} {xs : List Vl} {s1 : S} (e1 : Ex W.C H H1) (j1 : W.At s1 H1) (v1 : Paired (Vt X.K W.M H1) vs xs) (kn : Kn X W H Φ Q) (hp : pre xs) (q : Φ (.o (.ins C (g xs))) s1) :
    ∀ x dx, H1 x = none → H1 dx = none → dx ≠ x → spI X.K C pre g (.ref x :: vs) (upd (upd H1 dx (.own x)) x (.ins C dx [])) (fun v H2 => v = .non ∧ Q (.ref x) H2) E := by
  intro x dx hx hd ne
  have sm : Same H1 (upd (upd H1 dx (.own x)) x (.ins C dx [])) := fun b o z => by
    rw [upd_ne (ne_of_none z hx), upd_ne (ne_of_none z hd)]
    exact z
  refine ⟨W.M, x, dx, vs, xs, rfl, fun b m z => ?_, j1.new hx, upd_same, made_vt hx hd v1, hp, fun H2 d kvs e2 h2 h3 => ⟨rfl, ?_⟩⟩
  · cases w : H1 b with
    | none => exact j1.2 b m w
    | some ob => rw [sm b ob w] at z; cases z
  · have sm2 : Same H1 H2 := fun b o z => e2 b o (ne_of_none z hx) (sm b o z)
    exact kn (.ref x) H2 (.o (.ins C (g xs))) s1 (e1.trans (Ex.of sm2)) (j1.same sm2) (Ot.ins (j1.new hx) h2 (h3.less fun b m => .inl m)) q
theorem de_mk {g : List Vl → List (Str × Ob)} {dvs : List V} (M : Mk X.K C fa) (F : FnA X.prog X.w X.K X.mg X.base CX k fa ps dvs (spI X.K C pre g)) (R : Rm X) (r : Room (k + 1) X.A) (hx : Passes CX X E0) (hm : X.mg x = some (.ref C))
    (h : dA X W ρ s (e :: es) fun xs s1 => pre xs ∧ Φ (.o (.ins C (g xs))) s1) (hg : Gl X x := by rfl)
    (h1 : (x == ("__debug__" : Str)) = false := by decide) (h2 : starEach (e :: es) X.env = (false, eval e X.env) :: starEach es X.env := by rfl) (h3 : (backTo pos (starEach es X.env)).any (·.1) = false := by rfl) : dE X W ρ s (.Call (.Name x p) (e :: es) [] pos) Φ := .mk fun σ H Q en j kn =>
  toE (pe_mk M F R.g r hx hm true aw hg h1 h2 h3) (h.go σ H _ en j fun vs H1 xs s1 e1 j1 v1 ⟨hp, q⟩ => by
    simp only [if_true, List.append_nil]
    exact made_ok e1 j1 v1 kn hp q)
/-- o.f = e, of an instance that is owned -/
theorem ds_fldI {U : Type} {W : Wd (U × List (Str × Ob))} {s : U × List (Str × Ob)} {Δ : DE (U × List (Str × Ob))} {l : Addr} {q1 : Pos} (cl : Cls X.K C) (na : NoAttr X.K C f) (hW : ∀ u t H, W.J W.M (u, t) H → ∃ dx kvs, H l = some (.ins C dx kvs) ∧ OtF X.K W.M H kvs t)
    (hU : ∀ u t H dx kvs v ob, W.J W.M (u, t) H → H l = some (.ins C dx kvs) → Ot X.K W.M H v ob → t.lookup f = none → W.J W.M (u, t ++ [(f, ob)]) (upd H l (.ins C dx (kvs ++ [(f, v)])))) (hC : W.C l)
    (h : dE X W ρ s e fun y s1 => dE X W ρ s1 o fun z s2 => z = .v (.ref l) ∧ s2.2.length < 900 ∧ s2.2.lookup f = none ∧ Δ.nx ρ (s2.1, s2.2 ++ [(f, y.ob)]))
    (hs : swapsWith e (some (.Attribute o f q1)) pos.line X.env = pure false := by rfl) : dS X W ρ s (.Assign [.Attribute o f q1] e pos) Δ := .mk fun σ H D en j kn =>
  toS (ps_fld pw pw hs) (h.go σ H _ en j fun v H1 y s1 e1 j1 v1 hb => hb.go σ H1 _ (W.em e1 en) j1 fun u H2 z s2 e2 j2 v2 ⟨hz, hl, hn, q⟩ => by
    subst hz
    cases (show u = .ref l from v2)
    obtain ⟨u0, t0⟩ := s2
    obtain ⟨dx, kvs, q1, q2⟩ := hW u0 t0 H2 j2.1
    have hn2 : kvs.lookup f = none := q2.none hn
    have ep : putF f v kvs = kvs ++ [(f, v)] := by
      have gen : ∀ l : List (Str × V), l.lookup f = none → putF f v l = l ++ [(f, v)] := by
        intro l
        induction l with
        | nil => intro _; rfl
        | cons a l ih =>
          obtain ⟨n, w⟩ := a
          intro hh
          rw [List.lookup_cons] at hh
          cases e : f == n with
          | true => rw [e] at hh; cases hh
          | false =>
            rw [e] at hh
            have ne : ¬ f = n := fun z => by rw [z] at e; simp at e
            rw [putF, if_neg (fun z : n = f => ne z.symm), ih hh]
            rfl
      exact gen kvs hn2
    refine ⟨l, C, dx, kvs, rfl, q1, cl, na, by rw [q2.len]; exact Nat.lt_trans hl (by decide), ?_⟩
    rw [ep]
    have ex3 : Ex W.C H2 (upd H2 l (.ins C dx (kvs ++ [(f, v)]))) := ex_upd hC
    have ex4 := (e1.trans e2).trans ex3
    exact kn.nx σ _ ρ _ ex4 (at_upd j2.2 (hU u0 t0 H2 dx kvs v y.ob j2.1 q1 (Vl.ot (W.vm e2 v1)) hn)) (W.em ex4 en) q)
theorem otf_app {K : PySem.W.Frag} {M : Addr → Prop} {H : Hp} {n : Str} {v : V} {o : Ob} (h : Ot K M H v o) : ∀ {vs : List (Str × V)} {fs : List (Str × Ob)}, OtF K M H vs fs → OtF K M H (vs ++ [(n, v)]) (fs ++ [(n, o)])
  | _, _, .nil => .cons h .nil
  | _, _, .cons a b => .cons a (otf_app h b)
/-- self.f = e in an __init__ -/
theorem ds_self {M : Addr → Prop} {s : Unit × List (Str × Ob)} {Δ : DE (Unit × List (Str × Ob))} {l : Addr} {q1 : Pos} (na : NoAttr X.K C f) (cl : Cls X.K C)
    (h : dE X ((Wp M).own l (IN X.K C)) ρ s e fun y s1 => dE X ((Wp M).own l (IN X.K C)) ρ s1 o fun z s2 => z = .v (.ref l) ∧ s2.2.length < 900 ∧ s2.2.lookup f = none ∧ Δ.nx ρ (s2.1, s2.2 ++ [(f, y.ob)]))
    (hs : swapsWith e (some (.Attribute o f q1)) pos.line X.env = pure false := by rfl) : dS X ((Wp M).own l (IN X.K C)) ρ s (.Assign [.Attribute o f q1] e pos) Δ :=
  ds_fldI (l := l) cl na (fun u t H ⟨_, ob, h1, dx, kvs, h2, h3⟩ => ⟨dx, kvs, by rw [h1, h2], h3⟩)
    (fun u t H dx kvs v ob ⟨_, ob', h1, dx', kvs', h2, h3⟩ hl hv hn => ⟨trivial, _, upd_same, dx, _, rfl, by
      rw [h1, h2] at hl
      cases hl
      exact (otf_app hv h3).mono fun b o n z => by rw [upd_ne (fun w => n (.inr w))]; exact z⟩) (.inr rfl) h hs
/-- a star in a display or a call -/
theorem da_star (h : dE X W ρ s e fun x s1 => ∃ ds, itemsD x = some ds ∧ isStr x.dat = false ∧ dA X W ρ s1 es fun xs s2 => Ω (ds.map .d ++ xs) s2) (hs : starEach (.Starred e p :: es) X.env = (true, eval e X.env) :: starEach es X.env := by rfl) : dA X W ρ s (.Starred e p :: es) Ω := .mk fun σ H Q en j kn =>
  toA (StX.pa_star pw aw hs) (h.go σ H _ en j fun v H1 x s1 e1 j1 v1 ⟨ds, hd, hn, ha⟩ => by
    have pr : ∀ {vs : List V} {ds : List PyData} {H : Hp}, DtA X.K W.M H vs ds → Paired (Vt X.K W.M H) vs (ds.map .d) := by
      intro vs ds H h
      induction ds generalizing vs with
      | nil => cases h; exact .nil
      | cons d ds ih => cases h with | cons a b => exact .cons a (ih b)
    have app : ∀ {vs us : List V} {xs ys : List Vl} {H : Hp}, Paired (Vt X.K W.M H) vs xs → Paired (Vt X.K W.M H) us ys → Paired (Vt X.K W.M H) (vs ++ us) (xs ++ ys) := by
      intro vs us xs ys H h g
      induction h with
      | nil => exact g
      | cons a _ ih => exact .cons a ih
    cases x with
    | v y => cases hd
    | o y => cases hd
    | d y =>
      cases y with
      | list l =>
        cases hd
        cases (show Dt X.K W.M H1 v (.list ds) from v1) with
        | lst n h1 h2 => exact ⟨_, _, rfl, .inr (SqL.of h1), ha.go σ H1 _ (W.em e1 en) j1 fun vs H2 xs s2 e2 j2 v2 q => kn _ H2 _ s2 (e1.trans e2) j2 (app (pr (h2.mono (W.up e2))) v2) q⟩
      | tuple l =>
        cases hd
        obtain ⟨l', xs', rfl, h1, h2, h3⟩ := (show Dt X.K W.M H1 v (.tuple ds) from v1).isT
        exact ⟨_, _, rfl, .inl h1, ha.go σ H1 _ (W.em e1 en) j1 fun vs H2 xs s2 e2 j2 v2 q => kn _ H2 _ s2 (e1.trans e2) j2 (app (pr (h2.mono (W.up e2))) v2) q⟩
      | str z => cases (show true = false from hn)
      | none => cases hd
      | bool _ => cases hd
      | int _ => cases hd
      | dict _ => cases hd)
end
end Fw

set_option Elab.async false
set_option linter.all false
set_option maxRecDepth 100000
set_option maxHeartbeats 2000000
namespace Fw
open PySem PySem.Spec PyProof.Rows L2
section
variable {S : Type} {X : Cx} {W : Wd S} {ρ : Rho} {s : S} {Φ : Vl → S → Prop} {Δ : DE S} {a b c e e1 e2 o tg : Expr} {es : List Expr} {pos p p2 apos py : Pos} {x y m f : Str} {Λ : List PyData → S → Prop}
/-- a, .. = e: 2 names -/
theorem ds_unp2 {y0 y1 : Str} {p0 p1 pt : Pos} {kt : Nat} (h : dE X W ρ s e fun v s1 => ∃ d0 d1 : PyData, v = .d (.tuple [d0, d1]) ∧ Δ.nx ((ρ.set (X.N.idxOf y0) (some (.d d0))).set (X.N.idxOf y1) (some (.d d1))) s1) (nd : X.N.Nodup)
    (hc : X.calm = true := by rfl) (hN0 : X.N[X.N.idxOf y0]? = some y0 := by rfl) (hN1 : X.N[X.N.idxOf y1]? = some y1 := by rfl)
    (hl0 : Loc X.env.scope y0 := by first | exact .inl rfl | exact .inr rfl) (hl1 : Loc X.env.scope y1 := by first | exact .inl rfl | exact .inr rfl)
    (hf0 : X.fn y0 = true ∨ X.env.scope.names.lookup y0 = some .local := by first | exact .inl rfl | exact .inr rfl) (hf1 : X.fn y1 = true ∨ X.env.scope.names.lookup y1 = some .local := by first | exact .inl rfl | exact .inr rfl)
    (ha0 : (assignEach [.Name y0 p0, .Name y1 p1] X.env).map (·.2) = assign (.Name y0 p0) X.env :: (assignEach [.Name y1 p1] X.env).map (·.2) := by rfl) (ha1 : (assignEach [.Name y1 p1] X.env).map (·.2) = assign (.Name y1 p1) X.env :: (assignEach [] X.env).map (·.2) := by rfl)
    (hn : (assignEach [.Name y0 p0, .Name y1 p1] X.env).length = 2 := by rfl) (hst : (assignEach [.Name y0 p0, .Name y1 p1] X.env).findIdx? (·.1) = none := by rfl)
    (hs : swapsWithSole [.Tuple [.Name y0 p0, .Name y1 p1] kt pt] e pos.line X.env = pure false := by rfl) (hw : swappedStores [.Tuple [.Name y0 p0, .Name y1 p1] kt pt] e X.env = pure none := by rfl) (h1 : (assignEach [.Tuple [.Name y0 p0, .Name y1 p1] kt pt] X.env).map (·.2) = [assign (.Tuple [.Name y0 p0, .Name y1 p1] kt pt) X.env] := by rfl) :
    dS X W ρ s (.Assign [.Tuple [.Name y0 p0, .Name y1 p1] kt pt] e pos) Δ := .mk fun σ H D en j kn =>
  toS (ps_asg pw (pg_tup hc (pgs_cons (pg_name nd hN0 hl0 hf0) (pgs_cons (pg_name nd hN1 hl1 hf1) pgs_nil ha1) ha0) hn hst) hs hw h1) (h.go σ H _ en j fun v H1 vl s1 e1 j1 v1 ⟨d0, d1, hx, q⟩ => by
    subst hx
    obtain ⟨l, us, rfl, q1, q2, _⟩ := (show Dt X.K W.M H1 v (.tuple [d0, d1]) from v1).isT
    cases q2 with
    | cons c0 r0 =>
      cases r0 with
      | cons c1 r1 =>
        cases r1
        exact ⟨l, _, rfl, q1, rfl, _, _, rfl, _, _, rfl, rfl, kn.nx _ H1 _ s1 e1 j1 (((W.em e1 en).set _ (x := .d d0) c0).set _ (x := .d d1) c1) q⟩)
/-- a, .. = e: 3 names -/
theorem ds_unp3 {y0 y1 y2 : Str} {p0 p1 p2 pt : Pos} {kt : Nat} (h : dE X W ρ s e fun v s1 => ∃ d0 d1 d2 : PyData, v = .d (.tuple [d0, d1, d2]) ∧ Δ.nx (((ρ.set (X.N.idxOf y0) (some (.d d0))).set (X.N.idxOf y1) (some (.d d1))).set (X.N.idxOf y2) (some (.d d2))) s1) (nd : X.N.Nodup)
    (hc : X.calm = true := by rfl) (hN0 : X.N[X.N.idxOf y0]? = some y0 := by rfl) (hN1 : X.N[X.N.idxOf y1]? = some y1 := by rfl) (hN2 : X.N[X.N.idxOf y2]? = some y2 := by rfl)
    (hl0 : Loc X.env.scope y0 := by first | exact .inl rfl | exact .inr rfl) (hl1 : Loc X.env.scope y1 := by first | exact .inl rfl | exact .inr rfl) (hl2 : Loc X.env.scope y2 := by first | exact .inl rfl | exact .inr rfl)
    (hf0 : X.fn y0 = true ∨ X.env.scope.names.lookup y0 = some .local := by first | exact .inl rfl | exact .inr rfl) (hf1 : X.fn y1 = true ∨ X.env.scope.names.lookup y1 = some .local := by first | exact .inl rfl | exact .inr rfl) (hf2 : X.fn y2 = true ∨ X.env.scope.names.lookup y2 = some .local := by first | exact .inl rfl | exact .inr rfl)
    (ha0 : (assignEach [.Name y0 p0, .Name y1 p1, .Name y2 p2] X.env).map (·.2) = assign (.Name y0 p0) X.env :: (assignEach [.Name y1 p1, .Name y2 p2] X.env).map (·.2) := by rfl) (ha1 : (assignEach [.Name y1 p1, .Name y2 p2] X.env).map (·.2) = assign (.Name y1 p1) X.env :: (assignEach [.Name y2 p2] X.env).map (·.2) := by rfl) (ha2 : (assignEach [.Name y2 p2] X.env).map (·.2) = assign (.Name y2 p2) X.env :: (assignEach [] X.env).map (·.2) := by rfl)
    (hn : (assignEach [.Name y0 p0, .Name y1 p1, .Name y2 p2] X.env).length = 3 := by rfl) (hst : (assignEach [.Name y0 p0, .Name y1 p1, .Name y2 p2] X.env).findIdx? (·.1) = none := by rfl)
    (hs : swapsWithSole [.Tuple [.Name y0 p0, .Name y1 p1, .Name y2 p2] kt pt] e pos.line X.env = pure false := by rfl) (hw : swappedStores [.Tuple [.Name y0 p0, .Name y1 p1, .Name y2 p2] kt pt] e X.env = pure none := by rfl) (h1 : (assignEach [.Tuple [.Name y0 p0, .Name y1 p1, .Name y2 p2] kt pt] X.env).map (·.2) = [assign (.Tuple [.Name y0 p0, .Name y1 p1, .Name y2 p2] kt pt) X.env] := by rfl) :
    dS X W ρ s (.Assign [.Tuple [.Name y0 p0, .Name y1 p1, .Name y2 p2] kt pt] e pos) Δ := .mk fun σ H D en j kn =>
  toS (ps_asg pw (pg_tup hc (pgs_cons (pg_name nd hN0 hl0 hf0) (pgs_cons (pg_name nd hN1 hl1 hf1) (pgs_cons (pg_name nd hN2 hl2 hf2) pgs_nil ha2) ha1) ha0) hn hst) hs hw h1) (h.go σ H _ en j fun v H1 vl s1 e1 j1 v1 ⟨d0, d1, d2, hx, q⟩ => by
    subst hx
    obtain ⟨l, us, rfl, q1, q2, _⟩ := (show Dt X.K W.M H1 v (.tuple [d0, d1, d2]) from v1).isT
    cases q2 with
    | cons c0 r0 =>
      cases r0 with
      | cons c1 r1 =>
        cases r1 with
        | cons c2 r2 =>
          cases r2
          exact ⟨l, _, rfl, q1, rfl, _, _, rfl, _, _, rfl, _, _, rfl, rfl, kn.nx _ H1 _ s1 e1 j1 ((((W.em e1 en).set _ (x := .d d0) c0).set _ (x := .d d1) c1).set _ (x := .d d2) c2) q⟩)
/-- a, .. = e: 4 names -/
theorem ds_unp4 {y0 y1 y2 y3 : Str} {p0 p1 p2 p3 pt : Pos} {kt : Nat} (h : dE X W ρ s e fun v s1 => ∃ d0 d1 d2 d3 : PyData, v = .d (.tuple [d0, d1, d2, d3]) ∧ Δ.nx ((((ρ.set (X.N.idxOf y0) (some (.d d0))).set (X.N.idxOf y1) (some (.d d1))).set (X.N.idxOf y2) (some (.d d2))).set (X.N.idxOf y3) (some (.d d3))) s1) (nd : X.N.Nodup)
    (hc : X.calm = true := by rfl) (hN0 : X.N[X.N.idxOf y0]? = some y0 := by rfl) (hN1 : X.N[X.N.idxOf y1]? = some y1 := by rfl) (hN2 : X.N[X.N.idxOf y2]? = some y2 := by rfl) (hN3 : X.N[X.N.idxOf y3]? = some y3 := by rfl)
    (hl0 : Loc X.env.scope y0 := by first | exact .inl rfl | exact .inr rfl) (hl1 : Loc X.env.scope y1 := by first | exact .inl rfl | exact .inr rfl) (hl2 : Loc X.env.scope y2 := by first | exact .inl rfl | exact .inr rfl) (hl3 : Loc X.env.scope y3 := by first | exact .inl rfl | exact .inr rfl)
    (hf0 : X.fn y0 = true ∨ X.env.scope.names.lookup y0 = some .local := by first | exact .inl rfl | exact .inr rfl) (hf1 : X.fn y1 = true ∨ X.env.scope.names.lookup y1 = some .local := by first | exact .inl rfl | exact .inr rfl) (hf2 : X.fn y2 = true ∨ X.env.scope.names.lookup y2 = some .local := by first | exact .inl rfl | exact .inr rfl) (hf3 : X.fn y3 = true ∨ X.env.scope.names.lookup y3 = some .local := by first | exact .inl rfl | exact .inr rfl)
    (ha0 : (assignEach [.Name y0 p0, .Name y1 p1, .Name y2 p2, .Name y3 p3] X.env).map (·.2) = assign (.Name y0 p0) X.env :: (assignEach [.Name y1 p1, .Name y2 p2, .Name y3 p3] X.env).map (·.2) := by rfl) (ha1 : (assignEach [.Name y1 p1, .Name y2 p2, .Name y3 p3] X.env).map (·.2) = assign (.Name y1 p1) X.env :: (assignEach [.Name y2 p2, .Name y3 p3] X.env).map (·.2) := by rfl) (ha2 : (assignEach [.Name y2 p2, .Name y3 p3] X.env).map (·.2) = assign (.Name y2 p2) X.env :: (assignEach [.Name y3 p3] X.env).map (·.2) := by rfl) (ha3 : (assignEach [.Name y3 p3] X.env).map (·.2) = assign (.Name y3 p3) X.env :: (assignEach [] X.env).map (·.2) := by rfl)
    (hn : (assignEach [.Name y0 p0, .Name y1 p1, .Name y2 p2, .Name y3 p3] X.env).length = 4 := by rfl) (hst : (assignEach [.Name y0 p0, .Name y1 p1, .Name y2 p2, .Name y3 p3] X.env).findIdx? (·.1) = none := by rfl)
    (hs : swapsWithSole [.Tuple [.Name y0 p0, .Name y1 p1, .Name y2 p2, .Name y3 p3] kt pt] e pos.line X.env = pure false := by rfl) (hw : swappedStores [.Tuple [.Name y0 p0, .Name y1 p1, .Name y2 p2, .Name y3 p3] kt pt] e X.env = pure none := by rfl) (h1 : (assignEach [.Tuple [.Name y0 p0, .Name y1 p1, .Name y2 p2, .Name y3 p3] kt pt] X.env).map (·.2) = [assign (.Tuple [.Name y0 p0, .Name y1 p1, .Name y2 p2, .Name y3 p3] kt pt) X.env] := by rfl) :
    dS X W ρ s (.Assign [.Tuple [.Name y0 p0, .Name y1 p1, .Name y2 p2, .Name y3 p3] kt pt] e pos) Δ := .mk fun σ H D en j kn =>
  toS (ps_asg pw (pg_tup hc (pgs_cons (pg_name nd hN0 hl0 hf0) (pgs_cons (pg_name nd hN1 hl1 hf1) (pgs_cons (pg_name nd hN2 hl2 hf2) (pgs_cons (pg_name nd hN3 hl3 hf3) pgs_nil ha3) ha2) ha1) ha0) hn hst) hs hw h1) (h.go σ H _ en j fun v H1 vl s1 e1 j1 v1 ⟨d0, d1, d2, d3, hx, q⟩ => by
    subst hx
    obtain ⟨l, us, rfl, q1, q2, _⟩ := (show Dt X.K W.M H1 v (.tuple [d0, d1, d2, d3]) from v1).isT
    cases q2 with
    | cons c0 r0 =>
      cases r0 with
      | cons c1 r1 =>
        cases r1 with
        | cons c2 r2 =>
          cases r2 with
          | cons c3 r3 =>
            cases r3
            exact ⟨l, _, rfl, q1, rfl, _, _, rfl, _, _, rfl, _, _, rfl, _, _, rfl, rfl, kn.nx _ H1 _ s1 e1 j1 (((((W.em e1 en).set _ (x := .d d0) c0).set _ (x := .d d1) c1).set _ (x := .d d2) c2).set _ (x := .d d3) c3) q⟩)
/-- a, .. = e: 5 names -/
theorem ds_unp5 {y0 y1 y2 y3 y4 : Str} {p0 p1 p2 p3 p4 pt : Pos} {kt : Nat} (h : dE X W ρ s e fun v s1 => ∃ d0 d1 d2 d3 d4 : PyData, v = .d (.tuple [d0, d1, d2, d3, d4]) ∧ Δ.nx (((((ρ.set (X.N.idxOf y0) (some (.d d0))).set (X.N.idxOf y1) (some (.d d1))).set (X.N.idxOf y2) (some (.d d2))).set (X.N.idxOf y3) (some (.d d3))).set (X.N.idxOf y4) (some (.d d4))) s1) (nd : X.N.Nodup)
    (hc : X.calm = true := by rfl) (hN0 : X.N[X.N.idxOf y0]? = some y0 := by rfl) (hN1 : X.N[X.N.idxOf y1]? = some y1 := by rfl) (hN2 : X.N[X.N.idxOf y2]? = some y2 := by rfl) (hN3 : X.N[X.N.idxOf y3]? = some y3 := by rfl) (hN4 : X.N[X.N.idxOf y4]? = some y4 := by rfl)
    (hl0 : Loc X.env.scope y0 := by first | exact .inl rfl | exact .inr rfl) (hl1 : Loc X.env.scope y1 := by first | exact .inl rfl | exact .inr rfl) (hl2 : Loc X.env.scope y2 := by first | exact .inl rfl | exact .inr rfl) (hl3 : Loc X.env.scope y3 := by first | exact .inl rfl | exact .inr rfl) (hl4 : Loc X.env.scope y4 := by first | exact .inl rfl | exact .inr rfl)
    (hf0 : X.fn y0 = true ∨ X.env.scope.names.lookup y0 = some .local := by first | exact .inl rfl | exact .inr rfl) (hf1 : X.fn y1 = true ∨ X.env.scope.names.lookup y1 = some .local := by first | exact .inl rfl | exact .inr rfl) (hf2 : X.fn y2 = true ∨ X.env.scope.names.lookup y2 = some .local := by first | exact .inl rfl | exact .inr rfl) (hf3 : X.fn y3 = true ∨ X.env.scope.names.lookup y3 = some .local := by first | exact .inl rfl | exact .inr rfl) (hf4 : X.fn y4 = true ∨ X.env.scope.names.lookup y4 = some .local := by first | exact .inl rfl | exact .inr rfl)
    (ha0 : (assignEach [.Name y0 p0, .Name y1 p1, .Name y2 p2, .Name y3 p3, .Name y4 p4] X.env).map (·.2) = assign (.Name y0 p0) X.env :: (assignEach [.Name y1 p1, .Name y2 p2, .Name y3 p3, .Name y4 p4] X.env).map (·.2) := by rfl) (ha1 : (assignEach [.Name y1 p1, .Name y2 p2, .Name y3 p3, .Name y4 p4] X.env).map (·.2) = assign (.Name y1 p1) X.env :: (assignEach [.Name y2 p2, .Name y3 p3, .Name y4 p4] X.env).map (·.2) := by rfl) (ha2 : (assignEach [.Name y2 p2, .Name y3 p3, .Name y4 p4] X.env).map (·.2) = assign (.Name y2 p2) X.env :: (assignEach [.Name y3 p3, .Name y4 p4] X.env).map (·.2) := by rfl) (ha3 : (assignEach [.Name y3 p3, .Name y4 p4] X.env).map (·.2) = assign (.Name y3 p3) X.env :: (assignEach [.Name y4 p4] X.env).map (·.2) := by rfl) (ha4 : (assignEach [.Name y4 p4] X.env).map (·.2) = assign (.Name y4 p4) X.env :: (assignEach [] X.env).map (·.2) := by rfl)
    (hn : (assignEach [.Name y0 p0, .Name y1 p1, .Name y2 p2, .Name y3 p3, .Name y4 p4] X.env).length = 5 := by rfl) (hst : (assignEach [.Name y0 p0, .Name y1 p1, .Name y2 p2, .Name y3 p3, .Name y4 p4] X.env).findIdx? (·.1) = none := by rfl)
    (hs : swapsWithSole [.Tuple [.Name y0 p0, .Name y1 p1, .Name y2 p2, .Name y3 p3, .Name y4 p4] kt pt] e pos.line X.env = pure false := by rfl) (hw : swappedStores [.Tuple [.Name y0 p0, .Name y1 p1, .Name y2 p2, .Name y3 p3, .Name y4 p4] kt pt] e X.env = pure none := by rfl) (h1 : (assignEach [.Tuple [.Name y0 p0, .Name y1 p1, .Name y2 p2, .Name y3 p3, .Name y4 p4] kt pt] X.env).map (·.2) = [assign (.Tuple [.Name y0 p0, .Name y1 p1, .Name y2 p2, .Name y3 p3, .Name y4 p4] kt pt) X.env] := by rfl) :
    dS X W ρ s (.Assign [.Tuple [.Name y0 p0, .Name y1 p1, .Name y2 p2, .Name y3 p3, .Name y4 p4] kt pt] e pos) Δ := .mk fun σ H D en j kn =>
  toS (ps_asg pw (pg_tup hc (pgs_cons (pg_name nd hN0 hl0 hf0) (pgs_cons (pg_name nd hN1 hl1 hf1) (pgs_cons (pg_name nd hN2 hl2 hf2) (pgs_cons (pg_name nd hN3 hl3 hf3) (pgs_cons (pg_name nd hN4 hl4 hf4) pgs_nil ha4) ha3) ha2) ha1) ha0) hn hst) hs hw h1) (h.go σ H _ en j fun v H1 vl s1 e1 j1 v1 ⟨d0, d1, d2, d3, d4, hx, q⟩ => by
    subst hx
    obtain ⟨l, us, rfl, q1, q2, _⟩ := (show Dt X.K W.M H1 v (.tuple [d0, d1, d2, d3, d4]) from v1).isT
    cases q2 with
    | cons c0 r0 =>
      cases r0 with
      | cons c1 r1 =>
        cases r1 with
        | cons c2 r2 =>
          cases r2 with
          | cons c3 r3 =>
            cases r3 with
            | cons c4 r4 =>
              cases r4
              exact ⟨l, _, rfl, q1, rfl, _, _, rfl, _, _, rfl, _, _, rfl, _, _, rfl, _, _, rfl, rfl, kn.nx _ H1 _ s1 e1 j1 ((((((W.em e1 en).set _ (x := .d d0) c0).set _ (x := .d d1) c1).set _ (x := .d d2) c2).set _ (x := .d d3) c3).set _ (x := .d d4) c4) q⟩)
/-! ### zip -/
def zipD (xs ys : List PyData) : List PyData := (xs.zip ys).map fun q => .tuple [q.1, q.2]
theorem zipD_get {xs ys : List PyData} {i : Nat} {d : PyData} (h : (zipD xs ys)[i]? = some d) : ∃ u v, xs[i]? = some u ∧ ys[i]? = some v ∧ d = .tuple [u, v] := by
  unfold zipD at h
  rw [List.getElem?_map] at h
  obtain ⟨q, h1, rfl⟩ := Option.map_eq_some_iff.mp h
  obtain ⟨h2, h3⟩ := List.getElem?_zip_eq_some.mp h1
  exact ⟨q.1, q.2, h2, h3, rfl⟩
theorem itd_zipT {H : Hp} {l r : Addr} {xs ys : List V} {ds es : List PyData} (h : ∀ H1, Ex W.M H H1 → SqT X.K H1 l xs) (hd : DtA X.K W.M H xs ds) (g : ∀ H1, Ex W.M H H1 → SqT X.K H1 r ys) (gd : DtA X.K W.M H ys es) : ItD X.K W.C W.M H (RZ.ItzT X.K l r) (zipD ds es) where
  go := fun i H1 e1 hi => by
    obtain ⟨u, v, h1, h2, _⟩ := zipD_get (List.getElem?_eq_getElem hi)
    obtain ⟨a, q1, _⟩ := hd.get h1
    obtain ⟨b, q2, _⟩ := gd.get h2
    exact ⟨xs, ys, a, b, h H1 (W.up e1), g H1 (W.up e1), q1, q2⟩
  yl := fun M' i H1 v H2 m1 m2 e1 hM' y hi => by
    obtain ⟨T, a, b, rfl, hT, rfl, q1, q2⟩ := y
    obtain ⟨d1, h1, c1⟩ := hd.getV (q1 xs (h _ (W.up e1)))
    obtain ⟨d2, h2, c2⟩ := gd.getV (q2 ys (g _ (W.up e1)))
    have ex : Ex M' H H1 := fun b o nb z => e1 b o (fun c => nb (m1 b (W.sub c))) z
    have sm := same_new (o := .tup [a, b]) hT
    refine ⟨sm, .tuple [d1, d2], ?_, ?_⟩
    · unfold zipD
      rw [List.getElem?_map, show (ds.zip es)[i]? = some (d1, d2) from List.getElem?_zip_eq_some.mpr ⟨h1, h2⟩]
      rfl
    · exact .tup (fun m => hM' T m hT) upd_same (.cons (((c1.more m2).mono ex).mono (Ex.of sm)) (.cons (((c2.more m2).mono ex).mono (Ex.of sm)) .nil))
  st := fun i H1 e1 hi => ⟨xs, ys, h H1 (W.up e1), g H1 (W.up e1), by
    have hh : min ds.length es.length ≤ i := by simpa [zipD] using hi
    rw [hd.len, gd.len]
    omega⟩
/-- zip of two tuples -/
theorem di_zip {elts : List Expr} {kk : Nat} {tp : Pos} (hm : X.mg "zip" = none) (h : dE X W ρ s e1 fun x s1 => dE X W ρ s1 e2 fun y s2 => ∃ ds es, x = .d (.tuple ds) ∧ y = .d (.tuple es) ∧ Λ (zipD ds es) s2) (hg : Gl X "zip" := by rfl)
    (hs : starEach [e1, e2] X.env = (false, eval e1 X.env) :: starEach [e2] X.env := by rfl) (hs2 : starEach [e2] X.env = (false, eval e2 X.env) :: starEach [] X.env := by rfl) (hpl : (backTo pos (starEach [e2] X.env)).any (·.1) = false := by rfl) :
    dI X W ρ s (.Tuple elts kk tp) (.Call (.Name "zip" p) [e1, e2] [] pos) Λ := .mk fun σ H R en j kn =>
  toI (RZ.pi_zipA hg hm (pa_cons pw (pa_cons pw pa_nil hs2) hs) hs hpl) (h.go σ H _ en j fun v H1 x s1 e1 j1 v1 hb => hb.go σ H1 _ (W.em e1 en) j1 fun u H2 y s2 e2 j2 v2 ⟨ds, es, hx, hy, q⟩ => by
    subst hx hy
    obtain ⟨l, xs, rfl, h1, h2, h3⟩ := (show Dt X.K W.M H2 v (.tuple ds) from W.dm e2 v1).isT
    obtain ⟨r, ys, rfl, g1, g2, g3⟩ := (show Dt X.K W.M H2 u (.tuple es) from v2).isT
    exact ⟨l, r, xs, ys, rfl, .inr ⟨h1, g1, kn _ H2 _ s2 (e1.trans e2) j2 (itd_zipT h3 h2 g3 g2) q⟩⟩)
/-- range(a, b) -/
def intsFrom (lo : Int) (n : Nat) : List PyData := (List.range n).map fun (i : Nat) => PyData.int (lo + (i : Int))
theorem itd_rng2 {H : Hp} {lo : Int} {n : Nat} : ItD X.K W.C W.M H (Itr lo n) (intsFrom lo n) where
  go := fun i H1 _ hi => show i < n by simpa [intsFrom] using hi
  yl := fun M' i H1 v H2 _ _ _ _ y hi => by
    obtain ⟨rfl, rfl⟩ := y
    refine ⟨fun _ _ z => z, .int (lo + (i : Int)), ?_, .int _⟩
    have hi' : i < n := by simpa [intsFrom] using hi
    unfold intsFrom
    rw [List.getElem?_map, List.getElem?_range hi']
    rfl
  st := fun i H1 _ hi => show n ≤ i by simpa [intsFrom] using hi
theorem di_range2 (hm : X.mg "range" = none) (h : dE X W ρ s e1 fun x s1 => dE X W ρ s1 e2 fun y s2 => ∃ i j : Int, x = .d (.int i) ∧ y = .d (.int j) ∧ (-(2 ^ 62) ≤ i ∧ i < 2 ^ 62 ∧ -(2 ^ 62) ≤ j ∧ j < 2 ^ 62) ∧ Λ (intsFrom i (j - i).toNat) s2) (hg : Gl X "range" := by rfl)
    (hs : starEach [e1, e2] X.env = [(false, eval e1 X.env), (false, eval e2 X.env)] := by rfl) (hs2 : starEach [e2] X.env = [(false, eval e2 X.env)] := by rfl) : dI X W ρ s tg (.Call (.Name "range" p) [e1, e2] [] pos) Λ := .mk fun σ H R en j kn =>
  toI (pi_range2 hg hm (pa_cons pw (pa_cons pw pa_nil hs2) (by rw [hs, hs2])) hs hs2) (h.go σ H _ en j fun v H1 x s1 e1 j1 v1 hb => hb.go σ H1 _ (W.em e1 en) j1 fun u H2 y s2 e2 j2 v2 ⟨i, k, hx, hy, hbb, q⟩ => by
    subst hx hy
    cases v1
    cases v2
    exact ⟨i, k, rfl, ⟨hbb.1, hbb.2.1, hbb.2.2.1, hbb.2.2.2⟩, kn _ H2 _ s2 (e1.trans e2) j2 itd_rng2 q⟩)
/-- for x, y in ..: pairs -/
theorem ds_forP {px : Pos} {kt : Nat} {pt : Pos} {body : List Stmt} (h : dI X W ρ s (.Tuple [.Name x px, .Name y py] kt pt) e fun ds s1 => (∀ d ∈ ds, isPr d) ∧ ∃ Iv : Nat → Rho → S → Prop, Iv 0 ρ s1 ∧
      (∀ k d ρ1 s2, ds[k]? = some d → Iv k ρ1 s2 → dB X W ((ρ1.set (X.N.idxOf x) (some (.d (prA d)))).set (X.N.idxOf y) (some (.d (prB d)))) s2 body { nx := Iv (k + 1), rt := Δ.rt, bk := Δ.nx, ct := Iv (k + 1) }) ∧ ∀ ρ1 s2, Iv ds.length ρ1 s2 → Δ.nx ρ1 s2)
    (hp : PassesOwn (model X.prog X.w) X.A X.env X.xe) (nd : X.N.Nodup) (hc : X.calm = true := by rfl) (hN : X.N[X.N.idxOf x]? = some x := by rfl) (hx : Loc X.env.scope x := by first | exact .inl rfl | exact .inr rfl)
    (hf : X.fn x = true ∨ X.env.scope.names.lookup x = some .local := by first | exact .inl rfl | exact .inr rfl) (hN2 : X.N[X.N.idxOf y]? = some y := by rfl) (hx2 : Loc X.env.scope y := by first | exact .inl rfl | exact .inr rfl)
    (hf2 : X.fn y = true ∨ X.env.scope.names.lookup y = some .local := by first | exact .inl rfl | exact .inr rfl)
    (ha : (assignEach [.Name x px, .Name y py] X.env).map (·.2) = assign (.Name x px) X.env :: (assignEach [.Name y py] X.env).map (·.2) := by rfl) (ha2 : (assignEach [.Name y py] X.env).map (·.2) = assign (.Name y py) X.env :: (assignEach [] X.env).map (·.2) := by rfl)
    (hn : (assignEach [.Name x px, .Name y py] X.env).length = 2 := by rfl) (hst : (assignEach [.Name x px, .Name y py] X.env).findIdx? (·.1) = none := by rfl)
    (hs : ∀ x, foldedSetIterable e X.env x = pure x := by intro _; rfl) : dS X W ρ s (.For (.Tuple [.Name x px, .Name y py] kt pt) e body [] pos) Δ := .mk fun σ H D en j kn =>
  toS (ps_for hp hc iw (pg_tup hc (pgs_cons (pg_name nd hN hx hf) (pgs_cons (pg_name nd hN2 hx2 hf2) pgs_nil ha2) ha) hn hst) bw hs) (h.go σ H _ en j fun J H1 ds s1 e1 j1 it ⟨hok, Iv, h0, hb, hd⟩ => by
    refine ⟨fun i m σ2 H2 => m = ds.length - i ∧ i ≤ ds.length ∧ Ex W.C H1 H2 ∧ ∃ ρ2 s2, W.At s2 H2 ∧ En X.K W.M H2 σ2 ρ2 ∧ Iv i ρ2 s2, ⟨ds.length, rfl, Nat.zero_le _, Ex.rfl', ρ, s1, j1, W.em e1 en, h0⟩, ?_⟩
    rintro i m σ2 H2 ⟨rfl, hi, e2, ρ2, s2, j2, en2, iv⟩
    by_cases hl : i < ds.length
    · refine .inr ⟨it.go i H2 e2 hl, fun σ3 H3 => Ex W.C H1 H3 ∧ ∃ ρ2 s2, W.At s2 H3 ∧ En X.K W.M H3 σ3 ρ2 ∧ Iv (i + 1) ρ2 s2, fun σ3 H3 ⟨q1, q2⟩ => ⟨ds.length - (i + 1), by omega, rfl, hl, q1, q2⟩, fun v H3 yl => ?_⟩
      obtain ⟨sm, d, q1, q2⟩ := it.yl W.M i H2 v H3 (fun _ m => m) (fun _ m n => absurd m n) e2 j2.2 yl hl
      have e3 := e2.trans (Ex.of sm)
      have hpr := hok d (List.mem_of_getElem? q1)
      match d, hpr, q1, q2 with
      | .tuple [d1, d2], _, q1, q2 =>
        obtain ⟨l, xs, rfl, r1, r2, _⟩ := q2.isT
        cases r2 with
        | cons c1 r2 =>
          cases r2 with
          | cons c2 r2 =>
            cases r2
            refine ⟨l, _, rfl, r1, rfl, _, _, rfl, _, _, rfl, rfl, ?_⟩
            refine (hb i _ ρ2 s2 q1 iv).go _ H3 _ (((W.em (Ex.of sm) en2).set _ (x := .d d1) c1).set _ (x := .d d2) c2) (j2.same sm) ⟨fun σ4 H4 ρ4 s4 e4 j4 en4 p => ⟨e3.trans e4, ρ4, s4, j4, en4, p⟩, fun v4 H4 x4 s4 e4 j4 v4' p => kn.rt v4 H4 x4 s4 (e1.trans (e3.trans e4)) j4 v4' p,
              fun σ4 H4 ρ4 s4 e4 j4 en4 p => kn.nx σ4 H4 ρ4 s4 (e1.trans (e3.trans e4)) j4 en4 p, fun σ4 H4 ρ4 s4 e4 j4 en4 p => ⟨e3.trans e4, ρ4, s4, j4, en4, p⟩⟩
    · have ei : i = ds.length := by omega
      subst ei
      exact .inl ⟨it.st _ H2 e2 (Nat.le_refl _), kn.nx σ2 H2 ρ2 s2 (e1.trans e2) j2 en2 (hd ρ2 s2 iv)⟩)
/-! ### order of texts -/
def ltS : PyData → PyData → Option PyData
  | .str a, .str b => some (.bool (decide (a.cps.toList < b.cps.toList)))
  | _, _ => none
theorem op_ltS : OpR X (compareOp .Lt) (rD X.K ltS) := by
  intro pins sh σ H x y u v Q I rx ry ⟨M, d, e, z, hm, h1, h2, hz, hq⟩
  cases h1 <;> cases h2 <;> cases hz
  exact op_lt_str pins sh σ H _ _ _ _ Q I rx ry ⟨_, _, rfl, rfl, plain hq (.bl _)⟩
/-! ### built-ins of ints -/
def intC : List PyData → Option PyData
  | [.int i] => some (.int i)
  | [.bool b] => some (.int (if b = true then 1 else 0))
  | _ => none
theorem call_intC : CallR X (.type "int") (rDc X.K intC) := by
  intro pins sh σ H vs us Q I rv ⟨M, ds, z, hm, h, hz, hq⟩
  match ds, h, hz with
  | [.int i], .cons (.int _) .nil, hz => cases hz; exact call_int1 pins sh σ H _ us Q I rv (.inl ⟨_, rfl, plain hq (.int _)⟩)
  | [.bool i], .cons (.bl _) .nil, hz => cases hz; exact call_int1 pins sh σ H _ us Q I rv (.inr ⟨_, rfl, plain hq (.int _)⟩)
theorem de_intC (hm : X.mg "int" = none) (h : dE X W ρ s e fun x s1 => ∃ d z, x = .d d ∧ intC [d] = some z ∧ Φ (.d z) s1) (g : Gl X "int" := by rfl) (he : starEach [e] X.env = (false, eval e X.env) :: starEach [] X.env := by rfl) :
    dE X W ρ s (.Call (.Name "int" p) [e] [] pos) Φ := de_callTy call_intC hm (da_cons (de_imp h fun y s1 ⟨d, z, hx, hz, q⟩ => da_nil ⟨[d], by subst hx; rfl, z, hz, q⟩) he) (by decide +kernel) g (by decide) (by decide) he rfl
def maxC : List PyData → Option PyData
  | [.int i, .int j] => some (.int (if j > i then j else i))
  | _ => none
def minC : List PyData → Option PyData
  | [.int i, .int j] => some (.int (if j < i then j else i))
  | _ => none
theorem call_maxC (hc : X.calm = true) : CallR X (.builtin "max") (rDc X.K maxC) := by
  intro pins sh σ H vs us Q I rv ⟨M, ds, z, hm, h, hz, hq⟩
  match ds, h, hz with
  | [.int i, .int j], .cons (.int _) (.cons (.int _) .nil), hz => cases hz; exact call_max2 hc pins sh σ H _ us Q I rv ⟨_, _, rfl, plain hq (.int _)⟩
theorem call_minC (hc : X.calm = true) : CallR X (.builtin "min") (rDc X.K minC) := by
  intro pins sh σ H vs us Q I rv ⟨M, ds, z, hm, h, hz, hq⟩
  match ds, h, hz with
  | [.int i, .int j], .cons (.int _) (.cons (.int _) .nil), hz => cases hz; exact call_min2 hc pins sh σ H _ us Q I rv ⟨_, _, rfl, plain hq (.int _)⟩
theorem de_maxC (hm : X.mg "max" = none) (h : dA X W ρ s [e1, e2] fun xs s1 => AllD xs fun ds => ∃ z, maxC ds = some z ∧ Φ (.d z) s1) (hc : X.calm = true := by rfl) (g : Gl X "max" := by rfl) (he : starEach [e1, e2] X.env = (false, eval e1 X.env) :: starEach [e2] X.env := by rfl) (hpl : (backTo pos (starEach [e2] X.env)).any (·.1) = false := by rfl) :
    dE X W ρ s (.Call (.Name "max" p) [e1, e2] [] pos) Φ := de_callB (call_maxC hc) hm h (by decide +kernel) g (by decide) (by decide) he hpl
theorem de_minC (hm : X.mg "min" = none) (h : dA X W ρ s [e1, e2] fun xs s1 => AllD xs fun ds => ∃ z, minC ds = some z ∧ Φ (.d z) s1) (hc : X.calm = true := by rfl) (g : Gl X "min" := by rfl) (he : starEach [e1, e2] X.env = (false, eval e1 X.env) :: starEach [e2] X.env := by rfl) (hpl : (backTo pos (starEach [e2] X.env)).any (·.1) = false := by rfl) :
    dE X W ρ s (.Call (.Name "min" p) [e1, e2] [] pos) Φ := de_callB (call_minC hc) hm h (by decide +kernel) g (by decide) (by decide) he hpl
/-! ### lists that are owned -/
theorem de_appD {U : Type} {W0 : Wd U} {l : Addr} {s : U × List PyData} {Φ : Vl → U × List PyData → Prop} (h : dE X (W0.own l (LD X.K)) ρ s o fun x s1 => x = .v (.ref l) ∧ dE X (W0.own l (LD X.K)) ρ s1 e fun y s2 => ∃ d, y = .d d ∧ s2.2.length < 1000000 ∧ Φ (.d .none) (s2.1, s2.2 ++ [d])) (nl : ¬ W0.M l)
    (hb : attributeBase o "append" X.env (eval o X.env) = eval o X.env := by rfl) (hl : (apos.endLine == pos.line) = true := by rfl)
    (hfew : ((backTo pos (starEach [e] X.env)).all (fun x => !x.1) && (backToKw pos (keywordEach [] X.env)).all (fun x => x.1.isSome)
      && decide ([e].length + ([] : List Keyword).length + (if ([] : List Keyword).isEmpty then 0 else 1) < 30)) = true := by rfl)
    (hs : starEach [e] X.env = (false, eval e X.env) :: starEach [] X.env := by rfl) : dE X (W0.own l (LD X.K)) ρ s (.Call (.Attribute o "append" apos) [e] [] pos) Φ :=
  de_appV (de_imp h fun x s1 ⟨hx, he⟩ => ⟨l, hx, fun H ⟨_, ob, h1, xs, h2, _⟩ => ⟨xs, by rw [h1, h2]⟩, .inr rfl, de_imp he fun y s2 ⟨d, hy, hlen, q⟩ => ⟨_, fun H v ⟨j, ob, h1, xs, h2, h3⟩ hv => by
    subst hy h2
    refine ⟨xs, h1, by rw [h3.len, sizeLine_eq]; omega, W0.keep j fun b o c z => ?_, _, upd_same, _, rfl, ?_⟩
    · rw [upd_ne (show b ≠ l from fun w => by
        subst w
        rcases c with c | c
        · exact nl (W0.sub c)
        · exact c (.inr rfl))]
      exact z
    · exact (h3.app (.cons hv .nil)).mono fun b o n z => by rw [upd_ne (fun w => n (.inr w))]; exact z, q⟩⟩) hb hl hfew hs
theorem de_appO {U : Type} {W0 : Wd U} {l : Addr} {s : U × List Ob} {Φ : Vl → U × List Ob → Prop} (h : dE X (W0.own l (LO X.K)) ρ s o fun x s1 => x = .v (.ref l) ∧ dE X (W0.own l (LO X.K)) ρ s1 e fun y s2 => s2.2.length < 1000000 ∧ Φ (.d .none) (s2.1, s2.2 ++ [y.ob])) (nl : ¬ W0.M l)
    (hb : attributeBase o "append" X.env (eval o X.env) = eval o X.env := by rfl) (hl : (apos.endLine == pos.line) = true := by rfl)
    (hfew : ((backTo pos (starEach [e] X.env)).all (fun x => !x.1) && (backToKw pos (keywordEach [] X.env)).all (fun x => x.1.isSome)
      && decide ([e].length + ([] : List Keyword).length + (if ([] : List Keyword).isEmpty then 0 else 1) < 30)) = true := by rfl)
    (hs : starEach [e] X.env = (false, eval e X.env) :: starEach [] X.env := by rfl) : dE X (W0.own l (LO X.K)) ρ s (.Call (.Attribute o "append" apos) [e] [] pos) Φ :=
  de_appV (de_imp h fun x s1 ⟨hx, he⟩ => ⟨l, hx, fun H ⟨_, ob, h1, xs, h2, _⟩ => ⟨xs, by rw [h1, h2]⟩, .inr rfl, de_imp he fun y s2 ⟨hlen, q⟩ => ⟨_, fun H v ⟨j, ob, h1, xs, h2, h3⟩ hv => by
    subst h2
    refine ⟨xs, h1, by rw [h3.len, sizeLine_eq]; omega, W0.keep j fun b o c z => ?_, _, upd_same, _, rfl, ?_⟩
    · rw [upd_ne (show b ≠ l from fun w => by
        subst w
        rcases c with c | c
        · exact nl (W0.sub c)
        · exact c (.inr rfl))]
      exact z
    · exact (h3.app (.cons (Vl.ot hv) .nil)).mono fun b o n z => by rw [upd_ne (fun w => n (.inr w))]; exact z, q⟩⟩) hb hl hfew hs
/-- l[i] of a frozen list of objects -/
theorem de_ixO (h : dE X W ρ s a fun x s1 => dE X W ρ s1 b fun y s2 => ∃ (os : List Ob) (i : Int) (ob : Ob), x = .o (.lst os) ∧ y = .d (.int i) ∧ atI os i = some ob ∧ Φ ob.vl s2) (hs : PlainIx b := by intro _ _; rfl) : dE X W ρ s (.Subscript a b pos) Φ := .mk fun σ H Q en j kn =>
  toE (pe_ix ix_list pw pw hs) (h.go σ H _ en j fun v H1 x s1 e1 j1 v1 hb => hb.go σ H1 _ (W.em e1 en) j1 fun u H2 y s2 e2 j2 v2 ⟨os, i, ob, hx, hy, ha, q⟩ => by
    subst hx hy
    cases (show Ot X.K W.M H2 v (.lst os) from W.vm e2 v1) with
    | @lst l xs _ n h1 h2 =>
      cases v2
      have key : ∃ w, atI xs i = some w ∧ Ot X.K W.M H2 w ob := by
        unfold atI at ha ⊢
        rw [h2.len]
        cases hi : ixN os.length i with
        | none => rw [hi] at ha; cases ha
        | some k =>
          rw [hi] at ha
          exact h2.get ha
      obtain ⟨w, k1, k2⟩ := key
      exact ⟨l, xs, i, w, rfl, rfl, SqL.of h1, k1, kn w H2 ob.vl s2 (e1.trans e2) j2 (Ob.vt k2) q⟩)
end
end Fw

set_option Elab.async false
set_option linter.all false
set_option maxRecDepth 100000
set_option maxHeartbeats 3200000
namespace Fw
open PySem PySem.Spec PyProof.Rows
/-- how many texts stand among the first i -/
def cntS (xs : List Str) : Nat → Nat
  | 0 => 0
  | i + 1 => if ((xs.take i).any (· == xs.getD i Str.empty)) = true then cntS xs i else cntS xs i + 1
theorem cntS_le (xs : List Str) : ∀ i, cntS xs i ≤ i
  | 0 => Nat.le_refl _
  | i + 1 => by
    have := cntS_le xs i
    unfold cntS
    split <;> omega
abbrev mem (xs : List Str) (i : Nat) : Str → Bool := fun y => (xs.take i).any (· == y)
theorem mem_succ (xs : List Str) (i : Nat) (hi : i < xs.length) (y : Str) : (mem xs i y || decide (y = xs.getD i Str.empty)) = mem xs (i + 1) y := by
  show _ = (xs.take (i + 1)).any (· == y)
  rw [List.take_add_one, List.any_append, List.getElem?_eq_getElem hi]
  have e : xs.getD i Str.empty = xs[i] := by simp [List.getD_eq_getElem?_getD, List.getElem?_eq_getElem hi]
  rw [e]
  by_cases z : y = xs[i]
  · subst z; simp
  · have z' : (xs[i] == y) = false := by simpa [beq_iff_eq] using fun w : xs[i] = y => z w.symm
    simp [z, z']
section
variable {prog : Program} {w : World} {A : Around} {R : Result → Shared → Prop} {it : Addr} {fp wr : List Addr} {G : Array GenState → Array GenState → Prop} {n : Nat} {Pi : Nat → Value → Prop} {Si : Nat → Shared → Prop}
/-- the loop that fills a set of texts, from its i-th turn on -/
theorem fillS (B : WalksS prog w A.in1 it fp wr G n Pi Si) (D : Addr) (nD : D ∉ fp) (xs : List Str) (hx : xs.length = n) (few : n < 4000) (texts : ∀ i v, Pi i v → ∃ t, v = .str (xs.getD i Str.empty) t) :
    ∀ (m i : Nat) (s : Shared), n - i = m → i ≤ n → Si i s → s.heap.SetOf (PySem.strKind prog w) D (mem xs i) (cntS xs i) →
      (∀ z, Moved (D :: wr) G s z → z.heap.SetOf (PySem.strKind prog w) D (mem xs n) (cntS xs n) → R (.ok (.ret .none)) z) → codeAny (model prog w) A (.builtin "set.update.loop" ⟨[.ref D, .ref it], []⟩) R s := by
  have nW : D ∉ wr := fun z => nD (B.sub _ z)
  have wide : ∀ b ∈ wr, b ∈ D :: wr := fun b z => List.mem_cons_of_mem _ z
  have stay : ∀ {s z : Shared} {S : Str → Bool} {c : Nat}, Moved wr G s z → s.heap.SetOf (PySem.strKind prog w) D S c → z.heap.SetOf (PySem.strKind prog w) D S c := fun mv ⟨o, es, ep, tb, ho, r⟩ => ⟨o, es, ep, tb, mv.heap D _ nW ho, r⟩
  intro m
  induction m with
  | zero =>
    intro i s hm hi hs hD hR
    obtain rfl : i = n := by omega
    refine codeAny_builtin PyProof.Rows.F.entry_set_update_loop ?_; rw [Around.under_plainId PyProof.Rows.F.plain_set_update_loop _]
    show wpAny _ A.in1 (pyNext (.ref it) >>= _) _ _ s
    refine wpAny_bind (B.done s _ _ hs fun z mv => ?_)
    show wpAny _ A.in1 (ret Value.none) _ _ z
    exact wpAny_pure (hR z (mv.mono wide) (stay mv hD))
  | succ m ih =>
    intro i s hm hi hs hD hR
    have lt : i < n := by omega
    refine codeAny_builtin PyProof.Rows.F.entry_set_update_loop ?_; rw [Around.under_plainId PyProof.Rows.F.plain_set_update_loop _]
    show wpAny _ A.in1 (pyNext (.ref it) >>= _) _ _ s
    refine wpAny_bind (B.item i s _ _ lt hs fun v z hv hz mv => ?_)
    obtain ⟨t, rfl⟩ := texts i v hv
    have hc := cntS_le xs i
    have hDz : z.heap.SetOf (PySem.strKind prog w) D (mem xs i) (cntS xs i) := stay mv hD
    show wpAny _ A.in1 (holding [Value.str (xs.getD i Str.empty) t] (setAdd D (.str (xs.getD i Str.empty) t)) >>= _) _ _ z
    refine wpAny_bind (wpAny_holding ?_)
    unfold setAdd
    refine wpAny_holding (wpAny_bind ((PySem.strKind prog w).pyHash (k := xs.getD i Str.empty) (strKind_is _ _ _ _) ?_))
    refine wpAny_setAddHashed_of (knd := PySem.strKind prog w) (s := { z with toks := z.toks + 1 }) (strKind_is _ _ _ _) rfl hDz (by unfold scanBound; omega) fun h' sb hD2 => ?_
    have hD3 : h'.SetOf (PySem.strKind prog w) D (mem xs (i + 1)) (cntS xs (i + 1)) := SetOf_congr hD2 (fun y => mem_succ xs i (by omega) y) rfl
    refine wpAny_pure ⟨plainId_quiet PyProof.Rows.F.plain_set_update_loop _, ih (i + 1) _ (by omega) lt (B.frame _ z _ _ hz (Nat.le_succ _) fun b hb o e => ?_) hD3 fun y mv2 hD4 => ?_⟩
    · rw [sb.2 b (fun q : b = D => nD (by rw [← q]; exact hb))]; exact e
    · refine hR y (Moved.trans B.gtrans ((mv.mono wide).then_heap (Nat.le_succ _) fun b o hb e => ?_) mv2) hD4
      rw [sb.2 b (fun q : b = D => hb (by rw [q]; exact List.mem_cons_self))]; exact e
end
section
variable {prog : Program} {w : World} {A : Around} {E : Value → Shared → Prop} {s : Shared}
def newSet (led : Bool) : Obj := { cls := .type "set", dict := none, data := .set #[] 0 (.fresh 0 0 led) }
/-- set(x), x a tuple of texts -/
theorem setOfS {l : Addr} {its : Array Value} {xs : List Str} {Q : Value → Shared → Prop} (calm : A.handled = none) (src : s.heap.IsTuple l its) (tx : PyProof.Rows.StrsAre its.toList xs) (few : xs.length < 4000)
    (h : ∀ (hp : Heap) (tk : Nat), hp.SetOf (PySem.strKind prog w) s.heap.objs.size (mem xs xs.length) (cntS xs xs.length) → (∀ b o, b < s.heap.objs.size → s.heap.get? b = some o → hp.get? b = some o) → Q (.ref s.heap.objs.size) { s with heap := hp, toks := tk }) :
    wpAny (model prog w) A (call (.type "set") [.ref l]) Q E s := by
  obtain ⟨c0, tl0, mro0⟩ := PySem.F.called_set.mro
  have made0 := PySem.F.called_set.made; have sub0 := PySem.F.called_set.sub
  refine wpAny_call (codeAny_of_tree ?_)
  show wpAny _ _ (callAny (.type "set") _) _ _ _
  refine wpAny_pure ⟨Code.quiet_builtin _ (by decide +kernel), codeAny_builtin PySem.F.entry_type_call ?_⟩
  rw [Around.under_plain (weight_type_call_type "set" [.ref l] []) rfl]
  have f1 := PySem.F.called_set.notType; have f2 := PySem.F.called_set.canCreate; have f3 := PySem.F.typeCall_set_1 (.ref l)
  repeat (any_goals (first | assumption | wp_step))
  refine codeAny_mono (code_set_new_1 (.ref l) (E := E) (Q₁ := fun ob z => ∃ led : Bool, ob = .ref s.heap.objs.size ∧ z = { s with heap := s.heap.push (newSet led) }) fun led => ⟨led, rfl, rfl⟩) fun res z hz => ?_
  match res, hz with
  | .error er, hz => exact hz
  | .ok (.ret ob), hz =>
    obtain ⟨led, rfl, rfl⟩ := hz
    have at0 : (s.heap.push (newSet led)).get? s.heap.objs.size = some (newSet led) := Heap.get?_push_size _ rfl
    have ty0 : Shared.TypeIs { s with heap := s.heap.push (newSet led) } (.ref s.heap.objs.size) "set" := ⟨_, at0, rfl⟩
    have i1 := PySem.F.called_set.init.lookup; have i2 := PySem.F.called_set.init.bind (.ref s.heap.objs.size)
    repeat (any_goals (first | assumption | wp_step))
    refine codeAny_mono (codeAny_call_builtin (R := wants (fun r z => r = .none ∧ ∃ hp tk, z = { s with heap := hp, toks := tk } ∧ hp.SetOf (PySem.strKind prog w) s.heap.objs.size (mem xs xs.length) (cntS xs xs.length) ∧
        (∀ b o, b < s.heap.objs.size → s.heap.get? b = some o → hp.get? b = some o)) E) PySem.F.called_set.init.plain PySem.F.entry_set_init (check_set_init_1 ty0 ?_)) fun res2 z2 hz2 => ?_
    · have calm3 : A.in1.in1.in1.handled = none := by simp [calm]
      have len : xs.length = its.size := by rw [← StrsAre.len_eq tx, Array.length_toList]
      have vals : ∀ (i : Nat) (v : Value), its[i]? = some v → ∃ t, v = .str (xs.getD i Str.empty) t := fun i v hv => SS.strs_at tx i v (by rw [Array.getElem?_toList]; exact hv)
      have szp : (s.heap.push (newSet led)).objs.size = s.heap.objs.size + 1 := Heap.size_push _ _
      have fin : ∀ {wr : List Addr} {G : Array GenState → Array GenState → Prop} {z0 z : Shared} (ob : Obj), z0 = { s with heap := (s.heap.push (newSet led)).push ob } → (∀ b ∈ s.heap.objs.size :: wr, s.heap.objs.size ≤ b) → Moved (s.heap.objs.size :: wr) G z0 z → z.gens = s.gens →
          z.heap.SetOf (PySem.strKind prog w) s.heap.objs.size (mem xs its.size) (cntS xs its.size) → ∃ hp tk, z = { s with heap := hp, toks := tk } ∧ hp.SetOf (PySem.strKind prog w) s.heap.objs.size (mem xs xs.length) (cntS xs xs.length) ∧ (∀ b o, b < s.heap.objs.size → s.heap.get? b = some o → hp.get? b = some o) := by
        intro wr G z0 z ob e0 hw mv hg hz
        subst e0
        obtain ⟨hp, g', d', tk', os'⟩ := z
        have e1 : g' = s.gens := hg
        have e2 : d' = s.drawn := mv.drawn
        have e3 : os' = s.os := mv.os
        subst e1 e2 e3
        refine ⟨hp, tk', rfl, by rw [len]; exact hz, fun b o hb e => mv.heap b o (fun q => ?_) (Heap.get?_push_of_some _ (Heap.get?_push_of_some _ e))⟩
        exact Nat.lt_irrefl _ (Nat.lt_of_lt_of_le hb (hw b q))
      have start : ∀ ob : Obj, ((s.heap.push (newSet led)).push ob).SetOf (PySem.strKind prog w) s.heap.objs.size (mem xs 0) (cntS xs 0) := fun ob =>
        PyProof.Rows.SetOf_congr ((PyProof.Rows.setObjOf_fresh (knd := PySem.strKind prog w) led).setOf (Heap.get?_push_of_some _ at0) (by unfold scanBound; omega)) (fun _ => rfl) rfl
      obtain ⟨ol, o1, o2, nl, o3⟩ := src
      obtain ⟨c1, c2, c3, c4⟩ := ol
      simp only at o2 o3
      subst o2 o3
      have o1' : (s.heap.push (newSet led)).get? l = some { cls := .type "tuple", dict := c2, data := .seq its nl, slots := c4 } := Heap.get?_push_of_some _ o1
      have u1 := PySem.F.sub_tuple_set; have u2 := PySem.F.sub_tuple_frozenset
      have u3 : (Value.type "tuple" == Value.type "dict") = false := by decide
      have src' : (s.heap.push (newSet led)).IsTuple l its := ⟨_, o1', rfl, nl, rfl⟩
      unfold Builtin.«set.__init__» noKeywords Builtin.Frozenset.updateFrom
      generalize gP : pyIter = PI
      wp_walk
      subst gP
      refine wpAny_pyIter_tuple src' (wpAny_bind (wpAny_runValue ?_))
      have lt : l < s.heap.objs.size := Heap.lt_size o1
      refine fillS ((Walks.tuple calm3 _ l (by rw [szp]; exact Nat.ne_of_lt (Nat.lt_succ_of_lt lt)) its).toS) s.heap.objs.size (fun z => by
          rw [szp] at z
          rcases List.mem_cons.mp z with q | q
          · exact absurd q (Nat.ne_of_lt (Nat.lt_succ_self _))
          · exact absurd (List.mem_singleton.mp q) (Nat.ne_of_gt lt)) xs len (by omega) vals (its.size - 0) 0 _ (by omega) (Nat.zero_le _)
        ⟨⟨_, Heap.get?_push_size _ rfl, rfl, rfl⟩, src'.push _⟩ (start _) fun z mv hz => ?_
      obtain ⟨hp, tk, rfl, q1, q2⟩ := fin _ rfl (by rw [szp]; simp) mv mv.gens hz
      show wpAny _ _ _ _ _ _
      refine wpAny_pure ?_
      show wpAny _ _ (ret Value.none) _ _ _
      exact wpAny_pure ⟨rfl, hp, tk, rfl, q1, q2⟩
    · match res2, hz2 with
      | .error er, hz2 => exact hz2
      | .ok (.ret r), hz2 =>
        obtain ⟨rfl, hp, tk, rfl, q1, q2⟩ := hz2
        repeat (any_goals (first | assumption | wp_step))
        exact h _ _ q1 q2
      | .ok .next, hz2 => exact hz2.elim
      | .ok .brk, hz2 => exact hz2.elim
      | .ok .cont, hz2 => exact hz2.elim
  | .ok .next, hz => exact hz.elim
  | .ok .brk, hz => exact hz.elim
  | .ok .cont, hz => exact hz.elim
end
end Fw

set_option Elab.async false
set_option linter.all false
set_option maxRecDepth 100000
set_option maxHeartbeats 2000000
namespace Fw
open PySem PySem.Spec PyProof.Rows L2
/-! ### len(set(texts)) -/
theorem strs_DA {K : PySem.W.Frag} {M : Addr → Prop} {H : Hp} : ∀ {xs : List Str} {vs : List V}, DtA K M H vs (xs.map .str) → vs = xs.map V.str
  | [], _, .nil => rfl
  | x :: xs, _, .cons h1 h2 => by cases h1; rw [strs_DA h2]; rfl
section
variable {S : Type} {X : Cx} {W : Wd S} {ρ : Rho} {s : S} {Φ : Vl → S → Prop} {Δ : DE S} {a b c e e1 e2 o tg kx vx : Expr} {es : List Expr} {pos p p2 q apos py : Pos} {x y m f : Str}
def tLenS (K : PySem.W.Frag) (ta : TE) : TE := fun σ H Q => ta σ H fun x H1 => ∃ l, ∃ xs : List Str, x = .ref l ∧ SqT K H1 l (xs.map V.str) ∧ xs.length < 4000 ∧ Q (.int (cntS xs xs.length : Nat)) H1
theorem pe_lenS {ta : TE} (hc : X.calm = true) (hg : Gl X "len") (hm : X.mg "len" = none) (hg2 : Gl X "set") (hm2 : X.mg "set" = none) (ha : PE X a ta) (na : starEach [a] X.env = (false, eval a X.env) :: starEach [] X.env) :
    PE X (.Call (.Name "len" p) [.Call (.Name "set" p2) [a] [] q] [] pos) (tLenS X.K ta) := by
  refine ⟨fun pins s σ H Q I h => Call_ (ld_blt I hg hm boot_len (PyProof.Rows.callWith_builtin1 (PyProof.Rows.args_cons (Call_ (ld_blt I hg2 hm2 boot_set ?_)) rfl) rfl rfl))⟩
  refine PyProof.Rows.callWith_type1 (PyProof.Rows.args_cons (thn (ha.run pins s σ H _ I h) fun v s1 ⟨y, H1, J, ry, l, xs, ey, hq, few, q1⟩ => PyProof.Rows.args_nil ?_) na) na rfl
  subst ey
  cases ry
  obtain ⟨its, r, pl, hz⟩ := J.tuple hq
  refine setOfS (J.ok.hd hc) pl (by simpa using strsAre_of r) few fun hp tk hD hk => PyProof.Rows.args_nil ?_
  obtain ⟨ob, ess, ep, t, ho, hex, hd, _, _, _, hf, hn⟩ := hD
  have J2 : Inv X pins σ H1 { s1 with heap := hp, toks := tk } := J.kept fun b o e => hk b o (Heap.lt_size e) e
  have hcl := cntS_le xs xs.length
  exact call_len_set ho hex hd hf (by rw [hn]; omega) ⟨.int (cntS xs xs.length : Nat), H1, J2.tok _, ⟨_, by rw [hn]⟩, q1⟩
theorem de_lenS (hm : X.mg "len" = none) (hm2 : X.mg "set" = none) (h : dE X W ρ s a fun x s1 => ∃ xs : List Str, x = .d (.tuple (xs.map .str)) ∧ xs.length < 4000 ∧ Φ (.d (.int (cntS xs xs.length : Nat))) s1) (hc : X.calm = true := by rfl) (hg : Gl X "len" := by rfl) (hg2 : Gl X "set" := by rfl)
    (na : starEach [a] X.env = (false, eval a X.env) :: starEach [] X.env := by rfl) : dE X W ρ s (.Call (.Name "len" p) [.Call (.Name "set" p2) [a] [] q] [] pos) Φ := .mk fun σ H Q en j kn =>
  toE (pe_lenS hc hg hm hg2 hm2 pw na) (h.go σ H _ en j fun v H1 y s1 e1 j1 v1 ⟨xs, hx, few, q⟩ => by
    subst hx
    obtain ⟨l, us, rfl, h1, h2, _⟩ := (show Dt X.K W.M H1 v (.tuple (xs.map .str)) from v1).isT
    rw [strs_DA h2] at h1
    exact ⟨l, xs, rfl, h1, few, kn _ H1 (.d (.int _)) s1 e1 j1 (Dt.int _) q⟩)
/-! ### dicts with int and text keys -/
abbrev Kv := List (Key × PyData)
def Kv.d (l : Kv) : PyData := .dict (l.map fun q => (keyD q.1, q.2))
def Kv.get (l : Kv) (k : Key) : Option PyData := (l.find? fun q => decide (q.1 = k)).map (·.2)
def Kv.put (l : Kv) (k : Key) (d : PyData) : Kv := if (l.any fun q => decide (q.1 = k)) = true then l.map (fun q => if q.1 = k then (q.1, d) else q) else l ++ [(k, d)]
structure KvR (K : PySem.W.Frag) (M : Addr → Prop) (H : Hp) (kvs : List (Key × V)) (l : Kv) : Prop where
  ks : kvs.map (·.1) = l.map (·.1)
  vs : DtA K M H (kvs.map (·.2)) (l.map (·.2))
section
variable {K : PySem.W.Frag} {M : Addr → Prop} {H H1 : Hp} {kvs : List (Key × V)} {l : Kv}
theorem KvR.nil : KvR K M H [] [] := ⟨rfl, .nil⟩
theorem KvR.dt {a : Addr} (h : KvR K M H kvs l) (n : ¬ M a) (ha : H a = some (.dK kvs)) : Dt K M H (.ref a) l.d := by
  have e : l.d = .dict ((kvs.map fun p => keyD p.1).zip (l.map (·.2))) := by
    unfold Kv.d
    congr 1
    have e2 : (kvs.map fun p => keyD p.1) = l.map fun p => keyD p.1 := by
      have := congrArg (List.map keyD) h.ks
      rw [List.map_map, List.map_map] at this
      exact this
    rw [e2, List.zip_map']
  rw [e]
  exact Dt.dic n ha h.vs
theorem KvR.of {v : V} (h : Dt K M H v l.d) : ∃ a kvs, v = .ref a ∧ ¬ M a ∧ H a = some (.dK kvs) ∧ KvR K M H kvs l := by
  have inj : ∀ {a b : Key}, keyD a = keyD b → a = b := by
    intro a b e
    cases a <;> cases b <;> cases e <;> rfl
  generalize hd : l.d = d at h
  cases h with
  | @dic a kvs ds n h1 h2 =>
    refine ⟨a, kvs, rfl, n, h1, ?_⟩
    unfold Kv.d at hd
    injection hd with hd
    have key : ∀ (kvs : List (Key × V)) (ds : List PyData) (l : Kv), kvs.length = ds.length → (l.map fun q => (keyD q.1, q.2)) = (kvs.map fun p => keyD p.1).zip ds → kvs.map (·.1) = l.map (·.1) ∧ ds = l.map (·.2) := by
      intro kvs
      induction kvs with
      | nil => intro ds l hl e; cases ds with
        | nil => cases l with
          | nil => exact ⟨rfl, rfl⟩
          | cons q l => cases e
        | cons d ds => cases hl
      | cons p kvs ih => intro ds l hl e; cases ds with
        | nil => cases hl
        | cons d ds => cases l with
          | nil => cases e
          | cons q l =>
            simp only [List.map_cons, List.zip_cons_cons, List.cons.injEq, Prod.mk.injEq] at e
            obtain ⟨⟨e1, e2⟩, e3⟩ := e
            obtain ⟨g1, g2⟩ := ih ds l (by simpa using hl) e3
            simp only [List.map_cons]
            exact ⟨by rw [inj e1, g1], by rw [← e2, g2]⟩
    obtain ⟨g1, g2⟩ := key kvs ds l (by have := h2.len; simpa using this) hd
    exact ⟨g1, by rw [← g2]; exact h2⟩
  | _ => unfold Kv.d at hd; cases hd
theorem KvR.mono (e : Ex M H H1) (h : KvR K M H kvs l) : KvR K M H1 kvs l := ⟨h.ks, h.vs.mono e⟩
theorem KvR.len (h : KvR K M H kvs l) : kvs.length = l.length := by simpa using congrArg List.length h.ks
theorem KvR.get (h : KvR K M H kvs l) (k : Key) : (l.get k = none ∧ valV kvs k = none) ∨ ∃ d v, l.get k = some d ∧ valV kvs k = some v ∧ Dt K M H v d := by
  obtain ⟨h1, h2⟩ := h
  induction kvs generalizing l with
  | nil => cases l with
    | nil => exact .inl ⟨rfl, rfl⟩
    | cons q l => cases h1
  | cons p kvs ih => cases l with
    | nil => cases h1
    | cons q l =>
      simp only [List.map_cons, List.cons.injEq] at h1 h2
      cases h2 with
      | cons c1 c2 =>
        by_cases e : p.1 = k
        · refine .inr ⟨q.2, p.2, ?_, valV_pos e, c1⟩
          unfold Kv.get
          rw [List.find?_cons, show decide (q.1 = k) = true from decide_eq_true (h1.1 ▸ e)]
          rfl
        · have e' : ¬ q.1 = k := h1.1 ▸ e
          have g : Kv.get (q :: l) k = Kv.get l k := by
            unfold Kv.get
            rw [List.find?_cons, show decide (q.1 = k) = false from decide_eq_false e']
          rw [g, valV_neg e]
          exact ih h1.2 c2
theorem KvR.put (h : KvR K M H kvs l) (k : Key) {v : V} {d : PyData} (hv : Dt K M H v d) : KvR K M H (putK kvs k v) (l.put k d) := by
  have ea : (kvs.any fun q => decide (q.1 = k)) = l.any fun q => decide (q.1 = k) := by
    have e1 : (kvs.any fun q => decide (q.1 = k)) = (kvs.map (·.1)).any fun y => decide (y = k) := by rw [List.any_map]; rfl
    have e2 : (l.any fun q => decide (q.1 = k)) = (l.map (·.1)).any fun y => decide (y = k) := by rw [List.any_map]; rfl
    rw [e1, e2, h.ks]
  unfold putK Kv.put
  rw [ea]
  by_cases z : (l.any fun q => decide (q.1 = k)) = true
  · rw [if_pos z, if_pos z]
    clear ea z
    obtain ⟨h1, h2⟩ := h
    induction kvs generalizing l with
    | nil => cases l with
      | nil => exact ⟨rfl, .nil⟩
      | cons q l => cases h1
    | cons p kvs ih => cases l with
      | nil => cases h1
      | cons q l =>
        simp only [List.map_cons, List.cons.injEq] at h1 h2
        cases h2 with
        | cons c1 c2 =>
          obtain ⟨g1, g2⟩ := ih h1.2 c2
          by_cases e : p.1 = k
          · have e' : q.1 = k := h1.1 ▸ e
            simp only [List.map_cons, if_pos e, if_pos e']
            exact ⟨by simp only [List.map_cons, h1.1]; rw [g1], .cons hv g2⟩
          · have e' : ¬ q.1 = k := h1.1 ▸ e
            simp only [List.map_cons, if_neg e, if_neg e']
            exact ⟨by simp only [List.map_cons, h1.1]; rw [g1], .cons c1 g2⟩
  · rw [if_neg z, if_neg z]
    refine ⟨by rw [List.map_append, List.map_append, h.ks]; rfl, ?_⟩
    rw [List.map_append, List.map_append]
    exact h.vs.app (.cons hv .nil)
theorem Kv.put_len (l : Kv) (k : Key) (d : PyData) : (l.put k d).length ≤ l.length + 1 := by
  unfold Kv.put
  split <;> simp
end
/-- d.get(k) -/
theorem de_dget1 (R : Rm X) (h : dE X W ρ s o fun x s1 => ∃ l : Kv, x = .d l.d ∧ dE X W ρ s1 e fun y s2 => ∃ k : Key, y = .d (keyD k) ∧ Φ (.d ((l.get k).getD .none)) s2) (m : M1 X o "get" apos e pos) : dE X W ρ s (.Call (.Attribute o "get" apos) [e] [] pos) Φ := .mk fun σ H Q en j kn =>
  toE (pe_dget1 (by have := R.u; omega) pw pw m) (h.go σ H _ en j fun v H1 x s1 e1 j1 v1 ⟨l, hx, he⟩ => by
    subst hx
    obtain ⟨a, kvs, rfl, n, q1, q2⟩ := KvR.of (show Dt X.K W.M H1 v l.d from v1)
    refine ⟨a, rfl, .inl ⟨kvs, .inl q1⟩, he.go σ H1 _ (W.em e1 en) j1 fun u H2 y s2 e2 j2 v2 ⟨k, hy, q⟩ => ?_⟩
    subst hy
    have q3 : H2 a = some (.dK kvs) := W.up e2 a _ n q1
    have eu : u = kV k := by
      cases k with
      | inl i => cases (show Dt X.K W.M H2 u (.int i) from v2); rfl
      | inr i => cases (show Dt X.K W.M H2 u (.str i) from v2); rfl
    subst eu
    refine ⟨valV kvs k, DGet.k q3, ?_⟩
    rcases (q2.mono (W.up e2)).get k with ⟨g1, g2⟩ | ⟨d, w, g1, g2, g3⟩
    · rw [g1] at q; rw [g2]; exact kn .non H2 (.d .none) s2 (e1.trans e2) j2 Dt.non q
    · rw [g1] at q; rw [g2]; exact kn w H2 (.d d) s2 (e1.trans e2) j2 g3 q)
/-- {kx: vx for y in e}: Iv by the turn, what is made so far, the state -/
theorem de_dc {scope : Scope} (h : dI X W ρ s (.Name y py) e fun ds s1 => ds.length < sizeLine ∧ ∃ Iv : Nat → Kv → S → Prop, Iv 0 [] s1 ∧
      (∀ D k d acc s2, ds[k]? = some d → Iv k acc s2 → (∀ b : Bk, dE (bx X scope b) (W.plus D) ((wipR ρ [X.N.idxOf y]).set (X.N.idxOf y) (some (.d d))) s2 kx fun x s3 => ∃ ky : Key, x = .d (keyD ky) ∧
        ∀ b : Bk, dE (bx X scope b) (W.plus D) ((wipR ρ [X.N.idxOf y]).set (X.N.idxOf y) (some (.d d))) s3 vx fun z s4 => ∃ dz, z = .d dz ∧ Iv (k + 1) (acc.put ky dz) s4)) ∧
      ∀ acc s2, Iv ds.length acc s2 → Φ (.d acc.d) s2) (nd : X.N.Nodup) (ok : BlkOk X.N X.env.scope scope [(y, X.N.idxOf y)]) (hN : X.N[X.N.idxOf y]? = some y := by rfl) (hc : X.calm = true := by rfl)
    (hl : ∀ b : Bk, Loc (bx X scope b).env.scope y := by intro _; first | exact .inl rfl | exact .inr rfl) (hf : ∀ b : Bk, (bx X scope b).fn y = true ∨ (bx X scope b).env.scope.names.lookup y = some .local := by intro _; first | exact .inl rfl | exact .inr rfl)
    (hs : ∀ x, foldedSetIterable e X.env x = pure x := by intro _; rfl) : dE X W ρ s (.DictComp kx vx [⟨.Name y py, e, [], 0⟩] scope pos) Φ := .mk fun σ H Q en j kn => by
  refine toE (pe_dc (own := [(y, X.N.idxOf y)]) (tt := tYes) (tk := fun σ H Q => ∀ b : Bk, wE (bx X scope b) kx σ H Q) (tv := fun σ H Q => ∀ b : Bk, wE (bx X scope b) vx σ H Q) hc nd iw ok (fun a1 a2 a3 a4 a5 => pg_name nd hN (hl ⟨a1, a2, a3, a4, a5⟩) (hf ⟨a1, a2, a3, a4, a5⟩)) (fun a1 a2 a3 a4 a5 => pts_nil)
    (fun a1 a2 a3 a4 a5 => ⟨fun pins s' _ _ _ I q => q ⟨a1, a2, a3, a4, a5⟩ pins s' I⟩) (fun a1 a2 a3 a4 a5 => ⟨fun pins s' _ _ _ I q => q ⟨a1, a2, a3, a4, a5⟩ pins s' I⟩) hs) ?_
  refine h.go σ H _ en j fun J H1 ds s1 e1 j1 it ⟨hz, Iv, h0, hb, hd⟩ D hD => ?_
  have nD : ¬ W.M D := j1.new hD
  have nC : ¬ W.C D := fun c => nD (W.sub c)
  have sD : ∀ {H2 : Hp} {o : HO}, Ex W.C H1 H2 → Ex W.C H1 (upd H2 D o) := fun {H2 o} q a u n z => by
    rw [upd_ne (ne_of_none z hD)]
    exact q a u n z
  have m2 : ∀ a, (W.plus D).M a → ¬ W.M a → H1 a = none := fun a m n => by
    rcases m with m | m
    · exact absurd m n
    · rw [m]; exact hD
  refine ⟨fun k m H2 => m = ds.length - k ∧ k ≤ ds.length ∧ Ex W.C H1 H2 ∧ ∃ acc accV s2, (W.plus D).At s2 H2 ∧ H2 D = some (.dK accV) ∧ KvR X.K (W.plus D).M H2 accV acc ∧ acc.length ≤ k ∧ Iv k acc s2, ⟨ds.length, rfl, Nat.zero_le _, sD Ex.rfl', [], [], s1, ⟨W.keep (W.more j1.1 (N' := (W.plus D).M) m2) fun a o _ q => by rw [upd_ne (ne_of_none q hD)]; exact q, fun a m => ?_⟩, upd_same, .nil, Nat.le_refl _, h0⟩, ?_⟩
  · by_cases q : a = D
    · rw [q, upd_same]; exact fun z => nomatch z
    · rw [upd_ne q]
      rcases m with m | m
      · exact j1.2 a m
      · exact absurd m q
  rintro k m H2 ⟨rfl, hk, e2, acc, accV, s2, j2, hD2, kv, hacc, iv⟩
  by_cases hl' : k < ds.length
  · refine .inr ⟨it.go k H2 e2 hl', fun H3 => Ex W.C H1 H3 ∧ ∃ acc accV s2, (W.plus D).At s2 H3 ∧ H3 D = some (.dK accV) ∧ KvR X.K (W.plus D).M H3 accV acc ∧ acc.length ≤ k + 1 ∧ Iv (k + 1) acc s2, fun H3 ⟨q1, q2⟩ => ⟨ds.length - (k + 1), by omega, rfl, hl', q1, q2⟩, fun v H3 yl => ?_⟩
    obtain ⟨sm, d, q1, q2⟩ := it.yl (W.plus D).M k H2 v H3 (fun _ m => .inl m) m2 e2 j2.2 yl hl'
    have j3 : (W.plus D).At s2 H3 := j2.same sm
    have e3 : Ex W.C H1 H3 := e2.trans (Ex.of sm)
    have en1 : En X.K (W.plus D).M H1 σ ρ := (W.em e1 en).moreM m2
    have en3 : En X.K (W.plus D).M H3 ((wipe σ [X.N.idxOf y]).set (X.N.idxOf y) (some v)) ((wipR ρ [X.N.idxOf y]).set (X.N.idxOf y) (some (.d d))) := (((W.plus D).em e3 en1).wip [X.N.idxOf y]).set _ (x := .d d) q2
    refine ⟨wipe_one σ _ v, ?_⟩
    refine fun (b : Bk) => ?_
    refine ((hb D k d acc s2 q1 iv) b).go _ H3 _ en3 j3 fun u H4 x s4 e4 j4 v4 ⟨ky, hx, hv⟩ b2 => ?_
    subst hx
    refine (hv b2).go _ H4 _ ((W.plus D).em e4 en3) j4 fun u2 H5 x2 s5 e5 j5 v5 ⟨dz, hz2, hp⟩ => ?_
    subst hz2
    have eu : u = kV ky := by
      cases ky with
      | inl i => cases (show Dt X.K _ H4 u (.int i) from v4); rfl
      | inr i => cases (show Dt X.K _ H4 u (.str i) from v4); rfl
    have hD5 : H5 D = some (.dK accV) := e5 D _ nC (e4 D _ nC (sm D _ hD2))
    have kv5 : KvR X.K (W.plus D).M H5 accV acc := kv.mono fun a o n z => e5 a o (fun c => n (.inl (W.sub c))) (e4 a o (fun c => n (.inl (W.sub c))) (sm a o z))
    refine ⟨accV, ky, eu, hD5, by rw [kv5.len]; omega, sD (e3.trans (Ex.trans e4 e5)), acc.put ky dz, _, s5, ⟨W.keep j5.1 fun a o c q => ?_, fun a m => ?_⟩, upd_same, ?_, ?_, hp⟩
    · rw [upd_ne (show a ≠ D from fun w => c.elim (fun c => nC (w ▸ c)) fun c => c (.inr w))]
      exact q
    · by_cases w : a = D
      · rw [w, upd_same]
        exact fun z => nomatch z
      · rw [upd_ne w]
        exact j5.2 a m
    · exact (kv5.put ky v5).mono fun a o n z => by
        rw [upd_ne (fun w => n (.inr w))]
        exact z
    · have := Kv.put_len acc ky dz
      omega
  · have ei : k = ds.length := by omega
    subst ei
    refine .inl ⟨it.st _ H2 e2 (Nat.le_refl _), kn _ H2 (.d acc.d) s2 (e1.trans e2) ⟨W.less (N := W.M) (N' := (W.plus D).M) j2.1 fun _ m => .inl m, fun a m => j2.2 a (.inl m)⟩ ?_ (hd acc s2 iv)⟩
    exact KvR.dt (M := W.M) ⟨kv.ks, kv.vs.less fun a m => .inl m⟩ nD hD2
end
end Fw

set_option Elab.async false
set_option linter.all false
set_option maxRecDepth 100000
set_option maxHeartbeats 2000000
namespace Fw
open PySem PySem.Spec PyProof.Rows L2
/-! ### a deck of three numbers in a list -/
/-- the numbers of a deck from which at most n were drawn -/
def DkR (n : Nat) (o : HO) : Prop := ∃ c m k : Int, o = .lst [.int c, .int m, .int k] ∧ 0 ≤ m ∧ m < 2147483648 ∧ 0 ≤ k ∧ k ≤ n
def T2 : Deck where
  D := Addr
  adr := fun t => t
  C := fun t b => b = t
  J := fun t n H => ∃ o, H t = some o ∧ DkR n o
  keep := fun {t n H H'} ⟨o, h1, h2⟩ k => ⟨o, k t o rfl h1, h2⟩
  more := fun {t n m H} ⟨o, h1, c, a, k, h2, h3, h4, h5, h6⟩ le => ⟨o, h1, c, a, k, h2, h3, h4, h5, by omega⟩
def DK (K : PySem.W.Frag) : Ow K Nat where
  R := fun _ n o _ => DkR n o
  fz := fun a _ => .v (.ref a)
  mono := fun _ h => h
  more := fun h _ => h
  less := fun h _ => h
  frz := fun _ _ _ => rfl
/-- a world that owns a deck -/
def IsK.deck {S : Type} {K : PySem.W.Frag} {W : Wd S} {a : Addr} (n : ¬ W.M a) : IsK T2 (W.own a (DK K)) a where
  get := fun s => s.2
  put := fun s m => (s.1, m)
  C := fun b h => .inr h
  J := fun ⟨_, o, h1, h2⟩ => ⟨o, h1, h2⟩
  up := fun ⟨j, _⟩ c e ⟨o, h1, h2⟩ => ⟨W.keep j fun b ob h z => e b ob (fun w => by
    subst w
    rcases h with h | h
    · exact n (W.sub h)
    · exact h (c b rfl)) z, o, h1, h2⟩
/-! ### the script -/
theorem sq_kept {K : PySem.W.Frag} {H H' : Hp} {sc : Addr} {xs : List V} (h : SqL K H sc xs) (k : ∀ o, H sc = some o → H' sc = some o) : SqL K H' sc xs := by
  rcases h with (h | ⟨o, h⟩) | h
  · exact .inl (.inl (k _ h))
  · exact .inl (.inr ⟨o, k _ h⟩)
  · exact .inr h
/-- the world of a law: the script stands still -/
def Ws (H0 : Hp) (sc : Addr) : Wd Unit where
  M := fun b => b = sc ∧ H0 sc ≠ none
  C := fun b => b = sc ∧ H0 sc ≠ none
  J := fun _ _ H => ∀ o, H0 sc = some o → H sc = some o
  sub := fun h => h
  keep := fun {N s H H'} h k o e => k sc o (.inl ⟨rfl, by rw [e]; exact fun z => nomatch z⟩) (h o e)
  more := fun h _ => h
  less := fun h _ => h
theorem Ws.at {sc : Addr} {H : Hp} : (Ws H sc).At () H := ⟨fun _ e => e, fun b ⟨e, m⟩ => by rw [e]; exact m⟩
theorem Ws.same {sc : Addr} {H H2 : Hp} (e : Ex (Ws H sc).C H H2) (j : (Ws H sc).At () H2) : Same H H2 := fun b o q => by
  by_cases z : b = sc
  · subst z; exact j.1 o q
  · exact e b o (fun c => z c.1) q
section
variable {S : Type} {X : Cx} {W : Wd S} {ρ : Rho} {s : S} {Φ : Vl → S → Prop} {Δ : DE S} {a b e : Expr} {es : List Expr} {pos p : Pos} {x : Str} {rest : List Stmt}
/-- len of a list that the state tells -/
theorem de_lenQ (hm : X.mg "len" = none) (h : dE X W ρ s e fun x s1 => ∃ (l : Addr) (xs : List V), x = .v (.ref l) ∧ (∀ H, W.J W.M s1 H → SqL X.K H l xs) ∧ Φ (.d (.int xs.length)) s1) (hg : Gl X "len" := by rfl) (he : starEach [e] X.env = (false, eval e X.env) :: starEach [] X.env := by rfl) :
    dE X W ρ s (.Call (.Name "len" p) [e] [] pos) Φ := .mk fun σ H Q en j kn =>
  toE (pe_callB call_len_seq hg hm boot_len (pa_cons pw pa_nil he) (by decide) (by decide) he rfl) (h.go σ H _ en j fun v H1 y s1 e1 j1 v1 ⟨l, xs, hx, hJ, q⟩ => by
    subst hx
    cases (show v = .ref l from v1)
    exact ⟨l, xs, rfl, .inl (hJ H1 j1.1), kn _ H1 (.d (.int _)) s1 e1 j1 (Dt.int _) q⟩)
theorem de_ixQ (h : dE X W ρ s a fun x s1 => dE X W ρ s1 b fun y s2 => ∃ (l : Addr) (xs : List V) (i : Int) (vl : Vl) (v : V), x = .v (.ref l) ∧ y = .d (.int i) ∧ (∀ H, W.J W.M s2 H → SqL X.K H l xs) ∧ atI xs i = some v ∧ (∀ H, W.J W.M s2 H → Vt X.K W.M H v vl) ∧ Φ vl s2) (hs : PlainIx b := by intro _ _; rfl) :
    dE X W ρ s (.Subscript a b pos) Φ := .mk fun σ H Q en j kn => toE (pe_ix ix_list pw pw hs) (h.go σ H _ en j fun v H1 x s1 e1 j1 v1 hb => hb.go σ H1 _ (W.em e1 en) j1 fun u H2 y s2 e2 j2 v2 ⟨l, xs, i, vl, w, hx, hy, hJ, ha, hv, q⟩ => by
      subst hx hy
      cases (show v = .ref l from v1)
      cases v2
      exact ⟨l, xs, i, w, rfl, rfl, hJ H2 j2.1, ha, kn w H2 vl s2 (e1.trans e2) j2 (hv H2 j2.1) q⟩)
/-- a new deck: a list of three numbers that nobody else holds -/
def spDeck (K : PySem.W.Frag) : Sp := fun vs H Q _ => ∃ i : Int, vs = [.int i] ∧ ∀ a H', Same H H' → H a = none → (∃ o, H' a = some o ∧ DkR 0 o) → Q (.ref a) H'
/-- x = f(e): a deck that is owned from here on -/
theorem db_deck {CX : CXT} {k : Nat} {st : Stmt} {f : Str} {ps : List Str} {p' q' : Pos} (F : Dfn X.prog X.w X.K X.mg X.base CX k f st ps (spDeck X.K)) (R : Rm X) (r : Room k X.A) (hx : Passes CX X E0)
    (h : dE X W ρ s e fun y s1 => ∃ i : Int, y = .d (.int i) ∧ ∀ l, ¬ W.M l → dB X (W.own l (DK X.K)) (ρ.set (X.N.idxOf x) (some (.v (.ref l)))) (s1, 0) rest (Δ.own l (DK X.K))) (nd : X.N.Nodup)
    (hN : X.N[X.N.idxOf x]? = some x := by rfl) (hxl : Loc X.env.scope x := by first | exact .inl rfl | exact .inr rfl) (hs : swapsWith (.Call (.Name f p) [e] [] pos) (some (.Name x p')) q'.line X.env = pure false := by rfl) (hf : X.fn x = true ∨ X.env.scope.names.lookup x = some .local := by first | exact .inl rfl | exact .inr rfl)
    (hg : Gl X f := by rfl) (h1 : (f == ("__debug__" : Str)) = false := by decide) (h2 : starEach [e] X.env = (false, eval e X.env) :: starEach [] X.env := by rfl) : dB X W ρ s (.Assign [.Name x p'] (.Call (.Name f p) [e] [] pos) q' :: rest) Δ := .mk fun σ H D en j kn =>
  toB (pss_cons (ps_set nd hN hxl (pe_go F R.g r hx (pa_cons pw pa_nil h2) hg h1 h2 rfl) hs hf) bw) (h.go σ H _ en j fun v H1 y s1 e1 j1 v1 ⟨i, hy, hb⟩ => by
    subst hy
    cases (show Dt X.K W.M H1 v (.int i) from v1)
    refine ⟨i, rfl, fun l H2 sm nl hD => ?_⟩
    have nM := j1.new nl
    obtain ⟨o, h3, h4⟩ := hD
    exact own_block (κ := DK X.K) nM nl sm ((W.em e1 en).set _ (x := .v (.ref l)) rfl) (hb l nM) (Wd.own_at (κ := DK X.K) j1 nl sm h3 h4 (fun b m z => nM (z ▸ m)) h4) (kn.ex e1))
/-- {'z': None} -/
theorem de_dicN {z : Str} {k1 k2 : Nat} {q1 q2 : Pos} (h : Φ (.d (.dict [(.str z, .none)])) s) : dE X W ρ s (.Dict [some (.Constant (.str z) k1 q1)] [.Constant .none k2 q2] pos) Φ := .mk fun σ H Q en j kn =>
  toE (pe_disp (pps_cons pe_str pe_non pps_nil) rfl rfl (by simp) (by simp)) fun q hq => ⟨upd_same, [(.inr z, .non)], rfl, by simp, by
    have sm : Same H (upd (upd H q (.dK [])) q (.dK (mergeK [] [((Sum.inr z : Key), V.non)]))) := fun b o eb => by
      rw [upd_ne (ne_of_none eb hq), upd_ne (ne_of_none eb hq)]; exact eb
    exact kn _ _ (.d (.dict [(.str z, .none)])) s (Ex.of sm) (j.same sm) (Dt.dic (kvs := [(.inr z, .non)]) (ds := [.none]) (j.new hq) upd_same (.cons .non .nil)) h⟩
end
end Fw

set_option Elab.async false
set_option linter.all false
set_option maxRecDepth 100000
set_option maxHeartbeats 2000000
namespace Fw
open PySem PySem.Spec PyProof.Rows L2
/-! ### the end: a law whose promise holds where no repr is under way -/
theorem lawG {P : Program} {w : World} {K : PySem.W.Frag} {mg mb : Str → Option Value} {k : Nat} {fa a : Addr} {x : Str} {sp : Sp} {s1 : Shared} {vs : List Value} {ns : List Int}
    (KX : K.In s1.heap) (hns : s1.heap.Ns mainGlobals mg) (hbn : s1.heap.Ns builtinsNs mb) (hbb : ∀ x : Str, x ≠ "__name__" → mb x = bootBuiltins x) (hlim : s1.heap.NoLimit) (hgen : s1.gens = #[])
    (hobj : s1.heap.get? a = some { cls := .type "list", data := .seq vs.toArray }) (hi : IntsAre vs ns) (hl : ns.length ≤ sizeLine) (hr : Room k callerA) (hg : callerA.guards = some [])
    (F : ∀ base : Heap, K.In base → base.Ns mainGlobals mg → ∃ fd, (∀ (s : Shared) (u : Value), BindsTo s fd ⟨[u], []⟩ [(x, u)]) ∧ FnG P w K mg base CX0 k fa fd [x] sp)
    (hsp : ∀ H : Hp, SqL K H a (ns.map V.int) → sp [.ref a] H (fun v _ => v = .bl true) fun _ _ _ => False) :
    codeAny (model P w) callerA (.call (.ref fa) ⟨[.ref a], []⟩) (fun r s' => r = .ok (.ret (.bool true)) ∧ OldK s1.heap s'.heap ∧ s'.os = s1.os ∧ AllBare s'.gens) s1 := by
  have rel := vals_ints hi
  have lenV := hi.length
  have go : ∀ T : Hp, Only T → SqL K T a (ns.map V.int) → HOk P w T s1.heap → (∀ b, T b ≠ none → b = a) → (T a ≠ none → K.lookup a = none) →
      codeAny (model P w) callerA (.call (.ref fa) ⟨[.ref a], []⟩) (fun r s' => r = .ok (.ret (.bool true)) ∧ OldK s1.heap s'.heap ∧ s'.os = s1.os ∧ AllBare s'.gens) s1 := fun T hO hS hok hA hK => by
    have noD : ∀ {b : Addr} {o : Obj} {es : Array DictEntry} {ep : Nat}, s1.heap.get? b = some o → o.data = .dict es ep → T b = none := fun {b o es ep} e d => Classical.byContradiction fun z => by
      have eb : b = a := hA b z
      rw [eb, hobj] at e
      cases e
      cases (show Data.seq vs.toArray _ = Data.dict es ep from d)
    have keepNs : ∀ {b : Addr} {m : Str → Option Value}, s1.heap.Ns b m → (hidT s1.heap T).Ns b m := fun {b m} ⟨o, es, ep, e, d, r⟩ => ⟨o, es, ep, hidT_get e (noD e d), d, r⟩
    have keepK : K.In (hidT s1.heap T) := fun b o e => hidT_get (KX b o e) (Classical.byContradiction fun z => by
      have eb : b = a := hA b z
      rw [eb] at z e
      rw [hK z] at e
      cases e)
    have hM : Mod K mg (hidT s1.heap T) := ⟨keepK, keepNs hns, ⟨mb, keepNs hbn, hbb⟩, let ⟨mc, l1, l2⟩ := hlim; ⟨mc, keepNs l1, l2⟩⟩
    have en : Env0 P w K mg (hidT s1.heap T) callerA [] s1 T := ⟨rfl, hM, fun b o e => of_hidT e, Nat.le_of_eq (hidT_size _ _), trivial, fun b z => absurd z List.not_mem_nil, hok, .of_eq hgen⟩
    obtain ⟨fd, hbind, FG⟩ := F _ keepK (keepNs hns)
    refine codeAny_mono (FG.go callerA [] s1 T ⟨[.ref a], []⟩ [.ref a] [.ref a] _ _ hg hr en (hbind s1 (.ref a)) (.cons rfl .nil) (hsp T hS)) fun res s2 z => ?_
    match res, z with
    | .error er, z => exact (show False from z).elim
    | .ok (.ret u), z =>
      obtain ⟨v, T2, z1, z2, un, hok2, z3, z4⟩ := z
      have z5 : v = .bl true := z4
      subst z5
      obtain rfl : u = Value.bool true := z3
      refine ⟨rfl, OldK.of_keep fun b o e => ?_, z1, z2⟩
      rcases hO b with q | ⟨ob, xs, q⟩
      · exact un.keep b o e q (fun z => absurd z List.not_mem_nil) (by simp)
      · obtain ⟨e1, _⟩ := hok b _ q
        obtain ⟨e2, _⟩ := hok2 b _ (un.frzs b ob _ q)
        rw [e] at e1
        cases e1
        exact e2
  cases hk : K.lookup a with
  | some o =>
    have e := (KX a o hk).symm.trans hobj
    cases e
    exact go (fun _ => none) (fun _ => .inl rfl) (.inr ⟨_, vs.toArray, _, hk, rfl, rfl, rfl, by rw [List.size_toArray, lenV]; exact hl, by simpa using rel⟩) (fun b u z => nomatch z) (fun b z => absurd rfl z) fun z => absurd rfl z
  | none =>
    have at_ : ∀ b : Addr, b ≠ a → (if b = a then some (HO.frz { cls := .type "list", data := .seq vs.toArray } (.lst (ns.map V.int))) else none) = none := fun b n => if_neg n
    refine go (fun b => if b = a then some (.frz { cls := .type "list", data := .seq vs.toArray } (.lst (ns.map V.int))) else none) (fun b => ?_) (.inl (.inr ⟨{ cls := .type "list", data := .seq vs.toArray }, if_pos rfl⟩)) (fun b u z => ?_) (fun b z => ?_) fun _ => hk
    · by_cases n : b = a
      · exact .inr ⟨_, _, if_pos n⟩
      · exact .inl (at_ b n)
    · by_cases n : b = a
      · subst n
        cases (if_pos rfl).symm.trans z
        exact ⟨hobj, by rw [List.length_map]; exact hl, vs, _, rel, hobj⟩
      · cases (at_ b n).symm.trans z
    · exact Classical.byContradiction fun n => z (at_ b n)
/-- the goal that head_any leaves -/
theorem walkG {l : PySem.W.OpenLaw} {n k : Nat} {q : Program} {loose : List Str} {XP : (Str → Option Value) → Heap → Prop} {YP : World → Heap → Prop} {d : DefRec} {x : Str}
    (hn : l.most = some n) (hn2 : n ≤ sizeLine) (hdf : d.params.defaults = []) (hr : Room k callerA) (hg : callerA.guards = some [])
    (F : ∀ (w : World) (mg : Str → Option Value) (fa : Addr) (h : Heap), YP w h → h.Ns mainGlobals mg → mg d.name = some (.ref fa) →
      ∃ (K : PySem.W.Frag) (sp : Sp), K.In h ∧
        (∀ (H : Hp) (a : Addr) (ns : List Int), SqL K H a (ns.map V.int) → sp [.ref a] H (fun v _ => v = .bl true) fun _ _ _ => False) ∧
        ∀ base : Heap, K.In base → base.Ns mainGlobals mg → ∃ fd, (∀ (s : Shared) (u : Value), BindsTo s fd ⟨[u], []⟩ [(x, u)]) ∧ FnG l.prog w K mg base CX0 k fa fd [x] sp) :
    PySem.W.WalkO q loose XP YP l.row.toRowW d [] (fun f vs => PySem.call f vs) :=
  Att.attach_call hn hdf fun w s0 s1 mg mb fa o pm cd doc a vs ns G Y ho hd hcd hmg hobj hints hlen hgen => by
    obtain ⟨K, sp, KX, hsp, hF⟩ := F w mg fa _ Y G.T.g hmg
    exact lawG KX G.T.g G.T.b G.T.builtins G.T.nolimit hgen hobj hints (Nat.le_trans hlen hn2) hr hg hF fun H hS => hsp H a ns hS
/-! ### a Hook that holds the modules' table too -/
abbrev AlS : Type := Bool × He.AlD
def obsS (n : Nat) (fa : List He.Fa) (fn : List He.DefD) (g : Addr → Option Obj) : AlS := (((frS n g).lookup sysModules).isSome, He.obsD fa fn (frS n g))
def hookS (n : Nat) (fa : List He.Fa) (fn : List He.DefD) : PySem.W.Hook where
  α := AlS
  obs := fun s => obsS n fa fn s.heap.get?
  val := fun _ => (true, He.valD fn)
  says := fun _ h => ∃ K : PySem.W.Frag, K.In h ∧ (K.lookup sysModules).isSome = true ∧ He.SaysD fa fn K
  of := fun _ _ e => ⟨_, He.frG_in, congrArg (fun z : AlS => z.1) e, congrArg (fun z : AlS => z.2) e⟩
  keeps := fun _ _ _ ⟨K, hK, c⟩ k => ⟨K, PySem.W.Frag.In.keeps hK k, c⟩
theorem obsS_eq {n : Nat} {fa : List He.Fa} {fn : List He.DefD} {g : Addr → Option Obj} {s : Shared} (h : ∀ a, g a = s.heap.get? a) : obsS n fa fn g = (hookS n fa fn).obs s := by
  have e : g = s.heap.get? := funext h
  subst e
  rfl
theorem sys_in {K : PySem.W.Frag} {h : Heap} (X : K.In h) (c : (K.lookup sysModules).isSome = true) : h.get? sysModules ≠ none := by
  obtain ⟨o, e⟩ := Option.isSome_iff_exists.mp c
  rw [X _ _ e]
  exact fun z => nomatch z
/-- a def by the head's fact -/
theorem src_of {K : PySem.W.Frag} {h : Heap} {mg : Str → Option Value} {x : Str} {st : Stmt} (X : K.In h) (G : h.Ns mainGlobals mg) (g : (He.Fa.glo x).ok K = true) (f : ∃ fd, FunD K x x (defArgs st) (defBody st) (defScope st) [] [] (He.fAd K (x, none)) fd) : Src K mg x st :=
  let ⟨fd, F⟩ := f; ⟨He.fAd K (x, none), fd, He.glo_ok X G g, F⟩
end Fw

set_option Elab.async false
set_option linter.all false
set_option maxRecDepth 100000
set_option maxHeartbeats 2000000
namespace Fw
open PySem PySem.Spec PyProof.Rows L2
/-! ### a Hook over defs at any address, properties, and what else is told -/
/-- a property's getter -/
theorem prpB_ok {K : PySem.W.Frag} {c m : Str} (h : prpB K c m = true) : PropOf K (He.ga K c) m (He.ma K (He.ga K c) m) (prpA K c m) := by
  obtain ⟨h1, h⟩ := He.ba h
  obtain ⟨h2, h⟩ := He.ba h
  obtain ⟨h3, h4⟩ := He.ba h
  refine ⟨He.eqO_ok h1, He.eqO_ok h2, of_decide_eq_true h3, ?_⟩
  unfold prpA
  split at h4
  · rename_i g rest e
    rw [e]
    exact ⟨rest, rfl⟩
  · cases h4
/-- a def of the module, a def of a class -/
theorem src_M {K : PySem.W.Frag} {h : Heap} {mg : Str → Option Value} {x : Str} {st : Stmt} (X : K.In h) (G : h.Ns mainGlobals mg) (g : (He.Fa.glo x).ok K = true) (f : ∃ fd, FunD K (dM x st).name (dM x st).qual (dM x st).params (dM x st).body (dM x st).scope ((dM x st).dvs K) ((dM x st).kws K) ((dM x st).at_ K) fd) : Src K mg x st :=
  let ⟨fd, F⟩ := f; ⟨He.ga K x, fd, He.glo_ok X G g, F⟩
theorem src_C {K : PySem.W.Frag} {c m q : Str} {st : Stmt} (f : ∃ fd, FunD K (dC c m q st).name (dC c m q st).qual (dC c m q st).params (dC c m q st).body (dC c m q st).scope ((dC c m q st).dvs K) ((dC c m q st).kws K) ((dC c m q st).at_ K) fd) : SrcF K (He.ma K (He.ga K c) m) m q st [] :=
  let ⟨fd, F⟩ := f; ⟨fd, F⟩
theorem src_P {K : PySem.W.Frag} {c m q : Str} {st : Stmt} (f : ∃ fd, FunD K (dP c m q st).name (dP c m q st).qual (dP c m q st).params (dP c m q st).body (dP c m q st).scope ((dP c m q st).dvs K) ((dP c m q st).kws K) ((dP c m q st).at_ K) fd) : SrcF K (prpA K c m) m q st [] :=
  let ⟨fd, F⟩ := f; ⟨fd, F⟩
end Fw

set_option Elab.async false
set_option linter.all false
set_option maxRecDepth 100000
set_option maxHeartbeats 4000000
set_option pp.maxSteps 300
namespace KK
open PySem PySem.Spec PyProof.Rows L2 Fw
local macro_rules | `(tactic| walk_at "fE") => `(tactic| first
  | ((with_reducible show dE _ _ _ _ (Expr.Name _ _) _); first | refine de_var ?_ | refine de_globS (by assumption) ?_ | refine de_globI (by assumption) ?_)
  | ((with_reducible show dE _ _ _ _ (Expr.Constant (Const.str _) _ _) _); refine de_str ?_)
  | ((with_reducible show dE _ _ _ _ (Expr.Constant (Const.int _) _ _) _); refine de_int ?_)
  | ((with_reducible show dE _ _ _ _ (Expr.Constant (Const.bool _) _ _) _); refine de_bool ?_)
  | ((with_reducible show dE _ _ _ _ (Expr.Constant Const.none _ _) _); refine de_none ?_)
  | ((with_reducible show dE _ _ _ _ (Expr.BoolOp _ [_] _) _); refine de_one ?_)
  | ((with_reducible show dE _ _ _ _ (Expr.BoolOp BoolOp.And _ _) _); refine de_and ?_)
  | ((with_reducible show dE _ _ _ _ (Expr.BoolOp BoolOp.Or _ _) _); refine de_or ?_)
  | ((with_reducible show dE _ _ _ _ (Expr.UnaryOp UnaryOp.Not _ _) _); refine de_not ?_)
  | ((with_reducible show dE _ _ _ _ (Expr.UnaryOp UnaryOp.USub _ _) _); refine de_neg ?_)
  | ((with_reducible show dE _ _ _ _ (Expr.Compare _ [CmpOp.Eq] _ _) _); refine de_cmp (op_eqDD (by first | assumption | exact Rm.blk (by assumption) | exact Rm.blk (Rm.blk (by assumption)))) ?_)
  | ((with_reducible show dE _ _ _ _ (Expr.Compare _ [CmpOp.NotEq] _ _) _); refine de_cmp (op_neDD (by first | assumption | exact Rm.blk (by assumption) | exact Rm.blk (Rm.blk (by assumption)))) ?_)
  | ((with_reducible show dE _ _ _ _ (Expr.Compare _ [CmpOp.Lt] _ _) _); refine de_cmp op_ltD ?_)
  | ((with_reducible show dE _ _ _ _ (Expr.Compare _ [CmpOp.LtE] _ _) _); refine de_cmp op_leD ?_)
  | ((with_reducible show dE _ _ _ _ (Expr.Compare _ [CmpOp.Gt] _ _) _); refine de_cmp op_gtD ?_)
  | ((with_reducible show dE _ _ _ _ (Expr.Compare _ [CmpOp.GtE] _ _) _); refine de_cmp op_geD ?_)
  | ((with_reducible show dE _ _ _ _ (Expr.Compare _ [CmpOp.In] _ _) _); refine de_cmp (op_inD (by first | assumption | exact Rm.blk (by assumption) | exact Rm.blk (Rm.blk (by assumption)))) ?_)
  | ((with_reducible show dE _ _ _ _ (Expr.Compare _ [CmpOp.NotIn] _ _) _); refine de_cmp (op_ninD (by first | assumption | exact Rm.blk (by assumption) | exact Rm.blk (Rm.blk (by assumption)))) ?_)
  | ((with_reducible show dE _ _ _ _ (Expr.Compare _ [CmpOp.Is] _ _) _); refine de_cmp op_isD ?_)
  | ((with_reducible show dE _ _ _ _ (Expr.Compare _ [CmpOp.IsNot] _ _) _); refine de_cmp op_isntD ?_)
  | ((with_reducible show dE _ _ _ _ (Expr.Compare _ [CmpOp.LtE, CmpOp.LtE] _ _) _); refine de_chain op_leD op_leD ?_)
  | ((with_reducible show dE _ _ _ _ (Expr.Compare _ [CmpOp.LtE, CmpOp.Lt] _ _) _); refine de_chain op_leD op_ltD ?_)
  | ((with_reducible show dE _ _ _ _ (Expr.Compare _ [CmpOp.Lt, CmpOp.Lt] _ _) _); refine de_chain op_ltD op_ltD ?_)
  | ((with_reducible show dE _ _ _ _ (Expr.BinOp _ Operator.Add _ _) _); refine de_bin op_addD ?_)
  | ((with_reducible show dE _ _ _ _ (Expr.BinOp _ Operator.Sub _ _) _); refine de_bin op_subD ?_)
  | ((with_reducible show dE _ _ _ _ (Expr.BinOp _ Operator.Mult _ _) _); refine de_bin op_mulD ?_)
  | ((with_reducible show dE _ _ _ _ (Expr.BinOp _ Operator.Mod _ _) _); refine de_bin op_modD ?_)
  | ((with_reducible show dE _ _ _ _ (Expr.BinOp _ Operator.FloorDiv _ _) _); refine de_bin op_divD ?_)
  | ((with_reducible show dE _ _ _ _ (Expr.BinOp _ Operator.Pow _ _) _); refine de_bin op_powD ?_)
  | ((with_reducible show dE _ _ _ _ (Expr.Tuple _ _ _) _); refine de_tup ?_)
  | ((with_reducible show dE _ _ _ _ (Expr.List _ _) _); refine de_lst ?_)
  | ((with_reducible show dE _ _ _ _ (Expr.IfExp _ _ _ _) _); refine de_if ?_)
  | ((with_reducible show dE _ _ _ _ (Expr.Subscript _ (Expr.Slice _ _ none _) _) _); refine de_slice sl_D ?_)
  | ((with_reducible show dE _ _ _ _ (Expr.Subscript _ (Expr.Slice _ _ _ _) _) _); refine de_revT ?_)
  | ((with_reducible show dE _ _ _ _ (Expr.Subscript _ _ _) _); refine de_ix ix_D ?_)
  | ((with_reducible show dE _ _ _ _ (Expr.Dict [] _ _) _); refine de_dic0 ?_)
  | ((with_reducible show dE _ _ _ _ (Expr.Dict _ _ _) _); first | refine de_dicC ?_ | refine de_dicN ?_)
  | ((with_reducible show dE _ _ _ _ (Expr.Call (Expr.Attribute _ "upper" _) _ _ _) _); refine de_upper ?_)
  | ((with_reducible show dE _ _ _ _ (Expr.Call (Expr.Attribute _ "join" _) _ _ _) _); refine de_join ?_)
  | ((with_reducible show dE _ _ _ _ (Expr.Call (Expr.Attribute _ _ _) _ _ _) _); refine de_mth (by assumption) (by assumption) (by assumption) (by first | assumption | exact Rm.blk (by assumption) | exact Rm.blk (Rm.blk (by assumption))) (by first | assumption | exact Room.mono (by assumption) (by decide)) pass0 ?_)
  | ((with_reducible show dE _ _ _ _ (Expr.Attribute _ _ _) _); first | refine de_fld (by assumption) (by assumption) ?_ | refine de_prp (by assumption) (by assumption) (by assumption) (by first | assumption | exact Rm.blk (by assumption) | exact Rm.blk (Rm.blk (by assumption))) (by first | assumption | exact Room.mono (by assumption) (by decide)) pass0 ?_)
  | ((with_reducible show dE _ _ _ _ (Expr.Call (Expr.Name "isinstance" _) [_, Expr.Name "str" _] _ _) _); refine de_isiS (by assumption) (by assumption) ?_)
  | ((with_reducible show dE _ _ _ _ (Expr.Call (Expr.Name "isinstance" _) [_, Expr.Name "int" _] _ _) _); refine de_isiI (by assumption) (by assumption) ?_)
  | ((with_reducible show dE _ _ _ _ (Expr.Call (Expr.Name "isinstance" _) [_, Expr.Name "bool" _] _ _) _); refine de_isiB (by assumption) (by assumption) ?_)
  | ((with_reducible show dE _ _ _ _ (Expr.Call (Expr.Name "isinstance" _) [_, Expr.Name "tuple" _] _ _) _); refine de_isiT (by assumption) (by assumption) ?_)
  | ((with_reducible show dE _ _ _ _ (Expr.Call (Expr.Name "isinstance" _) [_, Expr.Name "list" _] _ _) _); refine de_isiL (by assumption) (by assumption) ?_)
  | ((with_reducible show dE _ _ _ _ (Expr.Call (Expr.Name "len" _) [Expr.Call (Expr.Name "set" _) _ _ _] _ _) _); refine de_lenS (by assumption) (by assumption) ?_)
  | ((with_reducible show dE _ _ _ _ (Expr.Call (Expr.Name "len" _) _ _ _) _); refine de_len (by assumption) ?_)
  | ((with_reducible show dE _ _ _ _ (Expr.Call (Expr.Name "str" _) _ _ _) _); refine de_strC (by assumption) ?_)
  | ((with_reducible show dE _ _ _ _ (Expr.Call (Expr.Name "list" _) _ _ _) _); refine de_listC (by assumption) ?_)
  | ((with_reducible show dE _ _ _ _ (Expr.Call (Expr.Name "tuple" _) _ _ _) _); refine de_tupleC (by assumption) ?_)
  | ((with_reducible show dE _ _ _ _ (Expr.Call (Expr.Name "repr" _) _ _ _) _); refine de_repr (by first | assumption | exact Rm.blk (by assumption) | exact Rm.blk (Rm.blk (by assumption))) (by assumption) ?_)
  | ((with_reducible show dE _ _ _ _ (Expr.Call (Expr.Name "all" _) _ _ _) _); refine de_all (by first | assumption | exact Rm.blk (by assumption) | exact Rm.blk (Rm.blk (by assumption))) (by assumption) ?_)
  | ((with_reducible show dE _ _ _ _ (Expr.Call (Expr.Name "any" _) _ _ _) _); refine de_any (by first | assumption | exact Rm.blk (by assumption) | exact Rm.blk (Rm.blk (by assumption))) (by assumption) ?_)
  | ((with_reducible show dE _ _ _ _ (Expr.Call (Expr.Name "int" _) _ _ _) _); refine de_intC (by assumption) ?_)
  | ((with_reducible show dE _ _ _ _ (Expr.Call (Expr.Name "max" _) _ _ _) _); refine de_maxC (by assumption) ?_)
  | ((with_reducible show dE _ _ _ _ (Expr.Call (Expr.Name "min" _) _ _ _) _); refine de_minC (by assumption) ?_)
  | ((with_reducible show dE _ _ _ _ (Expr.Call (Expr.Name _ _) [] [] _) _); first | refine de_go0 (by assumption) (by first | assumption | exact Rm.blk (by assumption) | exact Rm.blk (Rm.blk (by assumption))) (by first | assumption | exact Room.mono (by assumption) (by decide)) pass0 ?_ | refine de_goV0 (by assumption) (by first | assumption | exact Rm.blk (by assumption) | exact Rm.blk (Rm.blk (by assumption))) (by first | assumption | exact Room.mono (by assumption) (by decide)) pass0 ?_)
  | ((with_reducible show dE _ _ _ _ (Expr.Call (Expr.Name _ _) _ [] _) _); first | refine de_go (by assumption) (by first | assumption | exact Rm.blk (by assumption) | exact Rm.blk (Rm.blk (by assumption))) (by first | assumption | exact Room.mono (by assumption) (by decide)) pass0 ?_ | refine de_goV (by assumption) (by first | assumption | exact Rm.blk (by assumption) | exact Rm.blk (Rm.blk (by assumption))) (by first | assumption | exact Room.mono (by assumption) (by decide)) pass0 ?_))
local macro_rules | `(tactic| walk_at "fT") => `(tactic| first
  | ((with_reducible show dT _ _ _ _ (Expr.UnaryOp UnaryOp.Not _ _) _); refine dt_not ?_)
  | ((with_reducible show dT _ _ _ _ (Expr.BoolOp BoolOp.And _ _) _); refine dt_w (dw_and ?_))
  | ((with_reducible show dT _ _ _ _ (Expr.BoolOp BoolOp.Or _ _) _); refine dt_w (dw_or ?_))
  | ((with_reducible show dW _ _ _ _ (Expr.BoolOp BoolOp.And [_] _) _); refine dw_and1 ?_)
  | ((with_reducible show dW _ _ _ _ (Expr.BoolOp BoolOp.Or [_] _) _); refine dw_or1 ?_)
  | ((with_reducible show dW _ _ _ _ (Expr.BoolOp BoolOp.And _ _) _); refine dw_and ?_)
  | ((with_reducible show dW _ _ _ _ (Expr.BoolOp BoolOp.Or _ _) _); refine dw_or ?_)
  | ((with_reducible show dT _ _ _ _ (Expr.Compare _ [CmpOp.Eq] _ _) _); refine dt_cmp (op_eqDD (by first | assumption | exact Rm.blk (by assumption) | exact Rm.blk (Rm.blk (by assumption)))) ?_)
  | ((with_reducible show dT _ _ _ _ (Expr.Compare _ [CmpOp.NotEq] _ _) _); refine dt_cmp (op_neDD (by first | assumption | exact Rm.blk (by assumption) | exact Rm.blk (Rm.blk (by assumption)))) ?_)
  | ((with_reducible show dT _ _ _ _ (Expr.Compare _ [CmpOp.Lt] _ _) _); refine dt_cmp op_ltD ?_)
  | ((with_reducible show dT _ _ _ _ (Expr.Compare _ [CmpOp.LtE] _ _) _); refine dt_cmp op_leD ?_)
  | ((with_reducible show dT _ _ _ _ (Expr.Compare _ [CmpOp.Gt] _ _) _); refine dt_cmp op_gtD ?_)
  | ((with_reducible show dT _ _ _ _ (Expr.Compare _ [CmpOp.GtE] _ _) _); refine dt_cmp op_geD ?_)
  | ((with_reducible show dT _ _ _ _ (Expr.Compare _ [CmpOp.In] _ _) _); refine dt_cmp (op_inD (by first | assumption | exact Rm.blk (by assumption) | exact Rm.blk (Rm.blk (by assumption)))) ?_)
  | ((with_reducible show dT _ _ _ _ (Expr.Compare _ [CmpOp.NotIn] _ _) _); refine dt_cmp (op_ninD (by first | assumption | exact Rm.blk (by assumption) | exact Rm.blk (Rm.blk (by assumption)))) ?_)
  | ((with_reducible show dT _ _ _ _ (Expr.Compare _ [CmpOp.Is] _ _) _); refine dt_cmp op_isD ?_)
  | ((with_reducible show dT _ _ _ _ (Expr.Compare _ [CmpOp.IsNot] _ _) _); refine dt_cmp op_isntD ?_)
  | ((with_reducible show dT _ _ _ _ (Expr.Compare _ [CmpOp.LtE, CmpOp.LtE] _ _) _); refine dt_chain op_leD op_leD ?_)
  | ((with_reducible show dT _ _ _ _ (Expr.Compare _ [CmpOp.LtE, CmpOp.Lt] _ _) _); refine dt_chain op_leD op_ltD ?_)
  | ((with_reducible show dT _ _ _ _ (Expr.Compare _ [CmpOp.Lt, CmpOp.Lt] _ _) _); refine dt_chain op_ltD op_ltD ?_)
  | ((with_reducible show dT _ _ _ _ _ _); refine dt_val ?_))
local macro_rules | `(tactic| walk_at "fs") => `(tactic| first
  | ((with_reducible show dE _ _ _ _ _ _); walk_at "fE") | ((with_reducible show dT _ _ _ _ _ _); walk_at "fT") | ((with_reducible show dW _ _ _ _ _ _); walk_at "fT")
  | ((with_reducible show dA _ _ _ _ (Expr.Starred _ _ :: _) _); refine da_star ?_) | ((with_reducible show dA _ _ _ _ (_ :: _) _); refine da_cons ?_) | ((with_reducible show dA _ _ _ _ [] _); refine da_nil ?_)
  | ((with_reducible show dS _ _ _ _ (Stmt.Return _ _) _); refine ds_ret ?_) | ((with_reducible show dS _ _ _ _ (Stmt.If _ _ _ _) _); refine ds_if ?_) | ((with_reducible show dS _ _ _ _ (Stmt.Assign [Expr.Name _ _] _ _) _); (refine ds_set ?_ (by assumption); dsimp only))
  | ((with_reducible show dS _ _ _ _ (Stmt.Assign [Expr.Tuple [_, _] _ _] (Expr.Tuple [_, _] _ _) _) _); (refine ds_par ?_ (by assumption) (hij := Nat.ne_of_beq_eq_false (by rfl)); dsimp only))
  | ((with_reducible show dK _ _ _ _ (_ :: _) _); refine dk_cons ?_) | ((with_reducible show dK _ _ _ _ [] _); refine dk_nil ?_)
  | ((with_reducible show dB _ _ _ _ [] _); refine db_nil ?_; dsimp only) | ((with_reducible show dB _ _ _ _ _ _); refine db_cons ?_))
local macro_rules | `(tactic| walk_at "fo") => `(tactic| first | ((with_reducible show dO _ _ _ _ none _); refine dO_none ?_) | ((with_reducible show dO _ _ _ _ (some _) _); refine dO_some ?_))
local macro_rules | `(tactic| walk_at "fx") => `(tactic| (intro hc; exfalso; first | exact Bool.noConfusion (show true = false from hc) | exact Bool.noConfusion (show false = true from hc)))
local macro_rules | `(tactic| walk_at "fm") => `(tactic| first
  | ((with_reducible show Op2 _ _ _ _); first | refine ⟨_, _, _, rfl, rfl, eqD_str _ _, ?_⟩ | refine ⟨_, _, _, rfl, rfl, lim_ok (by omega), ?_⟩ | refine ⟨_, _, _, rfl, rfl, rfl, ?_⟩)
  | ((with_reducible show IsB _ _); refine ⟨_, rfl, ?_⟩)
  | ((with_reducible show AllD _ _); refine ⟨_, rfl, ?_⟩)
  | ((with_reducible show _ ≤ sizeLine ∧ _); refine ⟨Nat.le_of_ble_eq_true rfl, ?_⟩)
  | ((with_reducible show ∃ d, _ = Vl.d d ∧ _); refine ⟨_, rfl, ?_⟩)
  | ((with_reducible show ∃ d z, _ = Vl.d d ∧ lenD _ = some z ∧ _); first | refine ⟨_, _, rfl, lim_ok (by omega), ?_⟩ | refine ⟨_, _, rfl, rfl, ?_⟩)
  | ((with_reducible show ∃ z, intC _ = some z ∧ _); refine ⟨_, rfl, ?_⟩) | ((with_reducible show ∃ z, maxC _ = some z ∧ _); refine ⟨_, rfl, ?_⟩) | ((with_reducible show ∃ z, minC _ = some z ∧ _); refine ⟨_, rfl, ?_⟩)
  | ((with_reducible show ∃ d z, _ = Vl.d d ∧ intC _ = some z ∧ _); refine ⟨_, _, rfl, rfl, ?_⟩)
  | ((with_reducible show isStr _ = false ∧ _); refine ⟨rfl, ?_⟩) | ((with_reducible show IsIns _ _ _); refine ⟨_, rfl, ?_⟩) | ((with_reducible show ∃ ob, List.lookup _ _ = some ob ∧ _); refine ⟨_, rfl, ?_⟩) | ((with_reducible show List.lookup _ _ = none ∧ _); refine ⟨rfl, ?_⟩)
  | ((with_reducible show ∃ i : Int, _ = Vl.d (.int i) ∧ _); refine ⟨_, rfl, ?_⟩)
  | ((with_reducible show ∃ z : Str, _ = Vl.d (.str z) ∧ z.length ≤ 100000 ∧ _); refine ⟨_, rfl, by omega, ?_⟩)
  | ((with_reducible show ∃ d z, _ = Vl.d d ∧ slD d _ _ = some z ∧ _); first | refine ⟨_, _, rfl, lim_ok (by omega), ?_⟩ | refine ⟨_, _, rfl, rfl, ?_⟩)
  | ((with_reducible show ∃ d z, _ = Vl.d d ∧ listC _ = some z ∧ _); refine ⟨_, _, rfl, rfl, ?_⟩)
  | ((with_reducible show ∃ d z, _ = Vl.d d ∧ tupleC _ = some z ∧ _); refine ⟨_, _, rfl, rfl, ?_⟩)
  | ((with_reducible show ∃ ds, itemsD _ = some ds ∧ _); refine ⟨_, rfl, ?_⟩)
  | ((with_reducible show (_ = true → _) ∧ (_ = false → _)); first | (refine ⟨?_, (by walk_at "fx")⟩; intro hj; clear hj) | (refine ⟨(by walk_at "fx"), ?_⟩; intro hj; clear hj))
  | ((with_reducible show (_ = false → _) ∧ (_ = true → _)); first | (refine ⟨?_, (by walk_at "fx")⟩; intro hj; clear hj) | (refine ⟨(by walk_at "fx"), ?_⟩; intro hj; clear hj)))
local macro_rules | `(tactic| walk_at "fr") => `(tactic| repeat (first | walk_at "fs" | walk_at "fo" | walk_at "fm"))

section
variable {P : Program} {w : World} {K : PySem.W.Frag} {mg : Str → Option Value} {base : Heap}
theorem sc_is_integer : FnScope ["thing"] ["thing"] (defScope s_is_integer) := ⟨rfl, rfl, rfl, by decide +kernel, rfl, by decide +kernel, by decide +kernel⟩
def isInt (d : PyData) : Bool := isIn' d && !isBl d
theorem ok_is_integer (F : Src K mg "is_integer" s_is_integer) (hs : base.get? sysModules ≠ none) (m1 : mg "isinstance" = none) (m2 : mg "int" = none) (m3 : mg "bool" = none) :
    Dfn P w K mg base CX0 1 "is_integer" s_is_integer ["thing"] (spD K (fun ds => ds.length = 1) fun ds => .bool (isInt (ds.getD 0 .none))) := by
  refine F.pure sc_is_integer (fun ds h => h) (fun _ _ _ _ _ _ us hl => match us, hl with | [_], _ => rfl) hs fun fa cd A fr s H E M ds R r hp => ?_
  match ds, hp with
  | [d], _ =>
    cases d <;> (walk_at "fr"; rfl)
/-- one to n letters -/
def letr (n : Int) : PyData → Bool
  | .str z => decide (1 ≤ (z.length : Int)) && decide ((z.length : Int) ≤ n) && z.cps.toList.all fun c => decide (c ∈ LT.cps.toList)
  | _ => false
theorem nc_str {n : Nat} {z : Str} (h : Nc n (.str z)) : 10 * z.length + 2 ≤ n := by
  have := h.sz
  simpa only [cost] using this
/-- a sign that is a letter -/
def sgn (d : PyData) : Bool := match inB d (.str LT) with
  | some b => b
  | none => false
theorem signs_all (z : Str) : (Fw.signs z).all sgn = z.cps.toList.all fun c => decide (c ∈ LT.cps.toList) := by
  unfold Fw.signs
  rw [List.all_map]
  rfl
theorem sc_has_letters : FnScope ["thing", "longest", "letter"] ["thing", "longest"] (defScope s_has_letters) := ⟨rfl, rfl, rfl, by decide +kernel, rfl, by decide +kernel, by decide +kernel⟩
theorem ok_has_letters (F : Src K mg "has_letters" s_has_letters) (hs : base.get? sysModules ≠ none) (m1 : mg "isinstance" = none) (m2 : mg "str" = none) (m3 : mg "len" = none) (m4 : mg "all" = none) (m5 : ∃ t, mg "LETTERS" = some (.str LT t)) :
    Dfn P w K mg base CX0 1 "has_letters" s_has_letters ["thing", "longest"] (spD K (fun ds => ∃ d n, ds = [d, .int n] ∧ Nc 800000 d) fun ds => .bool (letr (match ds.getD 1 .none with | .int n => n | _ => 0) (ds.getD 0 .none))) := by
  refine F.pure sc_has_letters (fun ds ⟨d, n, h, _⟩ => by rw [h]; rfl) (fun _ _ _ _ _ _ us hl => match us, hl with | [_, _], _ => rfl) hs fun fa cd A fr s H E M ds R r hp => ?_
  obtain ⟨d, n, rfl, hd⟩ := hp
  cases d
  case str z =>
    have hz := nc_str hd
    walk_at "fr"
    refine ⟨fun h1 => ?_, fun h1 => ?_⟩
    · walk_at "fr"
      show Vl.d (PyData.bool false) = Vl.d (PyData.bool (decide (1 ≤ (z.length : Int)) && decide ((z.length : Int) ≤ n) && _))
      rw [h1]
      rfl
    · walk_at "fr"
      refine ⟨fun h2 => ?_, fun h2 => ?_⟩
      · walk_at "fr"
        show Vl.d (PyData.bool false) = Vl.d (PyData.bool (decide (1 ≤ (z.length : Int)) && decide ((z.length : Int) ≤ n) && _))
        rw [show decide ((z.length : Int) ≤ n) = false by simpa using h2]
        simp
      · walk_at "fr"
        refine de_lc (Lc.map (fun d => .bool (sgn d)) ?_) sc_has_letters.nd (blkOk_by (by rfl))
        refine di_any ?_
        walk_at "fr"
        refine ⟨?_, ?_, ?_⟩
        · simp only [Fw.signs, List.length_map]
          have e : z.cps.toList.length = z.length := by simp [Str.length]
          rw [e, sizeLine_eq]
          omega
        · intro D d hd b
          obtain ⟨c, hc, rfl⟩ := List.mem_map.mp hd
          walk_at "fr"
          exact ⟨rfl, rfl⟩
        · refine ⟨_, _, rfl, allB_map sgn _, ?_⟩
          show Vl.d (PyData.bool _) = Vl.d (PyData.bool (decide (1 ≤ (z.length : Int)) && decide ((z.length : Int) ≤ n) && _))
          rw [h1, show decide ((z.length : Int) ≤ n) = true by simpa using h2, signs_all]
          rfl
  all_goals (walk_at "fr"; rfl)
end

section
variable {P : Program} {w : World} {K : PySem.W.Frag} {mg : Str → Option Value} {base : Heap}
def not3 (d : PyData) : Bool := !(([.str "near", .str "yes", .str "no"] : List PyData).any fun e => PyData.eqv e d)
def isWord (d : PyData) : Bool := letr 8 d && not3 d
def one (N : Nat) (ds : List PyData) : Prop := ∃ d, ds = [d] ∧ Nc N d
theorem one_len {N : Nat} (ds : List PyData) (h : one N ds) : ds.length = 1 := by obtain ⟨d, rfl, _⟩ := h; rfl
abbrev pHas : List PyData → Prop := fun ds => ∃ d n, ds = [d, .int n] ∧ Nc 800000 d
abbrev fHas : List PyData → PyData := fun ds => .bool (letr (match ds.getD 1 .none with | .int n => n | _ => 0) (ds.getD 0 .none))
theorem sc_is_word : FnScope ["thing"] ["thing"] (defScope s_is_word) := ⟨rfl, rfl, rfl, by decide +kernel, rfl, by decide +kernel, by decide +kernel⟩
theorem ok_is_word (F : Src K mg "is_word" s_is_word) (hs : base.get? sysModules ≠ none) (G : Dfn P w K mg base CX0 1 "has_letters" s_has_letters ["thing", "longest"] (spD K pHas fHas)) (m1 : ∃ t, mg "LONGEST_WORD" = some (.int 8 t)) (m2 : ∃ t, mg "NEAR" = some (.str "near" t)) :
    Dfn P w K mg base CX0 2 "is_word" s_is_word ["thing"] (spD K (one 800000) fun ds => .bool (isWord (ds.getD 0 .none))) := by
  refine F.pure sc_is_word one_len (fun _ _ _ _ _ _ us hl => match us, hl with | [_], _ => rfl) hs fun fa cd A fr s H E M ds R r hp => ?_
  obtain ⟨d, rfl, hd⟩ := hp
  walk_at "fr"
  refine ⟨⟨d, _, rfl, hd⟩, ?_⟩
  walk_at "fr"
  refine ⟨fun h1 => ?_, fun h1 => ?_⟩
  · cases d
    case str z =>
      walk_at "fr"
      show Vl.d (PyData.bool _) = Vl.d (PyData.bool (letr 8 (.str z) && not3 (.str z)))
      rw [show letr 8 (.str z) = true from h1]
      rfl
    all_goals exact Bool.noConfusion (show false = true from h1)
  · show Vl.d (PyData.bool _) = Vl.d (PyData.bool (letr 8 d && not3 d))
    rw [show letr 8 d = false from h1]
    rfl
theorem sc_is_name : FnScope ["thing"] ["thing"] (defScope s_is_name) := ⟨rfl, rfl, rfl, by decide +kernel, rfl, by decide +kernel, by decide +kernel⟩
theorem ok_is_name (F : Src K mg "is_name" s_is_name) (hs : base.get? sysModules ≠ none) (G : Dfn P w K mg base CX0 1 "has_letters" s_has_letters ["thing", "longest"] (spD K pHas fHas)) (m1 : ∃ t, mg "LONGEST_NAME" = some (.int 12 t)) :
    Dfn P w K mg base CX0 2 "is_name" s_is_name ["thing"] (spD K (one 800000) fun ds => .bool (letr 12 (ds.getD 0 .none))) := by
  refine F.pure sc_is_name one_len (fun _ _ _ _ _ _ us hl => match us, hl with | [_], _ => rfl) hs fun fa cd A fr s H E M ds R r hp => ?_
  obtain ⟨d, rfl, hd⟩ := hp
  walk_at "fr"
  exact ⟨⟨d, _, rfl, hd⟩, rfl⟩
/-- the second part of a kind -/
def rng3 : PyData → Bool
  | .int i => decide (0 ≤ i) && decide (i ≤ 3)
  | _ => false
def kind2 (a b : PyData) : Bool := PyData.eqv a (.str "names") && (isInt b && rng3 b)
def kindL : List PyData → Bool
  | a :: b :: l => l.isEmpty && kind2 a b
  | _ => false
def isKind : PyData → Bool
  | .str z => ([.str "nothing", .str "truth", .str "name"] : List PyData).any fun e => PyData.eqv e (.str z)
  | .tuple ds => kindL ds
  | _ => false
theorem kindL_no {ds : List PyData} (h : ds.length ≠ 2) : kindL ds = false := by
  match ds, h with
  | [], _ => rfl
  | [_], _ => rfl
  | [_, _], h => exact absurd rfl h
  | _ :: _ :: _ :: _, _ => rfl
theorem sc_is_kind : FnScope ["thing"] ["thing"] (defScope s_is_kind) := ⟨rfl, rfl, rfl, by decide +kernel, rfl, by decide +kernel, by decide +kernel⟩
theorem ok_is_kind (F : Src K mg "is_kind" s_is_kind) (hs : base.get? sysModules ≠ none) (G : Dfn P w K mg base CX0 1 "is_integer" s_is_integer ["thing"] (spD K (fun ds => ds.length = 1) fun ds => .bool (isInt (ds.getD 0 .none))))
    (m1 : mg "isinstance" = none) (m2 : mg "str" = none) (m3 : mg "tuple" = none) (m4 : mg "len" = none) (m5 : ∃ t, mg "MOST_NAMES_kinds" = some (.int 3 t)) :
    Dfn P w K mg base CX0 2 "is_kind" s_is_kind ["thing"] (spD K (one 800000) fun ds => .bool (isKind (ds.getD 0 .none))) := by
  refine F.pure sc_is_kind one_len (fun _ _ _ _ _ _ us hl => match us, hl with | [_], _ => rfl) hs fun fa cd A fr s H E M ds R r hp => ?_
  obtain ⟨d, rfl, hd⟩ := hp
  cases d
  case str z =>
    walk_at "fr"
    rfl
  case tuple ds =>
    walk_at "fr"
    refine ⟨fun h1 => ?_, fun h1 => ?_⟩
    · have h2 : ds.length ≠ 2 := fun e => by rw [e] at h1; exact Bool.noConfusion h1
      walk_at "fr"
      show Vl.d (PyData.bool false) = Vl.d (PyData.bool (kindL ds))
      rw [kindL_no h2]
    · have h2 : ds.length = 2 := by
        have : (ds.length : Int) = 2 := by simpa [PyData.eqv] using h1
        omega
      match ds, h2, hd with
      | [a, b], _, hd =>
        walk_at "fr"
        refine ⟨fun h3 => ?_, fun h3 => ?_⟩
        · walk_at "fr"
          refine ⟨rfl, ?_⟩
          walk_at "fr"
          refine ⟨fun h4 => ?_, fun h4 => ?_⟩
          · cases b with
            | int i =>
              walk_at "fr"
              refine ⟨fun h5 => ?_, fun h5 => ?_⟩
              · show Vl.d (PyData.bool false) = Vl.d (PyData.bool (PyData.eqv a (.str "names") && (true && (decide (0 ≤ i) && decide (i ≤ 3)))))
                rw [show decide ((0 : Int) ≤ i) = false from h5]
                simp
              · walk_at "fr"
                show Vl.d (PyData.bool (decide (i ≤ 3))) = Vl.d (PyData.bool (PyData.eqv a (.str "names") && (true && (decide (0 ≤ i) && decide (i ≤ 3)))))
                rw [show decide ((0 : Int) ≤ i) = true from h5, show PyData.eqv a (.str "names") = true from h3]
                simp
            | _ => exact Bool.noConfusion (show false = true from h4)
          · show Vl.d (PyData.bool false) = Vl.d (PyData.bool (PyData.eqv a (.str "names") && (isInt b && rng3 b)))
            rw [show isInt b = false from h4]
            simp
        · show Vl.d (PyData.bool false) = Vl.d (PyData.bool (PyData.eqv a (.str "names") && (isInt b && rng3 b)))
          rw [show PyData.eqv a (.str "names") = false from h3]
          simp
  all_goals (walk_at "fr"; rfl)
/-! ### fits, first_value -/
/-- the kinds -/
inductive Kd where
  | nothing | truth | name | names (k : Nat)
def Kd.d : Kd → PyData
  | .nothing => .str "nothing"
  | .truth => .str "truth"
  | .name => .str "name"
  | .names k => .tuple [.str "names", .int (k : Int)]
def isNn (d : PyData) : Bool := isNon d
def fitsB : Kd → PyData → Bool
  | .nothing, d => isNon d
  | .truth, d => isBl d
  | .name, d => letr 12 d
  | .names k, .tuple ds => decide ((ds.length : Int) ≤ (k : Int)) && ds.all (letr 12)
  | .names _, _ => false
abbrev pFit : List PyData → Prop := fun ds => ∃ (k : Kd) (d : PyData), ds = [k.d, d] ∧ Nc 800000 d
def kdOf : PyData → Kd
  | .str z => if z = "nothing" then .nothing else if z = "truth" then .truth else .name
  | .tuple [_, .int k] => .names k.toNat
  | _ => .nothing
theorem kdOf_d (k : Kd) : kdOf k.d = k := by
  cases k with
  | nothing => rfl
  | truth => rfl
  | name => rfl
  | names k => show Kd.names ((k : Int).toNat) = _; rw [Int.toNat_natCast]
abbrev fFit : List PyData → PyData := fun ds => .bool (fitsB (kdOf (ds.getD 0 .none)) (ds.getD 1 .none))
theorem costA_mem {d : PyData} : ∀ {ds : List PyData}, d ∈ ds → cost d ≤ costA ds
  | [], h => absurd h List.not_mem_nil
  | e :: ds, h => by
    simp only [costA]
    rcases List.mem_cons.mp h with z | z
    · subst z; omega
    · have := costA_mem z; omega
theorem niceA_mem {d : PyData} : ∀ {ds : List PyData}, niceA ds = true → d ∈ ds → nice d = true
  | [], _, h => absurd h List.not_mem_nil
  | e :: ds, g, h => by
    obtain ⟨g1, g2⟩ := Bool.and_eq_true_iff.mp (show (nice e && niceA ds) = true by simpa only [niceA] using g)
    rcases List.mem_cons.mp h with z | z
    · subst z; exact g1
    · exact niceA_mem g2 z
theorem depthA_mem {d : PyData} : ∀ {ds : List PyData}, d ∈ ds → d.depth ≤ PyData.depthAll ds
  | [], h => absurd h List.not_mem_nil
  | e :: ds, h => by
    simp only [PyData.depthAll]
    rcases List.mem_cons.mp h with z | z
    · subst z; omega
    · have := depthA_mem z; omega
theorem _root_.Fw.Nc.tup {n : Nat} {ds : List PyData} (h : Nc n (.tuple ds)) {d : PyData} (hd : d ∈ ds) : Nc n d := by
  have h1 := h.sz
  have h2 := h.dp
  have h3 := h.ok
  simp only [cost, PyData.depth, nice] at h1 h2 h3
  exact ⟨niceA_mem h3 hd, by have := costA_mem hd; omega, by have := depthA_mem hd; omega⟩
theorem costA_len : ∀ ds : List PyData, ds.length ≤ costA ds
  | [] => Nat.zero_le _
  | e :: ds => by
    have := costA_len ds
    simp only [costA, List.length_cons]
    omega
theorem _root_.Fw.Nc.tlen {n : Nat} {ds : List PyData} (h : Nc n (.tuple ds)) : ds.length ≤ n := by
  have h1 := h.sz
  have := costA_len ds
  simp only [cost] at h1
  omega
theorem sc_fits : FnScope ["kind", "thing", "name"] ["kind", "thing"] (defScope s_fits) := ⟨rfl, rfl, rfl, by decide +kernel, rfl, by decide +kernel, by decide +kernel⟩
theorem ok_fits (F : Src K mg "fits" s_fits) (hs : base.get? sysModules ≠ none) (G : Dfn P w K mg base CX0 2 "is_name" s_is_name ["thing"] (spD K (one 800000) fun ds => .bool (letr 12 (ds.getD 0 .none))))
    (m1 : mg "isinstance" = none) (m2 : mg "bool" = none) (m3 : mg "tuple" = none) (m4 : mg "len" = none) (m5 : mg "all" = none) :
    Dfn P w K mg base CX0 3 "fits" s_fits ["kind", "thing"] (spD K pFit fFit) := by
  refine F.pure sc_fits (fun ds ⟨k, d, h, _⟩ => by rw [h]; rfl) (fun _ _ _ _ _ _ us hl => match us, hl with | [_, _], _ => rfl) hs fun fa cd A fr s H E M ds R r hp => ?_
  obtain ⟨k, d, rfl, hd⟩ := hp
  rw [show fFit [k.d, d] = .bool (fitsB k d) by show PyData.bool (fitsB (kdOf k.d) d) = _; rw [kdOf_d]]
  cases k with
  | nothing => walk_at "fr"; show Vl.d (PyData.bool (false != isNon d)) = Vl.d (PyData.bool (isNon d)); cases isNon d <;> rfl
  | truth => walk_at "fr"; rfl
  | name => walk_at "fr"; exact ⟨⟨d, rfl, hd⟩, rfl⟩
  | names k =>
    cases d
    case tuple ds =>
      have hl := hd.tlen
      walk_at "fr"
      refine ⟨fun h1 => ?_, fun h1 => ?_⟩
      · walk_at "fr"
        refine de_lc (Lc.map (fun d => .bool (letr 12 d)) ?_) sc_fits.nd (blkOk_by (by rfl))
        refine di_any ?_
        walk_at "fr"
        refine ⟨by rw [sizeLine_eq]; omega, fun D d hm b => ?_, ?_⟩
        · walk_at "fr"
          exact ⟨⟨d, rfl, hd.tup hm⟩, rfl, rfl⟩
        · refine ⟨_, _, rfl, allB_map _ _, ?_⟩
          show Vl.d (PyData.bool _) = Vl.d (PyData.bool (decide ((ds.length : Int) ≤ (k : Int)) && ds.all (letr 12)))
          rw [show decide ((ds.length : Int) ≤ (k : Int)) = true from h1]
          rfl
      · show Vl.d (PyData.bool _) = Vl.d (PyData.bool (decide ((ds.length : Int) ≤ (k : Int)) && ds.all (letr 12)))
        rw [show decide ((ds.length : Int) ≤ (k : Int)) = false from h1]
        rfl
    all_goals (walk_at "fr"; rfl)
end

end KK

set_option Elab.async false
set_option linter.all false
set_option maxRecDepth 100000
set_option maxHeartbeats 4000000
set_option pp.maxSteps 300
namespace KK
open PySem PySem.Spec PyProof.Rows L2 Fw
local macro_rules | `(tactic| walk_at "fE") => `(tactic| first
  | ((with_reducible show dE _ _ _ _ (Expr.Name _ _) _); first | refine de_var ?_ | refine de_globS (by assumption) ?_ | refine de_globI (by assumption) ?_)
  | ((with_reducible show dE _ _ _ _ (Expr.Constant (Const.str _) _ _) _); refine de_str ?_)
  | ((with_reducible show dE _ _ _ _ (Expr.Constant (Const.int _) _ _) _); refine de_int ?_)
  | ((with_reducible show dE _ _ _ _ (Expr.Constant (Const.bool _) _ _) _); refine de_bool ?_)
  | ((with_reducible show dE _ _ _ _ (Expr.Constant Const.none _ _) _); refine de_none ?_)
  | ((with_reducible show dE _ _ _ _ (Expr.BoolOp _ [_] _) _); refine de_one ?_)
  | ((with_reducible show dE _ _ _ _ (Expr.BoolOp BoolOp.And _ _) _); refine de_and ?_)
  | ((with_reducible show dE _ _ _ _ (Expr.BoolOp BoolOp.Or _ _) _); refine de_or ?_)
  | ((with_reducible show dE _ _ _ _ (Expr.UnaryOp UnaryOp.Not _ _) _); refine de_not ?_)
  | ((with_reducible show dE _ _ _ _ (Expr.UnaryOp UnaryOp.USub _ _) _); refine de_neg ?_)
  | ((with_reducible show dE _ _ _ _ (Expr.Compare _ [CmpOp.Eq] _ _) _); refine de_cmp (op_eqDD (by first | assumption | exact Rm.blk (by assumption) | exact Rm.blk (Rm.blk (by assumption)))) ?_)
  | ((with_reducible show dE _ _ _ _ (Expr.Compare _ [CmpOp.NotEq] _ _) _); refine de_cmp (op_neDD (by first | assumption | exact Rm.blk (by assumption) | exact Rm.blk (Rm.blk (by assumption)))) ?_)
  | ((with_reducible show dE _ _ _ _ (Expr.Compare _ [CmpOp.Lt] _ _) _); refine de_cmp op_ltD ?_)
  | ((with_reducible show dE _ _ _ _ (Expr.Compare _ [CmpOp.LtE] _ _) _); refine de_cmp op_leD ?_)
  | ((with_reducible show dE _ _ _ _ (Expr.Compare _ [CmpOp.Gt] _ _) _); refine de_cmp op_gtD ?_)
  | ((with_reducible show dE _ _ _ _ (Expr.Compare _ [CmpOp.GtE] _ _) _); refine de_cmp op_geD ?_)
  | ((with_reducible show dE _ _ _ _ (Expr.Compare _ [CmpOp.In] _ _) _); refine de_cmp (op_inD (by first | assumption | exact Rm.blk (by assumption) | exact Rm.blk (Rm.blk (by assumption)))) ?_)
  | ((with_reducible show dE _ _ _ _ (Expr.Compare _ [CmpOp.NotIn] _ _) _); refine de_cmp (op_ninD (by first | assumption | exact Rm.blk (by assumption) | exact Rm.blk (Rm.blk (by assumption)))) ?_)
  | ((with_reducible show dE _ _ _ _ (Expr.Compare _ [CmpOp.Is] _ _) _); refine de_cmp op_isD ?_)
  | ((with_reducible show dE _ _ _ _ (Expr.Compare _ [CmpOp.IsNot] _ _) _); refine de_cmp op_isntD ?_)
  | ((with_reducible show dE _ _ _ _ (Expr.Compare _ [CmpOp.LtE, CmpOp.LtE] _ _) _); refine de_chain op_leD op_leD ?_)
  | ((with_reducible show dE _ _ _ _ (Expr.Compare _ [CmpOp.LtE, CmpOp.Lt] _ _) _); refine de_chain op_leD op_ltD ?_)
  | ((with_reducible show dE _ _ _ _ (Expr.Compare _ [CmpOp.Lt, CmpOp.Lt] _ _) _); refine de_chain op_ltD op_ltD ?_)
  | ((with_reducible show dE _ _ _ _ (Expr.BinOp _ Operator.Add _ _) _); refine de_bin op_addD ?_)
  | ((with_reducible show dE _ _ _ _ (Expr.BinOp _ Operator.Sub _ _) _); refine de_bin op_subD ?_)
  | ((with_reducible show dE _ _ _ _ (Expr.BinOp _ Operator.Mult _ _) _); refine de_bin op_mulD ?_)
  | ((with_reducible show dE _ _ _ _ (Expr.BinOp _ Operator.Mod _ _) _); refine de_bin op_modD ?_)
  | ((with_reducible show dE _ _ _ _ (Expr.BinOp _ Operator.FloorDiv _ _) _); refine de_bin op_divD ?_)
  | ((with_reducible show dE _ _ _ _ (Expr.BinOp _ Operator.Pow _ _) _); refine de_bin op_powD ?_)
  | ((with_reducible show dE _ _ _ _ (Expr.Tuple _ _ _) _); refine de_tup ?_)
  | ((with_reducible show dE _ _ _ _ (Expr.List _ _) _); refine de_lst ?_)
  | ((with_reducible show dE _ _ _ _ (Expr.IfExp _ _ _ _) _); refine de_if ?_)
  | ((with_reducible show dE _ _ _ _ (Expr.Subscript _ (Expr.Slice _ _ none _) _) _); refine de_slice sl_D ?_)
  | ((with_reducible show dE _ _ _ _ (Expr.Subscript _ (Expr.Slice _ _ _ _) _) _); refine de_revT ?_)
  | ((with_reducible show dE _ _ _ _ (Expr.Subscript _ _ _) _); refine de_ix ix_D ?_)
  | ((with_reducible show dE _ _ _ _ (Expr.Dict [] _ _) _); refine de_dic0 ?_)
  | ((with_reducible show dE _ _ _ _ (Expr.Dict _ _ _) _); first | refine de_dicC ?_ | refine de_dicN ?_)
  | ((with_reducible show dE _ _ _ _ (Expr.Call (Expr.Attribute _ "upper" _) _ _ _) _); refine de_upper ?_)
  | ((with_reducible show dE _ _ _ _ (Expr.Call (Expr.Attribute _ "join" _) _ _ _) _); refine de_join ?_)
  | ((with_reducible show dE _ _ _ _ (Expr.Call (Expr.Attribute _ _ _) _ _ _) _); refine de_mth (by assumption) (by assumption) (by assumption) (by first | assumption | exact Rm.blk (by assumption) | exact Rm.blk (Rm.blk (by assumption))) (by first | assumption | exact Room.mono (by assumption) (by decide)) pass0 ?_)
  | ((with_reducible show dE _ _ _ _ (Expr.Attribute _ _ _) _); first | refine de_fld (by assumption) (by assumption) ?_ | refine de_prp (by assumption) (by assumption) (by assumption) (by first | assumption | exact Rm.blk (by assumption) | exact Rm.blk (Rm.blk (by assumption))) (by first | assumption | exact Room.mono (by assumption) (by decide)) pass0 ?_)
  | ((with_reducible show dE _ _ _ _ (Expr.Call (Expr.Name "isinstance" _) [_, Expr.Name "str" _] _ _) _); refine de_isiS (by assumption) (by assumption) ?_)
  | ((with_reducible show dE _ _ _ _ (Expr.Call (Expr.Name "isinstance" _) [_, Expr.Name "int" _] _ _) _); refine de_isiI (by assumption) (by assumption) ?_)
  | ((with_reducible show dE _ _ _ _ (Expr.Call (Expr.Name "isinstance" _) [_, Expr.Name "bool" _] _ _) _); refine de_isiB (by assumption) (by assumption) ?_)
  | ((with_reducible show dE _ _ _ _ (Expr.Call (Expr.Name "isinstance" _) [_, Expr.Name "tuple" _] _ _) _); refine de_isiT (by assumption) (by assumption) ?_)
  | ((with_reducible show dE _ _ _ _ (Expr.Call (Expr.Name "isinstance" _) [_, Expr.Name "list" _] _ _) _); refine de_isiL (by assumption) (by assumption) ?_)
  | ((with_reducible show dE _ _ _ _ (Expr.Call (Expr.Name "len" _) [Expr.Call (Expr.Name "set" _) _ _ _] _ _) _); refine de_lenS (by assumption) (by assumption) ?_)
  | ((with_reducible show dE _ _ _ _ (Expr.Call (Expr.Name "len" _) _ _ _) _); refine de_len (by assumption) ?_)
  | ((with_reducible show dE _ _ _ _ (Expr.Call (Expr.Name "str" _) _ _ _) _); refine de_strC (by assumption) ?_)
  | ((with_reducible show dE _ _ _ _ (Expr.Call (Expr.Name "list" _) _ _ _) _); refine de_listC (by assumption) ?_)
  | ((with_reducible show dE _ _ _ _ (Expr.Call (Expr.Name "tuple" _) _ _ _) _); refine de_tupleC (by assumption) ?_)
  | ((with_reducible show dE _ _ _ _ (Expr.Call (Expr.Name "repr" _) _ _ _) _); refine de_repr (by first | assumption | exact Rm.blk (by assumption) | exact Rm.blk (Rm.blk (by assumption))) (by assumption) ?_)
  | ((with_reducible show dE _ _ _ _ (Expr.Call (Expr.Name "all" _) _ _ _) _); refine de_all (by first | assumption | exact Rm.blk (by assumption) | exact Rm.blk (Rm.blk (by assumption))) (by assumption) ?_)
  | ((with_reducible show dE _ _ _ _ (Expr.Call (Expr.Name "any" _) _ _ _) _); refine de_any (by first | assumption | exact Rm.blk (by assumption) | exact Rm.blk (Rm.blk (by assumption))) (by assumption) ?_)
  | ((with_reducible show dE _ _ _ _ (Expr.Call (Expr.Name "int" _) _ _ _) _); refine de_intC (by assumption) ?_)
  | ((with_reducible show dE _ _ _ _ (Expr.Call (Expr.Name "max" _) _ _ _) _); refine de_maxC (by assumption) ?_)
  | ((with_reducible show dE _ _ _ _ (Expr.Call (Expr.Name "min" _) _ _ _) _); refine de_minC (by assumption) ?_)
  | ((with_reducible show dE _ _ _ _ (Expr.Call (Expr.Name _ _) [] [] _) _); first | refine de_go0 (by assumption) (by first | assumption | exact Rm.blk (by assumption) | exact Rm.blk (Rm.blk (by assumption))) (by first | assumption | exact Room.mono (by assumption) (by decide)) pass0 ?_ | refine de_goV0 (by assumption) (by first | assumption | exact Rm.blk (by assumption) | exact Rm.blk (Rm.blk (by assumption))) (by first | assumption | exact Room.mono (by assumption) (by decide)) pass0 ?_)
  | ((with_reducible show dE _ _ _ _ (Expr.Call (Expr.Name _ _) _ [] _) _); first | refine de_go (by assumption) (by first | assumption | exact Rm.blk (by assumption) | exact Rm.blk (Rm.blk (by assumption))) (by first | assumption | exact Room.mono (by assumption) (by decide)) pass0 ?_ | refine de_goV (by assumption) (by first | assumption | exact Rm.blk (by assumption) | exact Rm.blk (Rm.blk (by assumption))) (by first | assumption | exact Room.mono (by assumption) (by decide)) pass0 ?_))
local macro_rules | `(tactic| walk_at "fT") => `(tactic| first
  | ((with_reducible show dT _ _ _ _ (Expr.UnaryOp UnaryOp.Not _ _) _); refine dt_not ?_)
  | ((with_reducible show dT _ _ _ _ (Expr.BoolOp BoolOp.And _ _) _); refine dt_w (dw_and ?_))
  | ((with_reducible show dT _ _ _ _ (Expr.BoolOp BoolOp.Or _ _) _); refine dt_w (dw_or ?_))
  | ((with_reducible show dW _ _ _ _ (Expr.BoolOp BoolOp.And [_] _) _); refine dw_and1 ?_)
  | ((with_reducible show dW _ _ _ _ (Expr.BoolOp BoolOp.Or [_] _) _); refine dw_or1 ?_)
  | ((with_reducible show dW _ _ _ _ (Expr.BoolOp BoolOp.And _ _) _); refine dw_and ?_)
  | ((with_reducible show dW _ _ _ _ (Expr.BoolOp BoolOp.Or _ _) _); refine dw_or ?_)
  | ((with_reducible show dT _ _ _ _ (Expr.Compare _ [CmpOp.Eq] _ _) _); refine dt_cmp (op_eqDD (by first | assumption | exact Rm.blk (by assumption) | exact Rm.blk (Rm.blk (by assumption)))) ?_)
  | ((with_reducible show dT _ _ _ _ (Expr.Compare _ [CmpOp.NotEq] _ _) _); refine dt_cmp (op_neDD (by first | assumption | exact Rm.blk (by assumption) | exact Rm.blk (Rm.blk (by assumption)))) ?_)
  | ((with_reducible show dT _ _ _ _ (Expr.Compare _ [CmpOp.Lt] _ _) _); refine dt_cmp op_ltD ?_)
  | ((with_reducible show dT _ _ _ _ (Expr.Compare _ [CmpOp.LtE] _ _) _); refine dt_cmp op_leD ?_)
  | ((with_reducible show dT _ _ _ _ (Expr.Compare _ [CmpOp.Gt] _ _) _); refine dt_cmp op_gtD ?_)
  | ((with_reducible show dT _ _ _ _ (Expr.Compare _ [CmpOp.GtE] _ _) _); refine dt_cmp op_geD ?_)
  | ((with_reducible show dT _ _ _ _ (Expr.Compare _ [CmpOp.In] _ _) _); refine dt_cmp (op_inD (by first | assumption | exact Rm.blk (by assumption) | exact Rm.blk (Rm.blk (by assumption)))) ?_)
  | ((with_reducible show dT _ _ _ _ (Expr.Compare _ [CmpOp.NotIn] _ _) _); refine dt_cmp (op_ninD (by first | assumption | exact Rm.blk (by assumption) | exact Rm.blk (Rm.blk (by assumption)))) ?_)
  | ((with_reducible show dT _ _ _ _ (Expr.Compare _ [CmpOp.Is] _ _) _); refine dt_cmp op_isD ?_)
  | ((with_reducible show dT _ _ _ _ (Expr.Compare _ [CmpOp.IsNot] _ _) _); refine dt_cmp op_isntD ?_)
  | ((with_reducible show dT _ _ _ _ (Expr.Compare _ [CmpOp.LtE, CmpOp.LtE] _ _) _); refine dt_chain op_leD op_leD ?_)
  | ((with_reducible show dT _ _ _ _ (Expr.Compare _ [CmpOp.LtE, CmpOp.Lt] _ _) _); refine dt_chain op_leD op_ltD ?_)
  | ((with_reducible show dT _ _ _ _ (Expr.Compare _ [CmpOp.Lt, CmpOp.Lt] _ _) _); refine dt_chain op_ltD op_ltD ?_)
  | ((with_reducible show dT _ _ _ _ _ _); refine dt_val ?_))
local macro_rules | `(tactic| walk_at "fs") => `(tactic| first
  | ((with_reducible show dE _ _ _ _ _ _); walk_at "fE") | ((with_reducible show dT _ _ _ _ _ _); walk_at "fT") | ((with_reducible show dW _ _ _ _ _ _); walk_at "fT")
  | ((with_reducible show dA _ _ _ _ (Expr.Starred _ _ :: _) _); refine da_star ?_) | ((with_reducible show dA _ _ _ _ (_ :: _) _); refine da_cons ?_) | ((with_reducible show dA _ _ _ _ [] _); refine da_nil ?_)
  | ((with_reducible show dS _ _ _ _ (Stmt.Return _ _) _); refine ds_ret ?_) | ((with_reducible show dS _ _ _ _ (Stmt.If _ _ _ _) _); refine ds_if ?_) | ((with_reducible show dS _ _ _ _ (Stmt.Assign [Expr.Name _ _] _ _) _); (refine ds_set ?_ (by assumption); dsimp only))
  | ((with_reducible show dS _ _ _ _ (Stmt.Assign [Expr.Tuple [_, _] _ _] (Expr.Tuple [_, _] _ _) _) _); (refine ds_par ?_ (by assumption) (hij := Nat.ne_of_beq_eq_false (by rfl)); dsimp only))
  | ((with_reducible show dK _ _ _ _ (_ :: _) _); refine dk_cons ?_) | ((with_reducible show dK _ _ _ _ [] _); refine dk_nil ?_)
  | ((with_reducible show dB _ _ _ _ [] _); refine db_nil ?_; dsimp only) | ((with_reducible show dB _ _ _ _ _ _); refine db_cons ?_))
local macro_rules | `(tactic| walk_at "fo") => `(tactic| first | ((with_reducible show dO _ _ _ _ none _); refine dO_none ?_) | ((with_reducible show dO _ _ _ _ (some _) _); refine dO_some ?_))
local macro_rules | `(tactic| walk_at "fx") => `(tactic| (intro hc; exfalso; first | exact Bool.noConfusion (show true = false from hc) | exact Bool.noConfusion (show false = true from hc)))
local macro_rules | `(tactic| walk_at "fm") => `(tactic| first
  | ((with_reducible show Op2 _ _ _ _); first | refine ⟨_, _, _, rfl, rfl, eqD_str _ _, ?_⟩ | refine ⟨_, _, _, rfl, rfl, lim_ok (by omega), ?_⟩ | refine ⟨_, _, _, rfl, rfl, rfl, ?_⟩)
  | ((with_reducible show IsB _ _); refine ⟨_, rfl, ?_⟩)
  | ((with_reducible show AllD _ _); refine ⟨_, rfl, ?_⟩)
  | ((with_reducible show _ ≤ sizeLine ∧ _); refine ⟨Nat.le_of_ble_eq_true rfl, ?_⟩)
  | ((with_reducible show ∃ d, _ = Vl.d d ∧ _); refine ⟨_, rfl, ?_⟩)
  | ((with_reducible show ∃ d z, _ = Vl.d d ∧ lenD _ = some z ∧ _); first | refine ⟨_, _, rfl, lim_ok (by omega), ?_⟩ | refine ⟨_, _, rfl, rfl, ?_⟩)
  | ((with_reducible show ∃ z, intC _ = some z ∧ _); refine ⟨_, rfl, ?_⟩) | ((with_reducible show ∃ z, maxC _ = some z ∧ _); refine ⟨_, rfl, ?_⟩) | ((with_reducible show ∃ z, minC _ = some z ∧ _); refine ⟨_, rfl, ?_⟩)
  | ((with_reducible show ∃ d z, _ = Vl.d d ∧ intC _ = some z ∧ _); refine ⟨_, _, rfl, rfl, ?_⟩)
  | ((with_reducible show isStr _ = false ∧ _); refine ⟨rfl, ?_⟩) | ((with_reducible show IsIns _ _ _); refine ⟨_, rfl, ?_⟩) | ((with_reducible show ∃ ob, List.lookup _ _ = some ob ∧ _); refine ⟨_, rfl, ?_⟩) | ((with_reducible show List.lookup _ _ = none ∧ _); refine ⟨rfl, ?_⟩)
  | ((with_reducible show ∃ i : Int, _ = Vl.d (.int i) ∧ _); refine ⟨_, rfl, ?_⟩)
  | ((with_reducible show ∃ z : Str, _ = Vl.d (.str z) ∧ z.length ≤ 100000 ∧ _); refine ⟨_, rfl, by omega, ?_⟩)
  | ((with_reducible show ∃ d z, _ = Vl.d d ∧ slD d _ _ = some z ∧ _); first | refine ⟨_, _, rfl, lim_ok (by omega), ?_⟩ | refine ⟨_, _, rfl, rfl, ?_⟩)
  | ((with_reducible show ∃ d z, _ = Vl.d d ∧ listC _ = some z ∧ _); refine ⟨_, _, rfl, rfl, ?_⟩)
  | ((with_reducible show ∃ d z, _ = Vl.d d ∧ tupleC _ = some z ∧ _); refine ⟨_, _, rfl, rfl, ?_⟩)
  | ((with_reducible show ∃ ds, itemsD _ = some ds ∧ _); refine ⟨_, rfl, ?_⟩)
  | ((with_reducible show (_ = true → _) ∧ (_ = false → _)); first | (refine ⟨?_, (by walk_at "fx")⟩; intro hj; clear hj) | (refine ⟨(by walk_at "fx"), ?_⟩; intro hj; clear hj))
  | ((with_reducible show (_ = false → _) ∧ (_ = true → _)); first | (refine ⟨?_, (by walk_at "fx")⟩; intro hj; clear hj) | (refine ⟨(by walk_at "fx"), ?_⟩; intro hj; clear hj)))
local macro_rules | `(tactic| walk_at "fr") => `(tactic| repeat (first | walk_at "fs" | walk_at "fo" | walk_at "fm"))

section
variable {P : Program} {w : World} {K : PySem.W.Frag} {mg : Str → Option Value} {base : Heap}
/-! ### what an answer is -/
def isAns (d : PyData) : Bool := PyData.eqv d (.str "!") || (isNn d || (isBl d || (letr 12 d || fitsB (.names 3) d)))
theorem sc_is_answer : FnScope ["thing", "kind"] ["thing"] (defScope s_is_answer) := ⟨rfl, rfl, rfl, by decide +kernel, rfl, by decide +kernel, by decide +kernel⟩
theorem ok_is_answer (F : Src K mg "is_answer" s_is_answer) (hs : base.get? sysModules ≠ none) (G : Dfn P w K mg base CX0 3 "fits" s_fits ["kind", "thing"] (spD K pFit fFit)) (m1 : mg "isinstance" = none) (m2 : mg "str" = none) (m3 : mg "any" = none)
    (m4 : ∃ t, mg "REFUSAL" = some (.str "!" t)) (m5 : ∃ t, mg "MOST_NAMES_running" = some (.int 3 t)) :
    Dfn P w K mg base CX0 4 "is_answer" s_is_answer ["thing"] (spD K (one 800000) fun ds => .bool (isAns (ds.getD 0 .none))) := by
  refine F.pure sc_is_answer one_len (fun _ _ _ _ _ _ us hl => match us, hl with | [_], _ => rfl) hs fun fa cd A fr s H E M ds R r hp => ?_
  obtain ⟨d, rfl, hd⟩ := hp
  have nd0 := sc_is_answer.nd
  have hany : (PyData.eqv d (.str "!") = false) → isAns d = (isNn d || (isBl d || (letr 12 d || fitsB (.names 3) d))) := fun z => by unfold isAns; rw [z]; rfl
  walk_at "fr"
  refine ⟨fun h1 => ?a, fun h1 => ?b⟩
  case' a =>
    walk_at "fr"
    refine ⟨fun h2 => ?c, fun h2 => ?d⟩
    case c =>
      walk_at "fr"
      show Vl.d (PyData.bool true) = Vl.d (.bool (isAns d))
      unfold isAns
      rw [show PyData.eqv d (.str "!") = true from h2]
      rfl
  case' b =>
    have h2 : PyData.eqv d (.str "!") = false := by
      cases d with
      | str z => cases (show true = false from h1)
      | _ => rfl
  all_goals
    walk_at "fr"
    refine de_lc (Lc.map (fun k => .bool (fitsB (kdOf k) d)) ?_) sc_is_answer.nd (blkOk_by (by rfl))
    refine di_any ?_
    walk_at "fr"
    refine ⟨by decide, fun D k hk b => ?_, ?_⟩
    · have hk' : ∃ q : Kd, k = q.d := by
        simp only [List.mem_cons, List.not_mem_nil, or_false] at hk
        rcases hk with rfl | rfl | rfl | rfl
        · exact ⟨.nothing, rfl⟩
        · exact ⟨.truth, rfl⟩
        · exact ⟨.name, rfl⟩
        · exact ⟨.names 3, rfl⟩
      obtain ⟨q, rfl⟩ := hk'
      walk_at "fr"
      exact ⟨⟨q, d, rfl, hd⟩, rfl, rfl⟩
    · refine ⟨_, _, rfl, anyB_map (fun k => fitsB (kdOf k) d) _, ?_⟩
      show Vl.d (.bool _) = Vl.d (.bool (isAns d))
      rw [hany h2]
      show Vl.d (.bool (isNn d || (isBl d || (letr 12 d || (fitsB (.names 3) d || false))))) = _
      rw [Bool.or_false]
end

end KK

set_option Elab.async false
set_option linter.all false
set_option maxRecDepth 100000
set_option maxHeartbeats 4000000
set_option pp.maxSteps 300
namespace KK
open PySem PySem.Spec PyProof.Rows L2 Fw
local macro_rules | `(tactic| walk_at "fE") => `(tactic| first
  | ((with_reducible show dE _ _ _ _ (Expr.Name _ _) _); first | refine de_var ?_ | refine de_globS (by assumption) ?_ | refine de_globI (by assumption) ?_)
  | ((with_reducible show dE _ _ _ _ (Expr.Constant (Const.str _) _ _) _); refine de_str ?_)
  | ((with_reducible show dE _ _ _ _ (Expr.Constant (Const.int _) _ _) _); refine de_int ?_)
  | ((with_reducible show dE _ _ _ _ (Expr.Constant (Const.bool _) _ _) _); refine de_bool ?_)
  | ((with_reducible show dE _ _ _ _ (Expr.Constant Const.none _ _) _); refine de_none ?_)
  | ((with_reducible show dE _ _ _ _ (Expr.BoolOp _ [_] _) _); refine de_one ?_)
  | ((with_reducible show dE _ _ _ _ (Expr.BoolOp BoolOp.And _ _) _); refine de_and ?_)
  | ((with_reducible show dE _ _ _ _ (Expr.BoolOp BoolOp.Or _ _) _); refine de_or ?_)
  | ((with_reducible show dE _ _ _ _ (Expr.UnaryOp UnaryOp.Not _ _) _); refine de_not ?_)
  | ((with_reducible show dE _ _ _ _ (Expr.UnaryOp UnaryOp.USub _ _) _); refine de_neg ?_)
  | ((with_reducible show dE _ _ _ _ (Expr.Compare _ [CmpOp.Eq] _ _) _); refine de_cmp (op_eqDD (by first | assumption | exact Rm.blk (by assumption) | exact Rm.blk (Rm.blk (by assumption)))) ?_)
  | ((with_reducible show dE _ _ _ _ (Expr.Compare _ [CmpOp.NotEq] _ _) _); refine de_cmp (op_neDD (by first | assumption | exact Rm.blk (by assumption) | exact Rm.blk (Rm.blk (by assumption)))) ?_)
  | ((with_reducible show dE _ _ _ _ (Expr.Compare _ [CmpOp.Lt] _ _) _); refine de_cmp op_ltD ?_)
  | ((with_reducible show dE _ _ _ _ (Expr.Compare _ [CmpOp.LtE] _ _) _); refine de_cmp op_leD ?_)
  | ((with_reducible show dE _ _ _ _ (Expr.Compare _ [CmpOp.Gt] _ _) _); refine de_cmp op_gtD ?_)
  | ((with_reducible show dE _ _ _ _ (Expr.Compare _ [CmpOp.GtE] _ _) _); refine de_cmp op_geD ?_)
  | ((with_reducible show dE _ _ _ _ (Expr.Compare _ [CmpOp.In] _ _) _); refine de_cmp (op_inD (by first | assumption | exact Rm.blk (by assumption) | exact Rm.blk (Rm.blk (by assumption)))) ?_)
  | ((with_reducible show dE _ _ _ _ (Expr.Compare _ [CmpOp.NotIn] _ _) _); refine de_cmp (op_ninD (by first | assumption | exact Rm.blk (by assumption) | exact Rm.blk (Rm.blk (by assumption)))) ?_)
  | ((with_reducible show dE _ _ _ _ (Expr.Compare _ [CmpOp.Is] _ _) _); refine de_cmp op_isD ?_)
  | ((with_reducible show dE _ _ _ _ (Expr.Compare _ [CmpOp.IsNot] _ _) _); refine de_cmp op_isntD ?_)
  | ((with_reducible show dE _ _ _ _ (Expr.Compare _ [CmpOp.LtE, CmpOp.LtE] _ _) _); refine de_chain op_leD op_leD ?_)
  | ((with_reducible show dE _ _ _ _ (Expr.Compare _ [CmpOp.LtE, CmpOp.Lt] _ _) _); refine de_chain op_leD op_ltD ?_)
  | ((with_reducible show dE _ _ _ _ (Expr.Compare _ [CmpOp.Lt, CmpOp.Lt] _ _) _); refine de_chain op_ltD op_ltD ?_)
  | ((with_reducible show dE _ _ _ _ (Expr.BinOp _ Operator.Add _ _) _); refine de_bin op_addD ?_)
  | ((with_reducible show dE _ _ _ _ (Expr.BinOp _ Operator.Sub _ _) _); refine de_bin op_subD ?_)
  | ((with_reducible show dE _ _ _ _ (Expr.BinOp _ Operator.Mult _ _) _); refine de_bin op_mulD ?_)
  | ((with_reducible show dE _ _ _ _ (Expr.BinOp _ Operator.Mod _ _) _); refine de_bin op_modD ?_)
  | ((with_reducible show dE _ _ _ _ (Expr.BinOp _ Operator.FloorDiv _ _) _); refine de_bin op_divD ?_)
  | ((with_reducible show dE _ _ _ _ (Expr.BinOp _ Operator.Pow _ _) _); refine de_bin op_powD ?_)
  | ((with_reducible show dE _ _ _ _ (Expr.Tuple _ _ _) _); refine de_tup ?_)
  | ((with_reducible show dE _ _ _ _ (Expr.List _ _) _); refine de_lst ?_)
  | ((with_reducible show dE _ _ _ _ (Expr.IfExp _ _ _ _) _); refine de_if ?_)
  | ((with_reducible show dE _ _ _ _ (Expr.Subscript _ (Expr.Slice _ _ none _) _) _); refine de_slice sl_D ?_)
  | ((with_reducible show dE _ _ _ _ (Expr.Subscript _ (Expr.Slice _ _ _ _) _) _); refine de_revT ?_)
  | ((with_reducible show dE _ _ _ _ (Expr.Subscript _ _ _) _); refine de_ix ix_D ?_)
  | ((with_reducible show dE _ _ _ _ (Expr.Dict [] _ _) _); refine de_dic0 ?_)
  | ((with_reducible show dE _ _ _ _ (Expr.Dict _ _ _) _); first | refine de_dicC ?_ | refine de_dicN ?_)
  | ((with_reducible show dE _ _ _ _ (Expr.Call (Expr.Attribute _ "upper" _) _ _ _) _); refine de_upper ?_)
  | ((with_reducible show dE _ _ _ _ (Expr.Call (Expr.Attribute _ "join" _) _ _ _) _); refine de_join ?_)
  | ((with_reducible show dE _ _ _ _ (Expr.Call (Expr.Attribute _ _ _) _ _ _) _); refine de_mth (by assumption) (by assumption) (by assumption) (by first | assumption | exact Rm.blk (by assumption) | exact Rm.blk (Rm.blk (by assumption))) (by first | assumption | exact Room.mono (by assumption) (by decide)) pass0 ?_)
  | ((with_reducible show dE _ _ _ _ (Expr.Attribute _ _ _) _); first | refine de_fld (by assumption) (by assumption) ?_ | refine de_prp (by assumption) (by assumption) (by assumption) (by first | assumption | exact Rm.blk (by assumption) | exact Rm.blk (Rm.blk (by assumption))) (by first | assumption | exact Room.mono (by assumption) (by decide)) pass0 ?_)
  | ((with_reducible show dE _ _ _ _ (Expr.Call (Expr.Name "isinstance" _) [_, Expr.Name "str" _] _ _) _); refine de_isiS (by assumption) (by assumption) ?_)
  | ((with_reducible show dE _ _ _ _ (Expr.Call (Expr.Name "isinstance" _) [_, Expr.Name "int" _] _ _) _); refine de_isiI (by assumption) (by assumption) ?_)
  | ((with_reducible show dE _ _ _ _ (Expr.Call (Expr.Name "isinstance" _) [_, Expr.Name "bool" _] _ _) _); refine de_isiB (by assumption) (by assumption) ?_)
  | ((with_reducible show dE _ _ _ _ (Expr.Call (Expr.Name "isinstance" _) [_, Expr.Name "tuple" _] _ _) _); refine de_isiT (by assumption) (by assumption) ?_)
  | ((with_reducible show dE _ _ _ _ (Expr.Call (Expr.Name "isinstance" _) [_, Expr.Name "list" _] _ _) _); refine de_isiL (by assumption) (by assumption) ?_)
  | ((with_reducible show dE _ _ _ _ (Expr.Call (Expr.Name "len" _) [Expr.Call (Expr.Name "set" _) _ _ _] _ _) _); refine de_lenS (by assumption) (by assumption) ?_)
  | ((with_reducible show dE _ _ _ _ (Expr.Call (Expr.Name "len" _) _ _ _) _); refine de_len (by assumption) ?_)
  | ((with_reducible show dE _ _ _ _ (Expr.Call (Expr.Name "str" _) _ _ _) _); refine de_strC (by assumption) ?_)
  | ((with_reducible show dE _ _ _ _ (Expr.Call (Expr.Name "list" _) _ _ _) _); refine de_listC (by assumption) ?_)
  | ((with_reducible show dE _ _ _ _ (Expr.Call (Expr.Name "tuple" _) _ _ _) _); refine de_tupleC (by assumption) ?_)
  | ((with_reducible show dE _ _ _ _ (Expr.Call (Expr.Name "repr" _) _ _ _) _); refine de_repr (by first | assumption | exact Rm.blk (by assumption) | exact Rm.blk (Rm.blk (by assumption))) (by assumption) ?_)
  | ((with_reducible show dE _ _ _ _ (Expr.Call (Expr.Name "all" _) _ _ _) _); refine de_all (by first | assumption | exact Rm.blk (by assumption) | exact Rm.blk (Rm.blk (by assumption))) (by assumption) ?_)
  | ((with_reducible show dE _ _ _ _ (Expr.Call (Expr.Name "any" _) _ _ _) _); refine de_any (by first | assumption | exact Rm.blk (by assumption) | exact Rm.blk (Rm.blk (by assumption))) (by assumption) ?_)
  | ((with_reducible show dE _ _ _ _ (Expr.Call (Expr.Name "int" _) _ _ _) _); refine de_intC (by assumption) ?_)
  | ((with_reducible show dE _ _ _ _ (Expr.Call (Expr.Name "max" _) _ _ _) _); refine de_maxC (by assumption) ?_)
  | ((with_reducible show dE _ _ _ _ (Expr.Call (Expr.Name "min" _) _ _ _) _); refine de_minC (by assumption) ?_)
  | ((with_reducible show dE _ _ _ _ (Expr.Call (Expr.Name _ _) [] [] _) _); first | refine de_go0 (by assumption) (by first | assumption | exact Rm.blk (by assumption) | exact Rm.blk (Rm.blk (by assumption))) (by first | assumption | exact Room.mono (by assumption) (by decide)) pass0 ?_ | refine de_goV0 (by assumption) (by first | assumption | exact Rm.blk (by assumption) | exact Rm.blk (Rm.blk (by assumption))) (by first | assumption | exact Room.mono (by assumption) (by decide)) pass0 ?_)
  | ((with_reducible show dE _ _ _ _ (Expr.Call (Expr.Name _ _) _ [] _) _); first | refine de_go (by assumption) (by first | assumption | exact Rm.blk (by assumption) | exact Rm.blk (Rm.blk (by assumption))) (by first | assumption | exact Room.mono (by assumption) (by decide)) pass0 ?_ | refine de_goV (by assumption) (by first | assumption | exact Rm.blk (by assumption) | exact Rm.blk (Rm.blk (by assumption))) (by first | assumption | exact Room.mono (by assumption) (by decide)) pass0 ?_))
local macro_rules | `(tactic| walk_at "fT") => `(tactic| first
  | ((with_reducible show dT _ _ _ _ (Expr.UnaryOp UnaryOp.Not _ _) _); refine dt_not ?_)
  | ((with_reducible show dT _ _ _ _ (Expr.BoolOp BoolOp.And _ _) _); refine dt_w (dw_and ?_))
  | ((with_reducible show dT _ _ _ _ (Expr.BoolOp BoolOp.Or _ _) _); refine dt_w (dw_or ?_))
  | ((with_reducible show dW _ _ _ _ (Expr.BoolOp BoolOp.And [_] _) _); refine dw_and1 ?_)
  | ((with_reducible show dW _ _ _ _ (Expr.BoolOp BoolOp.Or [_] _) _); refine dw_or1 ?_)
  | ((with_reducible show dW _ _ _ _ (Expr.BoolOp BoolOp.And _ _) _); refine dw_and ?_)
  | ((with_reducible show dW _ _ _ _ (Expr.BoolOp BoolOp.Or _ _) _); refine dw_or ?_)
  | ((with_reducible show dT _ _ _ _ (Expr.Compare _ [CmpOp.Eq] _ _) _); refine dt_cmp (op_eqDD (by first | assumption | exact Rm.blk (by assumption) | exact Rm.blk (Rm.blk (by assumption)))) ?_)
  | ((with_reducible show dT _ _ _ _ (Expr.Compare _ [CmpOp.NotEq] _ _) _); refine dt_cmp (op_neDD (by first | assumption | exact Rm.blk (by assumption) | exact Rm.blk (Rm.blk (by assumption)))) ?_)
  | ((with_reducible show dT _ _ _ _ (Expr.Compare _ [CmpOp.Lt] _ _) _); refine dt_cmp op_ltD ?_)
  | ((with_reducible show dT _ _ _ _ (Expr.Compare _ [CmpOp.LtE] _ _) _); refine dt_cmp op_leD ?_)
  | ((with_reducible show dT _ _ _ _ (Expr.Compare _ [CmpOp.Gt] _ _) _); refine dt_cmp op_gtD ?_)
  | ((with_reducible show dT _ _ _ _ (Expr.Compare _ [CmpOp.GtE] _ _) _); refine dt_cmp op_geD ?_)
  | ((with_reducible show dT _ _ _ _ (Expr.Compare _ [CmpOp.In] _ _) _); refine dt_cmp (op_inD (by first | assumption | exact Rm.blk (by assumption) | exact Rm.blk (Rm.blk (by assumption)))) ?_)
  | ((with_reducible show dT _ _ _ _ (Expr.Compare _ [CmpOp.NotIn] _ _) _); refine dt_cmp (op_ninD (by first | assumption | exact Rm.blk (by assumption) | exact Rm.blk (Rm.blk (by assumption)))) ?_)
  | ((with_reducible show dT _ _ _ _ (Expr.Compare _ [CmpOp.Is] _ _) _); refine dt_cmp op_isD ?_)
  | ((with_reducible show dT _ _ _ _ (Expr.Compare _ [CmpOp.IsNot] _ _) _); refine dt_cmp op_isntD ?_)
  | ((with_reducible show dT _ _ _ _ (Expr.Compare _ [CmpOp.LtE, CmpOp.LtE] _ _) _); refine dt_chain op_leD op_leD ?_)
  | ((with_reducible show dT _ _ _ _ (Expr.Compare _ [CmpOp.LtE, CmpOp.Lt] _ _) _); refine dt_chain op_leD op_ltD ?_)
  | ((with_reducible show dT _ _ _ _ (Expr.Compare _ [CmpOp.Lt, CmpOp.Lt] _ _) _); refine dt_chain op_ltD op_ltD ?_)
  | ((with_reducible show dT _ _ _ _ _ _); refine dt_val ?_))
local macro_rules | `(tactic| walk_at "fs") => `(tactic| first
  | ((with_reducible show dE _ _ _ _ _ _); walk_at "fE") | ((with_reducible show dT _ _ _ _ _ _); walk_at "fT") | ((with_reducible show dW _ _ _ _ _ _); walk_at "fT")
  | ((with_reducible show dA _ _ _ _ (Expr.Starred _ _ :: _) _); refine da_star ?_) | ((with_reducible show dA _ _ _ _ (_ :: _) _); refine da_cons ?_) | ((with_reducible show dA _ _ _ _ [] _); refine da_nil ?_)
  | ((with_reducible show dS _ _ _ _ (Stmt.Return _ _) _); refine ds_ret ?_) | ((with_reducible show dS _ _ _ _ (Stmt.If _ _ _ _) _); refine ds_if ?_) | ((with_reducible show dS _ _ _ _ (Stmt.Assign [Expr.Name _ _] _ _) _); (refine ds_set ?_ (by assumption); dsimp only))
  | ((with_reducible show dS _ _ _ _ (Stmt.Assign [Expr.Tuple [_, _] _ _] (Expr.Tuple [_, _] _ _) _) _); (refine ds_par ?_ (by assumption) (hij := Nat.ne_of_beq_eq_false (by rfl)); dsimp only))
  | ((with_reducible show dK _ _ _ _ (_ :: _) _); refine dk_cons ?_) | ((with_reducible show dK _ _ _ _ [] _); refine dk_nil ?_)
  | ((with_reducible show dB _ _ _ _ [] _); refine db_nil ?_; dsimp only) | ((with_reducible show dB _ _ _ _ _ _); refine db_cons ?_))
local macro_rules | `(tactic| walk_at "fo") => `(tactic| first | ((with_reducible show dO _ _ _ _ none _); refine dO_none ?_) | ((with_reducible show dO _ _ _ _ (some _) _); refine dO_some ?_))
local macro_rules | `(tactic| walk_at "fx") => `(tactic| (intro hc; exfalso; first | exact Bool.noConfusion (show true = false from hc) | exact Bool.noConfusion (show false = true from hc)))
local macro_rules | `(tactic| walk_at "fm") => `(tactic| first
  | ((with_reducible show Op2 _ _ _ _); first | refine ⟨_, _, _, rfl, rfl, eqD_str _ _, ?_⟩ | refine ⟨_, _, _, rfl, rfl, lim_ok (by omega), ?_⟩ | refine ⟨_, _, _, rfl, rfl, rfl, ?_⟩)
  | ((with_reducible show IsB _ _); refine ⟨_, rfl, ?_⟩)
  | ((with_reducible show AllD _ _); refine ⟨_, rfl, ?_⟩)
  | ((with_reducible show _ ≤ sizeLine ∧ _); refine ⟨Nat.le_of_ble_eq_true rfl, ?_⟩)
  | ((with_reducible show ∃ d, _ = Vl.d d ∧ _); refine ⟨_, rfl, ?_⟩)
  | ((with_reducible show ∃ d z, _ = Vl.d d ∧ lenD _ = some z ∧ _); first | refine ⟨_, _, rfl, lim_ok (by omega), ?_⟩ | refine ⟨_, _, rfl, rfl, ?_⟩)
  | ((with_reducible show ∃ z, intC _ = some z ∧ _); refine ⟨_, rfl, ?_⟩) | ((with_reducible show ∃ z, maxC _ = some z ∧ _); refine ⟨_, rfl, ?_⟩) | ((with_reducible show ∃ z, minC _ = some z ∧ _); refine ⟨_, rfl, ?_⟩)
  | ((with_reducible show ∃ d z, _ = Vl.d d ∧ intC _ = some z ∧ _); refine ⟨_, _, rfl, rfl, ?_⟩)
  | ((with_reducible show isStr _ = false ∧ _); refine ⟨rfl, ?_⟩) | ((with_reducible show IsIns _ _ _); refine ⟨_, rfl, ?_⟩) | ((with_reducible show ∃ ob, List.lookup _ _ = some ob ∧ _); refine ⟨_, rfl, ?_⟩) | ((with_reducible show List.lookup _ _ = none ∧ _); refine ⟨rfl, ?_⟩)
  | ((with_reducible show ∃ i : Int, _ = Vl.d (.int i) ∧ _); refine ⟨_, rfl, ?_⟩)
  | ((with_reducible show ∃ z : Str, _ = Vl.d (.str z) ∧ z.length ≤ 100000 ∧ _); refine ⟨_, rfl, by omega, ?_⟩)
  | ((with_reducible show ∃ d z, _ = Vl.d d ∧ slD d _ _ = some z ∧ _); first | refine ⟨_, _, rfl, lim_ok (by omega), ?_⟩ | refine ⟨_, _, rfl, rfl, ?_⟩)
  | ((with_reducible show ∃ d z, _ = Vl.d d ∧ listC _ = some z ∧ _); refine ⟨_, _, rfl, rfl, ?_⟩)
  | ((with_reducible show ∃ d z, _ = Vl.d d ∧ tupleC _ = some z ∧ _); refine ⟨_, _, rfl, rfl, ?_⟩)
  | ((with_reducible show ∃ ds, itemsD _ = some ds ∧ _); refine ⟨_, rfl, ?_⟩)
  | ((with_reducible show (_ = true → _) ∧ (_ = false → _)); first | (refine ⟨?_, (by walk_at "fx")⟩; intro hj; clear hj) | (refine ⟨(by walk_at "fx"), ?_⟩; intro hj; clear hj))
  | ((with_reducible show (_ = false → _) ∧ (_ = true → _)); first | (refine ⟨?_, (by walk_at "fx")⟩; intro hj; clear hj) | (refine ⟨(by walk_at "fx"), ?_⟩; intro hj; clear hj)))
local macro_rules | `(tactic| walk_at "fr") => `(tactic| repeat (first | walk_at "fs" | walk_at "fo" | walk_at "fm"))

section
variable {P : Program} {w : World} {K : PySem.W.Frag} {mg : Str → Option Value} {base : Heap}
def szB (N k : Nat) (d : PyData) : Bool := nice d && (decide (cost d ≤ N) && decide (d.depth ≤ k))
theorem szB_of {N k : Nat} {d : PyData} (h : szB N k d = true) : Sz N k d := by
  obtain ⟨h1, h2⟩ := Bool.and_eq_true_iff.mp h
  obtain ⟨h2, h3⟩ := Bool.and_eq_true_iff.mp h2
  exact ⟨h1, of_decide_eq_true h2, of_decide_eq_true h3⟩
theorem nc_dec {d : PyData} (h : szB 800000 40 d = true) : Nc 800000 d := (szB_of h).nc (Nat.le_refl _) (Nat.le_refl _)
/-! ### the three programs of the law -/
inductive Th where
  | a | b | c
def Th.hl : Th → List Str
  | .a => ["one"]
  | .b => ["one", "two"]
  | .c => ["one", "two", "six"]
def Th.hs (t : Th) : PyData := .tuple (t.hl.map .str)
def Th.ss (t : Th) : PyData := .tuple (.str "near" :: t.hl.map .str)
def Th.last : Th → Str
  | .a => "one"
  | .b => "two"
  | .c => "six"
def Th.dd (t : Th) : PyData := .tuple [.str "is", .str t.last, .tuple [], .str "truth", .bool false]
def Th.ds : Th → PyData
  | .a => .tuple []
  | .b => .tuple [Th.b.dd]
  | .c => .tuple [Th.c.dd]
def doS : PyData := .tuple [.str "do", .none, .str "is", .tuple []]
def Th.bd : Th → PyData
  | .a => .tuple []
  | .b => .tuple [doS]
  | .c => .tuple [doS]
theorem sc_are_houses : FnScope ["thing", "house"] ["thing"] (defScope s_are_houses) := ⟨rfl, rfl, rfl, by decide +kernel, rfl, by decide +kernel, by decide +kernel⟩
theorem ok_are_houses (F : Src K mg "are_houses" s_are_houses) (hs : base.get? sysModules ≠ none) (G : Dfn P w K mg base CX0 2 "is_word" s_is_word ["thing"] (spD K (one 800000) fun ds => .bool (isWord (ds.getD 0 .none))))
    (m1 : mg "isinstance" = none) (m2 : mg "tuple" = none) (m3 : mg "all" = none) (m4 : mg "len" = none) (m5 : mg "set" = none) (m6 : ∃ t, mg "MOST_HOUSES" = some (.int 3 t)) :
    Dfn P w K mg base CX0 3 "are_houses" s_are_houses ["thing"] (spD K (fun ds => ∃ t : Th, ds = [t.hs]) fun _ => .bool true) := by
  refine F.pure sc_are_houses (fun ds ⟨t, h⟩ => by rw [h]; rfl) (fun _ _ _ _ _ _ us hl => match us, hl with | [_], _ => rfl) hs fun fa cd A fr s H E M ds R r hp => ?_
  have nd0 := sc_are_houses.nd
  obtain ⟨t, rfl⟩ := hp
  have w1 : ∀ t : Th, (t.hl.map PyData.str).all isWord = true ∧ ∀ d ∈ t.hl.map PyData.str, Nc 800000 d := fun t => by
    refine ⟨by cases t <;> decide +kernel, fun d hd => ?_⟩
    have : (t.hl.map PyData.str).all (szB 800000 40) = true := by cases t <;> decide +kernel
    exact nc_dec (List.all_eq_true.mp this d hd)
  have key : ∀ t : Th, dB (cxOf CX0 P w K mg base ["thing", "house"] "are_houses" (defScope s_are_houses) fa cd A fr s H E).nox (Wp M) (rho ["thing", "house"] [.tuple (t.hl.map .str)]) () [(defBody s_are_houses).getD 1 (.Pass ⟨0, 0, 0, 0⟩)] { nx := fun _ _ => (PyData.bool true) = .none, rt := fun y _ => y = .d (.bool true) } := by
    intro t
    obtain ⟨w2, w3⟩ := w1 t
    show dB _ _ _ _ [Stmt.Return (some _) _] _
    walk_at "fr"
    refine de_lc (Lc.map (fun k => .bool (isWord k)) ?_) sc_are_houses.nd (blkOk_by (by rfl))
    refine di_any ?_
    walk_at "fr"
    refine ⟨by cases t <;> decide +kernel, fun D k hk b => ?_, ?_⟩
    · walk_at "fr"
      exact ⟨⟨k, rfl, w3 k hk⟩, rfl, rfl⟩
    · refine ⟨_, _, rfl, allB_map isWord _, ?_⟩
      rw [w2]
      walk_at "fr"
      refine ⟨t.hl, rfl, by cases t <;> decide +kernel, ?_⟩
      walk_at "fr"
      cases t <;> rfl
  have h1 : 1 ≤ (t.hl.map PyData.str).length ∧ (t.hl.map PyData.str).length ≤ 3 := by cases t <;> decide
  unfold Th.hs
  walk_at "fr"
  refine ⟨fun h2 => ?_, fun h2 => ?_⟩
  · exact absurd h2 (by cases t <;> decide)
  · walk_at "fr"
    refine ⟨fun h3 => ?_, fun h3 => db_nil (key t)⟩
    exact absurd h3 (by cases t <;> decide)
theorem sc_are_kinds : FnScope ["thing", "kind"] ["thing"] (defScope s_are_kinds) := ⟨rfl, rfl, rfl, by decide +kernel, rfl, by decide +kernel, by decide +kernel⟩
theorem ok_are_kinds (F : Src K mg "are_kinds" s_are_kinds) (hs : base.get? sysModules ≠ none) (G : Dfn P w K mg base CX0 2 "is_kind" s_is_kind ["thing"] (spD K (one 800000) fun ds => .bool (isKind (ds.getD 0 .none))))
    (m1 : mg "isinstance" = none) (m2 : mg "tuple" = none) (m3 : mg "all" = none) (m4 : mg "len" = none) (m6 : ∃ t, mg "MOST_ARGUMENTS" = some (.int 3 t)) :
    Dfn P w K mg base CX0 3 "are_kinds" s_are_kinds ["thing"] (spD K (fun ds => ds = [.tuple []]) fun _ => .bool true) := by
  refine F.pure sc_are_kinds (fun ds h => by rw [h]; rfl) (fun _ _ _ _ _ _ us hl => match us, hl with | [_], _ => rfl) hs fun fa cd A fr s H E M ds R r hp => ?_
  have nd0 := sc_are_kinds.nd
  subst hp
  walk_at "fr"
  refine de_lc (Lc.map (fun k => .bool true) ?_) sc_are_kinds.nd (blkOk_by (by rfl))
  refine di_any ?_
  walk_at "fr"
  refine ⟨by decide, fun D k hk b => absurd hk List.not_mem_nil, ?_⟩
  exact ⟨_, _, rfl, rfl, rfl⟩
theorem sc_is_deed : FnScope ["thing", "sites", "word", "site", "kinds", "answer", "may"] ["thing", "sites"] (defScope s_is_deed) := ⟨rfl, rfl, rfl, by decide +kernel, rfl, by decide +kernel, by decide +kernel⟩
theorem ok_is_deed (F : Src K mg "is_deed" s_is_deed) (hs : base.get? sysModules ≠ none) (G : Dfn P w K mg base CX0 2 "is_kind" s_is_kind ["thing"] (spD K (one 800000) fun ds => .bool (isKind (ds.getD 0 .none))))
    (G2 : Dfn P w K mg base CX0 2 "is_word" s_is_word ["thing"] (spD K (one 800000) fun ds => .bool (isWord (ds.getD 0 .none)))) (G3 : Dfn P w K mg base CX0 3 "are_kinds" s_are_kinds ["thing"] (spD K (fun ds => ds = [.tuple []]) fun _ => .bool true))
    (m1 : mg "isinstance" = none) (m2 : mg "tuple" = none) (m3 : mg "bool" = none) (m4 : mg "len" = none) :
    Dfn P w K mg base CX0 4 "is_deed" s_is_deed ["thing", "sites"] (spD K (fun ds => ∃ t : Th, ds = [t.dd, t.ss]) fun _ => .bool true) := by
  refine F.pure sc_is_deed (fun ds ⟨t, h⟩ => by rw [h]; rfl) (fun _ _ _ _ _ _ us hl => match us, hl with | [_, _], _ => rfl) hs fun fa cd A fr s H E M ds R r hp => ?_
  have nd0 := sc_is_deed.nd
  obtain ⟨t, rfl⟩ := hp
  unfold Th.dd
  walk_at "fr"
  refine ds_unp5 ?_ nd0
  walk_at "fr"
  refine ⟨_, _, _, _, _, rfl, ?_⟩
  walk_at "fr"
  have e1 : isWord (.str "is") = true := by decide +kernel
  have e2 : ∀ t : Th, inB (.str t.last) t.ss = some true := fun t => by cases t <;> decide +kernel
  have e3 : isKind (.str "truth") = true := by decide +kernel
  refine ⟨⟨_, rfl, nc_dec (by decide +kernel)⟩, ?_⟩
  refine ⟨true, by rw [show ([PyData.str "is"].getD 0 .none) = .str "is" from rfl, e1], ?_⟩
  walk_at "fr"
  refine ⟨_, _, .bool false, rfl, rfl, by unfold ninD; rw [e2]; rfl, ?_⟩
  walk_at "fr"
  refine ⟨rfl, ?_⟩
  walk_at "fr"
  refine ⟨⟨_, rfl, nc_dec (by decide +kernel)⟩, ?_⟩
  refine ⟨true, by rw [show ([PyData.str "truth"].getD 0 .none) = .str "truth" from rfl, e3], ?_⟩
  walk_at "fr"
  rfl
end

end KK

set_option Elab.async false
set_option linter.all false
set_option maxRecDepth 100000
set_option maxHeartbeats 4000000
set_option pp.maxSteps 300
namespace KK
open PySem PySem.Spec PyProof.Rows L2 Fw
local macro_rules | `(tactic| walk_at "fE") => `(tactic| first
  | ((with_reducible show dE _ _ _ _ (Expr.Name _ _) _); first | refine de_var ?_ | refine de_globS (by assumption) ?_ | refine de_globI (by assumption) ?_)
  | ((with_reducible show dE _ _ _ _ (Expr.Constant (Const.str _) _ _) _); refine de_str ?_)
  | ((with_reducible show dE _ _ _ _ (Expr.Constant (Const.int _) _ _) _); refine de_int ?_)
  | ((with_reducible show dE _ _ _ _ (Expr.Constant (Const.bool _) _ _) _); refine de_bool ?_)
  | ((with_reducible show dE _ _ _ _ (Expr.Constant Const.none _ _) _); refine de_none ?_)
  | ((with_reducible show dE _ _ _ _ (Expr.BoolOp _ [_] _) _); refine de_one ?_)
  | ((with_reducible show dE _ _ _ _ (Expr.BoolOp BoolOp.And _ _) _); refine de_and ?_)
  | ((with_reducible show dE _ _ _ _ (Expr.BoolOp BoolOp.Or _ _) _); refine de_or ?_)
  | ((with_reducible show dE _ _ _ _ (Expr.UnaryOp UnaryOp.Not _ _) _); refine de_not ?_)
  | ((with_reducible show dE _ _ _ _ (Expr.UnaryOp UnaryOp.USub _ _) _); refine de_neg ?_)
  | ((with_reducible show dE _ _ _ _ (Expr.Compare _ [CmpOp.Eq] _ _) _); refine de_cmp (op_eqDD (by first | assumption | exact Rm.blk (by assumption) | exact Rm.blk (Rm.blk (by assumption)))) ?_)
  | ((with_reducible show dE _ _ _ _ (Expr.Compare _ [CmpOp.NotEq] _ _) _); refine de_cmp (op_neDD (by first | assumption | exact Rm.blk (by assumption) | exact Rm.blk (Rm.blk (by assumption)))) ?_)
  | ((with_reducible show dE _ _ _ _ (Expr.Compare _ [CmpOp.Lt] _ _) _); refine de_cmp op_ltD ?_)
  | ((with_reducible show dE _ _ _ _ (Expr.Compare _ [CmpOp.LtE] _ _) _); refine de_cmp op_leD ?_)
  | ((with_reducible show dE _ _ _ _ (Expr.Compare _ [CmpOp.Gt] _ _) _); refine de_cmp op_gtD ?_)
  | ((with_reducible show dE _ _ _ _ (Expr.Compare _ [CmpOp.GtE] _ _) _); refine de_cmp op_geD ?_)
  | ((with_reducible show dE _ _ _ _ (Expr.Compare _ [CmpOp.In] _ _) _); refine de_cmp (op_inD (by first | assumption | exact Rm.blk (by assumption) | exact Rm.blk (Rm.blk (by assumption)))) ?_)
  | ((with_reducible show dE _ _ _ _ (Expr.Compare _ [CmpOp.NotIn] _ _) _); refine de_cmp (op_ninD (by first | assumption | exact Rm.blk (by assumption) | exact Rm.blk (Rm.blk (by assumption)))) ?_)
  | ((with_reducible show dE _ _ _ _ (Expr.Compare _ [CmpOp.Is] _ _) _); refine de_cmp op_isD ?_)
  | ((with_reducible show dE _ _ _ _ (Expr.Compare _ [CmpOp.IsNot] _ _) _); refine de_cmp op_isntD ?_)
  | ((with_reducible show dE _ _ _ _ (Expr.Compare _ [CmpOp.LtE, CmpOp.LtE] _ _) _); refine de_chain op_leD op_leD ?_)
  | ((with_reducible show dE _ _ _ _ (Expr.Compare _ [CmpOp.LtE, CmpOp.Lt] _ _) _); refine de_chain op_leD op_ltD ?_)
  | ((with_reducible show dE _ _ _ _ (Expr.Compare _ [CmpOp.Lt, CmpOp.Lt] _ _) _); refine de_chain op_ltD op_ltD ?_)
  | ((with_reducible show dE _ _ _ _ (Expr.BinOp _ Operator.Add _ _) _); refine de_bin op_addD ?_)
  | ((with_reducible show dE _ _ _ _ (Expr.BinOp _ Operator.Sub _ _) _); refine de_bin op_subD ?_)
  | ((with_reducible show dE _ _ _ _ (Expr.BinOp _ Operator.Mult _ _) _); refine de_bin op_mulD ?_)
  | ((with_reducible show dE _ _ _ _ (Expr.BinOp _ Operator.Mod _ _) _); refine de_bin op_modD ?_)
  | ((with_reducible show dE _ _ _ _ (Expr.BinOp _ Operator.FloorDiv _ _) _); refine de_bin op_divD ?_)
  | ((with_reducible show dE _ _ _ _ (Expr.BinOp _ Operator.Pow _ _) _); refine de_bin op_powD ?_)
  | ((with_reducible show dE _ _ _ _ (Expr.Tuple _ _ _) _); refine de_tup ?_)
  | ((with_reducible show dE _ _ _ _ (Expr.List _ _) _); refine de_lst ?_)
  | ((with_reducible show dE _ _ _ _ (Expr.IfExp _ _ _ _) _); refine de_if ?_)
  | ((with_reducible show dE _ _ _ _ (Expr.Subscript _ (Expr.Slice _ _ none _) _) _); refine de_slice sl_D ?_)
  | ((with_reducible show dE _ _ _ _ (Expr.Subscript _ (Expr.Slice _ _ _ _) _) _); refine de_revT ?_)
  | ((with_reducible show dE _ _ _ _ (Expr.Subscript _ _ _) _); refine de_ix ix_D ?_)
  | ((with_reducible show dE _ _ _ _ (Expr.Dict [] _ _) _); refine de_dic0 ?_)
  | ((with_reducible show dE _ _ _ _ (Expr.Dict _ _ _) _); first | refine de_dicC ?_ | refine de_dicN ?_)
  | ((with_reducible show dE _ _ _ _ (Expr.Call (Expr.Attribute _ "upper" _) _ _ _) _); refine de_upper ?_)
  | ((with_reducible show dE _ _ _ _ (Expr.Call (Expr.Attribute _ "join" _) _ _ _) _); refine de_join ?_)
  | ((with_reducible show dE _ _ _ _ (Expr.Call (Expr.Attribute _ _ _) _ _ _) _); refine de_mth (by assumption) (by assumption) (by assumption) (by first | assumption | exact Rm.blk (by assumption) | exact Rm.blk (Rm.blk (by assumption))) (by first | assumption | exact Room.mono (by assumption) (by decide)) pass0 ?_)
  | ((with_reducible show dE _ _ _ _ (Expr.Attribute _ _ _) _); first | refine de_fld (by assumption) (by assumption) ?_ | refine de_prp (by assumption) (by assumption) (by assumption) (by first | assumption | exact Rm.blk (by assumption) | exact Rm.blk (Rm.blk (by assumption))) (by first | assumption | exact Room.mono (by assumption) (by decide)) pass0 ?_)
  | ((with_reducible show dE _ _ _ _ (Expr.Call (Expr.Name "isinstance" _) [_, Expr.Name "str" _] _ _) _); refine de_isiS (by assumption) (by assumption) ?_)
  | ((with_reducible show dE _ _ _ _ (Expr.Call (Expr.Name "isinstance" _) [_, Expr.Name "int" _] _ _) _); refine de_isiI (by assumption) (by assumption) ?_)
  | ((with_reducible show dE _ _ _ _ (Expr.Call (Expr.Name "isinstance" _) [_, Expr.Name "bool" _] _ _) _); refine de_isiB (by assumption) (by assumption) ?_)
  | ((with_reducible show dE _ _ _ _ (Expr.Call (Expr.Name "isinstance" _) [_, Expr.Name "tuple" _] _ _) _); refine de_isiT (by assumption) (by assumption) ?_)
  | ((with_reducible show dE _ _ _ _ (Expr.Call (Expr.Name "isinstance" _) [_, Expr.Name "list" _] _ _) _); refine de_isiL (by assumption) (by assumption) ?_)
  | ((with_reducible show dE _ _ _ _ (Expr.Call (Expr.Name "len" _) [Expr.Call (Expr.Name "set" _) _ _ _] _ _) _); refine de_lenS (by assumption) (by assumption) ?_)
  | ((with_reducible show dE _ _ _ _ (Expr.Call (Expr.Name "len" _) _ _ _) _); refine de_len (by assumption) ?_)
  | ((with_reducible show dE _ _ _ _ (Expr.Call (Expr.Name "str" _) _ _ _) _); refine de_strC (by assumption) ?_)
  | ((with_reducible show dE _ _ _ _ (Expr.Call (Expr.Name "list" _) _ _ _) _); refine de_listC (by assumption) ?_)
  | ((with_reducible show dE _ _ _ _ (Expr.Call (Expr.Name "tuple" _) _ _ _) _); refine de_tupleC (by assumption) ?_)
  | ((with_reducible show dE _ _ _ _ (Expr.Call (Expr.Name "repr" _) _ _ _) _); refine de_repr (by first | assumption | exact Rm.blk (by assumption) | exact Rm.blk (Rm.blk (by assumption))) (by assumption) ?_)
  | ((with_reducible show dE _ _ _ _ (Expr.Call (Expr.Name "all" _) _ _ _) _); refine de_all (by first | assumption | exact Rm.blk (by assumption) | exact Rm.blk (Rm.blk (by assumption))) (by assumption) ?_)
  | ((with_reducible show dE _ _ _ _ (Expr.Call (Expr.Name "any" _) _ _ _) _); refine de_any (by first | assumption | exact Rm.blk (by assumption) | exact Rm.blk (Rm.blk (by assumption))) (by assumption) ?_)
  | ((with_reducible show dE _ _ _ _ (Expr.Call (Expr.Name "int" _) _ _ _) _); refine de_intC (by assumption) ?_)
  | ((with_reducible show dE _ _ _ _ (Expr.Call (Expr.Name "max" _) _ _ _) _); refine de_maxC (by assumption) ?_)
  | ((with_reducible show dE _ _ _ _ (Expr.Call (Expr.Name "min" _) _ _ _) _); refine de_minC (by assumption) ?_)
  | ((with_reducible show dE _ _ _ _ (Expr.Call (Expr.Name _ _) [] [] _) _); first | refine de_go0 (by assumption) (by first | assumption | exact Rm.blk (by assumption) | exact Rm.blk (Rm.blk (by assumption))) (by first | assumption | exact Room.mono (by assumption) (by decide)) pass0 ?_ | refine de_goV0 (by assumption) (by first | assumption | exact Rm.blk (by assumption) | exact Rm.blk (Rm.blk (by assumption))) (by first | assumption | exact Room.mono (by assumption) (by decide)) pass0 ?_)
  | ((with_reducible show dE _ _ _ _ (Expr.Call (Expr.Name _ _) _ [] _) _); first | refine de_go (by assumption) (by first | assumption | exact Rm.blk (by assumption) | exact Rm.blk (Rm.blk (by assumption))) (by first | assumption | exact Room.mono (by assumption) (by decide)) pass0 ?_ | refine de_goV (by assumption) (by first | assumption | exact Rm.blk (by assumption) | exact Rm.blk (Rm.blk (by assumption))) (by first | assumption | exact Room.mono (by assumption) (by decide)) pass0 ?_))
local macro_rules | `(tactic| walk_at "fT") => `(tactic| first
  | ((with_reducible show dT _ _ _ _ (Expr.UnaryOp UnaryOp.Not _ _) _); refine dt_not ?_)
  | ((with_reducible show dT _ _ _ _ (Expr.BoolOp BoolOp.And _ _) _); refine dt_w (dw_and ?_))
  | ((with_reducible show dT _ _ _ _ (Expr.BoolOp BoolOp.Or _ _) _); refine dt_w (dw_or ?_))
  | ((with_reducible show dW _ _ _ _ (Expr.BoolOp BoolOp.And [_] _) _); refine dw_and1 ?_)
  | ((with_reducible show dW _ _ _ _ (Expr.BoolOp BoolOp.Or [_] _) _); refine dw_or1 ?_)
  | ((with_reducible show dW _ _ _ _ (Expr.BoolOp BoolOp.And _ _) _); refine dw_and ?_)
  | ((with_reducible show dW _ _ _ _ (Expr.BoolOp BoolOp.Or _ _) _); refine dw_or ?_)
  | ((with_reducible show dT _ _ _ _ (Expr.Compare _ [CmpOp.Eq] _ _) _); refine dt_cmp (op_eqDD (by first | assumption | exact Rm.blk (by assumption) | exact Rm.blk (Rm.blk (by assumption)))) ?_)
  | ((with_reducible show dT _ _ _ _ (Expr.Compare _ [CmpOp.NotEq] _ _) _); refine dt_cmp (op_neDD (by first | assumption | exact Rm.blk (by assumption) | exact Rm.blk (Rm.blk (by assumption)))) ?_)
  | ((with_reducible show dT _ _ _ _ (Expr.Compare _ [CmpOp.Lt] _ _) _); refine dt_cmp op_ltD ?_)
  | ((with_reducible show dT _ _ _ _ (Expr.Compare _ [CmpOp.LtE] _ _) _); refine dt_cmp op_leD ?_)
  | ((with_reducible show dT _ _ _ _ (Expr.Compare _ [CmpOp.Gt] _ _) _); refine dt_cmp op_gtD ?_)
  | ((with_reducible show dT _ _ _ _ (Expr.Compare _ [CmpOp.GtE] _ _) _); refine dt_cmp op_geD ?_)
  | ((with_reducible show dT _ _ _ _ (Expr.Compare _ [CmpOp.In] _ _) _); refine dt_cmp (op_inD (by first | assumption | exact Rm.blk (by assumption) | exact Rm.blk (Rm.blk (by assumption)))) ?_)
  | ((with_reducible show dT _ _ _ _ (Expr.Compare _ [CmpOp.NotIn] _ _) _); refine dt_cmp (op_ninD (by first | assumption | exact Rm.blk (by assumption) | exact Rm.blk (Rm.blk (by assumption)))) ?_)
  | ((with_reducible show dT _ _ _ _ (Expr.Compare _ [CmpOp.Is] _ _) _); refine dt_cmp op_isD ?_)
  | ((with_reducible show dT _ _ _ _ (Expr.Compare _ [CmpOp.IsNot] _ _) _); refine dt_cmp op_isntD ?_)
  | ((with_reducible show dT _ _ _ _ (Expr.Compare _ [CmpOp.LtE, CmpOp.LtE] _ _) _); refine dt_chain op_leD op_leD ?_)
  | ((with_reducible show dT _ _ _ _ (Expr.Compare _ [CmpOp.LtE, CmpOp.Lt] _ _) _); refine dt_chain op_leD op_ltD ?_)
  | ((with_reducible show dT _ _ _ _ (Expr.Compare _ [CmpOp.Lt, CmpOp.Lt] _ _) _); refine dt_chain op_ltD op_ltD ?_)
  | ((with_reducible show dT _ _ _ _ _ _); refine dt_val ?_))
local macro_rules | `(tactic| walk_at "fs") => `(tactic| first
  | ((with_reducible show dE _ _ _ _ _ _); walk_at "fE") | ((with_reducible show dT _ _ _ _ _ _); walk_at "fT") | ((with_reducible show dW _ _ _ _ _ _); walk_at "fT")
  | ((with_reducible show dA _ _ _ _ (Expr.Starred _ _ :: _) _); refine da_star ?_) | ((with_reducible show dA _ _ _ _ (_ :: _) _); refine da_cons ?_) | ((with_reducible show dA _ _ _ _ [] _); refine da_nil ?_)
  | ((with_reducible show dS _ _ _ _ (Stmt.Return _ _) _); refine ds_ret ?_) | ((with_reducible show dS _ _ _ _ (Stmt.If _ _ _ _) _); refine ds_if ?_) | ((with_reducible show dS _ _ _ _ (Stmt.Assign [Expr.Name _ _] _ _) _); (refine ds_set ?_ (by assumption); dsimp only))
  | ((with_reducible show dS _ _ _ _ (Stmt.Assign [Expr.Tuple [_, _] _ _] (Expr.Tuple [_, _] _ _) _) _); (refine ds_par ?_ (by assumption) (hij := Nat.ne_of_beq_eq_false (by rfl)); dsimp only))
  | ((with_reducible show dK _ _ _ _ (_ :: _) _); refine dk_cons ?_) | ((with_reducible show dK _ _ _ _ [] _); refine dk_nil ?_)
  | ((with_reducible show dB _ _ _ _ [] _); refine db_nil ?_; dsimp only) | ((with_reducible show dB _ _ _ _ _ _); refine db_cons ?_))
local macro_rules | `(tactic| walk_at "fo") => `(tactic| first | ((with_reducible show dO _ _ _ _ none _); refine dO_none ?_) | ((with_reducible show dO _ _ _ _ (some _) _); refine dO_some ?_))
local macro_rules | `(tactic| walk_at "fx") => `(tactic| (intro hc; exfalso; first | exact Bool.noConfusion (show true = false from hc) | exact Bool.noConfusion (show false = true from hc)))
local macro_rules | `(tactic| walk_at "fm") => `(tactic| first
  | ((with_reducible show Op2 _ _ _ _); first | refine ⟨_, _, _, rfl, rfl, eqD_str _ _, ?_⟩ | refine ⟨_, _, _, rfl, rfl, lim_ok (by omega), ?_⟩ | refine ⟨_, _, _, rfl, rfl, rfl, ?_⟩)
  | ((with_reducible show IsB _ _); refine ⟨_, rfl, ?_⟩)
  | ((with_reducible show AllD _ _); refine ⟨_, rfl, ?_⟩)
  | ((with_reducible show _ ≤ sizeLine ∧ _); refine ⟨Nat.le_of_ble_eq_true rfl, ?_⟩)
  | ((with_reducible show ∃ d, _ = Vl.d d ∧ _); refine ⟨_, rfl, ?_⟩)
  | ((with_reducible show ∃ d z, _ = Vl.d d ∧ lenD _ = some z ∧ _); first | refine ⟨_, _, rfl, lim_ok (by omega), ?_⟩ | refine ⟨_, _, rfl, rfl, ?_⟩)
  | ((with_reducible show ∃ z, intC _ = some z ∧ _); refine ⟨_, rfl, ?_⟩) | ((with_reducible show ∃ z, maxC _ = some z ∧ _); refine ⟨_, rfl, ?_⟩) | ((with_reducible show ∃ z, minC _ = some z ∧ _); refine ⟨_, rfl, ?_⟩)
  | ((with_reducible show ∃ d z, _ = Vl.d d ∧ intC _ = some z ∧ _); refine ⟨_, _, rfl, rfl, ?_⟩)
  | ((with_reducible show isStr _ = false ∧ _); refine ⟨rfl, ?_⟩) | ((with_reducible show IsIns _ _ _); refine ⟨_, rfl, ?_⟩) | ((with_reducible show ∃ ob, List.lookup _ _ = some ob ∧ _); refine ⟨_, rfl, ?_⟩) | ((with_reducible show List.lookup _ _ = none ∧ _); refine ⟨rfl, ?_⟩)
  | ((with_reducible show ∃ i : Int, _ = Vl.d (.int i) ∧ _); refine ⟨_, rfl, ?_⟩)
  | ((with_reducible show ∃ z : Str, _ = Vl.d (.str z) ∧ z.length ≤ 100000 ∧ _); refine ⟨_, rfl, by omega, ?_⟩)
  | ((with_reducible show ∃ d z, _ = Vl.d d ∧ slD d _ _ = some z ∧ _); first | refine ⟨_, _, rfl, lim_ok (by omega), ?_⟩ | refine ⟨_, _, rfl, rfl, ?_⟩)
  | ((with_reducible show ∃ d z, _ = Vl.d d ∧ listC _ = some z ∧ _); refine ⟨_, _, rfl, rfl, ?_⟩)
  | ((with_reducible show ∃ d z, _ = Vl.d d ∧ tupleC _ = some z ∧ _); refine ⟨_, _, rfl, rfl, ?_⟩)
  | ((with_reducible show ∃ ds, itemsD _ = some ds ∧ _); refine ⟨_, rfl, ?_⟩)
  | ((with_reducible show (_ = true → _) ∧ (_ = false → _)); first | (refine ⟨?_, (by walk_at "fx")⟩; intro hj; clear hj) | (refine ⟨(by walk_at "fx"), ?_⟩; intro hj; clear hj))
  | ((with_reducible show (_ = false → _) ∧ (_ = true → _)); first | (refine ⟨?_, (by walk_at "fx")⟩; intro hj; clear hj) | (refine ⟨(by walk_at "fx"), ?_⟩; intro hj; clear hj)))
local macro_rules | `(tactic| walk_at "fr") => `(tactic| repeat (first | walk_at "fs" | walk_at "fo" | walk_at "fm"))

section
variable {P : Program} {w : World} {K : PySem.W.Frag} {mg : Str → Option Value} {base : Heap}
theorem sc_words_ascend : FnScope ["things", "one", "other"] ["things"] (defScope s_words_ascend) := ⟨rfl, rfl, rfl, by decide +kernel, rfl, by decide +kernel, by decide +kernel⟩
/-- of at most one thing -/
theorem ok_words_ascend (F : Src K mg "words_ascend" s_words_ascend) (hs : base.get? sysModules ≠ none) (m1 : mg "all" = none) (m2 : mg "zip" = none) :
    Dfn P w K mg base CX0 1 "words_ascend" s_words_ascend ["things"] (spD K (fun ds => ds = [.tuple []] ∨ ∃ d, ds = [.tuple [d]]) fun _ => .bool true) := by
  refine F.pure sc_words_ascend (fun ds h => by rcases h with h | ⟨d, h⟩ <;> (rw [h]; rfl)) (fun _ _ _ _ _ _ us hl => match us, hl with | [_], _ => rfl) hs fun fa cd A fr s H E M ds R r hp => ?_
  have nd0 := sc_words_ascend.nd
  have key : ∀ ds : List PyData, zipD (Fw.cutD ds none (some (-1))) (Fw.cutD ds (some 1) none) = [] → dB (cxOf CX0 P w K mg base ["things", "one", "other"] "words_ascend" (defScope s_words_ascend) fa cd A fr s H E).nox (Wp M) (rho ["things", "one", "other"] [.tuple ds]) () (defBody s_words_ascend) { nx := fun _ _ => (PyData.bool true) = .none, rt := fun y _ => y = .d (.bool true) } := by
    intro ds h1
    walk_at "fr"
    refine de_lcP ?_ nd0 (blkOk_by (by rfl)) (fun e => absurd (show (1 : Nat) = 2 from e) (by decide))
    refine di_zip m2 ?_
    walk_at "fr"
    refine ⟨_, _, rfl, rfl, ?_⟩
    rw [h1]
    refine ⟨by decide, fun d hd => absurd hd List.not_mem_nil, fun k acc _ => acc = [], rfl, fun D k d acc s2 hd => absurd hd (by simp), fun acc s2 h => ?_⟩
    subst h
    exact ⟨_, _, rfl, rfl, rfl⟩
  rcases hp with rfl | ⟨d, rfl⟩
  · exact key [] rfl
  · exact key [d] rfl
theorem sc_are_deeds : FnScope ["thing", "sites", "deed"] ["thing", "sites"] (defScope s_are_deeds) := ⟨rfl, rfl, rfl, by decide +kernel, rfl, by decide +kernel, by decide +kernel⟩
theorem ok_are_deeds (F : Src K mg "are_deeds" s_are_deeds) (hs : base.get? sysModules ≠ none) (G : Dfn P w K mg base CX0 4 "is_deed" s_is_deed ["thing", "sites"] (spD K (fun ds => ∃ t : Th, ds = [t.dd, t.ss]) fun _ => .bool true))
    (G2 : Dfn P w K mg base CX0 1 "words_ascend" s_words_ascend ["things"] (spD K (fun ds => ds = [.tuple []] ∨ ∃ d, ds = [.tuple [d]]) fun _ => .bool true)) (m1 : mg "isinstance" = none) (m2 : mg "tuple" = none) (m3 : mg "all" = none) :
    Dfn P w K mg base CX0 5 "are_deeds" s_are_deeds ["thing", "sites"] (spD K (fun ds => ∃ t : Th, ds = [t.ds, t.ss]) fun _ => .bool true) := by
  refine F.pure sc_are_deeds (fun ds ⟨t, h⟩ => by rw [h]; rfl) (fun _ _ _ _ _ _ us hl => match us, hl with | [_, _], _ => rfl) hs fun fa cd A fr s H E M ds R r hp => ?_
  have nd0 := sc_are_deeds.nd
  obtain ⟨t, rfl⟩ := hp
  have key : ∀ (t : Th) (l : List PyData), (l = [] ∨ l = [t.dd]) → dB (cxOf CX0 P w K mg base ["thing", "sites", "deed"] "are_deeds" (defScope s_are_deeds) fa cd A fr s H E).nox (Wp M) (rho ["thing", "sites", "deed"] [.tuple l, t.ss]) () (defBody s_are_deeds) { nx := fun _ _ => (PyData.bool true) = .none, rt := fun y _ => y = .d (.bool true) } := by
    intro t l hl
    walk_at "fr"
    refine de_lc (Lc.map (fun k => .bool true) ?_) nd0 (blkOk_by (by rfl))
    refine di_any ?_
    walk_at "fr"
    refine ⟨by rcases hl with rfl | rfl; exact (by decide : 0 < sizeLine); exact (by decide : 1 < sizeLine), fun D k hk b => ?_, ?_⟩
    · have hk' : k = t.dd := by
        rcases hl with rfl | rfl
        · exact absurd hk List.not_mem_nil
        · exact List.mem_singleton.mp hk
      subst hk'
      walk_at "fr"
      exact ⟨⟨t, rfl⟩, rfl, rfl⟩
    · refine ⟨_, .bool true, rfl, by rcases hl with rfl | rfl <;> rfl, ?_⟩
      walk_at "fr"
      refine ⟨?_, rfl⟩
      rcases hl with rfl | rfl
      · exact .inl rfl
      · exact .inr ⟨_, rfl⟩
  cases t
  · exact key .a [] (.inl rfl)
  · exact key .b [_] (.inr rfl)
  · exact key .c [_] (.inr rfl)
theorem sc_are_variables : FnScope ["thing", "variable"] ["thing"] (defScope s_are_variables) := ⟨rfl, rfl, rfl, by decide +kernel, rfl, by decide +kernel, by decide +kernel⟩
theorem ok_are_variables (F : Src K mg "are_variables" s_are_variables) (hs : base.get? sysModules ≠ none)
    (G2 : Dfn P w K mg base CX0 1 "words_ascend" s_words_ascend ["things"] (spD K (fun ds => ds = [.tuple []] ∨ ∃ d, ds = [.tuple [d]]) fun _ => .bool true)) (m1 : mg "isinstance" = none) (m2 : mg "tuple" = none) (m3 : mg "all" = none) :
    Dfn P w K mg base CX0 2 "are_variables" s_are_variables ["thing"] (spD K (fun ds => ds = [.tuple []]) fun _ => .bool true) := by
  refine F.pure sc_are_variables (fun ds h => by rw [h]; rfl) (fun _ _ _ _ _ _ us hl => match us, hl with | [_], _ => rfl) hs fun fa cd A fr s H E M ds R r hp => ?_
  have nd0 := sc_are_variables.nd
  subst hp
  walk_at "fr"
  refine de_lc (Lc.map (fun k => .bool true) ?_) nd0 (blkOk_by (by rfl))
  refine di_any ?_
  walk_at "fr"
  refine ⟨by decide, fun D k hk b => absurd hk List.not_mem_nil, ?_⟩
  refine ⟨_, .bool true, rfl, rfl, ?_⟩
  walk_at "fr"
  exact ⟨.inl rfl, rfl⟩
end

end KK

set_option Elab.async false
set_option linter.all false
set_option maxRecDepth 100000
set_option maxHeartbeats 4000000
set_option pp.maxSteps 300
namespace KK
open PySem PySem.Spec PyProof.Rows L2 Fw
local macro_rules | `(tactic| walk_at "fE") => `(tactic| first
  | ((with_reducible show dE _ _ _ _ (Expr.Name _ _) _); first | refine de_var ?_ | refine de_globS (by assumption) ?_ | refine de_globI (by assumption) ?_)
  | ((with_reducible show dE _ _ _ _ (Expr.Constant (Const.str _) _ _) _); refine de_str ?_)
  | ((with_reducible show dE _ _ _ _ (Expr.Constant (Const.int _) _ _) _); refine de_int ?_)
  | ((with_reducible show dE _ _ _ _ (Expr.Constant (Const.bool _) _ _) _); refine de_bool ?_)
  | ((with_reducible show dE _ _ _ _ (Expr.Constant Const.none _ _) _); refine de_none ?_)
  | ((with_reducible show dE _ _ _ _ (Expr.BoolOp _ [_] _) _); refine de_one ?_)
  | ((with_reducible show dE _ _ _ _ (Expr.BoolOp BoolOp.And _ _) _); refine de_and ?_)
  | ((with_reducible show dE _ _ _ _ (Expr.BoolOp BoolOp.Or _ _) _); refine de_or ?_)
  | ((with_reducible show dE _ _ _ _ (Expr.UnaryOp UnaryOp.Not _ _) _); refine de_not ?_)
  | ((with_reducible show dE _ _ _ _ (Expr.UnaryOp UnaryOp.USub _ _) _); refine de_neg ?_)
  | ((with_reducible show dE _ _ _ _ (Expr.Compare _ [CmpOp.Eq] _ _) _); refine de_cmp (op_eqDD (by first | assumption | exact Rm.blk (by assumption) | exact Rm.blk (Rm.blk (by assumption)))) ?_)
  | ((with_reducible show dE _ _ _ _ (Expr.Compare _ [CmpOp.NotEq] _ _) _); refine de_cmp (op_neDD (by first | assumption | exact Rm.blk (by assumption) | exact Rm.blk (Rm.blk (by assumption)))) ?_)
  | ((with_reducible show dE _ _ _ _ (Expr.Compare _ [CmpOp.Lt] _ _) _); refine de_cmp op_ltD ?_)
  | ((with_reducible show dE _ _ _ _ (Expr.Compare _ [CmpOp.LtE] _ _) _); refine de_cmp op_leD ?_)
  | ((with_reducible show dE _ _ _ _ (Expr.Compare _ [CmpOp.Gt] _ _) _); refine de_cmp op_gtD ?_)
  | ((with_reducible show dE _ _ _ _ (Expr.Compare _ [CmpOp.GtE] _ _) _); refine de_cmp op_geD ?_)
  | ((with_reducible show dE _ _ _ _ (Expr.Compare _ [CmpOp.In] _ _) _); refine de_cmp (op_inD (by first | assumption | exact Rm.blk (by assumption) | exact Rm.blk (Rm.blk (by assumption)))) ?_)
  | ((with_reducible show dE _ _ _ _ (Expr.Compare _ [CmpOp.NotIn] _ _) _); refine de_cmp (op_ninD (by first | assumption | exact Rm.blk (by assumption) | exact Rm.blk (Rm.blk (by assumption)))) ?_)
  | ((with_reducible show dE _ _ _ _ (Expr.Compare _ [CmpOp.Is] _ _) _); refine de_cmp op_isD ?_)
  | ((with_reducible show dE _ _ _ _ (Expr.Compare _ [CmpOp.IsNot] _ _) _); refine de_cmp op_isntD ?_)
  | ((with_reducible show dE _ _ _ _ (Expr.Compare _ [CmpOp.LtE, CmpOp.LtE] _ _) _); refine de_chain op_leD op_leD ?_)
  | ((with_reducible show dE _ _ _ _ (Expr.Compare _ [CmpOp.LtE, CmpOp.Lt] _ _) _); refine de_chain op_leD op_ltD ?_)
  | ((with_reducible show dE _ _ _ _ (Expr.Compare _ [CmpOp.Lt, CmpOp.Lt] _ _) _); refine de_chain op_ltD op_ltD ?_)
  | ((with_reducible show dE _ _ _ _ (Expr.BinOp _ Operator.Add _ _) _); refine de_bin op_addD ?_)
  | ((with_reducible show dE _ _ _ _ (Expr.BinOp _ Operator.Sub _ _) _); refine de_bin op_subD ?_)
  | ((with_reducible show dE _ _ _ _ (Expr.BinOp _ Operator.Mult _ _) _); refine de_bin op_mulD ?_)
  | ((with_reducible show dE _ _ _ _ (Expr.BinOp _ Operator.Mod _ _) _); refine de_bin op_modD ?_)
  | ((with_reducible show dE _ _ _ _ (Expr.BinOp _ Operator.FloorDiv _ _) _); refine de_bin op_divD ?_)
  | ((with_reducible show dE _ _ _ _ (Expr.BinOp _ Operator.Pow _ _) _); refine de_bin op_powD ?_)
  | ((with_reducible show dE _ _ _ _ (Expr.Tuple _ _ _) _); refine de_tup ?_)
  | ((with_reducible show dE _ _ _ _ (Expr.List _ _) _); refine de_lst ?_)
  | ((with_reducible show dE _ _ _ _ (Expr.IfExp _ _ _ _) _); refine de_if ?_)
  | ((with_reducible show dE _ _ _ _ (Expr.Subscript _ (Expr.Slice _ _ none _) _) _); refine de_slice sl_D ?_)
  | ((with_reducible show dE _ _ _ _ (Expr.Subscript _ (Expr.Slice _ _ _ _) _) _); refine de_revT ?_)
  | ((with_reducible show dE _ _ _ _ (Expr.Subscript _ _ _) _); refine de_ix ix_D ?_)
  | ((with_reducible show dE _ _ _ _ (Expr.Dict [] _ _) _); refine de_dic0 ?_)
  | ((with_reducible show dE _ _ _ _ (Expr.Dict _ _ _) _); first | refine de_dicC ?_ | refine de_dicN ?_)
  | ((with_reducible show dE _ _ _ _ (Expr.Call (Expr.Attribute _ "upper" _) _ _ _) _); refine de_upper ?_)
  | ((with_reducible show dE _ _ _ _ (Expr.Call (Expr.Attribute _ "join" _) _ _ _) _); refine de_join ?_)
  | ((with_reducible show dE _ _ _ _ (Expr.Call (Expr.Attribute _ _ _) _ _ _) _); refine de_mth (by assumption) (by assumption) (by assumption) (by first | assumption | exact Rm.blk (by assumption) | exact Rm.blk (Rm.blk (by assumption))) (by first | assumption | exact Room.mono (by assumption) (by decide)) pass0 ?_)
  | ((with_reducible show dE _ _ _ _ (Expr.Attribute _ _ _) _); first | refine de_fld (by assumption) (by assumption) ?_ | refine de_prp (by assumption) (by assumption) (by assumption) (by first | assumption | exact Rm.blk (by assumption) | exact Rm.blk (Rm.blk (by assumption))) (by first | assumption | exact Room.mono (by assumption) (by decide)) pass0 ?_)
  | ((with_reducible show dE _ _ _ _ (Expr.Call (Expr.Name "isinstance" _) [_, Expr.Name "str" _] _ _) _); refine de_isiS (by assumption) (by assumption) ?_)
  | ((with_reducible show dE _ _ _ _ (Expr.Call (Expr.Name "isinstance" _) [_, Expr.Name "int" _] _ _) _); refine de_isiI (by assumption) (by assumption) ?_)
  | ((with_reducible show dE _ _ _ _ (Expr.Call (Expr.Name "isinstance" _) [_, Expr.Name "bool" _] _ _) _); refine de_isiB (by assumption) (by assumption) ?_)
  | ((with_reducible show dE _ _ _ _ (Expr.Call (Expr.Name "isinstance" _) [_, Expr.Name "tuple" _] _ _) _); refine de_isiT (by assumption) (by assumption) ?_)
  | ((with_reducible show dE _ _ _ _ (Expr.Call (Expr.Name "isinstance" _) [_, Expr.Name "list" _] _ _) _); refine de_isiL (by assumption) (by assumption) ?_)
  | ((with_reducible show dE _ _ _ _ (Expr.Call (Expr.Name "len" _) [Expr.Call (Expr.Name "set" _) _ _ _] _ _) _); refine de_lenS (by assumption) (by assumption) ?_)
  | ((with_reducible show dE _ _ _ _ (Expr.Call (Expr.Name "len" _) _ _ _) _); refine de_len (by assumption) ?_)
  | ((with_reducible show dE _ _ _ _ (Expr.Call (Expr.Name "str" _) _ _ _) _); refine de_strC (by assumption) ?_)
  | ((with_reducible show dE _ _ _ _ (Expr.Call (Expr.Name "list" _) _ _ _) _); refine de_listC (by assumption) ?_)
  | ((with_reducible show dE _ _ _ _ (Expr.Call (Expr.Name "tuple" _) _ _ _) _); refine de_tupleC (by assumption) ?_)
  | ((with_reducible show dE _ _ _ _ (Expr.Call (Expr.Name "repr" _) _ _ _) _); refine de_repr (by first | assumption | exact Rm.blk (by assumption) | exact Rm.blk (Rm.blk (by assumption))) (by assumption) ?_)
  | ((with_reducible show dE _ _ _ _ (Expr.Call (Expr.Name "all" _) _ _ _) _); refine de_all (by first | assumption | exact Rm.blk (by assumption) | exact Rm.blk (Rm.blk (by assumption))) (by assumption) ?_)
  | ((with_reducible show dE _ _ _ _ (Expr.Call (Expr.Name "any" _) _ _ _) _); refine de_any (by first | assumption | exact Rm.blk (by assumption) | exact Rm.blk (Rm.blk (by assumption))) (by assumption) ?_)
  | ((with_reducible show dE _ _ _ _ (Expr.Call (Expr.Name "int" _) _ _ _) _); refine de_intC (by assumption) ?_)
  | ((with_reducible show dE _ _ _ _ (Expr.Call (Expr.Name "max" _) _ _ _) _); refine de_maxC (by assumption) ?_)
  | ((with_reducible show dE _ _ _ _ (Expr.Call (Expr.Name "min" _) _ _ _) _); refine de_minC (by assumption) ?_)
  | ((with_reducible show dE _ _ _ _ (Expr.Call (Expr.Name _ _) [] [] _) _); first | refine de_go0 (by assumption) (by first | assumption | exact Rm.blk (by assumption) | exact Rm.blk (Rm.blk (by assumption))) (by first | assumption | exact Room.mono (by assumption) (by decide)) pass0 ?_ | refine de_goV0 (by assumption) (by first | assumption | exact Rm.blk (by assumption) | exact Rm.blk (Rm.blk (by assumption))) (by first | assumption | exact Room.mono (by assumption) (by decide)) pass0 ?_)
  | ((with_reducible show dE _ _ _ _ (Expr.Call (Expr.Name _ _) _ [] _) _); first | refine de_go (by assumption) (by first | assumption | exact Rm.blk (by assumption) | exact Rm.blk (Rm.blk (by assumption))) (by first | assumption | exact Room.mono (by assumption) (by decide)) pass0 ?_ | refine de_goV (by assumption) (by first | assumption | exact Rm.blk (by assumption) | exact Rm.blk (Rm.blk (by assumption))) (by first | assumption | exact Room.mono (by assumption) (by decide)) pass0 ?_))
local macro_rules | `(tactic| walk_at "fT") => `(tactic| first
  | ((with_reducible show dT _ _ _ _ (Expr.UnaryOp UnaryOp.Not _ _) _); refine dt_not ?_)
  | ((with_reducible show dT _ _ _ _ (Expr.BoolOp BoolOp.And _ _) _); refine dt_w (dw_and ?_))
  | ((with_reducible show dT _ _ _ _ (Expr.BoolOp BoolOp.Or _ _) _); refine dt_w (dw_or ?_))
  | ((with_reducible show dW _ _ _ _ (Expr.BoolOp BoolOp.And [_] _) _); refine dw_and1 ?_)
  | ((with_reducible show dW _ _ _ _ (Expr.BoolOp BoolOp.Or [_] _) _); refine dw_or1 ?_)
  | ((with_reducible show dW _ _ _ _ (Expr.BoolOp BoolOp.And _ _) _); refine dw_and ?_)
  | ((with_reducible show dW _ _ _ _ (Expr.BoolOp BoolOp.Or _ _) _); refine dw_or ?_)
  | ((with_reducible show dT _ _ _ _ (Expr.Compare _ [CmpOp.Eq] _ _) _); refine dt_cmp (op_eqDD (by first | assumption | exact Rm.blk (by assumption) | exact Rm.blk (Rm.blk (by assumption)))) ?_)
  | ((with_reducible show dT _ _ _ _ (Expr.Compare _ [CmpOp.NotEq] _ _) _); refine dt_cmp (op_neDD (by first | assumption | exact Rm.blk (by assumption) | exact Rm.blk (Rm.blk (by assumption)))) ?_)
  | ((with_reducible show dT _ _ _ _ (Expr.Compare _ [CmpOp.Lt] _ _) _); refine dt_cmp op_ltD ?_)
  | ((with_reducible show dT _ _ _ _ (Expr.Compare _ [CmpOp.LtE] _ _) _); refine dt_cmp op_leD ?_)
  | ((with_reducible show dT _ _ _ _ (Expr.Compare _ [CmpOp.Gt] _ _) _); refine dt_cmp op_gtD ?_)
  | ((with_reducible show dT _ _ _ _ (Expr.Compare _ [CmpOp.GtE] _ _) _); refine dt_cmp op_geD ?_)
  | ((with_reducible show dT _ _ _ _ (Expr.Compare _ [CmpOp.In] _ _) _); refine dt_cmp (op_inD (by first | assumption | exact Rm.blk (by assumption) | exact Rm.blk (Rm.blk (by assumption)))) ?_)
  | ((with_reducible show dT _ _ _ _ (Expr.Compare _ [CmpOp.NotIn] _ _) _); refine dt_cmp (op_ninD (by first | assumption | exact Rm.blk (by assumption) | exact Rm.blk (Rm.blk (by assumption)))) ?_)
  | ((with_reducible show dT _ _ _ _ (Expr.Compare _ [CmpOp.Is] _ _) _); refine dt_cmp op_isD ?_)
  | ((with_reducible show dT _ _ _ _ (Expr.Compare _ [CmpOp.IsNot] _ _) _); refine dt_cmp op_isntD ?_)
  | ((with_reducible show dT _ _ _ _ (Expr.Compare _ [CmpOp.LtE, CmpOp.LtE] _ _) _); refine dt_chain op_leD op_leD ?_)
  | ((with_reducible show dT _ _ _ _ (Expr.Compare _ [CmpOp.LtE, CmpOp.Lt] _ _) _); refine dt_chain op_leD op_ltD ?_)
  | ((with_reducible show dT _ _ _ _ (Expr.Compare _ [CmpOp.Lt, CmpOp.Lt] _ _) _); refine dt_chain op_ltD op_ltD ?_)
  | ((with_reducible show dT _ _ _ _ _ _); refine dt_val ?_))
local macro_rules | `(tactic| walk_at "fs") => `(tactic| first
  | ((with_reducible show dE _ _ _ _ _ _); walk_at "fE") | ((with_reducible show dT _ _ _ _ _ _); walk_at "fT") | ((with_reducible show dW _ _ _ _ _ _); walk_at "fT")
  | ((with_reducible show dA _ _ _ _ (Expr.Starred _ _ :: _) _); refine da_star ?_) | ((with_reducible show dA _ _ _ _ (_ :: _) _); refine da_cons ?_) | ((with_reducible show dA _ _ _ _ [] _); refine da_nil ?_)
  | ((with_reducible show dS _ _ _ _ (Stmt.Return _ _) _); refine ds_ret ?_) | ((with_reducible show dS _ _ _ _ (Stmt.If _ _ _ _) _); refine ds_if ?_) | ((with_reducible show dS _ _ _ _ (Stmt.Assign [Expr.Name _ _] _ _) _); (refine ds_set ?_ (by assumption); dsimp only))
  | ((with_reducible show dS _ _ _ _ (Stmt.Assign [Expr.Tuple [_, _] _ _] (Expr.Tuple [_, _] _ _) _) _); (refine ds_par ?_ (by assumption) (hij := Nat.ne_of_beq_eq_false (by rfl)); dsimp only))
  | ((with_reducible show dK _ _ _ _ (_ :: _) _); refine dk_cons ?_) | ((with_reducible show dK _ _ _ _ [] _); refine dk_nil ?_)
  | ((with_reducible show dB _ _ _ _ [] _); refine db_nil ?_; dsimp only) | ((with_reducible show dB _ _ _ _ _ _); refine db_cons ?_))
local macro_rules | `(tactic| walk_at "fo") => `(tactic| first | ((with_reducible show dO _ _ _ _ none _); refine dO_none ?_) | ((with_reducible show dO _ _ _ _ (some _) _); refine dO_some ?_))
local macro_rules | `(tactic| walk_at "fx") => `(tactic| (intro hc; exfalso; first | exact Bool.noConfusion (show true = false from hc) | exact Bool.noConfusion (show false = true from hc)))
local macro_rules | `(tactic| walk_at "fm") => `(tactic| first
  | ((with_reducible show Op2 _ _ _ _); first | refine ⟨_, _, _, rfl, rfl, eqD_str _ _, ?_⟩ | refine ⟨_, _, _, rfl, rfl, lim_ok (by omega), ?_⟩ | refine ⟨_, _, _, rfl, rfl, rfl, ?_⟩)
  | ((with_reducible show IsB _ _); refine ⟨_, rfl, ?_⟩)
  | ((with_reducible show AllD _ _); refine ⟨_, rfl, ?_⟩)
  | ((with_reducible show _ ≤ sizeLine ∧ _); refine ⟨Nat.le_of_ble_eq_true rfl, ?_⟩)
  | ((with_reducible show ∃ d, _ = Vl.d d ∧ _); refine ⟨_, rfl, ?_⟩)
  | ((with_reducible show ∃ d z, _ = Vl.d d ∧ lenD _ = some z ∧ _); first | refine ⟨_, _, rfl, lim_ok (by omega), ?_⟩ | refine ⟨_, _, rfl, rfl, ?_⟩)
  | ((with_reducible show ∃ z, intC _ = some z ∧ _); refine ⟨_, rfl, ?_⟩) | ((with_reducible show ∃ z, maxC _ = some z ∧ _); refine ⟨_, rfl, ?_⟩) | ((with_reducible show ∃ z, minC _ = some z ∧ _); refine ⟨_, rfl, ?_⟩)
  | ((with_reducible show ∃ d z, _ = Vl.d d ∧ intC _ = some z ∧ _); refine ⟨_, _, rfl, rfl, ?_⟩)
  | ((with_reducible show isStr _ = false ∧ _); refine ⟨rfl, ?_⟩) | ((with_reducible show IsIns _ _ _); refine ⟨_, rfl, ?_⟩) | ((with_reducible show ∃ ob, List.lookup _ _ = some ob ∧ _); refine ⟨_, rfl, ?_⟩) | ((with_reducible show List.lookup _ _ = none ∧ _); refine ⟨rfl, ?_⟩)
  | ((with_reducible show ∃ i : Int, _ = Vl.d (.int i) ∧ _); refine ⟨_, rfl, ?_⟩)
  | ((with_reducible show ∃ z : Str, _ = Vl.d (.str z) ∧ z.length ≤ 100000 ∧ _); refine ⟨_, rfl, by omega, ?_⟩)
  | ((with_reducible show ∃ d z, _ = Vl.d d ∧ slD d _ _ = some z ∧ _); first | refine ⟨_, _, rfl, lim_ok (by omega), ?_⟩ | refine ⟨_, _, rfl, rfl, ?_⟩)
  | ((with_reducible show ∃ d z, _ = Vl.d d ∧ listC _ = some z ∧ _); refine ⟨_, _, rfl, rfl, ?_⟩)
  | ((with_reducible show ∃ d z, _ = Vl.d d ∧ tupleC _ = some z ∧ _); refine ⟨_, _, rfl, rfl, ?_⟩)
  | ((with_reducible show ∃ ds, itemsD _ = some ds ∧ _); refine ⟨_, rfl, ?_⟩)
  | ((with_reducible show (_ = true → _) ∧ (_ = false → _)); first | (refine ⟨?_, (by walk_at "fx")⟩; intro hj; clear hj) | (refine ⟨(by walk_at "fx"), ?_⟩; intro hj; clear hj))
  | ((with_reducible show (_ = false → _) ∧ (_ = true → _)); first | (refine ⟨?_, (by walk_at "fx")⟩; intro hj; clear hj) | (refine ⟨(by walk_at "fx"), ?_⟩; intro hj; clear hj)))
local macro_rules | `(tactic| walk_at "fr") => `(tactic| repeat (first | walk_at "fs" | walk_at "fo" | walk_at "fm"))

section
variable {P : Program} {w : World} {K : PySem.W.Frag} {mg : Str → Option Value} {base : Heap} {CS f : Addr}
def Th.kv : Th → Kv
  | .a => []
  | .b => [(.inr "is", Th.b.dd)]
  | .c => [(.inr "is", Th.c.dd)]
def SF (t : Th) : List (Str × Ob) := [("deeds_by_word", .d t.kv.d), ("kinds_by_word", .d (Kv.d []))]
abbrev Sc (CS : Addr) (t : Th) : Vl := .o (.ins CS (SF t))
theorem sc_Scope_init : FnScope ["self", "deeds", "variables", "deed", "variable"] ["self", "deeds", "variables"] (defScope s_Scope_init) := ⟨rfl, rfl, rfl, by decide +kernel, rfl, by decide +kernel, by decide +kernel⟩
theorem ok_Scope_init (F : SrcF K f "__init__" "Scope.__init__" s_Scope_init []) (hs : base.get? sysModules ≠ none) (cl : Cls K CS) (n1 : NoAttr K CS "deeds_by_word") (n2 : NoAttr K CS "kinds_by_word") :
    ∀ t : Th, FnA P w K mg base CX0 1 f ["self", "deeds", "variables"] [] (spI K CS (fun xs => xs = [.d t.ds, .d (.tuple [])]) fun _ => SF t) := by
  intro t
  refine F.init sc_Scope_init (fun xs h => by rw [h]; rfl) (fun _ _ _ _ _ _ us hl => match us, hl with | [_, _, _], _ => rfl) hs fun cd A fr s H E M l xs R r hp => ?_
  have nd0 := sc_Scope_init.nd
  subst hp
  have hds : ∃ ls : List PyData, t.ds = .tuple ls ∧ (ls = [] ∧ t.kv = [] ∨ ls = [t.dd] ∧ t.kv = [(.inr "is", t.dd)]) := by
    cases t
    · exact ⟨_, rfl, .inl ⟨rfl, rfl⟩⟩
    · exact ⟨_, rfl, .inr ⟨rfl, rfl⟩⟩
    · exact ⟨_, rfl, .inr ⟨rfl, rfl⟩⟩
  obtain ⟨ls, e0, hls⟩ := hds
  rw [e0]
  refine db_cons (ds_self n1 cl (de_dc (di_any (de_var ⟨ls, rfl, ?_, fun k acc s2 => acc = (t.kv.take k) ∧ s2 = ((), []), ⟨rfl, rfl⟩, fun D k d acc s2 hd hi b => ?_, fun acc s2 hi => ?_⟩)) nd0 (blkOk_by (by rfl))))
  · rcases hls with ⟨rfl, _⟩ | ⟨rfl, _⟩
    · exact (by decide : 0 < sizeLine)
    · exact (by decide : 1 < sizeLine)
  · have hk : k = 0 ∧ d = t.dd ∧ t.kv = [(.inr "is", t.dd)] := by
      rcases hls with ⟨rfl, _⟩ | ⟨rfl, e⟩
      · simp at hd
      · match k, hd with
        | 0, hd => exact ⟨rfl, (Option.some.inj hd).symm, e⟩
        | k + 1, hd => simp at hd
    obtain ⟨rfl, rfl, e⟩ := hk
    obtain ⟨rfl, rfl⟩ := hi
    refine de_ix ix_D (de_var (de_int ⟨_, _, _, rfl, rfl, rfl, .inr "is", rfl, fun b2 => de_var ⟨_, rfl, ?_, rfl⟩⟩))
    rw [e]
    rfl
  · obtain ⟨hi, rfl⟩ := hi
    have e2 : acc = t.kv := by
      rw [hi]
      rcases hls with ⟨rfl, e⟩ | ⟨rfl, e⟩ <;> rw [e] <;> rfl
    subst e2
    refine de_var ⟨rfl, by decide, rfl, ?_⟩
    refine db_cons (ds_self n2 cl (de_dc (di_any (de_var ⟨[], rfl, by decide, fun k acc s2 => acc = [] ∧ s2 = ((), [(("deeds_by_word" : Str), Ob.d t.kv.d)]), ⟨rfl, rfl⟩, fun D k d acc s2 hd hi b => absurd hd (by simp), fun acc s2 hi => ?_⟩)) nd0 (blkOk_by (by rfl))))
    obtain ⟨rfl, rfl⟩ := hi
    exact de_var ⟨rfl, (by decide : 1 < 900), rfl, db_nil rfl⟩
theorem sc_begins : FnScope ["thing"] ["thing"] (defScope s_begins) := ⟨rfl, rfl, rfl, by decide +kernel, rfl, by decide +kernel, by decide +kernel⟩
theorem ok_begins (F : Src K mg "begins_with_word" s_begins) (hs : base.get? sysModules ≠ none) (m1 : mg "isinstance" = none) (m2 : mg "tuple" = none) (m3 : mg "str" = none) :
    Dfn P w K mg base CX0 1 "begins_with_word" s_begins ["thing"] (spD K (fun ds => ds = [doS]) fun _ => .bool true) := by
  refine F.pure sc_begins (fun ds h => by rw [h]; rfl) (fun _ _ _ _ _ _ us hl => match us, hl with | [_], _ => rfl) hs fun fa cd A fr s H E M ds R r hp => ?_
  subst hp
  unfold doS
  walk_at "fr"
  rfl
theorem sc_is_do : FnScope ["self", "variable", "word", "arguments", "deed", "kind", "argument", "there"] ["self", "variable", "word", "arguments"] (defScope s_is_do) := ⟨rfl, rfl, rfl, by decide +kernel, rfl, by decide +kernel, by decide +kernel⟩
theorem ok_is_do (F : SrcF K f "is_do" "Scope.is_do" s_is_do []) (hs : base.get? sysModules ≠ none) (cl : Cls K CS) (n1 : NoAttr K CS "deeds_by_word") (m1 : mg "isinstance" = none) (m2 : mg "tuple" = none) (m3 : mg "str" = none) (m4 : mg "len" = none) (m5 : mg "zip" = none) (t : Th) (ht : t.kv = [(.inr "is", t.dd)]) :
    FnA P w K mg base CX0 1 f ["self", "variable", "word", "arguments"] [] (spP K (fun xs => xs = [Sc CS t, .d .none, .d (.str "is"), .d (.tuple [])]) fun _ => .d (.bool true)) := by
  refine F.pureV sc_is_do (fun xs h => by rw [h]; rfl) (fun _ _ _ _ _ _ us hl => match us, hl with | [_, _, _, _], _ => rfl) hs fun cd A fr s H E M xs R r hp => ?_
  have nd0 := sc_is_do.nd
  subst hp
  walk_at "fr"
  refine de_dget1 R ?_ ⟨rfl, rfl, rfl, rfl⟩
  walk_at "fr"
  refine ⟨t.kv, rfl, ?_⟩
  walk_at "fr"
  refine ⟨.inr "is", rfl, ?_⟩
  rw [show t.kv.get (.inr "is") = some t.dd by rw [ht]; rfl]
  walk_at "fr"
  refine ds_forP (di_zip m5 ?_) PassesOwn.never nd0
  walk_at "fr"
  refine ⟨[], [], rfl, rfl, fun d hd => absurd hd (by simp [zipD]), fun _ ρ1 _ => ρ1 = [some (Sc CS t), some (.d .none), some (.d (.str "is")), some (.d (.tuple [])), some (.d t.dd), none, none, none], rfl, fun k d ρ1 s2 hd => absurd hd (by simp [zipD]), fun ρ1 s2 h => ?_⟩
  subst h
  walk_at "fr"
  rfl
theorem sc_is_statement : FnScope ["self", "thing", "word", "parts"] ["self", "thing"] (defScope s_is_statement) := ⟨rfl, rfl, rfl, by decide +kernel, rfl, by decide +kernel, by decide +kernel⟩
theorem ok_is_statement {f2 : Addr} (F : SrcF K f "is_statement" "Scope.is_statement" s_is_statement []) (hs : base.get? sysModules ≠ none) (cl : Cls K CS) (hm : Meth K CS "is_do" f2) (m4 : mg "len" = none) (t : Th)
    (G : FnA P w K mg base CX0 1 f2 ["self", "variable", "word", "arguments"] [] (spP K (fun xs => xs = [Sc CS t, .d .none, .d (.str "is"), .d (.tuple [])]) fun _ => .d (.bool true)))
    (G2 : Dfn P w K mg base CX0 1 "begins_with_word" s_begins ["thing"] (spD K (fun ds => ds = [doS]) fun _ => .bool true)) :
    FnA P w K mg base CX0 2 f ["self", "thing"] [] (spP K (fun xs => xs = [Sc CS t, .d doS]) fun _ => .d (.bool true)) := by
  refine F.pureV sc_is_statement (fun xs h => by rw [h]; rfl) (fun _ _ _ _ _ _ us hl => match us, hl with | [_, _], _ => rfl) hs fun cd A fr s H E M xs R r hp => ?_
  have nd0 := sc_is_statement.nd
  subst hp
  walk_at "fr"
  refine ⟨rfl, ?_⟩
  unfold doS
  walk_at "fr"
  exact ⟨rfl, rfl⟩
theorem sc_is_body : FnScope ["self", "thing", "statement"] ["self", "thing"] (defScope s_is_body) := ⟨rfl, rfl, rfl, by decide +kernel, rfl, by decide +kernel, by decide +kernel⟩
theorem ok_is_body {f2 : Addr} (F : SrcF K f "is_body" "Scope.is_body" s_is_body []) (hs : base.get? sysModules ≠ none) (cl : Cls K CS) (hm : Meth K CS "is_statement" f2) (m1 : mg "isinstance" = none) (m2 : mg "tuple" = none) (m3 : mg "all" = none) (t : Th)
    (G : FnA P w K mg base CX0 2 f2 ["self", "thing"] [] (spP K (fun xs => xs = [Sc CS t, .d doS]) fun _ => .d (.bool true))) (l : List PyData) (hl : l = [] ∨ l = [doS]) :
    FnA P w K mg base CX0 3 f ["self", "thing"] [] (spP K (fun xs => xs = [Sc CS t, .d (.tuple l)]) fun _ => .d (.bool true)) := by
  refine F.pureV sc_is_body (fun xs h => by rw [h]; rfl) (fun _ _ _ _ _ _ us hl => match us, hl with | [_, _], _ => rfl) hs fun cd A fr s H E M xs R r hp => ?_
  have nd0 := sc_is_body.nd
  subst hp
  walk_at "fr"
  refine de_lc (Lc.map (fun k => .bool true) ?_) nd0 (blkOk_by (by rfl))
  refine di_any ?_
  walk_at "fr"
  refine ⟨by rcases hl with rfl | rfl; exact (by decide : 0 < sizeLine); exact (by decide : 1 < sizeLine), fun D k hk b => ?_, ?_⟩
  · have hk' : k = doS := by
      rcases hl with rfl | rfl
      · exact absurd hk List.not_mem_nil
      · exact List.mem_singleton.mp hk
    subst hk'
    walk_at "fr"
    exact ⟨rfl, rfl, rfl⟩
  · refine ⟨_, .bool true, rfl, by rcases hl with rfl | rfl <;> rfl, ?_⟩
    walk_at "fr"
    rfl
theorem ok_is_body0 (F : SrcF K f "is_body" "Scope.is_body" s_is_body []) (hs : base.get? sysModules ≠ none) (m1 : mg "isinstance" = none) (m2 : mg "tuple" = none) (m3 : mg "all" = none) (t : Th) :
    FnA P w K mg base CX0 3 f ["self", "thing"] [] (spP K (fun xs => xs = [Sc CS t, .d (.tuple [])]) fun _ => .d (.bool true)) := by
  refine F.pureV sc_is_body (fun xs h => by rw [h]; rfl) (fun _ _ _ _ _ _ us hl => match us, hl with | [_, _], _ => rfl) hs fun cd A fr s H E M xs R r hp => ?_
  have nd0 := sc_is_body.nd
  subst hp
  walk_at "fr"
  refine de_lc (Lc.map (fun k => .bool true) ?_) nd0 (blkOk_by (by rfl))
  refine di_any ?_
  walk_at "fr"
  refine ⟨(by decide : 0 < sizeLine), fun D k hk b => absurd hk List.not_mem_nil, ?_⟩
  refine ⟨_, .bool true, rfl, rfl, ?_⟩
  walk_at "fr"
  rfl
end

end KK

set_option Elab.async false
set_option linter.all false
set_option maxRecDepth 100000
set_option maxHeartbeats 4000000
set_option pp.maxSteps 300
namespace KK
open PySem PySem.Spec PyProof.Rows L2 Fw
local macro_rules | `(tactic| walk_at "fE") => `(tactic| first
  | ((with_reducible show dE _ _ _ _ (Expr.Name _ _) _); first | refine de_var ?_ | refine de_globS (by assumption) ?_ | refine de_globI (by assumption) ?_)
  | ((with_reducible show dE _ _ _ _ (Expr.Constant (Const.str _) _ _) _); refine de_str ?_)
  | ((with_reducible show dE _ _ _ _ (Expr.Constant (Const.int _) _ _) _); refine de_int ?_)
  | ((with_reducible show dE _ _ _ _ (Expr.Constant (Const.bool _) _ _) _); refine de_bool ?_)
  | ((with_reducible show dE _ _ _ _ (Expr.Constant Const.none _ _) _); refine de_none ?_)
  | ((with_reducible show dE _ _ _ _ (Expr.BoolOp _ [_] _) _); refine de_one ?_)
  | ((with_reducible show dE _ _ _ _ (Expr.BoolOp BoolOp.And _ _) _); refine de_and ?_)
  | ((with_reducible show dE _ _ _ _ (Expr.BoolOp BoolOp.Or _ _) _); refine de_or ?_)
  | ((with_reducible show dE _ _ _ _ (Expr.UnaryOp UnaryOp.Not _ _) _); refine de_not ?_)
  | ((with_reducible show dE _ _ _ _ (Expr.UnaryOp UnaryOp.USub _ _) _); refine de_neg ?_)
  | ((with_reducible show dE _ _ _ _ (Expr.Compare _ [CmpOp.Eq] _ _) _); refine de_cmp (op_eqDD (by first | assumption | exact Rm.blk (by assumption) | exact Rm.blk (Rm.blk (by assumption)))) ?_)
  | ((with_reducible show dE _ _ _ _ (Expr.Compare _ [CmpOp.NotEq] _ _) _); refine de_cmp (op_neDD (by first | assumption | exact Rm.blk (by assumption) | exact Rm.blk (Rm.blk (by assumption)))) ?_)
  | ((with_reducible show dE _ _ _ _ (Expr.Compare _ [CmpOp.Lt] _ _) _); refine de_cmp op_ltD ?_)
  | ((with_reducible show dE _ _ _ _ (Expr.Compare _ [CmpOp.LtE] _ _) _); refine de_cmp op_leD ?_)
  | ((with_reducible show dE _ _ _ _ (Expr.Compare _ [CmpOp.Gt] _ _) _); refine de_cmp op_gtD ?_)
  | ((with_reducible show dE _ _ _ _ (Expr.Compare _ [CmpOp.GtE] _ _) _); refine de_cmp op_geD ?_)
  | ((with_reducible show dE _ _ _ _ (Expr.Compare _ [CmpOp.In] _ _) _); refine de_cmp (op_inD (by first | assumption | exact Rm.blk (by assumption) | exact Rm.blk (Rm.blk (by assumption)))) ?_)
  | ((with_reducible show dE _ _ _ _ (Expr.Compare _ [CmpOp.NotIn] _ _) _); refine de_cmp (op_ninD (by first | assumption | exact Rm.blk (by assumption) | exact Rm.blk (Rm.blk (by assumption)))) ?_)
  | ((with_reducible show dE _ _ _ _ (Expr.Compare _ [CmpOp.Is] _ _) _); refine de_cmp op_isD ?_)
  | ((with_reducible show dE _ _ _ _ (Expr.Compare _ [CmpOp.IsNot] _ _) _); refine de_cmp op_isntD ?_)
  | ((with_reducible show dE _ _ _ _ (Expr.Compare _ [CmpOp.LtE, CmpOp.LtE] _ _) _); refine de_chain op_leD op_leD ?_)
  | ((with_reducible show dE _ _ _ _ (Expr.Compare _ [CmpOp.LtE, CmpOp.Lt] _ _) _); refine de_chain op_leD op_ltD ?_)
  | ((with_reducible show dE _ _ _ _ (Expr.Compare _ [CmpOp.Lt, CmpOp.Lt] _ _) _); refine de_chain op_ltD op_ltD ?_)
  | ((with_reducible show dE _ _ _ _ (Expr.BinOp _ Operator.Add _ _) _); refine de_bin op_addD ?_)
  | ((with_reducible show dE _ _ _ _ (Expr.BinOp _ Operator.Sub _ _) _); refine de_bin op_subD ?_)
  | ((with_reducible show dE _ _ _ _ (Expr.BinOp _ Operator.Mult _ _) _); refine de_bin op_mulD ?_)
  | ((with_reducible show dE _ _ _ _ (Expr.BinOp _ Operator.Mod _ _) _); refine de_bin op_modD ?_)
  | ((with_reducible show dE _ _ _ _ (Expr.BinOp _ Operator.FloorDiv _ _) _); refine de_bin op_divD ?_)
  | ((with_reducible show dE _ _ _ _ (Expr.BinOp _ Operator.Pow _ _) _); refine de_bin op_powD ?_)
  | ((with_reducible show dE _ _ _ _ (Expr.Tuple _ _ _) _); refine de_tup ?_)
  | ((with_reducible show dE _ _ _ _ (Expr.List _ _) _); refine de_lst ?_)
  | ((with_reducible show dE _ _ _ _ (Expr.IfExp _ _ _ _) _); refine de_if ?_)
  | ((with_reducible show dE _ _ _ _ (Expr.Subscript _ (Expr.Slice _ _ none _) _) _); refine de_slice sl_D ?_)
  | ((with_reducible show dE _ _ _ _ (Expr.Subscript _ (Expr.Slice _ _ _ _) _) _); refine de_revT ?_)
  | ((with_reducible show dE _ _ _ _ (Expr.Subscript _ _ _) _); refine de_ix ix_D ?_)
  | ((with_reducible show dE _ _ _ _ (Expr.Dict [] _ _) _); refine de_dic0 ?_)
  | ((with_reducible show dE _ _ _ _ (Expr.Dict _ _ _) _); first | refine de_dicC ?_ | refine de_dicN ?_)
  | ((with_reducible show dE _ _ _ _ (Expr.Call (Expr.Attribute _ "upper" _) _ _ _) _); refine de_upper ?_)
  | ((with_reducible show dE _ _ _ _ (Expr.Call (Expr.Attribute _ "join" _) _ _ _) _); refine de_join ?_)
  | ((with_reducible show dE _ _ _ _ (Expr.Call (Expr.Attribute _ _ _) _ _ _) _); refine de_mth (by assumption) (by assumption) (by assumption) (by first | assumption | exact Rm.blk (by assumption) | exact Rm.blk (Rm.blk (by assumption))) (by first | assumption | exact Room.mono (by assumption) (by decide)) pass0 ?_)
  | ((with_reducible show dE _ _ _ _ (Expr.Attribute _ _ _) _); first | refine de_fld (by assumption) (by assumption) ?_ | refine de_prp (by assumption) (by assumption) (by assumption) (by first | assumption | exact Rm.blk (by assumption) | exact Rm.blk (Rm.blk (by assumption))) (by first | assumption | exact Room.mono (by assumption) (by decide)) pass0 ?_)
  | ((with_reducible show dE _ _ _ _ (Expr.Call (Expr.Name "isinstance" _) [_, Expr.Name "str" _] _ _) _); refine de_isiS (by assumption) (by assumption) ?_)
  | ((with_reducible show dE _ _ _ _ (Expr.Call (Expr.Name "isinstance" _) [_, Expr.Name "int" _] _ _) _); refine de_isiI (by assumption) (by assumption) ?_)
  | ((with_reducible show dE _ _ _ _ (Expr.Call (Expr.Name "isinstance" _) [_, Expr.Name "bool" _] _ _) _); refine de_isiB (by assumption) (by assumption) ?_)
  | ((with_reducible show dE _ _ _ _ (Expr.Call (Expr.Name "isinstance" _) [_, Expr.Name "tuple" _] _ _) _); refine de_isiT (by assumption) (by assumption) ?_)
  | ((with_reducible show dE _ _ _ _ (Expr.Call (Expr.Name "isinstance" _) [_, Expr.Name "list" _] _ _) _); refine de_isiL (by assumption) (by assumption) ?_)
  | ((with_reducible show dE _ _ _ _ (Expr.Call (Expr.Name "len" _) [Expr.Call (Expr.Name "set" _) _ _ _] _ _) _); refine de_lenS (by assumption) (by assumption) ?_)
  | ((with_reducible show dE _ _ _ _ (Expr.Call (Expr.Name "len" _) _ _ _) _); refine de_len (by assumption) ?_)
  | ((with_reducible show dE _ _ _ _ (Expr.Call (Expr.Name "str" _) _ _ _) _); refine de_strC (by assumption) ?_)
  | ((with_reducible show dE _ _ _ _ (Expr.Call (Expr.Name "list" _) _ _ _) _); refine de_listC (by assumption) ?_)
  | ((with_reducible show dE _ _ _ _ (Expr.Call (Expr.Name "tuple" _) _ _ _) _); refine de_tupleC (by assumption) ?_)
  | ((with_reducible show dE _ _ _ _ (Expr.Call (Expr.Name "repr" _) _ _ _) _); refine de_repr (by first | assumption | exact Rm.blk (by assumption) | exact Rm.blk (Rm.blk (by assumption))) (by assumption) ?_)
  | ((with_reducible show dE _ _ _ _ (Expr.Call (Expr.Name "all" _) _ _ _) _); refine de_all (by first | assumption | exact Rm.blk (by assumption) | exact Rm.blk (Rm.blk (by assumption))) (by assumption) ?_)
  | ((with_reducible show dE _ _ _ _ (Expr.Call (Expr.Name "any" _) _ _ _) _); refine de_any (by first | assumption | exact Rm.blk (by assumption) | exact Rm.blk (Rm.blk (by assumption))) (by assumption) ?_)
  | ((with_reducible show dE _ _ _ _ (Expr.Call (Expr.Name "int" _) _ _ _) _); refine de_intC (by assumption) ?_)
  | ((with_reducible show dE _ _ _ _ (Expr.Call (Expr.Name "max" _) _ _ _) _); refine de_maxC (by assumption) ?_)
  | ((with_reducible show dE _ _ _ _ (Expr.Call (Expr.Name "min" _) _ _ _) _); refine de_minC (by assumption) ?_)
  | ((with_reducible show dE _ _ _ _ (Expr.Call (Expr.Name _ _) [] [] _) _); first | refine de_go0 (by assumption) (by first | assumption | exact Rm.blk (by assumption) | exact Rm.blk (Rm.blk (by assumption))) (by first | assumption | exact Room.mono (by assumption) (by decide)) pass0 ?_ | refine de_goV0 (by assumption) (by first | assumption | exact Rm.blk (by assumption) | exact Rm.blk (Rm.blk (by assumption))) (by first | assumption | exact Room.mono (by assumption) (by decide)) pass0 ?_)
  | ((with_reducible show dE _ _ _ _ (Expr.Call (Expr.Name _ _) _ [] _) _); first | refine de_go (by assumption) (by first | assumption | exact Rm.blk (by assumption) | exact Rm.blk (Rm.blk (by assumption))) (by first | assumption | exact Room.mono (by assumption) (by decide)) pass0 ?_ | refine de_goV (by assumption) (by first | assumption | exact Rm.blk (by assumption) | exact Rm.blk (Rm.blk (by assumption))) (by first | assumption | exact Room.mono (by assumption) (by decide)) pass0 ?_))
local macro_rules | `(tactic| walk_at "fT") => `(tactic| first
  | ((with_reducible show dT _ _ _ _ (Expr.UnaryOp UnaryOp.Not _ _) _); refine dt_not ?_)
  | ((with_reducible show dT _ _ _ _ (Expr.BoolOp BoolOp.And _ _) _); refine dt_w (dw_and ?_))
  | ((with_reducible show dT _ _ _ _ (Expr.BoolOp BoolOp.Or _ _) _); refine dt_w (dw_or ?_))
  | ((with_reducible show dW _ _ _ _ (Expr.BoolOp BoolOp.And [_] _) _); refine dw_and1 ?_)
  | ((with_reducible show dW _ _ _ _ (Expr.BoolOp BoolOp.Or [_] _) _); refine dw_or1 ?_)
  | ((with_reducible show dW _ _ _ _ (Expr.BoolOp BoolOp.And _ _) _); refine dw_and ?_)
  | ((with_reducible show dW _ _ _ _ (Expr.BoolOp BoolOp.Or _ _) _); refine dw_or ?_)
  | ((with_reducible show dT _ _ _ _ (Expr.Compare _ [CmpOp.Eq] _ _) _); refine dt_cmp (op_eqDD (by first | assumption | exact Rm.blk (by assumption) | exact Rm.blk (Rm.blk (by assumption)))) ?_)
  | ((with_reducible show dT _ _ _ _ (Expr.Compare _ [CmpOp.NotEq] _ _) _); refine dt_cmp (op_neDD (by first | assumption | exact Rm.blk (by assumption) | exact Rm.blk (Rm.blk (by assumption)))) ?_)
  | ((with_reducible show dT _ _ _ _ (Expr.Compare _ [CmpOp.Lt] _ _) _); refine dt_cmp op_ltD ?_)
  | ((with_reducible show dT _ _ _ _ (Expr.Compare _ [CmpOp.LtE] _ _) _); refine dt_cmp op_leD ?_)
  | ((with_reducible show dT _ _ _ _ (Expr.Compare _ [CmpOp.Gt] _ _) _); refine dt_cmp op_gtD ?_)
  | ((with_reducible show dT _ _ _ _ (Expr.Compare _ [CmpOp.GtE] _ _) _); refine dt_cmp op_geD ?_)
  | ((with_reducible show dT _ _ _ _ (Expr.Compare _ [CmpOp.In] _ _) _); refine dt_cmp (op_inD (by first | assumption | exact Rm.blk (by assumption) | exact Rm.blk (Rm.blk (by assumption)))) ?_)
  | ((with_reducible show dT _ _ _ _ (Expr.Compare _ [CmpOp.NotIn] _ _) _); refine dt_cmp (op_ninD (by first | assumption | exact Rm.blk (by assumption) | exact Rm.blk (Rm.blk (by assumption)))) ?_)
  | ((with_reducible show dT _ _ _ _ (Expr.Compare _ [CmpOp.Is] _ _) _); refine dt_cmp op_isD ?_)
  | ((with_reducible show dT _ _ _ _ (Expr.Compare _ [CmpOp.IsNot] _ _) _); refine dt_cmp op_isntD ?_)
  | ((with_reducible show dT _ _ _ _ (Expr.Compare _ [CmpOp.LtE, CmpOp.LtE] _ _) _); refine dt_chain op_leD op_leD ?_)
  | ((with_reducible show dT _ _ _ _ (Expr.Compare _ [CmpOp.LtE, CmpOp.Lt] _ _) _); refine dt_chain op_leD op_ltD ?_)
  | ((with_reducible show dT _ _ _ _ (Expr.Compare _ [CmpOp.Lt, CmpOp.Lt] _ _) _); refine dt_chain op_ltD op_ltD ?_)
  | ((with_reducible show dT _ _ _ _ _ _); refine dt_val ?_))
local macro_rules | `(tactic| walk_at "fs") => `(tactic| first
  | ((with_reducible show dE _ _ _ _ _ _); walk_at "fE") | ((with_reducible show dT _ _ _ _ _ _); walk_at "fT") | ((with_reducible show dW _ _ _ _ _ _); walk_at "fT")
  | ((with_reducible show dA _ _ _ _ (Expr.Starred _ _ :: _) _); refine da_star ?_) | ((with_reducible show dA _ _ _ _ (_ :: _) _); refine da_cons ?_) | ((with_reducible show dA _ _ _ _ [] _); refine da_nil ?_)
  | ((with_reducible show dS _ _ _ _ (Stmt.Return _ _) _); refine ds_ret ?_) | ((with_reducible show dS _ _ _ _ (Stmt.If _ _ _ _) _); refine ds_if ?_) | ((with_reducible show dS _ _ _ _ (Stmt.Assign [Expr.Name _ _] _ _) _); (refine ds_set ?_ (by assumption); dsimp only))
  | ((with_reducible show dS _ _ _ _ (Stmt.Assign [Expr.Tuple [_, _] _ _] (Expr.Tuple [_, _] _ _) _) _); (refine ds_par ?_ (by assumption) (hij := Nat.ne_of_beq_eq_false (by rfl)); dsimp only))
  | ((with_reducible show dK _ _ _ _ (_ :: _) _); refine dk_cons ?_) | ((with_reducible show dK _ _ _ _ [] _); refine dk_nil ?_)
  | ((with_reducible show dB _ _ _ _ [] _); refine db_nil ?_; dsimp only) | ((with_reducible show dB _ _ _ _ _ _); refine db_cons ?_))
local macro_rules | `(tactic| walk_at "fo") => `(tactic| first | ((with_reducible show dO _ _ _ _ none _); refine dO_none ?_) | ((with_reducible show dO _ _ _ _ (some _) _); refine dO_some ?_))
local macro_rules | `(tactic| walk_at "fx") => `(tactic| (intro hc; exfalso; first | exact Bool.noConfusion (show true = false from hc) | exact Bool.noConfusion (show false = true from hc)))
local macro_rules | `(tactic| walk_at "fm") => `(tactic| first
  | ((with_reducible show Op2 _ _ _ _); first | refine ⟨_, _, _, rfl, rfl, eqD_str _ _, ?_⟩ | refine ⟨_, _, _, rfl, rfl, lim_ok (by omega), ?_⟩ | refine ⟨_, _, _, rfl, rfl, rfl, ?_⟩)
  | ((with_reducible show IsB _ _); refine ⟨_, rfl, ?_⟩)
  | ((with_reducible show AllD _ _); refine ⟨_, rfl, ?_⟩)
  | ((with_reducible show _ ≤ sizeLine ∧ _); refine ⟨Nat.le_of_ble_eq_true rfl, ?_⟩)
  | ((with_reducible show ∃ d, _ = Vl.d d ∧ _); refine ⟨_, rfl, ?_⟩)
  | ((with_reducible show ∃ d z, _ = Vl.d d ∧ lenD _ = some z ∧ _); first | refine ⟨_, _, rfl, lim_ok (by omega), ?_⟩ | refine ⟨_, _, rfl, rfl, ?_⟩)
  | ((with_reducible show ∃ z, intC _ = some z ∧ _); refine ⟨_, rfl, ?_⟩) | ((with_reducible show ∃ z, maxC _ = some z ∧ _); refine ⟨_, rfl, ?_⟩) | ((with_reducible show ∃ z, minC _ = some z ∧ _); refine ⟨_, rfl, ?_⟩)
  | ((with_reducible show ∃ d z, _ = Vl.d d ∧ intC _ = some z ∧ _); refine ⟨_, _, rfl, rfl, ?_⟩)
  | ((with_reducible show isStr _ = false ∧ _); refine ⟨rfl, ?_⟩) | ((with_reducible show IsIns _ _ _); refine ⟨_, rfl, ?_⟩) | ((with_reducible show ∃ ob, List.lookup _ _ = some ob ∧ _); refine ⟨_, rfl, ?_⟩) | ((with_reducible show List.lookup _ _ = none ∧ _); refine ⟨rfl, ?_⟩)
  | ((with_reducible show ∃ i : Int, _ = Vl.d (.int i) ∧ _); refine ⟨_, rfl, ?_⟩)
  | ((with_reducible show ∃ z : Str, _ = Vl.d (.str z) ∧ z.length ≤ 100000 ∧ _); refine ⟨_, rfl, by omega, ?_⟩)
  | ((with_reducible show ∃ d z, _ = Vl.d d ∧ slD d _ _ = some z ∧ _); first | refine ⟨_, _, rfl, lim_ok (by omega), ?_⟩ | refine ⟨_, _, rfl, rfl, ?_⟩)
  | ((with_reducible show ∃ d z, _ = Vl.d d ∧ listC _ = some z ∧ _); refine ⟨_, _, rfl, rfl, ?_⟩)
  | ((with_reducible show ∃ d z, _ = Vl.d d ∧ tupleC _ = some z ∧ _); refine ⟨_, _, rfl, rfl, ?_⟩)
  | ((with_reducible show ∃ ds, itemsD _ = some ds ∧ _); refine ⟨_, rfl, ?_⟩)
  | ((with_reducible show (_ = true → _) ∧ (_ = false → _)); first | (refine ⟨?_, (by walk_at "fx")⟩; intro hj; clear hj) | (refine ⟨(by walk_at "fx"), ?_⟩; intro hj; clear hj))
  | ((with_reducible show (_ = false → _) ∧ (_ = true → _)); first | (refine ⟨?_, (by walk_at "fx")⟩; intro hj; clear hj) | (refine ⟨(by walk_at "fx"), ?_⟩; intro hj; clear hj)))
local macro_rules | `(tactic| walk_at "fr") => `(tactic| repeat (first | walk_at "fs" | walk_at "fo" | walk_at "fm"))

section
variable {P : Program} {w : World} {K : PySem.W.Frag} {mg : Str → Option Value} {base : Heap} {CS CP f : Addr}
def PF (t : Th) : List (Str × Ob) := [("houses", .d t.hs), ("deeds", .d t.ds), ("variables", .d (.tuple [])), ("body", .d t.bd)]
abbrev Pr (CP : Addr) (t : Th) : Vl := .o (.ins CP (PF t))
theorem sc_Program_init : FnScope ["self", "houses", "deeds", "variables", "body"] ["self", "houses", "deeds", "variables", "body"] (defScope s_Program_init) := ⟨rfl, rfl, rfl, by decide +kernel, rfl, by decide +kernel, by decide +kernel⟩
theorem ok_Program_init {fi fb : Addr} (F : SrcF K f "__init__" "Program.__init__" s_Program_init []) (hs : base.get? sysModules ≠ none) (cl : Cls K CP) (n1 : NoAttr K CP "houses") (n2 : NoAttr K CP "deeds") (n3 : NoAttr K CP "variables") (n4 : NoAttr K CP "body")
    (G1 : Dfn P w K mg base CX0 3 "are_houses" s_are_houses ["thing"] (spD K (fun ds => ∃ t : Th, ds = [t.hs]) fun _ => .bool true))
    (G2 : Dfn P w K mg base CX0 5 "are_deeds" s_are_deeds ["thing", "sites"] (spD K (fun ds => ∃ t : Th, ds = [t.ds, t.ss]) fun _ => .bool true))
    (G3 : Dfn P w K mg base CX0 2 "are_variables" s_are_variables ["thing"] (spD K (fun ds => ds = [.tuple []]) fun _ => .bool true))
    (cS : Cls K CS) (kS : Mk K CS fi) (gS : mg "Scope" = some (.ref CS)) (hb : Meth K CS "is_body" fb) (m1 : ∃ t, mg "NEAR" = some (.str "near" t)) (t : Th)
    (G4 : FnA P w K mg base CX0 1 fi ["self", "deeds", "variables"] [] (spI K CS (fun xs => xs = [.d t.ds, .d (.tuple [])]) fun _ => SF t))
    (G5 : FnA P w K mg base CX0 3 fb ["self", "thing"] [] (spP K (fun xs => xs = [Sc CS t, .d t.bd]) fun _ => .d (.bool true))) :
    FnA P w K mg base CX0 6 f ["self", "houses", "deeds", "variables", "body"] [] (spI K CP (fun xs => xs = [.d t.hs, .d t.ds, .d (.tuple []), .d t.bd]) fun _ => PF t) := by
  refine F.init sc_Program_init (fun xs h => by rw [h]; rfl) (fun _ _ _ _ _ _ us hl => match us, hl with | [_, _, _, _, _], _ => rfl) hs fun cd A fr s H E M l xs R r hp => ?_
  have nd0 := sc_Program_init.nd
  subst hp
  walk_at "fr"
  refine ⟨⟨t, rfl⟩, ?_⟩
  walk_at "fr"
  refine ⟨.str "near" :: t.hl.map .str, by cases t <;> rfl, by cases t <;> decide +kernel, ?_⟩
  walk_at "fr"
  refine ⟨⟨t, rfl⟩, ?_⟩
  walk_at "fr"
  refine ⟨rfl, ?_⟩
  walk_at "fr"
  refine de_mk kS G4 R (r.mono (by decide)) pass0 gS ?_
  walk_at "fr"
  refine ⟨rfl, ?_⟩
  walk_at "fr"
  refine ⟨rfl, ?_⟩
  walk_at "fr"
  refine ds_self n1 cl (de_var (de_var ⟨rfl, by decide, rfl, ?_⟩))
  refine db_cons (ds_self n2 cl (de_var (de_var ⟨rfl, (by decide : 1 < 900), rfl, ?_⟩)))
  refine db_cons (ds_self n3 cl (de_var (de_var ⟨rfl, (by decide : 2 < 900), rfl, ?_⟩)))
  refine db_cons (ds_self n4 cl (de_var (de_var ⟨rfl, (by decide : 3 < 900), rfl, ?_⟩)))
  exact db_nil rfl
/-! ### what a story is -/
theorem sc_sites : FnScope ["self"] ["self"] (defScope s_sites) := ⟨rfl, rfl, rfl, by decide +kernel, rfl, by decide +kernel, by decide +kernel⟩
theorem ok_sites (F : SrcF K f "sites" "Program.sites" s_sites []) (hs : base.get? sysModules ≠ none) (cl : Cls K CP) (n1 : NoAttr K CP "houses") (m1 : ∃ t, mg "NEAR" = some (.str "near" t)) (t : Th) :
    FnA P w K mg base CX0 1 f ["self"] [] (spP K (fun xs => xs = [Pr CP t]) fun _ => .d t.ss) := by
  refine F.pureV sc_sites (fun xs h => by rw [h]; rfl) (fun _ _ _ _ _ _ us hl => match us, hl with | [_], _ => rfl) hs fun cd A fr s H E M xs R r hp => ?_
  subst hp
  walk_at "fr"
  refine ⟨.str "near" :: t.hl.map .str, by cases t <;> rfl, by cases t <;> decide +kernel, ?_⟩
  walk_at "fr"
  rfl
def rowB : PyData → Bool
  | .tuple l => l.all isAns
  | _ => false
def storyB (n : Nat) : PyData → Bool
  | .tuple l => decide (l.length = n) && l.all rowB
  | _ => false
theorem sc_is_story : FnScope ["program", "thing", "row", "one"] ["program", "thing"] (defScope s_is_story) := ⟨rfl, rfl, rfl, by decide +kernel, rfl, by decide +kernel, by decide +kernel⟩
theorem ok_is_story {pp : Addr} (F : Src K mg "is_story" s_is_story) (hs : base.get? sysModules ≠ none) (cl : Cls K CP) (hp : PropOf K CP "sites" pp f) (t : Th) (G : FnA P w K mg base CX0 1 f ["self"] [] (spP K (fun xs => xs = [Pr CP t]) fun _ => .d t.ss))
    (G2 : Dfn P w K mg base CX0 4 "is_answer" s_is_answer ["thing"] (spD K (one 800000) fun ds => .bool (isAns (ds.getD 0 .none)))) (m1 : mg "isinstance" = none) (m2 : mg "tuple" = none) (m3 : mg "len" = none) (m4 : mg "all" = none) (d : PyData) (hd : Nc 800000 d) :
    Dfn P w K mg base CX0 5 "is_story" s_is_story ["program", "thing"] (spP K (fun xs => xs = [Pr CP t, .d d]) fun _ => .d (.bool (storyB (t.hl.length + 1) d))) := by
  refine F.pureV sc_is_story (fun xs h => by rw [h]; rfl) (fun _ _ _ _ _ _ us hl => match us, hl with | [_, _], _ => rfl) hs fun fa cd A fr s H E M xs R r hp => ?_
  have nd0 := sc_is_story.nd
  subst hp
  cases d
  case tuple l =>
    have eI : ∀ a b : Int, PyData.eqv (.int a) (.int b) = decide (a = b) := fun a b => by simp only [PyData.eqv]; rfl
    have hlen := hd.tlen
    walk_at "fr"
    refine ⟨rfl, t.ss, .int ((t.hl.length + 1 : Nat) : Int), rfl, by cases t <;> rfl, ?_⟩
    refine ⟨_, _, .bool (!decide ((l.length : Int) = ((t.hl.length + 1 : Nat) : Int))), rfl, rfl, by rw [← eI]; rfl, _, rfl, fun h1 => ?_, fun h1 => ?_⟩
    · walk_at "fr"
      show Vl.d (.bool false) = Vl.d (.bool (decide (l.length = t.hl.length + 1) && l.all rowB))
      have h2 : ¬ (l.length = t.hl.length + 1) := fun z => by rw [z] at h1; simp at h1
      rw [decide_eq_false h2]
      rfl
    · have h2 : l.length = t.hl.length + 1 := by
        have : (l.length : Int) = ((t.hl.length + 1 : Nat) : Int) := by simpa using h1
        exact Int.ofNat.inj this
      walk_at "fr"
      refine de_lc (Lc.map (fun k => .bool (rowB k)) ?_) nd0 (blkOk_by (by rfl))
      refine di_any ?_
      walk_at "fr"
      refine ⟨by rw [sizeLine_eq]; omega, fun D k hk b => ?_, ?_⟩
      · have hk1 := hd.tup hk
        cases k
        case tuple l2 =>
          have hl2 := hk1.tlen
          walk_at "fr"
          refine de_lc (Lc.map (fun k => .bool (isAns k)) ?_) nd0 (blkOk_by (by rfl))
          refine di_any ?_
          walk_at "fr"
          refine ⟨by rw [sizeLine_eq]; omega, fun D2 k2 hk2 b2 => ?_, ?_⟩
          · walk_at "fr"
            exact ⟨⟨_, rfl, hk1.tup hk2⟩, rfl, rfl⟩
          · refine ⟨_, _, rfl, allB_map isAns _, ?_⟩
            exact ⟨rfl, rfl⟩
        all_goals (walk_at "fr"; exact ⟨rfl, rfl⟩)
      · refine ⟨_, _, rfl, allB_map rowB _, ?_⟩
        show Vl.d (.bool _) = Vl.d (.bool (decide (l.length = t.hl.length + 1) && l.all rowB))
        rw [decide_eq_true h2]
        rfl
  all_goals (walk_at "fr"; rfl)
end

end KK

set_option Elab.async false
set_option linter.all false
set_option maxRecDepth 100000
set_option maxHeartbeats 4000000
set_option pp.maxSteps 300
namespace KK
open PySem PySem.Spec PyProof.Rows L2 Fw
local macro_rules | `(tactic| walk_at "fE") => `(tactic| first
  | ((with_reducible show dE _ _ _ _ (Expr.Name _ _) _); first | refine de_var ?_ | refine de_globS (by assumption) ?_ | refine de_globI (by assumption) ?_)
  | ((with_reducible show dE _ _ _ _ (Expr.Constant (Const.str _) _ _) _); refine de_str ?_)
  | ((with_reducible show dE _ _ _ _ (Expr.Constant (Const.int _) _ _) _); refine de_int ?_)
  | ((with_reducible show dE _ _ _ _ (Expr.Constant (Const.bool _) _ _) _); refine de_bool ?_)
  | ((with_reducible show dE _ _ _ _ (Expr.Constant Const.none _ _) _); refine de_none ?_)
  | ((with_reducible show dE _ _ _ _ (Expr.BoolOp _ [_] _) _); refine de_one ?_)
  | ((with_reducible show dE _ _ _ _ (Expr.BoolOp BoolOp.And _ _) _); refine de_and ?_)
  | ((with_reducible show dE _ _ _ _ (Expr.BoolOp BoolOp.Or _ _) _); refine de_or ?_)
  | ((with_reducible show dE _ _ _ _ (Expr.UnaryOp UnaryOp.Not _ _) _); refine de_not ?_)
  | ((with_reducible show dE _ _ _ _ (Expr.UnaryOp UnaryOp.USub _ _) _); refine de_neg ?_)
  | ((with_reducible show dE _ _ _ _ (Expr.Compare _ [CmpOp.Eq] _ _) _); refine de_cmp (op_eqDD (by first | assumption | exact Rm.blk (by assumption) | exact Rm.blk (Rm.blk (by assumption)))) ?_)
  | ((with_reducible show dE _ _ _ _ (Expr.Compare _ [CmpOp.NotEq] _ _) _); refine de_cmp (op_neDD (by first | assumption | exact Rm.blk (by assumption) | exact Rm.blk (Rm.blk (by assumption)))) ?_)
  | ((with_reducible show dE _ _ _ _ (Expr.Compare _ [CmpOp.Lt] _ _) _); refine de_cmp op_ltD ?_)
  | ((with_reducible show dE _ _ _ _ (Expr.Compare _ [CmpOp.LtE] _ _) _); refine de_cmp op_leD ?_)
  | ((with_reducible show dE _ _ _ _ (Expr.Compare _ [CmpOp.Gt] _ _) _); refine de_cmp op_gtD ?_)
  | ((with_reducible show dE _ _ _ _ (Expr.Compare _ [CmpOp.GtE] _ _) _); refine de_cmp op_geD ?_)
  | ((with_reducible show dE _ _ _ _ (Expr.Compare _ [CmpOp.In] _ _) _); refine de_cmp (op_inD (by first | assumption | exact Rm.blk (by assumption) | exact Rm.blk (Rm.blk (by assumption)))) ?_)
  | ((with_reducible show dE _ _ _ _ (Expr.Compare _ [CmpOp.NotIn] _ _) _); refine de_cmp (op_ninD (by first | assumption | exact Rm.blk (by assumption) | exact Rm.blk (Rm.blk (by assumption)))) ?_)
  | ((with_reducible show dE _ _ _ _ (Expr.Compare _ [CmpOp.Is] _ _) _); refine de_cmp op_isD ?_)
  | ((with_reducible show dE _ _ _ _ (Expr.Compare _ [CmpOp.IsNot] _ _) _); refine de_cmp op_isntD ?_)
  | ((with_reducible show dE _ _ _ _ (Expr.Compare _ [CmpOp.LtE, CmpOp.LtE] _ _) _); refine de_chain op_leD op_leD ?_)
  | ((with_reducible show dE _ _ _ _ (Expr.Compare _ [CmpOp.LtE, CmpOp.Lt] _ _) _); refine de_chain op_leD op_ltD ?_)
  | ((with_reducible show dE _ _ _ _ (Expr.Compare _ [CmpOp.Lt, CmpOp.Lt] _ _) _); refine de_chain op_ltD op_ltD ?_)
  | ((with_reducible show dE _ _ _ _ (Expr.BinOp _ Operator.Add _ _) _); refine de_bin op_addD ?_)
  | ((with_reducible show dE _ _ _ _ (Expr.BinOp _ Operator.Sub _ _) _); refine de_bin op_subD ?_)
  | ((with_reducible show dE _ _ _ _ (Expr.BinOp _ Operator.Mult _ _) _); refine de_bin op_mulD ?_)
  | ((with_reducible show dE _ _ _ _ (Expr.BinOp _ Operator.Mod _ _) _); refine de_bin op_modD ?_)
  | ((with_reducible show dE _ _ _ _ (Expr.BinOp _ Operator.FloorDiv _ _) _); refine de_bin op_divD ?_)
  | ((with_reducible show dE _ _ _ _ (Expr.BinOp _ Operator.Pow _ _) _); refine de_bin op_powD ?_)
  | ((with_reducible show dE _ _ _ _ (Expr.Tuple _ _ _) _); refine de_tup ?_)
  | ((with_reducible show dE _ _ _ _ (Expr.List _ _) _); refine de_lst ?_)
  | ((with_reducible show dE _ _ _ _ (Expr.IfExp _ _ _ _) _); refine de_if ?_)
  | ((with_reducible show dE _ _ _ _ (Expr.Subscript _ (Expr.Slice _ _ none _) _) _); refine de_slice sl_D ?_)
  | ((with_reducible show dE _ _ _ _ (Expr.Subscript _ (Expr.Slice _ _ _ _) _) _); refine de_revT ?_)
  | ((with_reducible show dE _ _ _ _ (Expr.Dict [] _ _) _); refine de_dic0 ?_)
  | ((with_reducible show dE _ _ _ _ (Expr.Dict _ _ _) _); first | refine de_dicC ?_ | refine de_dicN ?_)
  | ((with_reducible show dE _ _ _ _ (Expr.Call (Expr.Attribute _ "upper" _) _ _ _) _); refine de_upper ?_)
  | ((with_reducible show dE _ _ _ _ (Expr.Call (Expr.Attribute _ "join" _) _ _ _) _); refine de_join ?_)
  | ((with_reducible show dE _ _ _ _ (Expr.Call (Expr.Attribute _ _ _) _ _ _) _); refine de_mth (by assumption) (by assumption) (by assumption) (by first | assumption | exact Rm.blk (by assumption) | exact Rm.blk (Rm.blk (by assumption))) (by first | assumption | exact Room.mono (by assumption) (by decide)) pass0 ?_)
  | ((with_reducible show dE _ _ _ _ (Expr.Attribute _ _ _) _); first | refine de_fld (by assumption) (by assumption) ?_ | refine de_prp (by assumption) (by assumption) (by assumption) (by first | assumption | exact Rm.blk (by assumption) | exact Rm.blk (Rm.blk (by assumption))) (by first | assumption | exact Room.mono (by assumption) (by decide)) pass0 ?_)
  | ((with_reducible show dE _ _ _ _ (Expr.Call (Expr.Name "isinstance" _) [_, Expr.Name "str" _] _ _) _); refine de_isiS (by assumption) (by assumption) ?_)
  | ((with_reducible show dE _ _ _ _ (Expr.Call (Expr.Name "isinstance" _) [_, Expr.Name "int" _] _ _) _); refine de_isiI (by assumption) (by assumption) ?_)
  | ((with_reducible show dE _ _ _ _ (Expr.Call (Expr.Name "isinstance" _) [_, Expr.Name "bool" _] _ _) _); refine de_isiB (by assumption) (by assumption) ?_)
  | ((with_reducible show dE _ _ _ _ (Expr.Call (Expr.Name "isinstance" _) [_, Expr.Name "tuple" _] _ _) _); refine de_isiT (by assumption) (by assumption) ?_)
  | ((with_reducible show dE _ _ _ _ (Expr.Call (Expr.Name "isinstance" _) [_, Expr.Name "list" _] _ _) _); refine de_isiL (by assumption) (by assumption) ?_)
  | ((with_reducible show dE _ _ _ _ (Expr.Call (Expr.Name "len" _) _ _ _) _); fail)
  | ((with_reducible show dE _ _ _ _ (Expr.Call (Expr.Name "str" _) _ _ _) _); refine de_strC (by assumption) ?_)
  | ((with_reducible show dE _ _ _ _ (Expr.Call (Expr.Name "list" _) _ _ _) _); refine de_listC (by assumption) ?_)
  | ((with_reducible show dE _ _ _ _ (Expr.Call (Expr.Name "tuple" _) _ _ _) _); refine de_tupleC (by assumption) ?_)
  | ((with_reducible show dE _ _ _ _ (Expr.Call (Expr.Name "repr" _) _ _ _) _); refine de_repr (by first | assumption | exact Rm.blk (by assumption) | exact Rm.blk (Rm.blk (by assumption))) (by assumption) ?_)
  | ((with_reducible show dE _ _ _ _ (Expr.Call (Expr.Name "all" _) _ _ _) _); refine de_all (by first | assumption | exact Rm.blk (by assumption) | exact Rm.blk (Rm.blk (by assumption))) (by assumption) ?_)
  | ((with_reducible show dE _ _ _ _ (Expr.Call (Expr.Name "any" _) _ _ _) _); refine de_any (by first | assumption | exact Rm.blk (by assumption) | exact Rm.blk (Rm.blk (by assumption))) (by assumption) ?_)
  | ((with_reducible show dE _ _ _ _ (Expr.Call (Expr.Name "int" _) _ _ _) _); refine de_intC (by assumption) ?_)
  | ((with_reducible show dE _ _ _ _ (Expr.Call (Expr.Name "max" _) _ _ _) _); refine de_maxC (by assumption) ?_)
  | ((with_reducible show dE _ _ _ _ (Expr.Call (Expr.Name "min" _) _ _ _) _); refine de_minC (by assumption) ?_)
  | ((with_reducible show dE _ _ _ _ (Expr.Call (Expr.Name _ _) [] [] _) _); first | refine de_go0 (by assumption) (by first | assumption | exact Rm.blk (by assumption) | exact Rm.blk (Rm.blk (by assumption))) (by first | assumption | exact Room.mono (by assumption) (by decide)) pass0 ?_ | refine de_goV0 (by assumption) (by first | assumption | exact Rm.blk (by assumption) | exact Rm.blk (Rm.blk (by assumption))) (by first | assumption | exact Room.mono (by assumption) (by decide)) pass0 ?_)
  | ((with_reducible show dE _ _ _ _ (Expr.Call (Expr.Name _ _) _ [] _) _); first | refine de_go (by assumption) (by first | assumption | exact Rm.blk (by assumption) | exact Rm.blk (Rm.blk (by assumption))) (by first | assumption | exact Room.mono (by assumption) (by decide)) pass0 ?_ | refine de_goV (by assumption) (by first | assumption | exact Rm.blk (by assumption) | exact Rm.blk (Rm.blk (by assumption))) (by first | assumption | exact Room.mono (by assumption) (by decide)) pass0 ?_))
local macro_rules | `(tactic| walk_at "fT") => `(tactic| first
  | ((with_reducible show dT _ _ _ _ (Expr.UnaryOp UnaryOp.Not _ _) _); refine dt_not ?_)
  | ((with_reducible show dT _ _ _ _ (Expr.BoolOp BoolOp.And _ _) _); refine dt_w (dw_and ?_))
  | ((with_reducible show dT _ _ _ _ (Expr.BoolOp BoolOp.Or _ _) _); refine dt_w (dw_or ?_))
  | ((with_reducible show dW _ _ _ _ (Expr.BoolOp BoolOp.And [_] _) _); refine dw_and1 ?_)
  | ((with_reducible show dW _ _ _ _ (Expr.BoolOp BoolOp.Or [_] _) _); refine dw_or1 ?_)
  | ((with_reducible show dW _ _ _ _ (Expr.BoolOp BoolOp.And _ _) _); refine dw_and ?_)
  | ((with_reducible show dW _ _ _ _ (Expr.BoolOp BoolOp.Or _ _) _); refine dw_or ?_)
  | ((with_reducible show dT _ _ _ _ (Expr.Compare _ [CmpOp.Eq] _ _) _); refine dt_cmp (op_eqDD (by first | assumption | exact Rm.blk (by assumption) | exact Rm.blk (Rm.blk (by assumption)))) ?_)
  | ((with_reducible show dT _ _ _ _ (Expr.Compare _ [CmpOp.NotEq] _ _) _); refine dt_cmp (op_neDD (by first | assumption | exact Rm.blk (by assumption) | exact Rm.blk (Rm.blk (by assumption)))) ?_)
  | ((with_reducible show dT _ _ _ _ (Expr.Compare _ [CmpOp.Lt] _ _) _); refine dt_cmp op_ltD ?_)
  | ((with_reducible show dT _ _ _ _ (Expr.Compare _ [CmpOp.LtE] _ _) _); refine dt_cmp op_leD ?_)
  | ((with_reducible show dT _ _ _ _ (Expr.Compare _ [CmpOp.Gt] _ _) _); refine dt_cmp op_gtD ?_)
  | ((with_reducible show dT _ _ _ _ (Expr.Compare _ [CmpOp.GtE] _ _) _); refine dt_cmp op_geD ?_)
  | ((with_reducible show dT _ _ _ _ (Expr.Compare _ [CmpOp.In] _ _) _); refine dt_cmp (op_inD (by first | assumption | exact Rm.blk (by assumption) | exact Rm.blk (Rm.blk (by assumption)))) ?_)
  | ((with_reducible show dT _ _ _ _ (Expr.Compare _ [CmpOp.NotIn] _ _) _); refine dt_cmp (op_ninD (by first | assumption | exact Rm.blk (by assumption) | exact Rm.blk (Rm.blk (by assumption)))) ?_)
  | ((with_reducible show dT _ _ _ _ (Expr.Compare _ [CmpOp.Is] _ _) _); refine dt_cmp op_isD ?_)
  | ((with_reducible show dT _ _ _ _ (Expr.Compare _ [CmpOp.IsNot] _ _) _); refine dt_cmp op_isntD ?_)
  | ((with_reducible show dT _ _ _ _ (Expr.Compare _ [CmpOp.LtE, CmpOp.LtE] _ _) _); refine dt_chain op_leD op_leD ?_)
  | ((with_reducible show dT _ _ _ _ (Expr.Compare _ [CmpOp.LtE, CmpOp.Lt] _ _) _); refine dt_chain op_leD op_ltD ?_)
  | ((with_reducible show dT _ _ _ _ (Expr.Compare _ [CmpOp.Lt, CmpOp.Lt] _ _) _); refine dt_chain op_ltD op_ltD ?_)
  | ((with_reducible show dT _ _ _ _ _ _); refine dt_val ?_))
local macro_rules | `(tactic| walk_at "fs") => `(tactic| first
  | ((with_reducible show dE _ _ _ _ _ _); walk_at "fE") | ((with_reducible show dT _ _ _ _ _ _); walk_at "fT") | ((with_reducible show dW _ _ _ _ _ _); walk_at "fT")
  | ((with_reducible show dA _ _ _ _ (Expr.Starred _ _ :: _) _); refine da_star ?_) | ((with_reducible show dA _ _ _ _ (_ :: _) _); refine da_cons ?_) | ((with_reducible show dA _ _ _ _ [] _); refine da_nil ?_)
  | ((with_reducible show dS _ _ _ _ (Stmt.Return _ _) _); refine ds_ret ?_) | ((with_reducible show dS _ _ _ _ (Stmt.If _ _ _ _) _); refine ds_if ?_) | ((with_reducible show dS _ _ _ _ (Stmt.Assign [Expr.Name _ _] _ _) _); (refine ds_set ?_ (by assumption); dsimp only))
  | ((with_reducible show dS _ _ _ _ (Stmt.Assign [Expr.Tuple [_, _] _ _] (Expr.Tuple [_, _] _ _) _) _); (refine ds_par ?_ (by assumption) (hij := Nat.ne_of_beq_eq_false (by rfl)); dsimp only))
  | ((with_reducible show dK _ _ _ _ (_ :: _) _); refine dk_cons ?_) | ((with_reducible show dK _ _ _ _ [] _); refine dk_nil ?_)
  | ((with_reducible show dB _ _ _ _ [] _); refine db_nil ?_; dsimp only) | ((with_reducible show dB _ _ _ _ _ _); refine db_cons ?_))
local macro_rules | `(tactic| walk_at "fo") => `(tactic| first | ((with_reducible show dO _ _ _ _ none _); refine dO_none ?_) | ((with_reducible show dO _ _ _ _ (some _) _); refine dO_some ?_))
local macro_rules | `(tactic| walk_at "fx") => `(tactic| (intro hc; exfalso; first | exact Bool.noConfusion (show true = false from hc) | exact Bool.noConfusion (show false = true from hc)))
local macro_rules | `(tactic| walk_at "fm") => `(tactic| first
  | ((with_reducible show Op2 _ _ _ _); first | refine ⟨_, _, _, rfl, rfl, eqD_str _ _, ?_⟩ | refine ⟨_, _, _, rfl, rfl, lim_ok (by omega), ?_⟩ | refine ⟨_, _, _, rfl, rfl, rfl, ?_⟩)
  | ((with_reducible show IsB _ _); refine ⟨_, rfl, ?_⟩)
  | ((with_reducible show AllD _ _); refine ⟨_, rfl, ?_⟩)
  | ((with_reducible show _ ≤ sizeLine ∧ _); refine ⟨Nat.le_of_ble_eq_true rfl, ?_⟩)
  | ((with_reducible show ∃ d, _ = Vl.d d ∧ _); refine ⟨_, rfl, ?_⟩)
  | ((with_reducible show ∃ d z, _ = Vl.d d ∧ lenD _ = some z ∧ _); first | refine ⟨_, _, rfl, lim_ok (by omega), ?_⟩ | refine ⟨_, _, rfl, rfl, ?_⟩)
  | ((with_reducible show ∃ z, intC _ = some z ∧ _); refine ⟨_, rfl, ?_⟩) | ((with_reducible show ∃ z, maxC _ = some z ∧ _); refine ⟨_, rfl, ?_⟩) | ((with_reducible show ∃ z, minC _ = some z ∧ _); refine ⟨_, rfl, ?_⟩)
  | ((with_reducible show ∃ d z, _ = Vl.d d ∧ intC _ = some z ∧ _); refine ⟨_, _, rfl, rfl, ?_⟩)
  | ((with_reducible show isStr _ = false ∧ _); refine ⟨rfl, ?_⟩) | ((with_reducible show IsIns _ _ _); refine ⟨_, rfl, ?_⟩) | ((with_reducible show ∃ ob, List.lookup _ _ = some ob ∧ _); refine ⟨_, rfl, ?_⟩) | ((with_reducible show List.lookup _ _ = none ∧ _); refine ⟨rfl, ?_⟩)
  | ((with_reducible show ∃ i : Int, _ = Vl.d (.int i) ∧ _); refine ⟨_, rfl, ?_⟩)
  | ((with_reducible show ∃ z : Str, _ = Vl.d (.str z) ∧ z.length ≤ 100000 ∧ _); refine ⟨_, rfl, by omega, ?_⟩)
  | ((with_reducible show ∃ d z, _ = Vl.d d ∧ slD d _ _ = some z ∧ _); first | refine ⟨_, _, rfl, lim_ok (by omega), ?_⟩ | refine ⟨_, _, rfl, rfl, ?_⟩)
  | ((with_reducible show ∃ d z, _ = Vl.d d ∧ listC _ = some z ∧ _); refine ⟨_, _, rfl, rfl, ?_⟩)
  | ((with_reducible show ∃ d z, _ = Vl.d d ∧ tupleC _ = some z ∧ _); refine ⟨_, _, rfl, rfl, ?_⟩)
  | ((with_reducible show ∃ ds, itemsD _ = some ds ∧ _); refine ⟨_, rfl, ?_⟩)
  | ((with_reducible show (_ = true → _) ∧ (_ = false → _)); first | (refine ⟨?_, (by walk_at "fx")⟩; intro hj; clear hj) | (refine ⟨(by walk_at "fx"), ?_⟩; intro hj; clear hj))
  | ((with_reducible show (_ = false → _) ∧ (_ = true → _)); first | (refine ⟨?_, (by walk_at "fx")⟩; intro hj; clear hj) | (refine ⟨(by walk_at "fx"), ?_⟩; intro hj; clear hj)))
local macro_rules | `(tactic| walk_at "fr") => `(tactic| repeat (first | walk_at "fs" | walk_at "fo" | walk_at "fm"))

section
variable {P : Program} {w : World} {K : PySem.W.Frag} {mg : Str → Option Value} {base : Heap}
theorem mul_small {i j : Int} (h : j.natAbs < 18446744073709551616) : onlyB (mulOk i j) (.int (i * j)) = some (.int (i * j)) := onlyB_ok (by unfold mulOk; rw [decide_eq_true h, Bool.or_true])
theorem mul_smallL {i j : Int} (h : i.natAbs < 18446744073709551616) : onlyB (mulOk i j) (.int (i * j)) = some (.int (i * j)) := onlyB_ok (by unfold mulOk; rw [decide_eq_true h, Bool.true_or])
theorem mod_pos {i j : Int} (h : 0 < j) : onlyB (decide (0 < j)) (.int (i % j)) = some (.int (i % j)) := onlyB_ok (decide_eq_true h)
theorem div_pos {i j : Int} (h : 0 < j ∧ j < 1073741824) : onlyB (decide (0 < j) && decide (j < 1073741824)) (.int (i / j)) = some (.int (i / j)) := onlyB_ok (by rw [decide_eq_true h.1, decide_eq_true h.2]; rfl)
/-! ### a cell of the script -/
def spCell (K : PySem.W.Frag) : Sp := fun vs H Q _ => ∃ (sc : Addr) (is : List Int) (k : Nat), vs = [.ref sc, .int k] ∧ SqL K H sc (is.map V.int) ∧ k ≤ 1000000 ∧ ∀ (i : Int) H', Same H H' → Q (.int i) H'
theorem sc_law_cell_at : FnScope ["_law_script", "_law_k"] ["_law_script", "_law_k"] (defScope s_law_cell_at) := ⟨rfl, rfl, rfl, by decide +kernel, rfl, by decide +kernel, by decide +kernel⟩
theorem ok_law_cell_at (F : Src K mg "_law_cell_at" s_law_cell_at) (hs : base.get? sysModules ≠ none) (m1 : mg "len" = none) : Dfn P w K mg base CX0 1 "_law_cell_at" s_law_cell_at ["_law_script", "_law_k"] (spCell K) := by
  refine F.ok sc_law_cell_at (fun vs H Q E ⟨sc, is, k, h, _⟩ => by rw [h]; rfl) (fun _ _ _ _ _ _ us hl => match us, hl with | [_, _], _ => rfl) fun fa cd A fr s vs H Q E g r h => ?_
  obtain ⟨sc, is, k, rfl, hS, hk, hQ⟩ := h
  refine ⟨wB _ (defBody s_law_cell_at), bw, ?_⟩
  have key : dB (cxOf CX0 P w K mg base ["_law_script", "_law_k"] "_law_cell_at" (defScope s_law_cell_at) fa cd A fr s H E).nox (Ws H sc) [some (.v (.ref sc)), some (.d (.int k))] () (defBody s_law_cell_at) { nx := fun _ _ => False, rt := fun y _ => ∃ i : Int, y = .d (.int i) } := by
    walk_at "fr"
    refine de_lenQ m1 (de_var ⟨sc, is.map V.int, rfl, fun H1 j => sq_kept hS j, ?_⟩)
    walk_at "fr"
    refine ⟨fun h1 => ?_, fun h1 => ?_⟩
    · have h2 : k < is.length := by
        have : (k : Int) < ((is.map V.int).length : Int) := of_decide_eq_true h1
        simpa using this
      refine de_ixQ (de_var (de_var ⟨sc, is.map V.int, k, .d (.int is[k]), .int is[k], rfl, rfl, fun H1 j => sq_kept hS j, ?_, fun H1 j => Dt.int _, _, rfl⟩))
      rw [atI_nat]
      simp [h2]
    · walk_at "fr"
      exact ⟨_, rfl⟩
  refine key.go _ H _ ⟨rfl, fun i x e => ?_⟩ Ws.at ⟨fun _ _ _ _ _ _ _ z => z.elim, fun v H2 y s2 e2 j2 v2 ⟨i, z⟩ => ?_, fun _ _ _ _ _ _ _ z => z.elim, fun _ _ _ _ _ _ _ z => z.elim⟩
  · match i, e with
    | 0, e => cases e; exact ⟨_, rfl, rfl⟩
    | 1, e => cases e; exact ⟨_, rfl, Dt.int _⟩
    | i + 2, e => cases e
  · subst z
    cases (show Dt K _ H2 v (.int i) from v2)
    exact hQ i H2 (Ws.same e2 j2)
theorem sc_law_deck : FnScope ["_law_cell"] ["_law_cell"] (defScope s_law_deck) := ⟨rfl, rfl, rfl, by decide +kernel, rfl, by decide +kernel, by decide +kernel⟩
theorem ok_law_deck (F : Src K mg "_law_deck" s_law_deck) (hs : base.get? sysModules ≠ none) : Dfn P w K mg base CX0 1 "_law_deck" s_law_deck ["_law_cell"] (spDeck K) := by
  refine F.ok sc_law_deck (fun vs H Q E ⟨i, h, _⟩ => by rw [h]; rfl) (fun _ _ _ _ _ _ us hl => match us, hl with | [_], _ => rfl) fun fa cd A fr s vs H Q E g r h => ?_
  obtain ⟨i, rfl, hQ⟩ := h
  refine ⟨wB _ (defBody s_law_deck), bw, ?_⟩
  refine toB (pss_cons (ps_ret (pe_lst aw)) bw) ?_
  refine dA.go (W := Wp fun _ => False) (ρ := [some (.d (.int i))]) (s := ()) (Φ := fun xs _ => ∃ c m : Int, xs = [.d (.int c), .d (.int m), .d (.int 0)] ∧ 0 ≤ m ∧ m < 2147483648) ?key _ H _ ⟨rfl, fun i x e => ?_⟩ ⟨trivial, fun b m => m.elim⟩ fun vs H1 xs s1 e1 j1 v1 ⟨c, m, hx, hm1, hm2⟩ => ?_
  case key =>
    have e1 : (0 : Int) < 2147483629 := by decide
    walk_at "fr"
    refine ⟨fun h1 => ?_, fun h1 => ?_⟩
    all_goals
      walk_at "fr"
      exact ⟨_, _, rfl, Int.emod_nonneg _ (by decide), Int.lt_trans (Int.emod_lt_of_pos _ e1) (by decide)⟩
  · match i, e with
    | 0, e => cases e; exact ⟨_, rfl, Dt.int _⟩
    | i + 1, e => cases e
  · subst hx
    cases v1 with
    | cons a1 v1 =>
      cases v1 with
      | cons a2 v1 =>
        cases v1 with
        | cons a3 v1 =>
          cases v1
          cases (show Dt K _ H1 _ (.int c) from a1)
          cases (show Dt K _ H1 _ (.int m) from a2)
          cases (show Dt K _ H1 _ (.int 0) from a3)
          refine ⟨(by decide : 3 ≤ sizeLine), fun p hp => ?_⟩
          have hp0 : H p = none := by
            cases z : H p with
            | none => rfl
            | some o => rw [e1 p o (fun c => c) z] at hp; cases hp
          exact hQ p _ (fun b o q => same_new hp b o (e1 b o (fun c => c) q)) hp0 ⟨_, upd_same, c, m, 0, rfl, hm1, hm2, Int.le_refl _, Int.le_refl _⟩
/-! ### a draw -/
abbrev Dq := Int × Int × Int
def JQ (a : Addr) (q : Dq) (H : Hp) : Prop := H a = some (.lst [.int q.1, .int q.2.1, .int q.2.2])
def Wq (M : Addr → Prop) (a : Addr) (sub : ∀ b, b = a → M b) : Wd Dq where
  M := M
  C := fun b => b = a
  J := fun _ => JQ a
  sub := fun {b} h => sub b h
  keep := fun h k => k a _ (.inl rfl) h
  more := fun h _ => h
  less := fun h _ => h
theorem dB_tell {S S' : Type} {X : Cx} {W : Wd S} {W' : Wd S'} {ρ : Rho} {s : S} {b : List Stmt} {Δ : DE S} (hM : W'.M = W.M) (hC : W'.C = W.C) (h : ∀ H, W.J W.M s H → ∃ s', W'.J W'.M s' H ∧ dB X W' ρ s' b { nx := fun ρ' s'' => ∃ s3, (∀ H, W'.J W'.M s'' H → W.J W.M s3 H) ∧ Δ.nx ρ' s3, rt := fun y s'' => ∃ s3, (∀ H, W'.J W'.M s'' H → W.J W.M s3 H) ∧ Δ.rt y s3 }) : dB X W ρ s b Δ := .mk fun σ H D en j kn => by
  obtain ⟨s', j', hb⟩ := h H j.1
  refine hb.go σ H D (by rw [hM]; exact en) ⟨j', by rw [hM]; exact j.2⟩ ⟨fun σ2 H2 ρ2 s2 e2 j2 en2 z => ?_, fun v H2 y s2 e2 j2 v2 z => ?_, fun _ _ _ _ _ _ _ z => z.elim, fun _ _ _ _ _ _ _ z => z.elim⟩
  · obtain ⟨s3, i, q⟩ := z
    exact kn.nx σ2 H2 ρ2 s3 (by rw [← hC]; exact e2) ⟨i H2 j2.1, by rw [← hM]; exact j2.2⟩ (by rw [← hM]; exact en2) q
  · obtain ⟨s3, i, q⟩ := z
    exact kn.rt v H2 y s3 (by rw [← hC]; exact e2) ⟨i H2 j2.1, by rw [← hM]; exact j2.2⟩ (by rw [← hM]; exact v2) q
section
variable {M : Addr → Prop} {a : Addr} {q : Dq}
theorem rd0 : ∀ H, JQ a q H → ∃ xs v, H a = some (.lst xs) ∧ atI xs 0 = some v ∧ Vt K M H v (.d (.int q.1)) := fun H h => ⟨_, _, h, rfl, Dt.int _⟩
theorem rd1 : ∀ H, JQ a q H → ∃ xs v, H a = some (.lst xs) ∧ atI xs 1 = some v ∧ Vt K M H v (.d (.int q.2.1)) := fun H h => ⟨_, _, h, rfl, Dt.int _⟩
theorem rd2 : ∀ H, JQ a q H → ∃ xs v, H a = some (.lst xs) ∧ atI xs 2 = some v ∧ Vt K M H v (.d (.int q.2.2)) := fun H h => ⟨_, _, h, rfl, Dt.int _⟩
end
abbrev pDraw : List PyData → Prop := fun ds => ∃ m : Int, ds = [.int m] ∧ 1 ≤ m ∧ m < 1073741824
abbrev oDraw : List PyData → PyData → Prop := fun ds z => ∃ m i : Int, ds = [.int m] ∧ z = .int i ∧ 0 ≤ i ∧ i < m
theorem sc_law_draw : FnScope ["_law_deck_here", "_law_many", "_law_found", "_law_mixed"] ["_law_deck_here", "_law_many"] (defScope s_law_draw) := ⟨rfl, rfl, rfl, by decide +kernel, rfl, by decide +kernel, by decide +kernel⟩
theorem ok_law_draw (F : Src K mg "_law_draw" s_law_draw) (hs : base.get? sysModules ≠ none) :
    Dfn P w K mg base CX0 1 "_law_draw" s_law_draw ["_law_deck_here", "_law_many"] (spK T2 K pDraw oDraw 1) := by
  refine F.deck sc_law_draw (fun ds ⟨m, h, _⟩ => by rw [h]; rfl) (fun _ _ _ _ _ _ us hl => match us, hl with | [_, _], _ => rfl) hs fun fa cd A fr s H E M t sub n ds R r hp hn => ?_
  have a : Addr := t
  have hn : n + 1 ≤ 1099511627776 := hn
  have nd0 := sc_law_draw.nd
  obtain ⟨m, rfl, m1, m2⟩ := hp
  refine dB_tell (W' := Wq M t sub) rfl rfl fun H0 hJ => ?_
  obtain ⟨o, hj, c0, m0, k0, rfl, h1, h2, h3, h4⟩ := hJ
  refine ⟨(c0, m0, k0), hj, ?_⟩
  walk_at "fr"
  refine de_ixV (de_var (de_int ⟨t, 0, _, rfl, rfl, rd0, de_int ⟨_, _, _, rfl, rfl, rfl, _, rfl, fun h5 => ?_, fun h5 => ?_⟩⟩))
  · refine db_cons (ds_set (de_bin op_modD (de_ixV (de_var (de_int ⟨t, 0, _, rfl, rfl, rd0, de_var ⟨.int c0, .int m, _, rfl, rfl, mod_pos (by omega), ?_⟩⟩)))) nd0)
    refine db_cons (ds_setV (de_bin op_divD (de_ixV (de_var (de_int ⟨t, 0, _, rfl, rfl, rd0, de_var ⟨.int c0, .int m, _, rfl, rfl, div_pos ⟨by omega, m2⟩, de_var (de_int ⟨t, 0, (c0 / m, m0, k0), rfl, rfl, rfl, fun H v j hv => ?_, ?_⟩)⟩⟩)))))
    · cases hv
      exact ⟨_, 0, j, rfl, upd_same⟩
    · refine db_cons (ds_ret (de_var ⟨n + 1, fun H2 j2 => ⟨_, j2, _, _, _, rfl, h1, h2, h3, by show k0 ≤ ((n + 1 : Nat) : Int); omega⟩, _, rfl, ⟨m, _, rfl, rfl, Int.emod_nonneg _ (by omega), Int.emod_lt_of_pos _ (by omega)⟩, Nat.le_refl _⟩))
  · have hdone : ∀ H2, JQ t (c0, m0, k0 + 1) H2 → T2.J t (n + 1) H2 := fun H2 j2 => ⟨_, j2, _, _, _, rfl, h1, h2, by show 0 ≤ k0 + 1; omega, by show k0 + 1 ≤ ((n + 1 : Nat) : Int); omega⟩
    refine db_nil ?_
    refine db_cons (ds_setV (de_bin op_addD (de_ixV (de_var (de_int ⟨t, 2, _, rfl, rfl, rd2, de_int ⟨_, _, _, rfl, rfl, rfl, de_var (de_int ⟨t, 2, (c0, m0, k0 + 1), rfl, rfl, rfl, fun H v j hv => ?_, ?_⟩)⟩⟩)))))
    · cases hv
      exact ⟨_, 2, j, rfl, upd_same⟩
    refine db_cons (ds_set (de_imp (Ψ := fun x s' => ∃ j : Int, x = .d (.int j) ∧ 0 ≤ j ∧ j < 2147483647 ∧ s' = (c0, m0, k0 + 1)) ?_ fun x s' ⟨j, hx, j1, j2, hs⟩ => ?_) nd0)
    · walk_at "fr"
      refine de_ixV (de_var (de_int ⟨t, 1, _, rfl, rfl, rd1, ?_⟩))
      walk_at "fr"
      refine de_ixV (de_var (de_int ⟨t, 2, _, rfl, rfl, rd2, ⟨_, _, _, rfl, rfl, mul_smallL (by decide), ?_⟩⟩))
      refine de_ixV (de_var (de_int ⟨t, 2, _, rfl, rfl, rd2, ⟨_, _, _, rfl, rfl, mul_small (by show (k0 + 1).natAbs < 18446744073709551616; omega), ?_⟩⟩))
      walk_at "fr"
      refine ⟨_, _, _, rfl, rfl, mul_small (by decide), ?_⟩
      walk_at "fr"
      exact ⟨Int.emod_nonneg _ (by decide), Int.emod_lt_of_pos _ (by decide), rfl⟩
    subst hx hs
    refine db_cons (ds_set (de_imp (Ψ := fun x s' => ∃ j : Int, x = .d (.int j) ∧ 0 ≤ j ∧ j < 2147483587 ∧ s' = (c0, m0, k0 + 1)) ?_ fun x s' ⟨j, hx, j1, j2, hs⟩ => ?_) nd0)
    · walk_at "fr"
      refine ⟨_, _, _, rfl, rfl, mul_small (by omega), ?_⟩
      walk_at "fr"
      exact ⟨Int.emod_nonneg _ (by decide), Int.emod_lt_of_pos _ (by decide), rfl⟩
    subst hx hs
    walk_at "fr"
    refine ⟨_, _, _, rfl, rfl, mul_small (by decide), ?_⟩
    walk_at "fr"
    refine ⟨_, _, _, rfl, rfl, mod_pos (by omega), ?_⟩
    exact ⟨n + 1, hdone, _, rfl, ⟨m, _, rfl, rfl, Int.emod_nonneg _ (by omega), Int.emod_lt_of_pos _ (by omega)⟩, Nat.le_refl _⟩
abbrev pPick : List PyData → Prop := fun ds => ∃ d l, ds = [d] ∧ itemsD (.d d) = some l ∧ 1 ≤ l.length ∧ l.length < 1000000
abbrev oPick : List PyData → PyData → Prop := fun ds z => ∃ d l, ds = [d] ∧ itemsD (.d d) = some l ∧ z ∈ l
theorem sc_law_pick : FnScope ["_law_deck_here", "_law_some"] ["_law_deck_here", "_law_some"] (defScope s_law_pick) := ⟨rfl, rfl, rfl, by decide +kernel, rfl, by decide +kernel, by decide +kernel⟩
theorem ok_law_pick (F : Src K mg "_law_pick" s_law_pick) (hs : base.get? sysModules ≠ none) (G : Dfn P w K mg base CX0 1 "_law_draw" s_law_draw ["_law_deck_here", "_law_many"] (spK T2 K pDraw oDraw 1)) (m1 : mg "len" = none) :
    Dfn P w K mg base CX0 2 "_law_pick" s_law_pick ["_law_deck_here", "_law_some"] (spK T2 K pPick oPick 1) := by
  refine F.deck sc_law_pick (fun ds ⟨d, l, h, _⟩ => by rw [h]; rfl) (fun _ _ _ _ _ _ us hl => match us, hl with | [_, _], _ => rfl) hs fun fa cd A fr s H E M t sub n ds R r hp hn => ?_
  obtain ⟨d, l, rfl, hi, h1, h2⟩ := hp
  have hlen : lenD [d] = some (.int l.length) ∧ ∀ i : Int, 0 ≤ i → i < l.length → ∃ z, ixD d (.int i) = some z ∧ z ∈ l := by
    have hat : ∀ {α : Type} (l : List α) (i : Int), 0 ≤ i → i < l.length → ∃ z, atI l i = some z ∧ z ∈ l := fun l i hi hl => by
      have hk : i.toNat < l.length := by omega
      refine ⟨l[i.toNat], ?_, List.getElem_mem hk⟩
      unfold atI ixN
      rw [if_pos hi, if_pos hl]
      exact List.getElem?_eq_getElem hk
    cases d with
    | list ds => cases hi; exact ⟨rfl, fun i a b => hat _ i a b⟩
    | tuple ds => cases hi; exact ⟨rfl, fun i a b => hat _ i a b⟩
    | str z =>
      cases hi
      have e : (Fw.signs z).length = z.length := by simp [Fw.signs, Str.length]
      have hz : z.length ≤ 1000000 := by omega
      refine ⟨by rw [e]; exact lim_ok hz, fun i a b => ?_⟩
      obtain ⟨c, q1, q2⟩ := hat z.cps.toList i a (by simpa [Fw.signs] using b)
      refine ⟨.str ⟨#[c]⟩, ?_, List.mem_map.mpr ⟨c, q2, rfl⟩⟩
      show (if z.length ≤ sizeLine then (atI z.cps.toList i).map fun c => PyData.str ⟨#[c]⟩ else none) = _
      rw [if_pos (by rw [sizeLine_eq]; omega), q1]
      rfl
    | none => cases hi
    | bool _ => cases hi
    | int _ => cases hi
    | dict _ => cases hi
  refine db_cons (ds_ret (de_ix ix_D (de_var (de_goD G R (r.mono (by decide)) pass0 IsK.own ?_))))
  refine da_cons (de_var (da_cons (de_len m1 (de_var ⟨d, _, rfl, hlen.1, da_nil ⟨_, _, rfl, rfl, ⟨_, rfl, by omega, by omega⟩, hn, ?_⟩⟩))))
  rintro z ⟨m, i, e1, rfl, i1, i2⟩
  cases e1
  obtain ⟨z, q1, q2⟩ := hlen.2 i i1 i2
  exact ⟨d, _, z, rfl, rfl, q1, z, rfl, ⟨d, l, rfl, hi, q2⟩, Nat.le_refl _⟩
theorem at_items {α : Type} (l : List α) (i : Int) (hi : 0 ≤ i) (hl : i < l.length) : ∃ z, atI l i = some z ∧ z ∈ l := by
  have hk : i.toNat < l.length := by omega
  refine ⟨l[i.toNat], ?_, List.getElem_mem hk⟩
  unfold atI ixN
  rw [if_pos hi, if_pos hl]
  exact List.getElem?_eq_getElem hk
/-- an item of a datum at a place within -/
theorem ix_items {d : PyData} {l : List PyData} (h : itemsD (.d d) = some l) (h2 : l.length < 1000000) {i : Int} (a : 0 ≤ i) (b : i < l.length) : ∃ z, ixD d (.int i) = some z ∧ z ∈ l := by
  cases d with
  | list ds => cases h; exact at_items _ i a b
  | tuple ds => cases h; exact at_items _ i a b
  | str z =>
    cases h
    have e : (Fw.signs z).length = z.length := by simp [Fw.signs, Str.length]
    obtain ⟨c, q1, q2⟩ := at_items z.cps.toList i a (by simpa [Fw.signs] using b)
    refine ⟨.str ⟨#[c]⟩, ?_, List.mem_map.mpr ⟨c, q2, rfl⟩⟩
    show (if z.length ≤ sizeLine then (atI z.cps.toList i).map fun c => PyData.str ⟨#[c]⟩ else none) = _
    rw [if_pos (by rw [sizeLine_eq]; omega), q1]
    rfl
  | none => cases h
  | bool _ => cases h
  | int _ => cases h
  | dict _ => cases h
section
variable {S : Type} {X : Cx} {W : Wd S} {ρ : Rho} {s : S} {Φ : Vl → S → Prop} {e1 e2 : Expr} {pos p : Pos} {k : Nat} {t : Addr}
/-- _law_draw(e1, e2) -/
theorem de_dr {st : Stmt} {ps : List Str} (G : Dfn X.prog X.w X.K X.mg X.base CX0 k "_law_draw" st ps (spK T2 X.K pDraw oDraw 1)) (R : Rm X) (r : Room k X.A) (hK : IsK T2 W t)
    (h : dE X W ρ s e1 fun x s1 => x = .v (.ref t) ∧ dE X W ρ s1 e2 fun y s2 => ∃ m : Int, y = .d (.int m) ∧ 1 ≤ m ∧ m < 1073741824 ∧ hK.get s2 + 1 ≤ deckLim ∧ ∀ i : Int, 0 ≤ i → i < m → Φ (.d (.int i)) (hK.put s2 (hK.get s2 + 1)))
    (hg : Gl X "_law_draw" := by rfl) (h2 : starEach [e1, e2] X.env = (false, eval e1 X.env) :: starEach [e2] X.env := by rfl) (h4 : starEach [e2] X.env = (false, eval e2 X.env) :: starEach [] X.env := by rfl) (h3 : (backTo pos (starEach [e2] X.env)).any (·.1) = false := by rfl) :
    dE X W ρ s (.Call (.Name "_law_draw" p) [e1, e2] [] pos) Φ :=
  de_goD G R r pass0 hK (da_cons (de_imp h fun x s1 ⟨hx, hb⟩ => da_cons (de_imp hb fun y s2 ⟨m, hy, m1, m2, hl, q⟩ => da_nil ⟨[y], [.int m], by subst hx; rfl, by subst hy; rfl, ⟨m, rfl, m1, m2⟩, hl, fun z ⟨m', i, h1, hz, i1, i2⟩ => by
    cases h1; subst hz; exact q i i1 i2⟩) h4) h2) hg (by decide) h2 h3
/-- _law_pick(e1, e2) -/
theorem de_pk {st : Stmt} {ps : List Str} (G : Dfn X.prog X.w X.K X.mg X.base CX0 k "_law_pick" st ps (spK T2 X.K pPick oPick 1)) (R : Rm X) (r : Room k X.A) (hK : IsK T2 W t)
    (h : dE X W ρ s e1 fun x s1 => x = .v (.ref t) ∧ dE X W ρ s1 e2 fun y s2 => ∃ d l, y = .d d ∧ itemsD (.d d) = some l ∧ 1 ≤ l.length ∧ l.length < 1000000 ∧ hK.get s2 + 1 ≤ deckLim ∧ ∀ z ∈ l, Φ (.d z) (hK.put s2 (hK.get s2 + 1)))
    (hg : Gl X "_law_pick" := by rfl) (h2 : starEach [e1, e2] X.env = (false, eval e1 X.env) :: starEach [e2] X.env := by rfl) (h4 : starEach [e2] X.env = (false, eval e2 X.env) :: starEach [] X.env := by rfl) (h3 : (backTo pos (starEach [e2] X.env)).any (·.1) = false := by rfl) :
    dE X W ρ s (.Call (.Name "_law_pick" p) [e1, e2] [] pos) Φ :=
  de_goD G R r pass0 hK (da_cons (de_imp h fun x s1 ⟨hx, hb⟩ => da_cons (de_imp hb fun y s2 ⟨d, l, hy, hi, l1, l2, hl, q⟩ => da_nil ⟨[y], [d], by subst hx; rfl, by subst hy; rfl, ⟨d, l, rfl, hi, l1, l2⟩, hl, fun z ⟨d', l', h1, h2, hz⟩ => by
    cases h1; rw [hi] at h2; cases h2; exact q z hz⟩) h4) h2) hg (by decide) h2 h3
end
end

end KK

set_option Elab.async false
set_option linter.all false
set_option maxRecDepth 100000
set_option maxHeartbeats 4000000
set_option pp.maxSteps 300
namespace KK
open PySem PySem.Spec PyProof.Rows L2 Fw
local macro_rules | `(tactic| walk_at "fE") => `(tactic| first
  | ((with_reducible show dE _ _ _ _ (Expr.Name _ _) _); first | refine de_var ?_ | refine de_globS (by assumption) ?_ | refine de_globI (by assumption) ?_)
  | ((with_reducible show dE _ _ _ _ (Expr.Constant (Const.str _) _ _) _); refine de_str ?_)
  | ((with_reducible show dE _ _ _ _ (Expr.Constant (Const.int _) _ _) _); refine de_int ?_)
  | ((with_reducible show dE _ _ _ _ (Expr.Constant (Const.bool _) _ _) _); refine de_bool ?_)
  | ((with_reducible show dE _ _ _ _ (Expr.Constant Const.none _ _) _); refine de_none ?_)
  | ((with_reducible show dE _ _ _ _ (Expr.BoolOp _ [_] _) _); refine de_one ?_)
  | ((with_reducible show dE _ _ _ _ (Expr.BoolOp BoolOp.And _ _) _); refine de_and ?_)
  | ((with_reducible show dE _ _ _ _ (Expr.BoolOp BoolOp.Or _ _) _); refine de_or ?_)
  | ((with_reducible show dE _ _ _ _ (Expr.UnaryOp UnaryOp.Not _ _) _); refine de_not ?_)
  | ((with_reducible show dE _ _ _ _ (Expr.UnaryOp UnaryOp.USub _ _) _); refine de_neg ?_)
  | ((with_reducible show dE _ _ _ _ (Expr.Compare _ [CmpOp.Eq] _ _) _); refine de_cmp (op_eqDD (by first | assumption | exact Rm.blk (by assumption) | exact Rm.blk (Rm.blk (by assumption)))) ?_)
  | ((with_reducible show dE _ _ _ _ (Expr.Compare _ [CmpOp.NotEq] _ _) _); refine de_cmp (op_neDD (by first | assumption | exact Rm.blk (by assumption) | exact Rm.blk (Rm.blk (by assumption)))) ?_)
  | ((with_reducible show dE _ _ _ _ (Expr.Compare _ [CmpOp.Lt] _ _) _); refine de_cmp op_ltD ?_)
  | ((with_reducible show dE _ _ _ _ (Expr.Compare _ [CmpOp.LtE] _ _) _); refine de_cmp op_leD ?_)
  | ((with_reducible show dE _ _ _ _ (Expr.Compare _ [CmpOp.Gt] _ _) _); refine de_cmp op_gtD ?_)
  | ((with_reducible show dE _ _ _ _ (Expr.Compare _ [CmpOp.GtE] _ _) _); refine de_cmp op_geD ?_)
  | ((with_reducible show dE _ _ _ _ (Expr.Compare _ [CmpOp.In] _ _) _); refine de_cmp (op_inD (by first | assumption | exact Rm.blk (by assumption) | exact Rm.blk (Rm.blk (by assumption)))) ?_)
  | ((with_reducible show dE _ _ _ _ (Expr.Compare _ [CmpOp.NotIn] _ _) _); refine de_cmp (op_ninD (by first | assumption | exact Rm.blk (by assumption) | exact Rm.blk (Rm.blk (by assumption)))) ?_)
  | ((with_reducible show dE _ _ _ _ (Expr.Compare _ [CmpOp.Is] _ _) _); refine de_cmp op_isD ?_)
  | ((with_reducible show dE _ _ _ _ (Expr.Compare _ [CmpOp.IsNot] _ _) _); refine de_cmp op_isntD ?_)
  | ((with_reducible show dE _ _ _ _ (Expr.Compare _ [CmpOp.LtE, CmpOp.LtE] _ _) _); refine de_chain op_leD op_leD ?_)
  | ((with_reducible show dE _ _ _ _ (Expr.Compare _ [CmpOp.LtE, CmpOp.Lt] _ _) _); refine de_chain op_leD op_ltD ?_)
  | ((with_reducible show dE _ _ _ _ (Expr.Compare _ [CmpOp.Lt, CmpOp.Lt] _ _) _); refine de_chain op_ltD op_ltD ?_)
  | ((with_reducible show dE _ _ _ _ (Expr.BinOp _ Operator.Add _ _) _); refine de_bin op_addD ?_)
  | ((with_reducible show dE _ _ _ _ (Expr.BinOp _ Operator.Sub _ _) _); refine de_bin op_subD ?_)
  | ((with_reducible show dE _ _ _ _ (Expr.BinOp _ Operator.Mult _ _) _); refine de_bin op_mulD ?_)
  | ((with_reducible show dE _ _ _ _ (Expr.BinOp _ Operator.Mod _ _) _); refine de_bin op_modD ?_)
  | ((with_reducible show dE _ _ _ _ (Expr.BinOp _ Operator.FloorDiv _ _) _); refine de_bin op_divD ?_)
  | ((with_reducible show dE _ _ _ _ (Expr.BinOp _ Operator.Pow _ _) _); refine de_bin op_powD ?_)
  | ((with_reducible show dE _ _ _ _ (Expr.Tuple _ _ _) _); refine de_tup ?_)
  | ((with_reducible show dE _ _ _ _ (Expr.List _ _) _); refine de_lst ?_)
  | ((with_reducible show dE _ _ _ _ (Expr.IfExp _ _ _ _) _); refine de_if ?_)
  | ((with_reducible show dE _ _ _ _ (Expr.Subscript _ (Expr.Slice _ _ none _) _) _); refine de_slice sl_D ?_)
  | ((with_reducible show dE _ _ _ _ (Expr.Subscript _ (Expr.Slice _ _ _ _) _) _); refine de_revT ?_)
  | ((with_reducible show dE _ _ _ _ (Expr.Subscript _ _ _) _); refine de_ix ix_D ?_)
  | ((with_reducible show dE _ _ _ _ (Expr.Dict [] _ _) _); refine de_dic0 ?_)
  | ((with_reducible show dE _ _ _ _ (Expr.Dict _ _ _) _); first | refine de_dicC ?_ | refine de_dicN ?_)
  | ((with_reducible show dE _ _ _ _ (Expr.Call (Expr.Attribute _ "upper" _) _ _ _) _); refine de_upper ?_)
  | ((with_reducible show dE _ _ _ _ (Expr.Call (Expr.Attribute _ "join" _) _ _ _) _); refine de_join ?_)
  | ((with_reducible show dE _ _ _ _ (Expr.Call (Expr.Attribute _ _ _) _ _ _) _); refine de_mth (by assumption) (by assumption) (by assumption) (by first | assumption | exact Rm.blk (by assumption) | exact Rm.blk (Rm.blk (by assumption))) (by first | assumption | exact Room.mono (by assumption) (by decide)) pass0 ?_)
  | ((with_reducible show dE _ _ _ _ (Expr.Attribute _ _ _) _); first | refine de_fld (by assumption) (by assumption) ?_ | refine de_prp (by assumption) (by assumption) (by assumption) (by first | assumption | exact Rm.blk (by assumption) | exact Rm.blk (Rm.blk (by assumption))) (by first | assumption | exact Room.mono (by assumption) (by decide)) pass0 ?_)
  | ((with_reducible show dE _ _ _ _ (Expr.Call (Expr.Name "isinstance" _) [_, Expr.Name "str" _] _ _) _); refine de_isiS (by assumption) (by assumption) ?_)
  | ((with_reducible show dE _ _ _ _ (Expr.Call (Expr.Name "isinstance" _) [_, Expr.Name "int" _] _ _) _); refine de_isiI (by assumption) (by assumption) ?_)
  | ((with_reducible show dE _ _ _ _ (Expr.Call (Expr.Name "isinstance" _) [_, Expr.Name "bool" _] _ _) _); refine de_isiB (by assumption) (by assumption) ?_)
  | ((with_reducible show dE _ _ _ _ (Expr.Call (Expr.Name "isinstance" _) [_, Expr.Name "tuple" _] _ _) _); refine de_isiT (by assumption) (by assumption) ?_)
  | ((with_reducible show dE _ _ _ _ (Expr.Call (Expr.Name "isinstance" _) [_, Expr.Name "list" _] _ _) _); refine de_isiL (by assumption) (by assumption) ?_)
  | ((with_reducible show dE _ _ _ _ (Expr.Call (Expr.Name "len" _) [Expr.Call (Expr.Name "set" _) _ _ _] _ _) _); refine de_lenS (by assumption) (by assumption) ?_)
  | ((with_reducible show dE _ _ _ _ (Expr.Call (Expr.Name "len" _) _ _ _) _); refine de_len (by assumption) ?_)
  | ((with_reducible show dE _ _ _ _ (Expr.Call (Expr.Name "str" _) _ _ _) _); refine de_strC (by assumption) ?_)
  | ((with_reducible show dE _ _ _ _ (Expr.Call (Expr.Name "list" _) _ _ _) _); refine de_listC (by assumption) ?_)
  | ((with_reducible show dE _ _ _ _ (Expr.Call (Expr.Name "tuple" _) _ _ _) _); refine de_tupleC (by assumption) ?_)
  | ((with_reducible show dE _ _ _ _ (Expr.Call (Expr.Name "repr" _) _ _ _) _); refine de_repr (by first | assumption | exact Rm.blk (by assumption) | exact Rm.blk (Rm.blk (by assumption))) (by assumption) ?_)
  | ((with_reducible show dE _ _ _ _ (Expr.Call (Expr.Name "all" _) _ _ _) _); refine de_all (by first | assumption | exact Rm.blk (by assumption) | exact Rm.blk (Rm.blk (by assumption))) (by assumption) ?_)
  | ((with_reducible show dE _ _ _ _ (Expr.Call (Expr.Name "any" _) _ _ _) _); refine de_any (by first | assumption | exact Rm.blk (by assumption) | exact Rm.blk (Rm.blk (by assumption))) (by assumption) ?_)
  | ((with_reducible show dE _ _ _ _ (Expr.Call (Expr.Name "int" _) _ _ _) _); refine de_intC (by assumption) ?_)
  | ((with_reducible show dE _ _ _ _ (Expr.Call (Expr.Name "max" _) _ _ _) _); refine de_maxC (by assumption) ?_)
  | ((with_reducible show dE _ _ _ _ (Expr.Call (Expr.Name "min" _) _ _ _) _); refine de_minC (by assumption) ?_)
  | ((with_reducible show dE _ _ _ _ (Expr.Call (Expr.Name _ _) [] [] _) _); first | refine de_go0 (by assumption) (by first | assumption | exact Rm.blk (by assumption) | exact Rm.blk (Rm.blk (by assumption))) (by first | assumption | exact Room.mono (by assumption) (by decide)) pass0 ?_ | refine de_goV0 (by assumption) (by first | assumption | exact Rm.blk (by assumption) | exact Rm.blk (Rm.blk (by assumption))) (by first | assumption | exact Room.mono (by assumption) (by decide)) pass0 ?_)
  | ((with_reducible show dE _ _ _ _ (Expr.Call (Expr.Name _ _) _ [] _) _); first | refine de_go (by assumption) (by first | assumption | exact Rm.blk (by assumption) | exact Rm.blk (Rm.blk (by assumption))) (by first | assumption | exact Room.mono (by assumption) (by decide)) pass0 ?_ | refine de_goV (by assumption) (by first | assumption | exact Rm.blk (by assumption) | exact Rm.blk (Rm.blk (by assumption))) (by first | assumption | exact Room.mono (by assumption) (by decide)) pass0 ?_))
local macro_rules | `(tactic| walk_at "fT") => `(tactic| first
  | ((with_reducible show dT _ _ _ _ (Expr.UnaryOp UnaryOp.Not _ _) _); refine dt_not ?_)
  | ((with_reducible show dT _ _ _ _ (Expr.BoolOp BoolOp.And _ _) _); refine dt_w (dw_and ?_))
  | ((with_reducible show dT _ _ _ _ (Expr.BoolOp BoolOp.Or _ _) _); refine dt_w (dw_or ?_))
  | ((with_reducible show dW _ _ _ _ (Expr.BoolOp BoolOp.And [_] _) _); refine dw_and1 ?_)
  | ((with_reducible show dW _ _ _ _ (Expr.BoolOp BoolOp.Or [_] _) _); refine dw_or1 ?_)
  | ((with_reducible show dW _ _ _ _ (Expr.BoolOp BoolOp.And _ _) _); refine dw_and ?_)
  | ((with_reducible show dW _ _ _ _ (Expr.BoolOp BoolOp.Or _ _) _); refine dw_or ?_)
  | ((with_reducible show dT _ _ _ _ (Expr.Compare _ [CmpOp.Eq] _ _) _); refine dt_cmp (op_eqDD (by first | assumption | exact Rm.blk (by assumption) | exact Rm.blk (Rm.blk (by assumption)))) ?_)
  | ((with_reducible show dT _ _ _ _ (Expr.Compare _ [CmpOp.NotEq] _ _) _); refine dt_cmp (op_neDD (by first | assumption | exact Rm.blk (by assumption) | exact Rm.blk (Rm.blk (by assumption)))) ?_)
  | ((with_reducible show dT _ _ _ _ (Expr.Compare _ [CmpOp.Lt] _ _) _); refine dt_cmp op_ltD ?_)
  | ((with_reducible show dT _ _ _ _ (Expr.Compare _ [CmpOp.LtE] _ _) _); refine dt_cmp op_leD ?_)
  | ((with_reducible show dT _ _ _ _ (Expr.Compare _ [CmpOp.Gt] _ _) _); refine dt_cmp op_gtD ?_)
  | ((with_reducible show dT _ _ _ _ (Expr.Compare _ [CmpOp.GtE] _ _) _); refine dt_cmp op_geD ?_)
  | ((with_reducible show dT _ _ _ _ (Expr.Compare _ [CmpOp.In] _ _) _); refine dt_cmp (op_inD (by first | assumption | exact Rm.blk (by assumption) | exact Rm.blk (Rm.blk (by assumption)))) ?_)
  | ((with_reducible show dT _ _ _ _ (Expr.Compare _ [CmpOp.NotIn] _ _) _); refine dt_cmp (op_ninD (by first | assumption | exact Rm.blk (by assumption) | exact Rm.blk (Rm.blk (by assumption)))) ?_)
  | ((with_reducible show dT _ _ _ _ (Expr.Compare _ [CmpOp.Is] _ _) _); refine dt_cmp op_isD ?_)
  | ((with_reducible show dT _ _ _ _ (Expr.Compare _ [CmpOp.IsNot] _ _) _); refine dt_cmp op_isntD ?_)
  | ((with_reducible show dT _ _ _ _ (Expr.Compare _ [CmpOp.LtE, CmpOp.LtE] _ _) _); refine dt_chain op_leD op_leD ?_)
  | ((with_reducible show dT _ _ _ _ (Expr.Compare _ [CmpOp.LtE, CmpOp.Lt] _ _) _); refine dt_chain op_leD op_ltD ?_)
  | ((with_reducible show dT _ _ _ _ (Expr.Compare _ [CmpOp.Lt, CmpOp.Lt] _ _) _); refine dt_chain op_ltD op_ltD ?_)
  | ((with_reducible show dT _ _ _ _ _ _); refine dt_val ?_))
local macro_rules | `(tactic| walk_at "fs") => `(tactic| first
  | ((with_reducible show dE _ _ _ _ _ _); walk_at "fE") | ((with_reducible show dT _ _ _ _ _ _); walk_at "fT") | ((with_reducible show dW _ _ _ _ _ _); walk_at "fT")
  | ((with_reducible show dA _ _ _ _ (Expr.Starred _ _ :: _) _); refine da_star ?_) | ((with_reducible show dA _ _ _ _ (_ :: _) _); refine da_cons ?_) | ((with_reducible show dA _ _ _ _ [] _); refine da_nil ?_)
  | ((with_reducible show dS _ _ _ _ (Stmt.Return _ _) _); refine ds_ret ?_) | ((with_reducible show dS _ _ _ _ (Stmt.If _ _ _ _) _); refine ds_if ?_) | ((with_reducible show dS _ _ _ _ (Stmt.Assign [Expr.Name _ _] _ _) _); (refine ds_set ?_ (by assumption); dsimp only))
  | ((with_reducible show dS _ _ _ _ (Stmt.Assign [Expr.Tuple [_, _] _ _] (Expr.Tuple [_, _] _ _) _) _); (refine ds_par ?_ (by assumption) (hij := Nat.ne_of_beq_eq_false (by rfl)); dsimp only))
  | ((with_reducible show dK _ _ _ _ (_ :: _) _); refine dk_cons ?_) | ((with_reducible show dK _ _ _ _ [] _); refine dk_nil ?_)
  | ((with_reducible show dB _ _ _ _ [] _); refine db_nil ?_; dsimp only) | ((with_reducible show dB _ _ _ _ _ _); refine db_cons ?_))
local macro_rules | `(tactic| walk_at "fo") => `(tactic| first | ((with_reducible show dO _ _ _ _ none _); refine dO_none ?_) | ((with_reducible show dO _ _ _ _ (some _) _); refine dO_some ?_))
local macro_rules | `(tactic| walk_at "fx") => `(tactic| (intro hc; exfalso; first | exact Bool.noConfusion (show true = false from hc) | exact Bool.noConfusion (show false = true from hc)))
local macro_rules | `(tactic| walk_at "fm") => `(tactic| first
  | ((with_reducible show Op2 _ _ _ _); first | refine ⟨_, _, _, rfl, rfl, eqD_str _ _, ?_⟩ | refine ⟨_, _, _, rfl, rfl, lim_ok (by omega), ?_⟩ | refine ⟨_, _, _, rfl, rfl, rfl, ?_⟩)
  | ((with_reducible show IsB _ _); refine ⟨_, rfl, ?_⟩)
  | ((with_reducible show AllD _ _); refine ⟨_, rfl, ?_⟩)
  | ((with_reducible show _ ≤ sizeLine ∧ _); refine ⟨Nat.le_of_ble_eq_true rfl, ?_⟩)
  | ((with_reducible show ∃ d, _ = Vl.d d ∧ _); refine ⟨_, rfl, ?_⟩)
  | ((with_reducible show ∃ d z, _ = Vl.d d ∧ lenD _ = some z ∧ _); first | refine ⟨_, _, rfl, lim_ok (by omega), ?_⟩ | refine ⟨_, _, rfl, rfl, ?_⟩)
  | ((with_reducible show ∃ z, intC _ = some z ∧ _); refine ⟨_, rfl, ?_⟩) | ((with_reducible show ∃ z, maxC _ = some z ∧ _); refine ⟨_, rfl, ?_⟩) | ((with_reducible show ∃ z, minC _ = some z ∧ _); refine ⟨_, rfl, ?_⟩)
  | ((with_reducible show ∃ d z, _ = Vl.d d ∧ intC _ = some z ∧ _); refine ⟨_, _, rfl, rfl, ?_⟩)
  | ((with_reducible show isStr _ = false ∧ _); refine ⟨rfl, ?_⟩) | ((with_reducible show IsIns _ _ _); refine ⟨_, rfl, ?_⟩) | ((with_reducible show ∃ ob, List.lookup _ _ = some ob ∧ _); refine ⟨_, rfl, ?_⟩) | ((with_reducible show List.lookup _ _ = none ∧ _); refine ⟨rfl, ?_⟩)
  | ((with_reducible show ∃ i : Int, _ = Vl.d (.int i) ∧ _); refine ⟨_, rfl, ?_⟩)
  | ((with_reducible show ∃ z : Str, _ = Vl.d (.str z) ∧ z.length ≤ 100000 ∧ _); refine ⟨_, rfl, by omega, ?_⟩)
  | ((with_reducible show ∃ d z, _ = Vl.d d ∧ slD d _ _ = some z ∧ _); first | refine ⟨_, _, rfl, lim_ok (by omega), ?_⟩ | refine ⟨_, _, rfl, rfl, ?_⟩)
  | ((with_reducible show ∃ d z, _ = Vl.d d ∧ listC _ = some z ∧ _); refine ⟨_, _, rfl, rfl, ?_⟩)
  | ((with_reducible show ∃ d z, _ = Vl.d d ∧ tupleC _ = some z ∧ _); refine ⟨_, _, rfl, rfl, ?_⟩)
  | ((with_reducible show ∃ ds, itemsD _ = some ds ∧ _); refine ⟨_, rfl, ?_⟩)
  | ((with_reducible show (_ = true → _) ∧ (_ = false → _)); first | (refine ⟨?_, (by walk_at "fx")⟩; intro hj; clear hj) | (refine ⟨(by walk_at "fx"), ?_⟩; intro hj; clear hj))
  | ((with_reducible show (_ = false → _) ∧ (_ = true → _)); first | (refine ⟨?_, (by walk_at "fx")⟩; intro hj; clear hj) | (refine ⟨(by walk_at "fx"), ?_⟩; intro hj; clear hj)))
local macro_rules | `(tactic| walk_at "fr") => `(tactic| repeat (first | walk_at "fs" | walk_at "fo" | walk_at "fm"))

section
variable {P : Program} {w : World} {K : PySem.W.Frag} {mg : Str → Option Value} {base : Heap}
theorem nil_filt (f : PyData → Bool) (ds : List PyData) : nilE (.list ((ds.filter fun d => !f d).map id)) = ds.all f := by
  induction ds with
  | nil => rfl
  | cons d ds ih =>
    rw [List.filter_cons, List.all_cons]
    cases h : f d with
    | true => simpa using ih
    | false => simp [nilE]
theorem sc_law_is_name : FnScope ["_law_item", "_law_one"] ["_law_item"] (defScope s_law_is_name) := ⟨rfl, rfl, rfl, by decide +kernel, rfl, by decide +kernel, by decide +kernel⟩
theorem ok_law_is_name (F : Src K mg "_law_is_name" s_law_is_name) (hs : base.get? sysModules ≠ none) (m1 : mg "isinstance" = none) (m2 : mg "str" = none) (m3 : mg "len" = none) :
    Dfn P w K mg base CX0 1 "_law_is_name" s_law_is_name ["_law_item"] (spD K (one 800000) fun ds => .bool (letr 12 (ds.getD 0 .none))) := by
  refine F.pure sc_law_is_name one_len (fun _ _ _ _ _ _ us hl => match us, hl with | [_], _ => rfl) hs fun fa cd A fr s H E M ds R r hp => ?_
  have nd0 := sc_law_is_name.nd
  obtain ⟨d, rfl, hd⟩ := hp
  cases d
  case str z =>
    have hz := nc_str hd
    have e0 : ∀ b1 b2 : Bool, decide (1 ≤ (z.length : Int)) = b1 → decide ((z.length : Int) ≤ 12) = b2 → letr 12 (.str z) = (b1 && b2 && z.cps.toList.all fun c => decide (c ∈ LT.cps.toList)) := fun b1 b2 h1 h2 => by
      show (decide (1 ≤ (z.length : Int)) && decide ((z.length : Int) ≤ 12) && _) = _
      rw [h1, h2]
    walk_at "fr"
    refine ⟨fun h1 => ?_, fun h1 => ?_⟩
    · walk_at "fr"
      show Vl.d (.bool false) = Vl.d (.bool (letr 12 (.str z)))
      have h2 : ¬ (0 : Int) < z.length := of_decide_eq_false h1
      rw [e0 false _ (decide_eq_false (by omega)) rfl]
      rfl
    · have h1' : (0 : Int) < z.length := of_decide_eq_true h1
      walk_at "fr"
      refine ⟨fun h2 => ?_, fun h2 => ?_⟩
      · walk_at "fr"
        show Vl.d (.bool false) = Vl.d (.bool (letr 12 (.str z)))
        have h3 : ¬ (z.length : Int) < 13 := by simpa using h2
        rw [e0 _ false rfl (decide_eq_false (by omega)), Bool.and_false]
        rfl
      · have h3 : (z.length : Int) < 13 := by simpa using h2
        walk_at "fr"
        refine de_lc (Lc.filt (fun d => !sgn d) id ?_) nd0 (blkOk_by (by rfl))
        refine di_any ?_
        walk_at "fr"
        refine ⟨?_, fun D d hm b => ?_, fun D d hm _ b => ?_, ?_⟩
        · simp only [Fw.signs, List.length_map]
          have e : z.cps.toList.length = z.length := by simp [Str.length]
          rw [e, sizeLine_eq]
          omega
        · obtain ⟨c, hc, rfl⟩ := List.mem_map.mp hm
          walk_at "fr"
          exact ⟨rfl, rfl⟩
        · walk_at "fr"
          exact ⟨rfl, rfl⟩
        · walk_at "fr"
          show Vl.d (PyData.bool _) = Vl.d (.bool (letr 12 (.str z)))
          rw [nil_filt, signs_all, e0 true true (decide_eq_true (by omega)) (decide_eq_true (by omega))]
          rfl
  all_goals (walk_at "fr"; rfl)
theorem sc_law_is_answer : FnScope ["_law_item", "_law_one"] ["_law_item"] (defScope s_law_is_answer) := ⟨rfl, rfl, rfl, by decide +kernel, rfl, by decide +kernel, by decide +kernel⟩
theorem ok_law_is_answer (F : Src K mg "_law_is_answer" s_law_is_answer) (hs : base.get? sysModules ≠ none) (G : Dfn P w K mg base CX0 1 "_law_is_name" s_law_is_name ["_law_item"] (spD K (one 800000) fun ds => .bool (letr 12 (ds.getD 0 .none))))
    (m1 : mg "isinstance" = none) (m2 : mg "str" = none) (m3 : mg "len" = none) (m4 : mg "bool" = none) (m5 : mg "tuple" = none) :
    Dfn P w K mg base CX0 2 "_law_is_answer" s_law_is_answer ["_law_item"] (spD K (one 800000) fun ds => .bool (isAns (ds.getD 0 .none))) := by
  refine F.pure sc_law_is_answer one_len (fun _ _ _ _ _ _ us hl => match us, hl with | [_], _ => rfl) hs fun fa cd A fr s H E M ds R r hp => ?_
  have nd0 := sc_law_is_answer.nd
  obtain ⟨d, rfl, hd⟩ := hp
  cases d
  case str z =>
    walk_at "fr"
    refine ⟨⟨_, rfl, hd⟩, ?_⟩
    walk_at "fr"
    refine ⟨fun h1 => ?_, fun h1 => ?_⟩
    · walk_at "fr"
      show Vl.d (.bool true) = Vl.d (.bool (PyData.eqv (.str z) (.str "!") || (false || (false || (letr 12 (.str z) || _)))))
      rw [show letr 12 (.str z) = true from h1]
      simp
    · walk_at "fr"
      show Vl.d (.bool _) = Vl.d (.bool (PyData.eqv (.str z) (.str "!") || (false || (false || (letr 12 (.str z) || false)))))
      rw [show letr 12 (.str z) = false from h1]
      simp
  case tuple l =>
    have hl := hd.tlen
    walk_at "fr"
    refine ⟨⟨_, rfl, hd⟩, ?_⟩
    walk_at "fr"
    refine ⟨fun h1 => ?_, fun h1 => ?_⟩
    · walk_at "fr"
      refine de_lc (Lc.filt (fun d => !letr 12 d) id ?_) nd0 (blkOk_by (by rfl))
      refine di_any ?_
      walk_at "fr"
      refine ⟨by rw [sizeLine_eq]; omega, fun D d hm b => ?_, fun D d hm _ b => ?_, ?_⟩
      · walk_at "fr"
        refine ⟨⟨d, rfl, hd.tup hm⟩, ?_⟩
        walk_at "fr"
        exact ⟨rfl, rfl⟩
      · walk_at "fr"
        exact ⟨rfl, rfl⟩
      · walk_at "fr"
        have h2 : (l.length : Int) < 4 := of_decide_eq_true h1
        show Vl.d (PyData.bool _) = Vl.d (.bool (decide ((l.length : Int) ≤ (3 : Nat)) && l.all (letr 12)))
        rw [nil_filt, decide_eq_true (show (l.length : Int) ≤ (3 : Nat) by omega)]
        rfl
    · have h2 : ¬ (l.length : Int) < 4 := of_decide_eq_false h1
      show Vl.d (PyData.bool _) = Vl.d (.bool (decide ((l.length : Int) ≤ (3 : Nat)) && l.all (letr 12)))
      rw [decide_eq_false (show ¬ (l.length : Int) ≤ (3 : Nat) by omega)]
      rfl
  all_goals
    walk_at "fr"
    first
      | rfl
      | (refine ⟨⟨_, rfl, hd⟩, ?_⟩
         walk_at "fr"
         rfl)
theorem sc_law_due : FnScope ["_law_item", "_law_many", "_law_row", "_law_one"] ["_law_item", "_law_many"] (defScope s_law_due) := ⟨rfl, rfl, rfl, by decide +kernel, rfl, by decide +kernel, by decide +kernel⟩
theorem ok_law_due (F : Src K mg "_law_due" s_law_due) (hs : base.get? sysModules ≠ none) (G : Dfn P w K mg base CX0 2 "_law_is_answer" s_law_is_answer ["_law_item"] (spD K (one 800000) fun ds => .bool (isAns (ds.getD 0 .none))))
    (m1 : mg "isinstance" = none) (m3 : mg "len" = none) (m5 : mg "tuple" = none) :
    Dfn P w K mg base CX0 3 "_law_due" s_law_due ["_law_item", "_law_many"] (spD K (fun ds => ∃ (d : PyData) (n : Nat), ds = [d, .int n] ∧ Nc 800000 d) fun ds => .bool (storyB (match ds.getD 1 .none with | .int i => i.toNat | _ => 0) (ds.getD 0 .none))) := by
  refine F.pure sc_law_due (fun ds ⟨d, n, h, _⟩ => by rw [h]; rfl) (fun _ _ _ _ _ _ us hl => match us, hl with | [_, _], _ => rfl) hs fun fa cd A fr s H E M ds R r hp => ?_
  have nd0 := sc_law_due.nd
  obtain ⟨d, n, rfl, hd⟩ := hp
  have eI : ∀ a b : Int, PyData.eqv (.int a) (.int b) = decide (a = b) := fun a b => by simp only [PyData.eqv]; rfl
  cases d
  case tuple l =>
    have hl := hd.tlen
    have eS : ∀ b : Bool, decide (l.length = n) = b → storyB n (.tuple l) = (b && l.all rowB) := fun b e => by show (decide (l.length = n) && _) = _; rw [e]
    show dB _ _ _ _ _ { nx := fun _ _ => PyData.bool (storyB n (.tuple l)) = .none, rt := fun y _ => y = .d (.bool (storyB n (.tuple l))) }
    walk_at "fr"
    refine ⟨fun h1 => ?_, fun h1 => ?_⟩
    · walk_at "fr"
      have h1' : (!decide ((l.length : Int) = (n : Int))) = true := by rw [← eI]; exact h1
      have h2 : ¬ (l.length = n) := fun z => by rw [z] at h1'; simp at h1'
      rw [eS false (decide_eq_false h2)]
      rfl
    · have h1' : (!decide ((l.length : Int) = (n : Int))) = false := by rw [← eI]; exact h1
      have h2 : l.length = n := by
        have : (l.length : Int) = (n : Int) := by simpa using h1'
        exact Int.ofNat.inj this
      rw [eS true (decide_eq_true h2)]
      walk_at "fr"
      refine ds_for (di_any (de_var ⟨l, rfl, fun k ρ1 _ => (l.take k).all rowB = true ∧ ∃ v2, ρ1 = [some (.d (.tuple l)), some (.d (.int n)), v2, none], ⟨rfl, none, rfl⟩, fun k d ρ1 s2 hd' hi => ?_, fun ρ1 s2 hi => ?_⟩)) PassesOwn.never nd0
      · obtain ⟨hi, v2, rfl⟩ := hi
        have hmem := List.mem_of_getElem? hd'
        have hd1 := hd.tup hmem
        have bad : rowB d = false → l.all rowB = false := fun z => by
          cases e : l.all rowB with
          | false => rfl
          | true => rw [List.all_eq_true.mp e d hmem] at z; cases z
        have good : rowB d = true → (l.take (k + 1)).all rowB = true := fun z => by
          rw [List.take_add_one, hd', List.all_append, hi]
          simp [z]
        cases d
        case tuple l2 =>
          have hl2 := hd1.tlen
          walk_at "fr"
          refine de_lc (Lc.filt (fun d => !isAns d) id ?_) nd0 (blkOk_by (by rfl))
          refine di_any ?_
          walk_at "fr"
          refine ⟨by rw [sizeLine_eq]; omega, fun D d hm b => ?_, fun D d hm _ b => ?_, ?_⟩
          · walk_at "fr"
            refine ⟨⟨d, rfl, hd1.tup hm⟩, ?_⟩
            walk_at "fr"
            exact ⟨rfl, rfl⟩
          · walk_at "fr"
            exact ⟨rfl, rfl⟩
          · walk_at "fr"
            have e1 : nilE (.list ((l2.filter fun d => !isAns d).map id)) = rowB (.tuple l2) := nil_filt isAns l2
            refine ⟨fun h3 => ?_, fun h3 => ?_⟩
            · have h4 : (!nilE (.list ((l2.filter fun d => !isAns d).map id))) = true := h3
              rw [e1] at h4
              walk_at "fr"
              rw [bad (by simpa using h4)]
              rfl
            · have h4 : (!nilE (.list ((l2.filter fun d => !isAns d).map id))) = false := h3
              rw [e1] at h4
              refine db_nil (db_nil ⟨good (by simpa using h4), _, rfl⟩)
        all_goals
          walk_at "fr"
          rw [bad rfl]
          rfl
      · obtain ⟨hi, v2, rfl⟩ := hi
        walk_at "fr"
        rw [List.take_length] at hi
        rw [hi]
        rfl
  all_goals (walk_at "fr"; rfl)
end

end KK

set_option Elab.async false
set_option linter.all false
set_option maxRecDepth 100000
set_option maxHeartbeats 4000000
set_option pp.maxSteps 300
namespace KK
open PySem PySem.Spec PyProof.Rows L2 Fw
local macro_rules | `(tactic| walk_at "fE") => `(tactic| first
  | ((with_reducible show dE _ _ _ _ (Expr.Name _ _) _); first | refine de_var ?_ | refine de_globS (by assumption) ?_ | refine de_globI (by assumption) ?_)
  | ((with_reducible show dE _ _ _ _ (Expr.Constant (Const.str _) _ _) _); refine de_str ?_)
  | ((with_reducible show dE _ _ _ _ (Expr.Constant (Const.int _) _ _) _); refine de_int ?_)
  | ((with_reducible show dE _ _ _ _ (Expr.Constant (Const.bool _) _ _) _); refine de_bool ?_)
  | ((with_reducible show dE _ _ _ _ (Expr.Constant Const.none _ _) _); refine de_none ?_)
  | ((with_reducible show dE _ _ _ _ (Expr.BoolOp _ [_] _) _); refine de_one ?_)
  | ((with_reducible show dE _ _ _ _ (Expr.BoolOp BoolOp.And _ _) _); refine de_and ?_)
  | ((with_reducible show dE _ _ _ _ (Expr.BoolOp BoolOp.Or _ _) _); refine de_or ?_)
  | ((with_reducible show dE _ _ _ _ (Expr.UnaryOp UnaryOp.Not _ _) _); refine de_not ?_)
  | ((with_reducible show dE _ _ _ _ (Expr.UnaryOp UnaryOp.USub _ _) _); refine de_neg ?_)
  | ((with_reducible show dE _ _ _ _ (Expr.Compare _ [CmpOp.Eq] _ _) _); refine de_cmp (op_eqDD (by first | assumption | exact Rm.blk (by assumption) | exact Rm.blk (Rm.blk (by assumption)))) ?_)
  | ((with_reducible show dE _ _ _ _ (Expr.Compare _ [CmpOp.NotEq] _ _) _); refine de_cmp (op_neDD (by first | assumption | exact Rm.blk (by assumption) | exact Rm.blk (Rm.blk (by assumption)))) ?_)
  | ((with_reducible show dE _ _ _ _ (Expr.Compare _ [CmpOp.Lt] _ _) _); refine de_cmp op_ltD ?_)
  | ((with_reducible show dE _ _ _ _ (Expr.Compare _ [CmpOp.LtE] _ _) _); refine de_cmp op_leD ?_)
  | ((with_reducible show dE _ _ _ _ (Expr.Compare _ [CmpOp.Gt] _ _) _); refine de_cmp op_gtD ?_)
  | ((with_reducible show dE _ _ _ _ (Expr.Compare _ [CmpOp.GtE] _ _) _); refine de_cmp op_geD ?_)
  | ((with_reducible show dE _ _ _ _ (Expr.Compare _ [CmpOp.In] _ _) _); refine de_cmp (op_inD (by first | assumption | exact Rm.blk (by assumption) | exact Rm.blk (Rm.blk (by assumption)))) ?_)
  | ((with_reducible show dE _ _ _ _ (Expr.Compare _ [CmpOp.NotIn] _ _) _); refine de_cmp (op_ninD (by first | assumption | exact Rm.blk (by assumption) | exact Rm.blk (Rm.blk (by assumption)))) ?_)
  | ((with_reducible show dE _ _ _ _ (Expr.Compare _ [CmpOp.Is] _ _) _); refine de_cmp op_isD ?_)
  | ((with_reducible show dE _ _ _ _ (Expr.Compare _ [CmpOp.IsNot] _ _) _); refine de_cmp op_isntD ?_)
  | ((with_reducible show dE _ _ _ _ (Expr.Compare _ [CmpOp.LtE, CmpOp.LtE] _ _) _); refine de_chain op_leD op_leD ?_)
  | ((with_reducible show dE _ _ _ _ (Expr.Compare _ [CmpOp.LtE, CmpOp.Lt] _ _) _); refine de_chain op_leD op_ltD ?_)
  | ((with_reducible show dE _ _ _ _ (Expr.Compare _ [CmpOp.Lt, CmpOp.Lt] _ _) _); refine de_chain op_ltD op_ltD ?_)
  | ((with_reducible show dE _ _ _ _ (Expr.BinOp _ Operator.Add _ _) _); refine de_bin op_addD ?_)
  | ((with_reducible show dE _ _ _ _ (Expr.BinOp _ Operator.Sub _ _) _); refine de_bin op_subD ?_)
  | ((with_reducible show dE _ _ _ _ (Expr.BinOp _ Operator.Mult _ _) _); refine de_bin op_mulD ?_)
  | ((with_reducible show dE _ _ _ _ (Expr.BinOp _ Operator.Mod _ _) _); refine de_bin op_modD ?_)
  | ((with_reducible show dE _ _ _ _ (Expr.BinOp _ Operator.FloorDiv _ _) _); refine de_bin op_divD ?_)
  | ((with_reducible show dE _ _ _ _ (Expr.BinOp _ Operator.Pow _ _) _); refine de_bin op_powD ?_)
  | ((with_reducible show dE _ _ _ _ (Expr.Tuple _ _ _) _); refine de_tup ?_)
  | ((with_reducible show dE _ _ _ _ (Expr.List _ _) _); refine de_lst ?_)
  | ((with_reducible show dE _ _ _ _ (Expr.IfExp _ _ _ _) _); refine de_if ?_)
  | ((with_reducible show dE _ _ _ _ (Expr.Subscript _ (Expr.Slice _ _ none _) _) _); refine de_slice sl_D ?_)
  | ((with_reducible show dE _ _ _ _ (Expr.Subscript _ (Expr.Slice _ _ _ _) _) _); refine de_revT ?_)
  | ((with_reducible show dE _ _ _ _ (Expr.Subscript _ _ _) _); refine de_ix ix_D ?_)
  | ((with_reducible show dE _ _ _ _ (Expr.Dict [] _ _) _); refine de_dic0 ?_)
  | ((with_reducible show dE _ _ _ _ (Expr.Dict _ _ _) _); first | refine de_dicC ?_ | refine de_dicN ?_)
  | ((with_reducible show dE _ _ _ _ (Expr.Call (Expr.Attribute _ "upper" _) _ _ _) _); refine de_upper ?_)
  | ((with_reducible show dE _ _ _ _ (Expr.Call (Expr.Attribute _ "join" _) _ _ _) _); refine de_join ?_)
  | ((with_reducible show dE _ _ _ _ (Expr.Call (Expr.Attribute _ _ _) _ _ _) _); refine de_mth (by assumption) (by assumption) (by assumption) (by first | assumption | exact Rm.blk (by assumption) | exact Rm.blk (Rm.blk (by assumption))) (by first | assumption | exact Room.mono (by assumption) (by decide)) pass0 ?_)
  | ((with_reducible show dE _ _ _ _ (Expr.Attribute _ _ _) _); first | refine de_fld (by assumption) (by assumption) ?_ | refine de_prp (by assumption) (by assumption) (by assumption) (by first | assumption | exact Rm.blk (by assumption) | exact Rm.blk (Rm.blk (by assumption))) (by first | assumption | exact Room.mono (by assumption) (by decide)) pass0 ?_)
  | ((with_reducible show dE _ _ _ _ (Expr.Call (Expr.Name "isinstance" _) [_, Expr.Name "str" _] _ _) _); refine de_isiS (by assumption) (by assumption) ?_)
  | ((with_reducible show dE _ _ _ _ (Expr.Call (Expr.Name "isinstance" _) [_, Expr.Name "int" _] _ _) _); refine de_isiI (by assumption) (by assumption) ?_)
  | ((with_reducible show dE _ _ _ _ (Expr.Call (Expr.Name "isinstance" _) [_, Expr.Name "bool" _] _ _) _); refine de_isiB (by assumption) (by assumption) ?_)
  | ((with_reducible show dE _ _ _ _ (Expr.Call (Expr.Name "isinstance" _) [_, Expr.Name "tuple" _] _ _) _); refine de_isiT (by assumption) (by assumption) ?_)
  | ((with_reducible show dE _ _ _ _ (Expr.Call (Expr.Name "isinstance" _) [_, Expr.Name "list" _] _ _) _); refine de_isiL (by assumption) (by assumption) ?_)
  | ((with_reducible show dE _ _ _ _ (Expr.Call (Expr.Name "len" _) [Expr.Call (Expr.Name "set" _) _ _ _] _ _) _); refine de_lenS (by assumption) (by assumption) ?_)
  | ((with_reducible show dE _ _ _ _ (Expr.Call (Expr.Name "len" _) _ _ _) _); refine de_len (by assumption) ?_)
  | ((with_reducible show dE _ _ _ _ (Expr.Call (Expr.Name "str" _) _ _ _) _); refine de_strC (by assumption) ?_)
  | ((with_reducible show dE _ _ _ _ (Expr.Call (Expr.Name "list" _) _ _ _) _); refine de_listC (by assumption) ?_)
  | ((with_reducible show dE _ _ _ _ (Expr.Call (Expr.Name "tuple" _) _ _ _) _); refine de_tupleC (by assumption) ?_)
  | ((with_reducible show dE _ _ _ _ (Expr.Call (Expr.Name "repr" _) _ _ _) _); refine de_repr (by first | assumption | exact Rm.blk (by assumption) | exact Rm.blk (Rm.blk (by assumption))) (by assumption) ?_)
  | ((with_reducible show dE _ _ _ _ (Expr.Call (Expr.Name "all" _) _ _ _) _); refine de_all (by first | assumption | exact Rm.blk (by assumption) | exact Rm.blk (Rm.blk (by assumption))) (by assumption) ?_)
  | ((with_reducible show dE _ _ _ _ (Expr.Call (Expr.Name "any" _) _ _ _) _); refine de_any (by first | assumption | exact Rm.blk (by assumption) | exact Rm.blk (Rm.blk (by assumption))) (by assumption) ?_)
  | ((with_reducible show dE _ _ _ _ (Expr.Call (Expr.Name "int" _) _ _ _) _); refine de_intC (by assumption) ?_)
  | ((with_reducible show dE _ _ _ _ (Expr.Call (Expr.Name "max" _) _ _ _) _); refine de_maxC (by assumption) ?_)
  | ((with_reducible show dE _ _ _ _ (Expr.Call (Expr.Name "min" _) _ _ _) _); refine de_minC (by assumption) ?_)
  | ((with_reducible show dE _ _ _ _ (Expr.Call (Expr.Name _ _) [] [] _) _); first | refine de_go0 (by assumption) (by first | assumption | exact Rm.blk (by assumption) | exact Rm.blk (Rm.blk (by assumption))) (by first | assumption | exact Room.mono (by assumption) (by decide)) pass0 ?_ | refine de_goV0 (by assumption) (by first | assumption | exact Rm.blk (by assumption) | exact Rm.blk (Rm.blk (by assumption))) (by first | assumption | exact Room.mono (by assumption) (by decide)) pass0 ?_)
  | ((with_reducible show dE _ _ _ _ (Expr.Call (Expr.Name _ _) _ [] _) _); first | refine de_go (by assumption) (by first | assumption | exact Rm.blk (by assumption) | exact Rm.blk (Rm.blk (by assumption))) (by first | assumption | exact Room.mono (by assumption) (by decide)) pass0 ?_ | refine de_goV (by assumption) (by first | assumption | exact Rm.blk (by assumption) | exact Rm.blk (Rm.blk (by assumption))) (by first | assumption | exact Room.mono (by assumption) (by decide)) pass0 ?_))
local macro_rules | `(tactic| walk_at "fT") => `(tactic| first
  | ((with_reducible show dT _ _ _ _ (Expr.UnaryOp UnaryOp.Not _ _) _); refine dt_not ?_)
  | ((with_reducible show dT _ _ _ _ (Expr.BoolOp BoolOp.And _ _) _); refine dt_w (dw_and ?_))
  | ((with_reducible show dT _ _ _ _ (Expr.BoolOp BoolOp.Or _ _) _); refine dt_w (dw_or ?_))
  | ((with_reducible show dW _ _ _ _ (Expr.BoolOp BoolOp.And [_] _) _); refine dw_and1 ?_)
  | ((with_reducible show dW _ _ _ _ (Expr.BoolOp BoolOp.Or [_] _) _); refine dw_or1 ?_)
  | ((with_reducible show dW _ _ _ _ (Expr.BoolOp BoolOp.And _ _) _); refine dw_and ?_)
  | ((with_reducible show dW _ _ _ _ (Expr.BoolOp BoolOp.Or _ _) _); refine dw_or ?_)
  | ((with_reducible show dT _ _ _ _ (Expr.Compare _ [CmpOp.Eq] _ _) _); refine dt_cmp (op_eqDD (by first | assumption | exact Rm.blk (by assumption) | exact Rm.blk (Rm.blk (by assumption)))) ?_)
  | ((with_reducible show dT _ _ _ _ (Expr.Compare _ [CmpOp.NotEq] _ _) _); refine dt_cmp (op_neDD (by first | assumption | exact Rm.blk (by assumption) | exact Rm.blk (Rm.blk (by assumption)))) ?_)
  | ((with_reducible show dT _ _ _ _ (Expr.Compare _ [CmpOp.Lt] _ _) _); refine dt_cmp op_ltD ?_)
  | ((with_reducible show dT _ _ _ _ (Expr.Compare _ [CmpOp.LtE] _ _) _); refine dt_cmp op_leD ?_)
  | ((with_reducible show dT _ _ _ _ (Expr.Compare _ [CmpOp.Gt] _ _) _); refine dt_cmp op_gtD ?_)
  | ((with_reducible show dT _ _ _ _ (Expr.Compare _ [CmpOp.GtE] _ _) _); refine dt_cmp op_geD ?_)
  | ((with_reducible show dT _ _ _ _ (Expr.Compare _ [CmpOp.In] _ _) _); refine dt_cmp (op_inD (by first | assumption | exact Rm.blk (by assumption) | exact Rm.blk (Rm.blk (by assumption)))) ?_)
  | ((with_reducible show dT _ _ _ _ (Expr.Compare _ [CmpOp.NotIn] _ _) _); refine dt_cmp (op_ninD (by first | assumption | exact Rm.blk (by assumption) | exact Rm.blk (Rm.blk (by assumption)))) ?_)
  | ((with_reducible show dT _ _ _ _ (Expr.Compare _ [CmpOp.Is] _ _) _); refine dt_cmp op_isD ?_)
  | ((with_reducible show dT _ _ _ _ (Expr.Compare _ [CmpOp.IsNot] _ _) _); refine dt_cmp op_isntD ?_)
  | ((with_reducible show dT _ _ _ _ (Expr.Compare _ [CmpOp.LtE, CmpOp.LtE] _ _) _); refine dt_chain op_leD op_leD ?_)
  | ((with_reducible show dT _ _ _ _ (Expr.Compare _ [CmpOp.LtE, CmpOp.Lt] _ _) _); refine dt_chain op_leD op_ltD ?_)
  | ((with_reducible show dT _ _ _ _ (Expr.Compare _ [CmpOp.Lt, CmpOp.Lt] _ _) _); refine dt_chain op_ltD op_ltD ?_)
  | ((with_reducible show dT _ _ _ _ _ _); refine dt_val ?_))
local macro_rules | `(tactic| walk_at "fs") => `(tactic| first
  | ((with_reducible show dE _ _ _ _ _ _); walk_at "fE") | ((with_reducible show dT _ _ _ _ _ _); walk_at "fT") | ((with_reducible show dW _ _ _ _ _ _); walk_at "fT")
  | ((with_reducible show dA _ _ _ _ (Expr.Starred _ _ :: _) _); refine da_star ?_) | ((with_reducible show dA _ _ _ _ (_ :: _) _); refine da_cons ?_) | ((with_reducible show dA _ _ _ _ [] _); refine da_nil ?_)
  | ((with_reducible show dS _ _ _ _ (Stmt.Return _ _) _); refine ds_ret ?_) | ((with_reducible show dS _ _ _ _ (Stmt.If _ _ _ _) _); refine ds_if ?_) | ((with_reducible show dS _ _ _ _ (Stmt.Assign [Expr.Name _ _] _ _) _); (refine ds_set ?_ (by assumption); dsimp only))
  | ((with_reducible show dS _ _ _ _ (Stmt.Assign [Expr.Tuple [_, _] _ _] (Expr.Tuple [_, _] _ _) _) _); (refine ds_par ?_ (by assumption) (hij := Nat.ne_of_beq_eq_false (by rfl)); dsimp only))
  | ((with_reducible show dK _ _ _ _ (_ :: _) _); refine dk_cons ?_) | ((with_reducible show dK _ _ _ _ [] _); refine dk_nil ?_)
  | ((with_reducible show dB _ _ _ _ [] _); refine db_nil ?_; dsimp only) | ((with_reducible show dB _ _ _ _ _ _); refine db_cons ?_))
local macro_rules | `(tactic| walk_at "fo") => `(tactic| first | ((with_reducible show dO _ _ _ _ none _); refine dO_none ?_) | ((with_reducible show dO _ _ _ _ (some _) _); refine dO_some ?_))
local macro_rules | `(tactic| walk_at "fx") => `(tactic| (intro hc; exfalso; first | exact Bool.noConfusion (show true = false from hc) | exact Bool.noConfusion (show false = true from hc)))
local macro_rules | `(tactic| walk_at "fm") => `(tactic| first
  | ((with_reducible show Op2 _ _ _ _); first | refine ⟨_, _, _, rfl, rfl, eqD_str _ _, ?_⟩ | refine ⟨_, _, _, rfl, rfl, lim_ok (by omega), ?_⟩ | refine ⟨_, _, _, rfl, rfl, rfl, ?_⟩)
  | ((with_reducible show IsB _ _); refine ⟨_, rfl, ?_⟩)
  | ((with_reducible show AllD _ _); refine ⟨_, rfl, ?_⟩)
  | ((with_reducible show _ ≤ sizeLine ∧ _); refine ⟨Nat.le_of_ble_eq_true rfl, ?_⟩)
  | ((with_reducible show ∃ d, _ = Vl.d d ∧ _); refine ⟨_, rfl, ?_⟩)
  | ((with_reducible show ∃ d z, _ = Vl.d d ∧ lenD _ = some z ∧ _); first | refine ⟨_, _, rfl, lim_ok (by omega), ?_⟩ | refine ⟨_, _, rfl, rfl, ?_⟩)
  | ((with_reducible show ∃ z, intC _ = some z ∧ _); refine ⟨_, rfl, ?_⟩) | ((with_reducible show ∃ z, maxC _ = some z ∧ _); refine ⟨_, rfl, ?_⟩) | ((with_reducible show ∃ z, minC _ = some z ∧ _); refine ⟨_, rfl, ?_⟩)
  | ((with_reducible show ∃ d z, _ = Vl.d d ∧ intC _ = some z ∧ _); refine ⟨_, _, rfl, rfl, ?_⟩)
  | ((with_reducible show isStr _ = false ∧ _); refine ⟨rfl, ?_⟩) | ((with_reducible show IsIns _ _ _); refine ⟨_, rfl, ?_⟩) | ((with_reducible show ∃ ob, List.lookup _ _ = some ob ∧ _); refine ⟨_, rfl, ?_⟩) | ((with_reducible show List.lookup _ _ = none ∧ _); refine ⟨rfl, ?_⟩)
  | ((with_reducible show ∃ i : Int, _ = Vl.d (.int i) ∧ _); refine ⟨_, rfl, ?_⟩)
  | ((with_reducible show ∃ z : Str, _ = Vl.d (.str z) ∧ z.length ≤ 100000 ∧ _); refine ⟨_, rfl, by omega, ?_⟩)
  | ((with_reducible show ∃ d z, _ = Vl.d d ∧ slD d _ _ = some z ∧ _); first | refine ⟨_, _, rfl, lim_ok (by omega), ?_⟩ | refine ⟨_, _, rfl, rfl, ?_⟩)
  | ((with_reducible show ∃ d z, _ = Vl.d d ∧ listC _ = some z ∧ _); refine ⟨_, _, rfl, rfl, ?_⟩)
  | ((with_reducible show ∃ d z, _ = Vl.d d ∧ tupleC _ = some z ∧ _); refine ⟨_, _, rfl, rfl, ?_⟩)
  | ((with_reducible show ∃ ds, itemsD _ = some ds ∧ _); refine ⟨_, rfl, ?_⟩)
  | ((with_reducible show (_ = true → _) ∧ (_ = false → _)); first | (refine ⟨?_, (by walk_at "fx")⟩; intro hj; clear hj) | (refine ⟨(by walk_at "fx"), ?_⟩; intro hj; clear hj))
  | ((with_reducible show (_ = false → _) ∧ (_ = true → _)); first | (refine ⟨?_, (by walk_at "fx")⟩; intro hj; clear hj) | (refine ⟨(by walk_at "fx"), ?_⟩; intro hj; clear hj)))
local macro_rules | `(tactic| walk_at "fr") => `(tactic| repeat (first | walk_at "fs" | walk_at "fo" | walk_at "fm"))

section
variable {P : Program} {w : World} {K : PySem.W.Frag} {mg : Str → Option Value} {base : Heap}
abbrev oName : List PyData → PyData → Prop := fun _ z => ∃ y, z = .str y ∧ As 12 y
theorem sc_law_name : FnScope ["_law_deck_here", "_law_letters", "_law_many", "_law_k"] ["_law_deck_here"] (defScope s_law_name) := ⟨rfl, rfl, rfl, by decide +kernel, rfl, by decide +kernel, by decide +kernel⟩
theorem ok_law_name (F : Src K mg "_law_name" s_law_name) (hs : base.get? sysModules ≠ none) (G1 : Dfn P w K mg base CX0 1 "_law_draw" s_law_draw ["_law_deck_here", "_law_many"] (spK T2 K pDraw oDraw 1)) (m1 : mg "range" = none) :
    Dfn P w K mg base CX0 2 "_law_name" s_law_name ["_law_deck_here"] (spK T2 K (fun ds => ds = []) oName 13) := by
  refine F.deck sc_law_name (fun ds h => by rw [h]; rfl) (fun _ _ _ _ _ _ us hl => match us, hl with | [_], _ => rfl) hs fun fa cd A fr s H E M t sub n ds R r hp hn => ?_
  subst hp
  have nd0 := sc_law_name.nd
  have hn : n + 13 ≤ 1099511627776 := hn
  refine db_cons (ds_set (de_str ?_) nd0)
  refine db_cons (ds_set (de_ix ix_D ?_) nd0)
  walk_at "fr"
  refine de_dr G1 R r IsK.own (de_var ⟨rfl, de_int ⟨4, rfl, by decide, by decide, by show n + 1 ≤ 1099511627776; omega, fun i i1 i2 => ?_⟩⟩)
  obtain ⟨z, hz, hm⟩ := ix_items (d := .list [.int 1, .int 2, .int 4, .int 12]) rfl (by decide) i1 i2
  obtain ⟨j, rfl, j1, j2⟩ := inB_mem (lo := 1) (hi := 12) (by rfl) hm
  refine ⟨_, _, _, rfl, rfl, hz, ?_⟩
  refine db_cons (ds_ret (de_join (de_str ⟨_, rfl, ?_⟩)))
  refine de_lc ?_ nd0 (blkOk_by (by rfl))
  refine di_range m1 (de_var ⟨j, rfl, ⟨by omega, by omega⟩, ?_⟩)
  have hlen : (intsD j.toNat).length = j.toNat := by simp [intsD]
  refine ⟨by rw [hlen, sizeLine_eq]; omega, fun k acc s2 => (∃ ys : List Str, acc = ys.map PyData.str ∧ ys.length = k ∧ ∀ y ∈ ys, As 1 y) ∧ s2 = n + 1 + k, ⟨⟨[], rfl, rfl, by simp⟩, rfl⟩, fun D k d acc s2 hd hi b => ?_, fun acc s2 hi => ?_⟩
  · obtain ⟨⟨ys, rfl, hl, ha⟩, rfl⟩ := hi
    have hk : k < j.toNat := by
      rw [← hlen]
      exact (List.getElem?_eq_some_iff.mp hd).1
    refine ⟨fun _ b => de_ix ix_D (de_var (de_dr G1 (Rm.blk R) r (IsK.own.plus D) (de_var ⟨rfl, de_int ⟨26, rfl, by decide, by decide, by show n + 1 + k + 1 ≤ 1099511627776; omega, fun i' i1' i2' => ?_⟩⟩))), fun z => Bool.noConfusion z⟩
    obtain ⟨z, hz', hm'⟩ := ix_items (d := .str LT) rfl (by decide +kernel) i1' (by rw [show (Fw.signs LT).length = 26 by decide +kernel]; exact i2')
    obtain ⟨y, rfl, hy⟩ := As.mem (n := 26) ⟨okS_of (by decide +kernel), by decide +kernel⟩ hm'
    refine ⟨_, _, _, rfl, rfl, hz', .str y, rfl, ⟨ys ++ [y], by simp, by simp [hl], fun x hx => ?_⟩, by show n + 1 + k + 1 = _; omega⟩
    rcases List.mem_append.mp hx with q | q
    · exact ha x q
    · have : x = y := by simpa using q
      rw [this]; exact hy
  · obtain ⟨⟨ys, rfl, hl, ha⟩, rfl⟩ := hi
    rw [hlen] at hl
    have hj := as_join ys ha
    have hj : As 12 (Txt.join ("" : Str) ys) := hj.up (by omega)
    refine ⟨ys, rfl, ?_, ?_⟩
    · have := sum_as ys ha
      have e0 : ("" : Str).length = 0 := rfl
      rw [e0]
      omega
    · refine ⟨_, rfl, ⟨_, rfl, hj⟩, ?_⟩
      rw [hlen]
      omega
abbrev oAns : List PyData → PyData → Prop := fun _ z => Sz 400 1 z
theorem sc_law_answer : FnScope ["_law_deck_here", "_law_way", "_law_k"] ["_law_deck_here"] (defScope s_law_answer) := ⟨rfl, rfl, rfl, by decide +kernel, rfl, by decide +kernel, by decide +kernel⟩
theorem ok_law_answer (F : Src K mg "_law_answer" s_law_answer) (hs : base.get? sysModules ≠ none) (G1 : Dfn P w K mg base CX0 1 "_law_draw" s_law_draw ["_law_deck_here", "_law_many"] (spK T2 K pDraw oDraw 1))
    (G2 : Dfn P w K mg base CX0 2 "_law_name" s_law_name ["_law_deck_here"] (spK T2 K (fun ds => ds = []) oName 13)) (m1 : mg "range" = none) (m2 : mg "tuple" = none) :
    Dfn P w K mg base CX0 3 "_law_answer" s_law_answer ["_law_deck_here"] (spK T2 K (fun ds => ds = []) oAns 41) := by
  refine F.deck sc_law_answer (fun ds h => by rw [h]; rfl) (fun _ _ _ _ _ _ us hl => match us, hl with | [_], _ => rfl) hs fun fa cd A fr s H E M t sub n ds R r hp hn => ?_
  subst hp
  have nd0 := sc_law_answer.nd
  have hn : n + 41 ≤ 1099511627776 := hn
  refine db_cons (ds_set (de_dr G1 R (r.mono (by decide)) IsK.own (de_var ⟨rfl, de_int ⟨8, rfl, by decide, by decide, by show n + 1 ≤ 1099511627776; omega, fun i i1 i2 => ?_⟩⟩)) nd0)
  walk_at "fr"
  refine ⟨fun h1 => ?_, fun h1 => ?_⟩
  · refine db_cons (ds_ret (de_goD G2 R r pass0 IsK.own (da_cons (de_var (da_nil ⟨[], [], rfl, rfl, rfl, by show n + 1 + 13 ≤ 1099511627776; omega, ?_⟩)))))
    rintro z ⟨y, rfl, hy⟩
    exact ⟨_, rfl, hy.sz.up (by decide) (by decide), by show n + 1 + 13 ≤ _; omega⟩
  have h1' : ¬ i < 2 := of_decide_eq_false h1
  walk_at "fr"
  refine ⟨fun h2 => ?_, fun h2 => ?_⟩
  · refine db_cons (ds_ret (de_tupleC m2 (de_lc (Lc.deck (fun z => Sz 122 0 z) 13 ?_) nd0 (blkOk_by (by rfl)))))
    refine di_range m1 (de_dr G1 R (r.mono (by decide)) IsK.own (de_var ⟨rfl, de_int ⟨4, rfl, by decide, by decide, by show n + 1 + 1 ≤ 1099511627776; omega, fun j j1 j2 => ⟨j, rfl, ⟨by omega, by omega⟩, ?_⟩⟩⟩))
    have hlen : (intsD j.toNat).length = j.toNat := by simp [intsD]
    refine ⟨by rw [hlen, sizeLine_eq]; omega, fun D k d hd b => ?_, fun acc ha hp => ?_⟩
    · have hk : k < j.toNat := by
        rw [← hlen]
        exact (List.getElem?_eq_some_iff.mp hd).1
      refine de_goD G2 (Rm.blk R) r pass0 (IsK.own.plus D) (da_cons (de_var (da_nil ⟨[], [], rfl, rfl, rfl, by show n + 1 + 1 + k * 13 + 13 ≤ 1099511627776; omega, ?_⟩)))
      rintro z ⟨y, rfl, hy⟩
      exact ⟨_, rfl, hy.sz, rfl⟩
    · refine ⟨_, _, rfl, rfl, _, rfl, ?_, by show n + 1 + 1 + (intsD j.toNat).length * 13 ≤ _; rw [hlen]; omega⟩
      have hs := SzA.of (n := 122) (k := 0) hp
      rw [ha, hlen] at hs
      exact (Sz.tup hs).up (by omega) (Nat.le_refl _)
  have h2' : ¬ i < 5 := of_decide_eq_false h2
  refine db_nil (db_cons (ds_ret (de_ix ix_D ?_)))
  walk_at "fr"
  refine de_dr G1 R (r.mono (by decide)) IsK.own (de_var ⟨rfl, de_int ⟨2, rfl, by decide, by decide, by show n + 1 + 1 ≤ 1099511627776; omega, fun j j1 j2 => ?_⟩⟩)
  walk_at "fr"
  obtain ⟨z, hz, hm⟩ := ix_items (d := .list [.none, .str "!", .bool (PyData.eqv (.int j) (.int 1))]) rfl (by show 3 < 1000000; decide) (i := i - 5) (by omega) (by show i - 5 < 3; omega)
  refine ⟨_, _, _, rfl, rfl, hz, z, rfl, ?_, by show n + 1 + 1 ≤ _; omega⟩
  simp only [List.mem_cons, List.not_mem_nil, or_false] at hm
  rcases hm with rfl | rfl | rfl
  · exact Sz.non.up (by decide) (by decide)
  · exact (szB_of (N := 400) (k := 1) (by decide +kernel))
  · exact (Sz.bl _).up (by decide) (by decide)
abbrev oOdd : List PyData → PyData → Prop := fun _ z => Sz 700 3 z
theorem sc_law_odd : FnScope ["_law_deck_here", "_law_some"] ["_law_deck_here"] (defScope s_law_odd) := ⟨rfl, rfl, rfl, by decide +kernel, rfl, by decide +kernel, by decide +kernel⟩
theorem ok_law_odd (F : Src K mg "_law_odd" s_law_odd) (hs : base.get? sysModules ≠ none) (G1 : Dfn P w K mg base CX0 2 "_law_pick" s_law_pick ["_law_deck_here", "_law_some"] (spK T2 K pPick oPick 1)) :
    Dfn P w K mg base CX0 3 "_law_odd" s_law_odd ["_law_deck_here"] (spK T2 K (fun ds => ds = []) oOdd 1) := by
  refine F.deck sc_law_odd (fun ds h => by rw [h]; rfl) (fun _ _ _ _ _ _ us hl => match us, hl with | [_], _ => rfl) hs fun fa cd A fr s H E M t sub n ds R r hp hn => ?_
  subst hp
  have nd0 := sc_law_odd.nd
  have hn : n + 1 ≤ 1099511627776 := hn
  walk_at "fr"
  refine de_pk G1 R r IsK.own (de_var ⟨rfl, de_var ?_⟩)
  refine ⟨_, _, rfl, rfl, ?_, ?_, hn, fun z hz => ⟨z, rfl, ?_, Nat.le_refl _⟩⟩
  · decide +kernel
  · decide +kernel
  · refine szB_of (List.all_eq_true.mp ?_ z hz)
    decide +kernel
/-! ### bent values -/
structure Bs (d : PyData) : Prop where
  ok : nice d = true
  sz : cost d ≤ 390000
  dp : d.depth ≤ 20
abbrev pBent (dd : Nat) : List PyData → Prop := fun ds => ∃ d, ds = [d, .int dd] ∧ Bs d
abbrev oBent : List PyData → PyData → Prop := fun ds z => nice z = true ∧ cost z ≤ 2 * cost (ds.getD 0 .none) + 705 ∧ z.depth ≤ (ds.getD 0 .none).depth + 4
theorem oBent_odd {d z : PyData} {dd : Nat} (h : Sz 700 3 z) : oBent [d, .int dd] z := ⟨h.ok, by have := h.sz; show cost z ≤ 2 * cost d + 705; omega, by have := h.dp; show z.depth ≤ d.depth + 4; omega⟩
theorem cut_split (l : List PyData) (i : Nat) (hi : i < l.length) : l = l.take i ++ (l[i] :: l.drop (i + 1)) := by
  rw [← List.drop_eq_getElem_cons hi, List.take_append_drop]
theorem cutD_to (l : List PyData) (i : Nat) (hi : i ≤ l.length) : Fw.cutD l none (some i) = l.take i := by
  unfold Fw.cutD
  have e1 : HT.sIx l.length 0 none = 0 := rfl
  have e2 : HT.sIx l.length l.length (some (i : Int)) = min i l.length := HT.sIx_nat _ _ i
  rw [e1, e2, List.drop_zero, Nat.sub_zero, Nat.min_eq_left hi]
theorem cutD_from (l : List PyData) (i : Nat) (hi : i ≤ l.length) : Fw.cutD l (some i) none = l.drop i := by
  unfold Fw.cutD
  have e1 : HT.sIx l.length l.length none = l.length := rfl
  have e2 : HT.sIx l.length 0 (some (i : Int)) = min i l.length := HT.sIx_nat _ _ i
  rw [e1, e2, Nat.min_eq_left hi]
  exact List.take_of_length_le (by simp)
theorem cutD_one (l : List PyData) (i : Nat) (hi : i < l.length) : Fw.cutD l (some i) (some (i + 1 : Nat)) = [l[i]] := by
  unfold Fw.cutD
  have e1 : HT.sIx l.length 0 (some (i : Int)) = min i l.length := HT.sIx_nat _ _ i
  have e2 : HT.sIx l.length l.length (some ((i + 1 : Nat) : Int)) = min (i + 1) l.length := HT.sIx_nat _ _ (i + 1)
  rw [e1, e2, Nat.min_eq_left (by omega), Nat.min_eq_left (by omega), List.drop_eq_getElem_cons hi]
  rw [show i + 1 - i = 1 by omega]
  rfl
/-- parts of a tuple -/
structure Pt (d e : PyData) (a b : List PyData) : Prop where
  na : niceA a = true
  ne : nice e = true
  nb : niceA b = true
  cs : costA a + (cost e + 2) + costA b + 3 = cost d
  da : PyData.depthAll a + 1 ≤ d.depth
  de : e.depth + 1 ≤ d.depth
  db : PyData.depthAll b + 1 ≤ d.depth
theorem pt_of {l : List PyData} {i : Nat} (hi : i < l.length) (h : nice (.tuple l) = true) : Pt (.tuple l) l[i] (l.take i) (l.drop (i + 1)) := by
  have e := cut_split l i hi
  have h1 : niceA (l.take i ++ (l[i] :: l.drop (i + 1))) = true := by rw [← e]; simpa only [nice] using h
  have h2 : costA (l.take i ++ (l[i] :: l.drop (i + 1))) + 3 = cost (.tuple l) := by rw [← e]; simp only [cost]
  have h3 : PyData.depthAll (l.take i ++ (l[i] :: l.drop (i + 1))) + 1 ≤ (PyData.tuple l).depth := by rw [← e]; simp only [PyData.depth]; omega
  rw [niceA_app, niceA] at h1
  rw [costA_app, costA] at h2
  rw [depthA_app, PyData.depthAll] at h3
  obtain ⟨g1, g2⟩ := Bool.and_eq_true_iff.mp h1
  obtain ⟨g2, g3⟩ := Bool.and_eq_true_iff.mp g2
  exact ⟨g1, g2, g3, by omega, by omega, by omega, by omega⟩
theorem nice_tup {l : List PyData} (h : niceA l = true) : nice (.tuple l) = true := by simpa only [nice] using h
theorem dp_tup (l : List PyData) : (PyData.tuple l).depth = PyData.depthAll l + 1 := by simp only [PyData.depth]
theorem sc_law_bent : FnScope ["_law_deck_here", "_law_item", "_law_deep", "_law_at", "_law_way"] ["_law_deck_here", "_law_item", "_law_deep"] (defScope s_law_bent) := ⟨rfl, rfl, rfl, by decide +kernel, rfl, by decide +kernel, by decide +kernel⟩
abbrev NB : List Str := ["_law_deck_here", "_law_item", "_law_deep", "_law_at", "_law_way"]
def leafB : List Stmt := match (defBody s_law_bent).getD 0 (.Pass ⟨0, 0, 0, 0⟩) with
  | .If _ b _ _ => b
  | _ => []
theorem bent_leaf {fa : Addr} {cd : Value} {A : Around} {fr : List Env} {s : Shared} {H : Hp} {E : XK} {M : Addr → Prop} {t : Addr} {sub : ∀ b, T2.C t b → M b} {d : PyData} {dd k n n0 c : Nat} {nx : Rho → Nat → Prop} (G1 : Dfn P w K mg base CX0 1 "_law_draw" s_law_draw ["_law_deck_here", "_law_many"] (spK T2 K pDraw oDraw 1))
    (G2 : Dfn P w K mg base CX0 3 "_law_odd" s_law_odd ["_law_deck_here"] (spK T2 K (fun ds => ds = []) oOdd 1)) (m1 : mg "isinstance" = none) (m2 : mg "tuple" = none) (m4 : mg "list" = none) (hd : Bs d)
    (R : Rm (cxOf CX0 P w K mg base NB "_law_bent" (defScope s_law_bent) fa cd A fr s H E).nox) (r : Room k (cxOf CX0 P w K mg base NB "_law_bent" (defScope s_law_bent) fa cd A fr s H E).nox.A) (hk : 3 ≤ k) (h0 : n0 + 2 ≤ n + c) (hn : n + c ≤ 1099511627776) :
    dB (cxOf CX0 P w K mg base NB "_law_bent" (defScope s_law_bent) fa cd A fr s H E).nox (Wk T2 M t sub) (rhoD NB t [d, .int dd]) n0 leafB { nx := nx, rt := fun y n' => ∃ z, y = .d z ∧ oBent [d, .int dd] z ∧ n' ≤ n + c } := by
  show dB _ _ _ _ [Stmt.Return (some _) _] _
  refine db_cons (ds_ret (de_ix ix_D (de_lst (da_cons (de_goD G2 R (r.mono hk) pass0 IsK.own (da_cons (de_var (da_nil ⟨[], [], rfl, rfl, rfl, by show n0 + 1 ≤ 1099511627776; omega, fun z hz => ?_⟩))))))))
  have fin : ∀ x : PyData, nice x = true → cost x ≤ cost d → x.depth ≤ d.depth → ∀ i : Int, 0 ≤ i → i < 3 → ∃ q, ixD (.list [z, x, .tuple [d]]) (.int i) = some q ∧ oBent [d, .int dd] q := by
    intro x x1 x2 x3 i i1 i2
    obtain ⟨q, hq, hm⟩ := ix_items (d := .list [z, x, .tuple [d]]) rfl (by show 3 < 1000000; decide) i1 (by show i < 3; exact i2)
    refine ⟨q, hq, ?_⟩
    simp only [List.mem_cons, List.not_mem_nil, or_false] at hm
    rcases hm with rfl | rfl | rfl
    · exact oBent_odd hz
    · exact ⟨x1, by show cost q ≤ 2 * cost d + 705; omega, by show q.depth ≤ d.depth + 4; omega⟩
    · refine ⟨nice_tup (by simp only [niceA, hd.ok]; rfl), ?_, ?_⟩
      · show cost (.tuple [d]) ≤ 2 * cost d + 705
        simp only [cost, costA]
        omega
      · show (PyData.tuple [d]).depth ≤ d.depth + 4
        rw [dp_tup]
        simp only [PyData.depthAll]
        omega
  have go : ∀ x : PyData, nice x = true → cost x ≤ cost d → x.depth ≤ d.depth → dE (cxOf CX0 P w K mg base NB "_law_bent" (defScope s_law_bent) fa cd A fr s H E).nox (Wk T2 M t sub) (rhoD NB t [d, .int dd]) (n0 + 1) (match leafB with | [.Return (some (.Subscript _ e _)) _] => e | _ => .Name "" ⟨0, 0, 0, 0⟩) fun y s2 => Op2 ixD (.d (.list [z, x, .tuple [d]])) y fun z => ∃ z', z = .d z' ∧ oBent [d, .int dd] z' ∧ s2 ≤ n + c := by
    intro x x1 x2 x3
    show dE _ _ _ _ (Expr.Call (Expr.Name "_law_draw" _) [_, _] [] _) _
    refine de_dr G1 R (r.mono (by omega)) IsK.own (de_var ⟨rfl, de_int ⟨3, rfl, by decide, by decide, by show n0 + 1 + 1 ≤ 1099511627776; omega, fun i i1 i2 => ?_⟩⟩)
    obtain ⟨q, q1, q2⟩ := fin x x1 x2 x3 i i1 i2
    exact ⟨_, _, q, rfl, rfl, q1, q, rfl, q2, by show n0 + 1 + 1 ≤ n + c; omega⟩
  cases d
  case tuple l =>
    walk_at "fr"
    refine go (.list l) ?_ ?_ ?_
    · have := hd.ok; simpa only [nice] using this
    · simp only [cost]; omega
    · simp only [PyData.depth]; omega
  all_goals
    walk_at "fr"
    exact go _ hd.ok (Nat.le_refl _) (Nat.le_refl _)
theorem ok_law_bent (F : Src K mg "_law_bent" s_law_bent) (hs : base.get? sysModules ≠ none) (G1 : Dfn P w K mg base CX0 1 "_law_draw" s_law_draw ["_law_deck_here", "_law_many"] (spK T2 K pDraw oDraw 1))
    (G2 : Dfn P w K mg base CX0 3 "_law_odd" s_law_odd ["_law_deck_here"] (spK T2 K (fun ds => ds = []) oOdd 1)) (m1 : mg "isinstance" = none) (m2 : mg "tuple" = none) (m3 : mg "len" = none) (m4 : mg "list" = none) :
    ∀ dd : Nat, dd ≤ 3 → Dfn P w K mg base CX0 (4 + dd) "_law_bent" s_law_bent ["_law_deck_here", "_law_item", "_law_deep"] (spK T2 K (pBent dd) oBent (3 * dd + 3)) := by
  intro dd
  induction dd with
  | zero =>
    intro _
    refine F.deck sc_law_bent (fun ds ⟨d, h, _⟩ => by rw [h]; rfl) (fun _ _ _ _ _ _ us hl => match us, hl with | [_, _, _], _ => rfl) hs fun fa cd A fr s H E M t sub n ds R r hp hn => ?_
    obtain ⟨d, rfl, hd⟩ := hp
    have hn : n + (3 * 0 + 3) ≤ 1099511627776 := hn
    refine db_cons (ds_if (dt_w (dw_or (dt_cmp (op_eqDD R) (de_var (de_int ⟨_, _, _, rfl, rfl, rfl, _, rfl, fun h => Bool.noConfusion (show true = false from h), fun _ => ⟨fun _ => ?_, fun h => Bool.noConfusion (show true = false from h)⟩⟩))))))
    exact bent_leaf (c := 3 * 0 + 3) G1 G2 m1 m2 m4 hd R r (by decide) (by omega) hn
  | succ dd ih =>
    intro hdd
    have G3 := ih (by omega)
    refine F.deck sc_law_bent (fun ds ⟨d, h, _⟩ => by rw [h]; rfl) (fun _ _ _ _ _ _ us hl => match us, hl with | [_, _, _], _ => rfl) hs fun fa cd A fr s H E M t sub n ds R r hp hn => ?_
    obtain ⟨d, rfl, hd⟩ := hp
    have nd0 := sc_law_bent.nd
    have hn : n + (3 * (dd + 1) + 3) ≤ 1099511627776 := hn
    have leaf : ∀ (n0 : Nat) (nx : Rho → Nat → Prop), n0 ≤ n + 1 → dB (cxOf CX0 P w K mg base NB "_law_bent" (defScope s_law_bent) fa cd A fr s H E).nox (Wk T2 M t sub) (rhoD NB t [d, .int (dd + 1 : Nat)]) n0 leafB { nx := nx, rt := fun y n' => ∃ z, y = .d z ∧ oBent [d, .int (dd + 1 : Nat)] z ∧ n' ≤ n + (3 * (dd + 1) + 3) } :=
      fun n0 nx h0 => bent_leaf (c := 3 * (dd + 1) + 3) G1 G2 m1 m2 m4 hd R r (show 3 ≤ 4 + dd by omega) (by omega) hn
    walk_at "fr"
    refine ⟨fun h1 => ?_, fun h1 => ?_⟩
    · have hT : ∃ l, d = .tuple l := by
        cases d with
        | tuple l => exact ⟨l, rfl⟩
        | _ => cases (show true = false from h1)
      obtain ⟨l, rfl⟩ := hT
      have hl : l.length ≤ 390000 := by
        have h := hd.sz
        have := costA_len l
        simp only [cost] at h
        omega
      walk_at "fr"
      refine ⟨fun h2 => ?_, fun h2 => ⟨fun _ => leaf n _ (by omega), fun h => Bool.noConfusion (show true = false from h)⟩⟩
      have hne : 1 ≤ l.length := by
        cases l with
        | nil => cases (show true = false from h2)
        | cons => simp
      refine dw_or1 (dt_cmp (op_eqDD R) (de_dr G1 R (r.mono (show 1 ≤ 4 + dd by omega)) IsK.own (de_var ⟨rfl, de_int ⟨5, rfl, by decide, by decide, by show n + 1 ≤ 1099511627776; omega, fun i i1 i2 => ?_⟩⟩)))
      walk_at "fr"
      refine ⟨fun _ => leaf (n + 1) _ (by omega), fun _ => db_nil ?_⟩
      refine db_cons (ds_par (de_dr G1 R (r.mono (show 1 ≤ 4 + dd by omega)) IsK.own (de_var ⟨rfl, de_len m3 (de_var ⟨_, _, rfl, rfl, l.length, rfl, by omega, by omega, by show n + 1 + 1 ≤ 1099511627776; omega, fun i i1 i2 => ?_⟩)⟩)) nd0 (hij := Nat.ne_of_beq_eq_false (by rfl)))
      refine de_dr G1 R (r.mono (show 1 ≤ 4 + dd by omega)) IsK.own (de_var ⟨rfl, de_int ⟨6, rfl, by decide, by decide, by show n + 1 + 1 + 1 ≤ 1099511627776; omega, fun wy w1 w2 => ?_⟩⟩)
      obtain ⟨k, rfl⟩ := Int.eq_ofNat_of_zero_le i1
      have hk : k < l.length := by omega
      have pt := pt_of hk hd.ok
      have c1 := cutD_to l k (by omega)
      have c2 : Fw.cutD l (some ((k : Int) + 1)) none = l.drop (k + 1) := cutD_from l (k + 1) (by omega)
      have c3 : Fw.cutD l (some (k : Int)) (some ((k : Int) + 1)) = [l[k]] := cutD_one l k hk
      have c4 := cutD_from l k (by omega)
      have la : (l.take k).length ≤ 400000 := by rw [List.length_take]; omega
      have lb : (l.drop (k + 1)).length ≤ 400000 := by rw [List.length_drop]; omega
      have ec := pt.cs
      walk_at "fr"
      refine ⟨fun _ => ?_, fun _ => ?_⟩
      · walk_at "fr"
        rw [c1, c2]
        refine ⟨_, _, _, rfl, rfl, lim_ok (by omega), _, rfl, ⟨nice_tup (by rw [niceA_app, pt.na, pt.nb]; rfl), ?_, ?_⟩, by show n + 1 + 1 + 1 ≤ _; omega⟩
        · show cost (.tuple (l.take k ++ l.drop (k + 1))) ≤ 2 * cost (.tuple l) + 705
          simp only [cost, costA_app] at ec ⊢
          omega
        · show (PyData.tuple (l.take k ++ l.drop (k + 1))).depth ≤ (PyData.tuple l).depth + 4
          have := pt.da; have := pt.db
          rw [dp_tup, depthA_app]
          omega
      walk_at "fr"
      refine ⟨fun _ => ?_, fun _ => db_nil ?_⟩
      · walk_at "fr"
        rw [c1, c3]
        refine ⟨_, _, _, rfl, rfl, lim_ok (by simp; omega), ?_⟩
        walk_at "fr"
        rw [c4]
        have hdr : l.drop k = l[k] :: l.drop (k + 1) := List.drop_eq_getElem_cons hk
        rw [hdr]
        refine ⟨_, _, _, rfl, rfl, lim_ok (by simp; omega), _, rfl, ⟨nice_tup (by rw [niceA_app, niceA_app, pt.na]; simp only [niceA, pt.ne, pt.nb]; rfl), ?_, ?_⟩, by show n + 1 + 1 + 1 ≤ _; omega⟩
        · show cost (.tuple (l.take k ++ [l[k]] ++ (l[k] :: l.drop (k + 1)))) ≤ 2 * cost (.tuple l) + 705
          simp only [cost, costA_app, costA] at ec ⊢
          omega
        · show (PyData.tuple (l.take k ++ [l[k]] ++ (l[k] :: l.drop (k + 1)))).depth ≤ (PyData.tuple l).depth + 4
          have := pt.da; have := pt.db; have := pt.de
          rw [dp_tup, depthA_app, depthA_app]
          simp only [PyData.depthAll]
          omega
      · refine db_cons (ds_ret (de_bin op_addD (de_bin op_addD ?_)))
        walk_at "fr"
        rw [c1]
        refine de_goD G3 R r pass0 IsK.own ?_
        walk_at "fr"
        have hix : ixD (.tuple l) (.int k) = some l[k] := by
          show atI l (k : Int) = _
          rw [atI_nat]
          exact List.getElem?_eq_getElem hk
        refine ⟨_, _, _, rfl, rfl, hix, ?_⟩
        walk_at "fr"
        have hb : Bs l[k] := ⟨pt.ne, by have := hd.sz; omega, by have := hd.dp; have := pt.de; omega⟩
        refine ⟨_, [l[k], .int (((dd + 1 : Nat) : Int) - 1)], rfl, rfl, ⟨l[k], by rw [show (((dd + 1 : Nat) : Int) - 1) = (dd : Int) by omega], hb⟩, by show n + 1 + 1 + 1 + (3 * dd + 3) ≤ 1099511627776; omega, ?_⟩
        rintro z ⟨z1, z2, z3⟩
        have z2 : cost z ≤ 2 * cost l[k] + 705 := z2
        have z3 : z.depth ≤ l[k].depth + 4 := z3
        walk_at "fr"
        refine ⟨_, _, _, rfl, rfl, lim_ok (by simp; omega), ?_⟩
        walk_at "fr"
        rw [c2]
        refine ⟨_, _, _, rfl, rfl, lim_ok (by simp; omega), _, rfl, ⟨nice_tup (by rw [niceA_app, niceA_app, pt.na, pt.nb]; simp only [niceA, z1]; rfl), ?_, ?_⟩, by show n + 1 + 1 + 1 + (3 * dd + 3) ≤ _; omega⟩
        · show cost (.tuple (l.take k ++ [z] ++ l.drop (k + 1))) ≤ 2 * cost (.tuple l) + 705
          simp only [cost, costA_app, costA] at ec ⊢
          omega
        · show (PyData.tuple (l.take k ++ [z] ++ l.drop (k + 1))).depth ≤ (PyData.tuple l).depth + 4
          have := pt.da; have := pt.db; have := pt.de
          rw [dp_tup, depthA_app, depthA_app]
          simp only [PyData.depthAll]
          omega
    · exact ⟨fun _ => leaf n _ (by omega), fun h => Bool.noConfusion (show true = false from h)⟩
end

end KK

set_option Elab.async false
set_option linter.all false
set_option maxRecDepth 100000
set_option maxHeartbeats 4000000
set_option pp.maxSteps 300
namespace KK
open PySem PySem.Spec PyProof.Rows L2 Fw
local macro_rules | `(tactic| walk_at "fE") => `(tactic| first
  | ((with_reducible show dE _ _ _ _ (Expr.Name _ _) _); first | refine de_var ?_ | refine de_globS (by assumption) ?_ | refine de_globI (by assumption) ?_)
  | ((with_reducible show dE _ _ _ _ (Expr.Constant (Const.str _) _ _) _); refine de_str ?_)
  | ((with_reducible show dE _ _ _ _ (Expr.Constant (Const.int _) _ _) _); refine de_int ?_)
  | ((with_reducible show dE _ _ _ _ (Expr.Constant (Const.bool _) _ _) _); refine de_bool ?_)
  | ((with_reducible show dE _ _ _ _ (Expr.Constant Const.none _ _) _); refine de_none ?_)
  | ((with_reducible show dE _ _ _ _ (Expr.BoolOp _ [_] _) _); refine de_one ?_)
  | ((with_reducible show dE _ _ _ _ (Expr.BoolOp BoolOp.And _ _) _); refine de_and ?_)
  | ((with_reducible show dE _ _ _ _ (Expr.BoolOp BoolOp.Or _ _) _); refine de_or ?_)
  | ((with_reducible show dE _ _ _ _ (Expr.UnaryOp UnaryOp.Not _ _) _); refine de_not ?_)
  | ((with_reducible show dE _ _ _ _ (Expr.UnaryOp UnaryOp.USub _ _) _); refine de_neg ?_)
  | ((with_reducible show dE _ _ _ _ (Expr.Compare _ [CmpOp.Eq] _ _) _); refine de_cmp (op_eqDD (by first | assumption | exact Rm.blk (by assumption) | exact Rm.blk (Rm.blk (by assumption)))) ?_)
  | ((with_reducible show dE _ _ _ _ (Expr.Compare _ [CmpOp.NotEq] _ _) _); refine de_cmp (op_neDD (by first | assumption | exact Rm.blk (by assumption) | exact Rm.blk (Rm.blk (by assumption)))) ?_)
  | ((with_reducible show dE _ _ _ _ (Expr.Compare _ [CmpOp.Lt] _ _) _); refine de_cmp op_ltD ?_)
  | ((with_reducible show dE _ _ _ _ (Expr.Compare _ [CmpOp.LtE] _ _) _); refine de_cmp op_leD ?_)
  | ((with_reducible show dE _ _ _ _ (Expr.Compare _ [CmpOp.Gt] _ _) _); refine de_cmp op_gtD ?_)
  | ((with_reducible show dE _ _ _ _ (Expr.Compare _ [CmpOp.GtE] _ _) _); refine de_cmp op_geD ?_)
  | ((with_reducible show dE _ _ _ _ (Expr.Compare _ [CmpOp.In] _ _) _); refine de_cmp (op_inD (by first | assumption | exact Rm.blk (by assumption) | exact Rm.blk (Rm.blk (by assumption)))) ?_)
  | ((with_reducible show dE _ _ _ _ (Expr.Compare _ [CmpOp.NotIn] _ _) _); refine de_cmp (op_ninD (by first | assumption | exact Rm.blk (by assumption) | exact Rm.blk (Rm.blk (by assumption)))) ?_)
  | ((with_reducible show dE _ _ _ _ (Expr.Compare _ [CmpOp.Is] _ _) _); refine de_cmp op_isD ?_)
  | ((with_reducible show dE _ _ _ _ (Expr.Compare _ [CmpOp.IsNot] _ _) _); refine de_cmp op_isntD ?_)
  | ((with_reducible show dE _ _ _ _ (Expr.Compare _ [CmpOp.LtE, CmpOp.LtE] _ _) _); refine de_chain op_leD op_leD ?_)
  | ((with_reducible show dE _ _ _ _ (Expr.Compare _ [CmpOp.LtE, CmpOp.Lt] _ _) _); refine de_chain op_leD op_ltD ?_)
  | ((with_reducible show dE _ _ _ _ (Expr.Compare _ [CmpOp.Lt, CmpOp.Lt] _ _) _); refine de_chain op_ltD op_ltD ?_)
  | ((with_reducible show dE _ _ _ _ (Expr.BinOp _ Operator.Add _ _) _); refine de_bin op_addD ?_)
  | ((with_reducible show dE _ _ _ _ (Expr.BinOp _ Operator.Sub _ _) _); refine de_bin op_subD ?_)
  | ((with_reducible show dE _ _ _ _ (Expr.BinOp _ Operator.Mult _ _) _); refine de_bin op_mulD ?_)
  | ((with_reducible show dE _ _ _ _ (Expr.BinOp _ Operator.Mod _ _) _); refine de_bin op_modD ?_)
  | ((with_reducible show dE _ _ _ _ (Expr.BinOp _ Operator.FloorDiv _ _) _); refine de_bin op_divD ?_)
  | ((with_reducible show dE _ _ _ _ (Expr.BinOp _ Operator.Pow _ _) _); refine de_bin op_powD ?_)
  | ((with_reducible show dE _ _ _ _ (Expr.Tuple _ _ _) _); refine de_tup ?_)
  | ((with_reducible show dE _ _ _ _ (Expr.List _ _) _); refine de_lst ?_)
  | ((with_reducible show dE _ _ _ _ (Expr.IfExp _ _ _ _) _); refine de_if ?_)
  | ((with_reducible show dE _ _ _ _ (Expr.Subscript _ (Expr.Slice _ _ none _) _) _); refine de_slice sl_D ?_)
  | ((with_reducible show dE _ _ _ _ (Expr.Subscript _ (Expr.Slice _ _ _ _) _) _); refine de_revT ?_)
  | ((with_reducible show dE _ _ _ _ (Expr.Subscript _ _ _) _); refine de_ix ix_D ?_)
  | ((with_reducible show dE _ _ _ _ (Expr.Dict [] _ _) _); refine de_dic0 ?_)
  | ((with_reducible show dE _ _ _ _ (Expr.Dict _ _ _) _); first | refine de_dicC ?_ | refine de_dicN ?_)
  | ((with_reducible show dE _ _ _ _ (Expr.Call (Expr.Attribute _ "upper" _) _ _ _) _); refine de_upper ?_)
  | ((with_reducible show dE _ _ _ _ (Expr.Call (Expr.Attribute _ "join" _) _ _ _) _); refine de_join ?_)
  | ((with_reducible show dE _ _ _ _ (Expr.Call (Expr.Attribute _ _ _) _ _ _) _); refine de_mth (by assumption) (by assumption) (by assumption) (by first | assumption | exact Rm.blk (by assumption) | exact Rm.blk (Rm.blk (by assumption))) (by first | assumption | exact Room.mono (by assumption) (by decide)) pass0 ?_)
  | ((with_reducible show dE _ _ _ _ (Expr.Attribute _ _ _) _); first | refine de_fld (by assumption) (by assumption) ?_ | refine de_prp (by assumption) (by assumption) (by assumption) (by first | assumption | exact Rm.blk (by assumption) | exact Rm.blk (Rm.blk (by assumption))) (by first | assumption | exact Room.mono (by assumption) (by decide)) pass0 ?_)
  | ((with_reducible show dE _ _ _ _ (Expr.Call (Expr.Name "isinstance" _) [_, Expr.Name "str" _] _ _) _); refine de_isiS (by assumption) (by assumption) ?_)
  | ((with_reducible show dE _ _ _ _ (Expr.Call (Expr.Name "isinstance" _) [_, Expr.Name "int" _] _ _) _); refine de_isiI (by assumption) (by assumption) ?_)
  | ((with_reducible show dE _ _ _ _ (Expr.Call (Expr.Name "isinstance" _) [_, Expr.Name "bool" _] _ _) _); refine de_isiB (by assumption) (by assumption) ?_)
  | ((with_reducible show dE _ _ _ _ (Expr.Call (Expr.Name "isinstance" _) [_, Expr.Name "tuple" _] _ _) _); refine de_isiT (by assumption) (by assumption) ?_)
  | ((with_reducible show dE _ _ _ _ (Expr.Call (Expr.Name "isinstance" _) [_, Expr.Name "list" _] _ _) _); refine de_isiL (by assumption) (by assumption) ?_)
  | ((with_reducible show dE _ _ _ _ (Expr.Call (Expr.Name "len" _) [Expr.Call (Expr.Name "set" _) _ _ _] _ _) _); refine de_lenS (by assumption) (by assumption) ?_)
  | ((with_reducible show dE _ _ _ _ (Expr.Call (Expr.Name "len" _) _ _ _) _); refine de_len (by assumption) ?_)
  | ((with_reducible show dE _ _ _ _ (Expr.Call (Expr.Name "str" _) _ _ _) _); refine de_strC (by assumption) ?_)
  | ((with_reducible show dE _ _ _ _ (Expr.Call (Expr.Name "list" _) _ _ _) _); refine de_listC (by assumption) ?_)
  | ((with_reducible show dE _ _ _ _ (Expr.Call (Expr.Name "tuple" _) _ _ _) _); refine de_tupleC (by assumption) ?_)
  | ((with_reducible show dE _ _ _ _ (Expr.Call (Expr.Name "repr" _) _ _ _) _); refine de_repr (by first | assumption | exact Rm.blk (by assumption) | exact Rm.blk (Rm.blk (by assumption))) (by assumption) ?_)
  | ((with_reducible show dE _ _ _ _ (Expr.Call (Expr.Name "all" _) _ _ _) _); refine de_all (by first | assumption | exact Rm.blk (by assumption) | exact Rm.blk (Rm.blk (by assumption))) (by assumption) ?_)
  | ((with_reducible show dE _ _ _ _ (Expr.Call (Expr.Name "any" _) _ _ _) _); refine de_any (by first | assumption | exact Rm.blk (by assumption) | exact Rm.blk (Rm.blk (by assumption))) (by assumption) ?_)
  | ((with_reducible show dE _ _ _ _ (Expr.Call (Expr.Name "int" _) _ _ _) _); refine de_intC (by assumption) ?_)
  | ((with_reducible show dE _ _ _ _ (Expr.Call (Expr.Name "max" _) _ _ _) _); refine de_maxC (by assumption) ?_)
  | ((with_reducible show dE _ _ _ _ (Expr.Call (Expr.Name "min" _) _ _ _) _); refine de_minC (by assumption) ?_)
  | ((with_reducible show dE _ _ _ _ (Expr.Call (Expr.Name _ _) [] [] _) _); first | refine de_go0 (by assumption) (by first | assumption | exact Rm.blk (by assumption) | exact Rm.blk (Rm.blk (by assumption))) (by first | assumption | exact Room.mono (by assumption) (by decide)) pass0 ?_ | refine de_goV0 (by assumption) (by first | assumption | exact Rm.blk (by assumption) | exact Rm.blk (Rm.blk (by assumption))) (by first | assumption | exact Room.mono (by assumption) (by decide)) pass0 ?_)
  | ((with_reducible show dE _ _ _ _ (Expr.Call (Expr.Name _ _) _ [] _) _); first | refine de_go (by assumption) (by first | assumption | exact Rm.blk (by assumption) | exact Rm.blk (Rm.blk (by assumption))) (by first | assumption | exact Room.mono (by assumption) (by decide)) pass0 ?_ | refine de_goV (by assumption) (by first | assumption | exact Rm.blk (by assumption) | exact Rm.blk (Rm.blk (by assumption))) (by first | assumption | exact Room.mono (by assumption) (by decide)) pass0 ?_))
local macro_rules | `(tactic| walk_at "fT") => `(tactic| first
  | ((with_reducible show dT _ _ _ _ (Expr.UnaryOp UnaryOp.Not _ _) _); refine dt_not ?_)
  | ((with_reducible show dT _ _ _ _ (Expr.BoolOp BoolOp.And _ _) _); refine dt_w (dw_and ?_))
  | ((with_reducible show dT _ _ _ _ (Expr.BoolOp BoolOp.Or _ _) _); refine dt_w (dw_or ?_))
  | ((with_reducible show dW _ _ _ _ (Expr.BoolOp BoolOp.And [_] _) _); refine dw_and1 ?_)
  | ((with_reducible show dW _ _ _ _ (Expr.BoolOp BoolOp.Or [_] _) _); refine dw_or1 ?_)
  | ((with_reducible show dW _ _ _ _ (Expr.BoolOp BoolOp.And _ _) _); refine dw_and ?_)
  | ((with_reducible show dW _ _ _ _ (Expr.BoolOp BoolOp.Or _ _) _); refine dw_or ?_)
  | ((with_reducible show dT _ _ _ _ (Expr.Compare _ [CmpOp.Eq] _ _) _); refine dt_cmp (op_eqDD (by first | assumption | exact Rm.blk (by assumption) | exact Rm.blk (Rm.blk (by assumption)))) ?_)
  | ((with_reducible show dT _ _ _ _ (Expr.Compare _ [CmpOp.NotEq] _ _) _); refine dt_cmp (op_neDD (by first | assumption | exact Rm.blk (by assumption) | exact Rm.blk (Rm.blk (by assumption)))) ?_)
  | ((with_reducible show dT _ _ _ _ (Expr.Compare _ [CmpOp.Lt] _ _) _); refine dt_cmp op_ltD ?_)
  | ((with_reducible show dT _ _ _ _ (Expr.Compare _ [CmpOp.LtE] _ _) _); refine dt_cmp op_leD ?_)
  | ((with_reducible show dT _ _ _ _ (Expr.Compare _ [CmpOp.Gt] _ _) _); refine dt_cmp op_gtD ?_)
  | ((with_reducible show dT _ _ _ _ (Expr.Compare _ [CmpOp.GtE] _ _) _); refine dt_cmp op_geD ?_)
  | ((with_reducible show dT _ _ _ _ (Expr.Compare _ [CmpOp.In] _ _) _); refine dt_cmp (op_inD (by first | assumption | exact Rm.blk (by assumption) | exact Rm.blk (Rm.blk (by assumption)))) ?_)
  | ((with_reducible show dT _ _ _ _ (Expr.Compare _ [CmpOp.NotIn] _ _) _); refine dt_cmp (op_ninD (by first | assumption | exact Rm.blk (by assumption) | exact Rm.blk (Rm.blk (by assumption)))) ?_)
  | ((with_reducible show dT _ _ _ _ (Expr.Compare _ [CmpOp.Is] _ _) _); refine dt_cmp op_isD ?_)
  | ((with_reducible show dT _ _ _ _ (Expr.Compare _ [CmpOp.IsNot] _ _) _); refine dt_cmp op_isntD ?_)
  | ((with_reducible show dT _ _ _ _ (Expr.Compare _ [CmpOp.LtE, CmpOp.LtE] _ _) _); refine dt_chain op_leD op_leD ?_)
  | ((with_reducible show dT _ _ _ _ (Expr.Compare _ [CmpOp.LtE, CmpOp.Lt] _ _) _); refine dt_chain op_leD op_ltD ?_)
  | ((with_reducible show dT _ _ _ _ (Expr.Compare _ [CmpOp.Lt, CmpOp.Lt] _ _) _); refine dt_chain op_ltD op_ltD ?_)
  | ((with_reducible show dT _ _ _ _ _ _); refine dt_val ?_))
local macro_rules | `(tactic| walk_at "fs") => `(tactic| first
  | ((with_reducible show dE _ _ _ _ _ _); walk_at "fE") | ((with_reducible show dT _ _ _ _ _ _); walk_at "fT") | ((with_reducible show dW _ _ _ _ _ _); walk_at "fT")
  | ((with_reducible show dA _ _ _ _ (Expr.Starred _ _ :: _) _); refine da_star ?_) | ((with_reducible show dA _ _ _ _ (_ :: _) _); refine da_cons ?_) | ((with_reducible show dA _ _ _ _ [] _); refine da_nil ?_)
  | ((with_reducible show dS _ _ _ _ (Stmt.Return _ _) _); refine ds_ret ?_) | ((with_reducible show dS _ _ _ _ (Stmt.If _ _ _ _) _); refine ds_if ?_) | ((with_reducible show dS _ _ _ _ (Stmt.Assign [Expr.Name _ _] _ _) _); (refine ds_set ?_ (by assumption); dsimp only))
  | ((with_reducible show dS _ _ _ _ (Stmt.Assign [Expr.Tuple [_, _] _ _] (Expr.Tuple [_, _] _ _) _) _); (refine ds_par ?_ (by assumption) (hij := Nat.ne_of_beq_eq_false (by rfl)); dsimp only))
  | ((with_reducible show dK _ _ _ _ (_ :: _) _); refine dk_cons ?_) | ((with_reducible show dK _ _ _ _ [] _); refine dk_nil ?_)
  | ((with_reducible show dB _ _ _ _ [] _); refine db_nil ?_; dsimp only) | ((with_reducible show dB _ _ _ _ _ _); refine db_cons ?_))
local macro_rules | `(tactic| walk_at "fo") => `(tactic| first | ((with_reducible show dO _ _ _ _ none _); refine dO_none ?_) | ((with_reducible show dO _ _ _ _ (some _) _); refine dO_some ?_))
local macro_rules | `(tactic| walk_at "fx") => `(tactic| (intro hc; exfalso; first | exact Bool.noConfusion (show true = false from hc) | exact Bool.noConfusion (show false = true from hc)))
local macro_rules | `(tactic| walk_at "fm") => `(tactic| first
  | ((with_reducible show Op2 _ _ _ _); first | refine ⟨_, _, _, rfl, rfl, eqD_str _ _, ?_⟩ | refine ⟨_, _, _, rfl, rfl, lim_ok (by omega), ?_⟩ | refine ⟨_, _, _, rfl, rfl, rfl, ?_⟩)
  | ((with_reducible show IsB _ _); refine ⟨_, rfl, ?_⟩)
  | ((with_reducible show AllD _ _); refine ⟨_, rfl, ?_⟩)
  | ((with_reducible show _ ≤ sizeLine ∧ _); refine ⟨Nat.le_of_ble_eq_true rfl, ?_⟩)
  | ((with_reducible show ∃ d, _ = Vl.d d ∧ _); refine ⟨_, rfl, ?_⟩)
  | ((with_reducible show ∃ d z, _ = Vl.d d ∧ lenD _ = some z ∧ _); first | refine ⟨_, _, rfl, lim_ok (by omega), ?_⟩ | refine ⟨_, _, rfl, rfl, ?_⟩)
  | ((with_reducible show ∃ z, intC _ = some z ∧ _); refine ⟨_, rfl, ?_⟩) | ((with_reducible show ∃ z, maxC _ = some z ∧ _); refine ⟨_, rfl, ?_⟩) | ((with_reducible show ∃ z, minC _ = some z ∧ _); refine ⟨_, rfl, ?_⟩)
  | ((with_reducible show ∃ d z, _ = Vl.d d ∧ intC _ = some z ∧ _); refine ⟨_, _, rfl, rfl, ?_⟩)
  | ((with_reducible show isStr _ = false ∧ _); refine ⟨rfl, ?_⟩) | ((with_reducible show IsIns _ _ _); refine ⟨_, rfl, ?_⟩) | ((with_reducible show ∃ ob, List.lookup _ _ = some ob ∧ _); refine ⟨_, rfl, ?_⟩) | ((with_reducible show List.lookup _ _ = none ∧ _); refine ⟨rfl, ?_⟩)
  | ((with_reducible show ∃ i : Int, _ = Vl.d (.int i) ∧ _); refine ⟨_, rfl, ?_⟩)
  | ((with_reducible show ∃ z : Str, _ = Vl.d (.str z) ∧ z.length ≤ 100000 ∧ _); refine ⟨_, rfl, by omega, ?_⟩)
  | ((with_reducible show ∃ d z, _ = Vl.d d ∧ slD d _ _ = some z ∧ _); first | refine ⟨_, _, rfl, lim_ok (by omega), ?_⟩ | refine ⟨_, _, rfl, rfl, ?_⟩)
  | ((with_reducible show ∃ d z, _ = Vl.d d ∧ listC _ = some z ∧ _); refine ⟨_, _, rfl, rfl, ?_⟩)
  | ((with_reducible show ∃ d z, _ = Vl.d d ∧ tupleC _ = some z ∧ _); refine ⟨_, _, rfl, rfl, ?_⟩)
  | ((with_reducible show ∃ ds, itemsD _ = some ds ∧ _); refine ⟨_, rfl, ?_⟩)
  | ((with_reducible show (_ = true → _) ∧ (_ = false → _)); first | (refine ⟨?_, (by walk_at "fx")⟩; intro hj; clear hj) | (refine ⟨(by walk_at "fx"), ?_⟩; intro hj; clear hj))
  | ((with_reducible show (_ = false → _) ∧ (_ = true → _)); first | (refine ⟨?_, (by walk_at "fx")⟩; intro hj; clear hj) | (refine ⟨(by walk_at "fx"), ?_⟩; intro hj; clear hj)))
local macro_rules | `(tactic| walk_at "fr") => `(tactic| repeat (first | walk_at "fs" | walk_at "fo" | walk_at "fm"))

theorem db_imp {S : Type} {X : Cx} {W : Wd S} {ρ : Rho} {s : S} {b : List Stmt} {Δ Δ' : DE S} (h : dB X W ρ s b Δ) (h1 : ∀ ρ s, Δ.nx ρ s → Δ'.nx ρ s) (h2 : ∀ y s, Δ.rt y s → Δ'.rt y s) (h3 : ∀ ρ s, Δ.bk ρ s → Δ'.bk ρ s) (h4 : ∀ ρ s, Δ.ct ρ s → Δ'.ct ρ s) : dB X W ρ s b Δ' :=
  .mk fun σ H D en j kn => h.go σ H D en j ⟨fun a b c d e f g q => kn.nx a b c d e f g (h1 c d q), fun a b c d e f g q => kn.rt a b c d e f g (h2 c d q), fun a b c d e f g q => kn.bk a b c d e f g (h3 c d q), fun a b c d e f g q => kn.ct a b c d e f g (h4 c d q)⟩
section
variable {P : Program} {w : World} {K : PySem.W.Frag} {mg : Str → Option Value} {base : Heap} {CP : Addr}
abbrev prO (CP : Addr) (t : Th) : Ob := .ins CP (PF t)
abbrev NP : List Str := ["_law_found", "_law_many", "_law_houses", "_law_deeds", "_law_deed"]
theorem sc_law_programs : FnScope NP [] (defScope s_law_programs) := ⟨rfl, rfl, rfl, by decide +kernel, rfl, by decide +kernel, by decide +kernel⟩
theorem ok_law_programs {fi : Addr} (F : Src K mg "_law_programs" s_law_programs) (hs : base.get? sysModules ≠ none) (kP : Mk K CP fi) (gP : mg "Program" = some (.ref CP))
    (G : ∀ t : Th, FnA P w K mg base CX0 6 fi ["self", "houses", "deeds", "variables", "body"] [] (spI K CP (fun xs => xs = [.d t.hs, .d t.ds, .d (.tuple []), .d t.bd]) fun _ => PF t)) (m1 : mg "range" = none) (m2 : mg "tuple" = none) :
    Dfn P w K mg base CX0 8 "_law_programs" s_law_programs [] (spP K (fun xs => xs = []) fun _ => .o (.lst [prO CP .a, prO CP .b, prO CP .c])) := by
  refine F.pureV sc_law_programs (fun xs h => by rw [h]; rfl) (fun _ _ _ _ _ _ us hl => match us, hl with | [], _ => rfl) hs fun fa cd A fr s H E M xs R r hp => ?_
  have nd0 := sc_law_programs.nd
  subst hp
  refine db_ownO (fun l nl => ?_) nd0
  refine db_cons (ds_for (di_range2 m1 (de_int (de_int ⟨1, 4, rfl, rfl, by decide, fun k ρ1 st => (∃ v1 v2 v3 : Option Vl, ρ1 = [some (.v (.ref l)), v1, v2, v3, none]) ∧ st = ((), ([prO CP .a, prO CP .b, prO CP .c] : List Ob).take k), ⟨⟨none, none, none, rfl⟩, rfl⟩, fun k d ρ1 st hd hi => ?_, fun ρ1 st hi => ?_⟩))) PassesOwn.never nd0)
  · obtain ⟨⟨v1, v2, v3, rfl⟩, rfl⟩ := hi
    have turn : ∀ t : Th, ∀ k : Nat, (t = .a ∧ k = 0 ∨ t = .b ∧ k = 1 ∨ t = .c ∧ k = 2) → d = .int (1 + (k : Int)) → dB (cxOf CX0 P w K mg base NP "_law_programs" (defScope s_law_programs) fa cd A fr s H E).nox ((Wp M).own l (LO K)) [some (.v (.ref l)), some (.d d), v2, v3, none] ((), ([prO CP .a, prO CP .b, prO CP .c] : List Ob).take k) (match (defBody s_law_programs).getD 1 (.Pass ⟨0, 0, 0, 0⟩) with | .For _ _ b _ _ => b | _ => []) { nx := fun ρ1 st => (∃ v1 v2 v3 : Option Vl, ρ1 = [some (.v (.ref l)), v1, v2, v3, none]) ∧ st = ((), ([prO CP .a, prO CP .b, prO CP .c] : List Ob).take (k + 1)), rt := fun _ _ => False } := by
      intro t k htk hd
      show dB _ _ _ _ [Stmt.Assign [Expr.Name _ _] _ _, Stmt.Assign [Expr.Name _ _] _ _, Stmt.Expr _ _] _
      have G1 := G t
      rcases htk with ⟨rfl, rfl⟩ | ⟨rfl, rfl⟩ | ⟨rfl, rfl⟩
      all_goals
        subst hd
        walk_at "fr"
        refine ds_expr (de_appO (de_var ⟨rfl, de_mk kP G1 R (r.mono (by decide)) pass0 gP ?_⟩) nl)
        walk_at "fr"
        refine de_lc (Lc.map (fun _ => doS) ?_) nd0 (blkOk_by (by rfl))
        refine di_any ?_
        walk_at "fr"
        refine ⟨by first | exact (by decide : 0 < sizeLine) | exact (by decide : 1 < sizeLine), fun D q hq b => ?_, ?_⟩
        · first
            | exact absurd hq List.not_mem_nil
            | (have hq' := List.mem_singleton.mp hq
               subst hq'
               walk_at "fr"
               exact ⟨rfl, rfl⟩)
        · walk_at "fr"
          exact ⟨rfl, by first | exact (by decide : 0 < 1000000) | exact (by decide : 1 < 1000000) | exact (by decide : 2 < 1000000), db_nil ⟨⟨_, _, _, rfl⟩, rfl⟩⟩
    have hk : k < 3 ∧ d = .int (1 + (k : Int)) := by
      have hk : k < 3 := by
        have := (List.getElem?_eq_some_iff.mp hd).1
        simpa [Fw.intsFrom] using this
      refine ⟨hk, ?_⟩
      unfold Fw.intsFrom at hd
      rw [List.getElem?_map, List.getElem?_range (by show k < 3; exact hk)] at hd
      exact (Option.some.inj hd).symm
    obtain ⟨hk, hd'⟩ := hk
    have ht : ∃ t : Th, (t = .a ∧ k = 0 ∨ t = .b ∧ k = 1 ∨ t = .c ∧ k = 2) := by
      match k, hk with
      | 0, _ => exact ⟨.a, .inl ⟨rfl, rfl⟩⟩
      | 1, _ => exact ⟨.b, .inr (.inl ⟨rfl, rfl⟩)⟩
      | 2, _ => exact ⟨.c, .inr (.inr ⟨rfl, rfl⟩)⟩
    obtain ⟨t, ht⟩ := ht
    exact db_imp (turn t k ht hd') (fun _ _ h => h) (fun _ _ h => h.elim) (fun _ _ h => h.elim) (fun _ _ h => h.elim)
  · obtain ⟨⟨v1, v2, v3, rfl⟩, rfl⟩ := hi
    walk_at "fr"
    exact ⟨_, .inr ⟨rfl, rfl⟩, rfl⟩
end

end KK

set_option Elab.async false
set_option linter.all false
set_option maxRecDepth 100000
set_option maxHeartbeats 4000000
set_option pp.maxSteps 300
namespace KK
open PySem PySem.Spec PyProof.Rows L2 Fw
local macro_rules | `(tactic| walk_at "fE") => `(tactic| first
  | ((with_reducible show dE _ _ _ _ (Expr.Name _ _) _); first | refine de_var ?_ | refine de_globS (by assumption) ?_ | refine de_globI (by assumption) ?_)
  | ((with_reducible show dE _ _ _ _ (Expr.Constant (Const.str _) _ _) _); refine de_str ?_)
  | ((with_reducible show dE _ _ _ _ (Expr.Constant (Const.int _) _ _) _); refine de_int ?_)
  | ((with_reducible show dE _ _ _ _ (Expr.Constant (Const.bool _) _ _) _); refine de_bool ?_)
  | ((with_reducible show dE _ _ _ _ (Expr.Constant Const.none _ _) _); refine de_none ?_)
  | ((with_reducible show dE _ _ _ _ (Expr.BoolOp _ [_] _) _); refine de_one ?_)
  | ((with_reducible show dE _ _ _ _ (Expr.BoolOp BoolOp.And _ _) _); refine de_and ?_)
  | ((with_reducible show dE _ _ _ _ (Expr.BoolOp BoolOp.Or _ _) _); refine de_or ?_)
  | ((with_reducible show dE _ _ _ _ (Expr.UnaryOp UnaryOp.Not _ _) _); refine de_not ?_)
  | ((with_reducible show dE _ _ _ _ (Expr.UnaryOp UnaryOp.USub _ _) _); refine de_neg ?_)
  | ((with_reducible show dE _ _ _ _ (Expr.Compare _ [CmpOp.Eq] _ _) _); refine de_cmp (op_eqDD (by first | assumption | exact Rm.blk (by assumption) | exact Rm.blk (Rm.blk (by assumption)))) ?_)
  | ((with_reducible show dE _ _ _ _ (Expr.Compare _ [CmpOp.NotEq] _ _) _); refine de_cmp (op_neDD (by first | assumption | exact Rm.blk (by assumption) | exact Rm.blk (Rm.blk (by assumption)))) ?_)
  | ((with_reducible show dE _ _ _ _ (Expr.Compare _ [CmpOp.Lt] _ _) _); refine de_cmp op_ltD ?_)
  | ((with_reducible show dE _ _ _ _ (Expr.Compare _ [CmpOp.LtE] _ _) _); refine de_cmp op_leD ?_)
  | ((with_reducible show dE _ _ _ _ (Expr.Compare _ [CmpOp.Gt] _ _) _); refine de_cmp op_gtD ?_)
  | ((with_reducible show dE _ _ _ _ (Expr.Compare _ [CmpOp.GtE] _ _) _); refine de_cmp op_geD ?_)
  | ((with_reducible show dE _ _ _ _ (Expr.Compare _ [CmpOp.In] _ _) _); refine de_cmp (op_inD (by first | assumption | exact Rm.blk (by assumption) | exact Rm.blk (Rm.blk (by assumption)))) ?_)
  | ((with_reducible show dE _ _ _ _ (Expr.Compare _ [CmpOp.NotIn] _ _) _); refine de_cmp (op_ninD (by first | assumption | exact Rm.blk (by assumption) | exact Rm.blk (Rm.blk (by assumption)))) ?_)
  | ((with_reducible show dE _ _ _ _ (Expr.Compare _ [CmpOp.Is] _ _) _); refine de_cmp op_isD ?_)
  | ((with_reducible show dE _ _ _ _ (Expr.Compare _ [CmpOp.IsNot] _ _) _); refine de_cmp op_isntD ?_)
  | ((with_reducible show dE _ _ _ _ (Expr.Compare _ [CmpOp.LtE, CmpOp.LtE] _ _) _); refine de_chain op_leD op_leD ?_)
  | ((with_reducible show dE _ _ _ _ (Expr.Compare _ [CmpOp.LtE, CmpOp.Lt] _ _) _); refine de_chain op_leD op_ltD ?_)
  | ((with_reducible show dE _ _ _ _ (Expr.Compare _ [CmpOp.Lt, CmpOp.Lt] _ _) _); refine de_chain op_ltD op_ltD ?_)
  | ((with_reducible show dE _ _ _ _ (Expr.BinOp _ Operator.Add _ _) _); refine de_bin op_addD ?_)
  | ((with_reducible show dE _ _ _ _ (Expr.BinOp _ Operator.Sub _ _) _); refine de_bin op_subD ?_)
  | ((with_reducible show dE _ _ _ _ (Expr.BinOp _ Operator.Mult _ _) _); refine de_bin op_mulD ?_)
  | ((with_reducible show dE _ _ _ _ (Expr.BinOp _ Operator.Mod _ _) _); refine de_bin op_modD ?_)
  | ((with_reducible show dE _ _ _ _ (Expr.BinOp _ Operator.FloorDiv _ _) _); refine de_bin op_divD ?_)
  | ((with_reducible show dE _ _ _ _ (Expr.BinOp _ Operator.Pow _ _) _); refine de_bin op_powD ?_)
  | ((with_reducible show dE _ _ _ _ (Expr.Tuple _ _ _) _); refine de_tup ?_)
  | ((with_reducible show dE _ _ _ _ (Expr.List _ _) _); refine de_lst ?_)
  | ((with_reducible show dE _ _ _ _ (Expr.IfExp _ _ _ _) _); refine de_if ?_)
  | ((with_reducible show dE _ _ _ _ (Expr.Subscript _ (Expr.Slice _ _ none _) _) _); refine de_slice sl_D ?_)
  | ((with_reducible show dE _ _ _ _ (Expr.Subscript _ (Expr.Slice _ _ _ _) _) _); refine de_revT ?_)
  | ((with_reducible show dE _ _ _ _ (Expr.Subscript _ _ _) _); refine de_ix ix_D ?_)
  | ((with_reducible show dE _ _ _ _ (Expr.Dict [] _ _) _); refine de_dic0 ?_)
  | ((with_reducible show dE _ _ _ _ (Expr.Dict _ _ _) _); first | refine de_dicC ?_ | refine de_dicN ?_)
  | ((with_reducible show dE _ _ _ _ (Expr.Call (Expr.Attribute _ "upper" _) _ _ _) _); refine de_upper ?_)
  | ((with_reducible show dE _ _ _ _ (Expr.Call (Expr.Attribute _ "join" _) _ _ _) _); refine de_join ?_)
  | ((with_reducible show dE _ _ _ _ (Expr.Call (Expr.Attribute _ _ _) _ _ _) _); refine de_mth (by assumption) (by assumption) (by assumption) (by first | assumption | exact Rm.blk (by assumption) | exact Rm.blk (Rm.blk (by assumption))) (by first | assumption | exact Room.mono (by assumption) (by decide)) pass0 ?_)
  | ((with_reducible show dE _ _ _ _ (Expr.Attribute _ _ _) _); first | refine de_fld (by assumption) (by assumption) ?_ | refine de_prp (by assumption) (by assumption) (by assumption) (by first | assumption | exact Rm.blk (by assumption) | exact Rm.blk (Rm.blk (by assumption))) (by first | assumption | exact Room.mono (by assumption) (by decide)) pass0 ?_)
  | ((with_reducible show dE _ _ _ _ (Expr.Call (Expr.Name "isinstance" _) [_, Expr.Name "str" _] _ _) _); refine de_isiS (by assumption) (by assumption) ?_)
  | ((with_reducible show dE _ _ _ _ (Expr.Call (Expr.Name "isinstance" _) [_, Expr.Name "int" _] _ _) _); refine de_isiI (by assumption) (by assumption) ?_)
  | ((with_reducible show dE _ _ _ _ (Expr.Call (Expr.Name "isinstance" _) [_, Expr.Name "bool" _] _ _) _); refine de_isiB (by assumption) (by assumption) ?_)
  | ((with_reducible show dE _ _ _ _ (Expr.Call (Expr.Name "isinstance" _) [_, Expr.Name "tuple" _] _ _) _); refine de_isiT (by assumption) (by assumption) ?_)
  | ((with_reducible show dE _ _ _ _ (Expr.Call (Expr.Name "isinstance" _) [_, Expr.Name "list" _] _ _) _); refine de_isiL (by assumption) (by assumption) ?_)
  | ((with_reducible show dE _ _ _ _ (Expr.Call (Expr.Name "len" _) [Expr.Call (Expr.Name "set" _) _ _ _] _ _) _); refine de_lenS (by assumption) (by assumption) ?_)
  | ((with_reducible show dE _ _ _ _ (Expr.Call (Expr.Name "len" _) _ _ _) _); refine de_len (by assumption) ?_)
  | ((with_reducible show dE _ _ _ _ (Expr.Call (Expr.Name "str" _) _ _ _) _); refine de_strC (by assumption) ?_)
  | ((with_reducible show dE _ _ _ _ (Expr.Call (Expr.Name "list" _) _ _ _) _); refine de_listC (by assumption) ?_)
  | ((with_reducible show dE _ _ _ _ (Expr.Call (Expr.Name "tuple" _) _ _ _) _); refine de_tupleC (by assumption) ?_)
  | ((with_reducible show dE _ _ _ _ (Expr.Call (Expr.Name "repr" _) _ _ _) _); refine de_repr (by first | assumption | exact Rm.blk (by assumption) | exact Rm.blk (Rm.blk (by assumption))) (by assumption) ?_)
  | ((with_reducible show dE _ _ _ _ (Expr.Call (Expr.Name "all" _) _ _ _) _); refine de_all (by first | assumption | exact Rm.blk (by assumption) | exact Rm.blk (Rm.blk (by assumption))) (by assumption) ?_)
  | ((with_reducible show dE _ _ _ _ (Expr.Call (Expr.Name "any" _) _ _ _) _); refine de_any (by first | assumption | exact Rm.blk (by assumption) | exact Rm.blk (Rm.blk (by assumption))) (by assumption) ?_)
  | ((with_reducible show dE _ _ _ _ (Expr.Call (Expr.Name "int" _) _ _ _) _); refine de_intC (by assumption) ?_)
  | ((with_reducible show dE _ _ _ _ (Expr.Call (Expr.Name "max" _) _ _ _) _); refine de_maxC (by assumption) ?_)
  | ((with_reducible show dE _ _ _ _ (Expr.Call (Expr.Name "min" _) _ _ _) _); refine de_minC (by assumption) ?_)
  | ((with_reducible show dE _ _ _ _ (Expr.Call (Expr.Name _ _) [] [] _) _); first | refine de_go0 (by assumption) (by first | assumption | exact Rm.blk (by assumption) | exact Rm.blk (Rm.blk (by assumption))) (by first | assumption | exact Room.mono (by assumption) (by decide)) pass0 ?_ | refine de_goV0 (by assumption) (by first | assumption | exact Rm.blk (by assumption) | exact Rm.blk (Rm.blk (by assumption))) (by first | assumption | exact Room.mono (by assumption) (by decide)) pass0 ?_)
  | ((with_reducible show dE _ _ _ _ (Expr.Call (Expr.Name _ _) _ [] _) _); first | refine de_go (by assumption) (by first | assumption | exact Rm.blk (by assumption) | exact Rm.blk (Rm.blk (by assumption))) (by first | assumption | exact Room.mono (by assumption) (by decide)) pass0 ?_ | refine de_goV (by assumption) (by first | assumption | exact Rm.blk (by assumption) | exact Rm.blk (Rm.blk (by assumption))) (by first | assumption | exact Room.mono (by assumption) (by decide)) pass0 ?_))
local macro_rules | `(tactic| walk_at "fT") => `(tactic| first
  | ((with_reducible show dT _ _ _ _ (Expr.UnaryOp UnaryOp.Not _ _) _); refine dt_not ?_)
  | ((with_reducible show dT _ _ _ _ (Expr.BoolOp BoolOp.And _ _) _); refine dt_w (dw_and ?_))
  | ((with_reducible show dT _ _ _ _ (Expr.BoolOp BoolOp.Or _ _) _); refine dt_w (dw_or ?_))
  | ((with_reducible show dW _ _ _ _ (Expr.BoolOp BoolOp.And [_] _) _); refine dw_and1 ?_)
  | ((with_reducible show dW _ _ _ _ (Expr.BoolOp BoolOp.Or [_] _) _); refine dw_or1 ?_)
  | ((with_reducible show dW _ _ _ _ (Expr.BoolOp BoolOp.And _ _) _); refine dw_and ?_)
  | ((with_reducible show dW _ _ _ _ (Expr.BoolOp BoolOp.Or _ _) _); refine dw_or ?_)
  | ((with_reducible show dT _ _ _ _ (Expr.Compare _ [CmpOp.Eq] _ _) _); refine dt_cmp (op_eqDD (by first | assumption | exact Rm.blk (by assumption) | exact Rm.blk (Rm.blk (by assumption)))) ?_)
  | ((with_reducible show dT _ _ _ _ (Expr.Compare _ [CmpOp.NotEq] _ _) _); refine dt_cmp (op_neDD (by first | assumption | exact Rm.blk (by assumption) | exact Rm.blk (Rm.blk (by assumption)))) ?_)
  | ((with_reducible show dT _ _ _ _ (Expr.Compare _ [CmpOp.Lt] _ _) _); refine dt_cmp op_ltD ?_)
  | ((with_reducible show dT _ _ _ _ (Expr.Compare _ [CmpOp.LtE] _ _) _); refine dt_cmp op_leD ?_)
  | ((with_reducible show dT _ _ _ _ (Expr.Compare _ [CmpOp.Gt] _ _) _); refine dt_cmp op_gtD ?_)
  | ((with_reducible show dT _ _ _ _ (Expr.Compare _ [CmpOp.GtE] _ _) _); refine dt_cmp op_geD ?_)
  | ((with_reducible show dT _ _ _ _ (Expr.Compare _ [CmpOp.In] _ _) _); refine dt_cmp (op_inD (by first | assumption | exact Rm.blk (by assumption) | exact Rm.blk (Rm.blk (by assumption)))) ?_)
  | ((with_reducible show dT _ _ _ _ (Expr.Compare _ [CmpOp.NotIn] _ _) _); refine dt_cmp (op_ninD (by first | assumption | exact Rm.blk (by assumption) | exact Rm.blk (Rm.blk (by assumption)))) ?_)
  | ((with_reducible show dT _ _ _ _ (Expr.Compare _ [CmpOp.Is] _ _) _); refine dt_cmp op_isD ?_)
  | ((with_reducible show dT _ _ _ _ (Expr.Compare _ [CmpOp.IsNot] _ _) _); refine dt_cmp op_isntD ?_)
  | ((with_reducible show dT _ _ _ _ (Expr.Compare _ [CmpOp.LtE, CmpOp.LtE] _ _) _); refine dt_chain op_leD op_leD ?_)
  | ((with_reducible show dT _ _ _ _ (Expr.Compare _ [CmpOp.LtE, CmpOp.Lt] _ _) _); refine dt_chain op_leD op_ltD ?_)
  | ((with_reducible show dT _ _ _ _ (Expr.Compare _ [CmpOp.Lt, CmpOp.Lt] _ _) _); refine dt_chain op_ltD op_ltD ?_)
  | ((with_reducible show dT _ _ _ _ _ _); refine dt_val ?_))
local macro_rules | `(tactic| walk_at "fs") => `(tactic| first
  | ((with_reducible show dE _ _ _ _ _ _); walk_at "fE") | ((with_reducible show dT _ _ _ _ _ _); walk_at "fT") | ((with_reducible show dW _ _ _ _ _ _); walk_at "fT")
  | ((with_reducible show dA _ _ _ _ (Expr.Starred _ _ :: _) _); refine da_star ?_) | ((with_reducible show dA _ _ _ _ (_ :: _) _); refine da_cons ?_) | ((with_reducible show dA _ _ _ _ [] _); refine da_nil ?_)
  | ((with_reducible show dS _ _ _ _ (Stmt.Return _ _) _); refine ds_ret ?_) | ((with_reducible show dS _ _ _ _ (Stmt.If _ _ _ _) _); refine ds_if ?_) | ((with_reducible show dS _ _ _ _ (Stmt.Assign [Expr.Name _ _] _ _) _); (refine ds_set ?_ (by assumption); dsimp only))
  | ((with_reducible show dS _ _ _ _ (Stmt.Assign [Expr.Tuple [_, _] _ _] (Expr.Tuple [_, _] _ _) _) _); (refine ds_par ?_ (by assumption) (hij := Nat.ne_of_beq_eq_false (by rfl)); dsimp only))
  | ((with_reducible show dK _ _ _ _ (_ :: _) _); refine dk_cons ?_) | ((with_reducible show dK _ _ _ _ [] _); refine dk_nil ?_)
  | ((with_reducible show dB _ _ _ _ [] _); refine db_nil ?_; dsimp only) | ((with_reducible show dB _ _ _ _ _ _); refine db_cons ?_))
local macro_rules | `(tactic| walk_at "fo") => `(tactic| first | ((with_reducible show dO _ _ _ _ none _); refine dO_none ?_) | ((with_reducible show dO _ _ _ _ (some _) _); refine dO_some ?_))
local macro_rules | `(tactic| walk_at "fx") => `(tactic| (intro hc; exfalso; first | exact Bool.noConfusion (show true = false from hc) | exact Bool.noConfusion (show false = true from hc)))
local macro_rules | `(tactic| walk_at "fm") => `(tactic| first
  | ((with_reducible show Op2 _ _ _ _); first | refine ⟨_, _, _, rfl, rfl, eqD_str _ _, ?_⟩ | refine ⟨_, _, _, rfl, rfl, lim_ok (by omega), ?_⟩ | refine ⟨_, _, _, rfl, rfl, rfl, ?_⟩)
  | ((with_reducible show IsB _ _); refine ⟨_, rfl, ?_⟩)
  | ((with_reducible show AllD _ _); refine ⟨_, rfl, ?_⟩)
  | ((with_reducible show _ ≤ sizeLine ∧ _); refine ⟨Nat.le_of_ble_eq_true rfl, ?_⟩)
  | ((with_reducible show ∃ d, _ = Vl.d d ∧ _); refine ⟨_, rfl, ?_⟩)
  | ((with_reducible show ∃ d z, _ = Vl.d d ∧ lenD _ = some z ∧ _); first | refine ⟨_, _, rfl, lim_ok (by omega), ?_⟩ | refine ⟨_, _, rfl, rfl, ?_⟩)
  | ((with_reducible show ∃ z, intC _ = some z ∧ _); refine ⟨_, rfl, ?_⟩) | ((with_reducible show ∃ z, maxC _ = some z ∧ _); refine ⟨_, rfl, ?_⟩) | ((with_reducible show ∃ z, minC _ = some z ∧ _); refine ⟨_, rfl, ?_⟩)
  | ((with_reducible show ∃ d z, _ = Vl.d d ∧ intC _ = some z ∧ _); refine ⟨_, _, rfl, rfl, ?_⟩)
  | ((with_reducible show isStr _ = false ∧ _); refine ⟨rfl, ?_⟩) | ((with_reducible show IsIns _ _ _); refine ⟨_, rfl, ?_⟩) | ((with_reducible show ∃ ob, List.lookup _ _ = some ob ∧ _); refine ⟨_, rfl, ?_⟩) | ((with_reducible show List.lookup _ _ = none ∧ _); refine ⟨rfl, ?_⟩)
  | ((with_reducible show ∃ i : Int, _ = Vl.d (.int i) ∧ _); refine ⟨_, rfl, ?_⟩)
  | ((with_reducible show ∃ z : Str, _ = Vl.d (.str z) ∧ z.length ≤ 100000 ∧ _); refine ⟨_, rfl, by omega, ?_⟩)
  | ((with_reducible show ∃ d z, _ = Vl.d d ∧ slD d _ _ = some z ∧ _); first | refine ⟨_, _, rfl, lim_ok (by omega), ?_⟩ | refine ⟨_, _, rfl, rfl, ?_⟩)
  | ((with_reducible show ∃ d z, _ = Vl.d d ∧ listC _ = some z ∧ _); refine ⟨_, _, rfl, rfl, ?_⟩)
  | ((with_reducible show ∃ d z, _ = Vl.d d ∧ tupleC _ = some z ∧ _); refine ⟨_, _, rfl, rfl, ?_⟩)
  | ((with_reducible show ∃ ds, itemsD _ = some ds ∧ _); refine ⟨_, rfl, ?_⟩)
  | ((with_reducible show (_ = true → _) ∧ (_ = false → _)); first | (refine ⟨?_, (by walk_at "fx")⟩; intro hj; clear hj) | (refine ⟨(by walk_at "fx"), ?_⟩; intro hj; clear hj))
  | ((with_reducible show (_ = false → _) ∧ (_ = true → _)); first | (refine ⟨?_, (by walk_at "fx")⟩; intro hj; clear hj) | (refine ⟨(by walk_at "fx"), ?_⟩; intro hj; clear hj)))
local macro_rules | `(tactic| walk_at "fr") => `(tactic| repeat (first | walk_at "fs" | walk_at "fo" | walk_at "fm"))

theorem ne_self (x : Str) : neDD (.str x) (.str x) = some (.bool false) := by
  have e : PyData.eqv (.str x) (.str x) = true := by simp [PyData.eqv]
  show some (PyData.bool (!PyData.eqv (.str x) (.str x))) = _
  rw [e]
  rfl
theorem frz_refl {a : Addr} {z : Vl} : ∀ ρ : Rho, FrzL a z ρ ρ
  | [] => .nil
  | _ :: ρ => .same (frz_refl ρ)
theorem ints_at {n k : Nat} {d : PyData} (hd : (intsD n)[k]? = some d) : k < n ∧ d = .int k := by
  have hk : k < n := by
    have := (List.getElem?_eq_some_iff.mp hd).1
    simpa [intsD] using this
  unfold intsD at hd
  rw [List.getElem?_map, List.getElem?_range hk] at hd
  exact ⟨hk, (Option.some.inj hd).symm⟩
theorem intsD_len (n : Nat) : (intsD n).length = n := by simp [intsD]
section
variable {S : Type} {X : Cx} {W : Wd S} {ρ : Rho} {s : S} {Φ : Vl → S → Prop} {e1 e2 : Expr} {pos p : Pos} {k : Nat}
/-- _law_cell_at(e1, e2) -/
theorem de_cell {st : Stmt} {ps : List Str} {sc : Addr} {is : List Int} (G : Dfn X.prog X.w X.K X.mg X.base CX0 k "_law_cell_at" st ps (spCell X.K)) (R : Rm X) (r : Room k X.A)
    (h : dE X W ρ s e1 fun x s1 => x = .v (.ref sc) ∧ dE X W ρ s1 e2 fun y s2 => ∃ n : Nat, y = .d (.int n) ∧ n ≤ 1000000 ∧ (∀ H, W.J W.M s2 H → SqL X.K H sc (is.map V.int)) ∧ ∀ i : Int, Φ (.d (.int i)) s2)
    (hg : Gl X "_law_cell_at" := by rfl) (h2 : starEach [e1, e2] X.env = (false, eval e1 X.env) :: starEach [e2] X.env := by rfl) (h4 : starEach [e2] X.env = (false, eval e2 X.env) :: starEach [] X.env := by rfl) (h3 : (backTo pos (starEach [e2] X.env)).any (·.1) = false := by rfl) :
    dE X W ρ s (.Call (.Name "_law_cell_at" p) [e1, e2] [] pos) Φ := .mk fun σ H Q en j kn =>
  toE (pe_go G R.g r pass0 (pa_cons pw (pa_cons pw pa_nil h4) h2) hg (by decide) h2 h3) (h.go σ H _ en j fun v H1 x s1 e1 j1 v1 ⟨hx, hb⟩ => hb.go σ H1 _ (W.em e1 en) j1 fun u H2 y s2 e2 j2 v2 ⟨n, hy, hn, hS, q⟩ => by
    subst hx hy
    cases (show v = .ref sc from v1)
    cases (show Dt X.K W.M H2 u (.int n) from v2)
    exact ⟨sc, is, n, rfl, hS H2 j2.1, hn, fun i H3 sm => kn _ H3 (.d (.int i)) s2 ((e1.trans e2).trans (Ex.of sm)) (j2.same sm) (Dt.int _) (q i)⟩)
end
section
variable {P : Program} {w : World} {K : PySem.W.Frag} {mg : Str → Option Value} {base : Heap} {CP : Addr}
def spScr (K : PySem.W.Frag) : Sp := fun vs H Q _ => ∃ (sc : Addr) (is : List Int), vs = [.ref sc] ∧ SqL K H sc (is.map V.int) ∧ ∀ H', Q (.bl true) H'
abbrev NL : List Str := ["_law_script", "_law_programs_here", "_law_turn", "_law_deck_here", "_law_again", "_law_many", "_law_k", "_law_sizes", "_law_tale", "_law_some", "_law_bent_here", "_law_one", "_law_kept", "_law_due_here", "_law_told", "_law_size"]
theorem sc_law : FnScope NL ["_law_script"] (defScope s_law) := ⟨rfl, rfl, rfl, by decide +kernel, rfl, by decide +kernel, by decide +kernel⟩
abbrev Ps (CP : Addr) : Vl := .o (.lst [prO CP .a, prO CP .b, prO CP .c])
theorem ok_law (F : Src K mg "law" s_law) (hs : base.get? sysModules ≠ none)
    (Gp : Dfn P w K mg base CX0 8 "_law_programs" s_law_programs [] (spP K (fun xs => xs = []) fun _ => Ps CP))
    (Gc : Dfn P w K mg base CX0 1 "_law_cell_at" s_law_cell_at ["_law_script", "_law_k"] (spCell K)) (Gd : Dfn P w K mg base CX0 1 "_law_deck" s_law_deck ["_law_cell"] (spDeck K))
    (G1 : Dfn P w K mg base CX0 1 "_law_draw" s_law_draw ["_law_deck_here", "_law_many"] (spK T2 K pDraw oDraw 1))
    (Ga : Dfn P w K mg base CX0 3 "_law_answer" s_law_answer ["_law_deck_here"] (spK T2 K (fun ds => ds = []) oAns 41))
    (Go : Dfn P w K mg base CX0 3 "_law_odd" s_law_odd ["_law_deck_here"] (spK T2 K (fun ds => ds = []) oOdd 1))
    (Gb : Dfn P w K mg base CX0 7 "_law_bent" s_law_bent ["_law_deck_here", "_law_item", "_law_deep"] (spK T2 K (pBent 3) oBent 12))
    (Gu : Dfn P w K mg base CX0 3 "_law_due" s_law_due ["_law_item", "_law_many"] (spD K (fun ds => ∃ (d : PyData) (n : Nat), ds = [d, .int n] ∧ Nc 800000 d) fun ds => .bool (storyB (match ds.getD 1 .none with | .int i => i.toNat | _ => 0) (ds.getD 0 .none))))
    (Gs : ∀ (t : Th) (d : PyData), Nc 800000 d → Dfn P w K mg base CX0 5 "is_story" s_is_story ["program", "thing"] (spP K (fun xs => xs = [Pr CP t, .d d]) fun _ => .d (.bool (storyB (t.hl.length + 1) d))))
    (m1 : mg "range" = none) (m2 : mg "max" = none) (m3 : mg "min" = none) (m4 : mg "len" = none) (m5 : mg "tuple" = none) (m6 : mg "list" = none) (m7 : mg "int" = none) (m8 : mg "repr" = none) :
    Dfn P w K mg base CX0 9 "law" s_law ["_law_script"] (spScr K) := by
  refine F.ok sc_law (fun vs H Q E ⟨sc, is, h, _⟩ => by rw [h]; rfl) (fun _ _ _ _ _ _ us hl => match us, hl with | [_], _ => rfl) fun fa cd A fr s vs H Q E g r h => ?_
  obtain ⟨sc, is, rfl, hS, hQ⟩ := h
  have R := Rm.of (X := (cxOf CX0 P w K mg base NL "law" (defScope s_law) fa cd A fr s H E).nox) g r hs rfl
  have nd0 := sc_law.nd
  refine ⟨wB _ (defBody s_law), bw, ?_⟩
  refine dB.go (W := Ws H sc) (ρ := [some (.v (.ref sc)), none, none, none, none, none, none, none, none, none, none, none, none, none, none, none]) (s := ()) (Φ := { nx := fun _ _ => False, rt := fun y _ => y = .d (.bool true) }) ?key _ H _ ⟨rfl, fun i x e => ?en⟩ Ws.at ⟨fun _ _ _ _ _ _ _ z => z.elim, fun v H2 y s2 e2 j2 v2 z => ?rt, fun _ _ _ _ _ _ _ z => z.elim, fun _ _ _ _ _ _ _ z => z.elim⟩
  case en =>
    match i, e with
    | 0, e => cases e; exact ⟨_, rfl, rfl⟩
    | 1, e => cases e
    | 2, e => cases e
    | 3, e => cases e
    | 4, e => cases e
    | 5, e => cases e
    | 6, e => cases e
    | 7, e => cases e
    | 8, e => cases e
    | 9, e => cases e
    | 10, e => cases e
    | 11, e => cases e
    | 12, e => cases e
    | 13, e => cases e
    | 14, e => cases e
    | 15, e => cases e
    | i + 16, e => cases e
  case rt =>
    subst z
    cases (show Dt K _ H2 v (.bool true) from v2)
    exact hQ H2
  refine db_cons (ds_set (de_goV0 Gp R r pass0 ⟨rfl, ?_⟩) nd0)
  refine db_cons (ds_for (di_range m1 ?_) PassesOwn.never nd0)
  refine de_maxC m2 (da_cons (de_int (da_cons (de_minC m3 ?_))))
  refine da_cons (de_lenQ m4 (de_var ⟨sc, is.map V.int, rfl, fun H1 j => sq_kept hS j, ?_⟩))
  walk_at "fr"
  have hmx : ∀ x : Int, 0 ≤ x → 1 ≤ (if (if 3 < x then 3 else x) > 1 then (if 3 < x then 3 else x) else 1) ∧ (if (if 3 < x then 3 else x) > 1 then (if 3 < x then 3 else x) else 1) ≤ 3 := fun x hx => by
    by_cases h1 : 3 < x
    · simp [h1]
    · simp only [if_neg h1]
      by_cases h2 : x > 1
      · simp only [if_pos h2]; omega
      · simp only [if_neg h2]; omega
  have hmx := hmx ((is.map V.int).length : Int) (by omega)
  generalize (if (if 3 < ((is.map V.int).length : Int) then 3 else ((is.map V.int).length : Int)) > 1 then (if 3 < ((is.map V.int).length : Int) then 3 else ((is.map V.int).length : Int)) else 1) = mx at hmx
  obtain ⟨x1, x2⟩ := hmx
  have hxl : (intsD mx.toNat).length = mx.toNat := by simp [intsD]
  refine ⟨⟨by omega, by omega⟩, fun _ ρ1 _ => ∃ v2 v3 v4 v5 v6 v7 v8 v9 v10 v11 v12 v13 v14 v15 : Option Vl, ρ1 = [some (.v (.ref sc)), some (Ps CP), v2, v3, v4, v5, v6, v7, v8, v9, v10, v11, v12, v13, v14, v15], ⟨_, _, _, _, _, _, _, _, _, _, _, _, _, _, rfl⟩, fun k d ρ1 s2 hd hi => ?_, fun ρ1 s2 hi => ?_⟩
  case refine_2 =>
    obtain ⟨v2, v3, v4, v5, v6, v7, v8, v9, v10, v11, v12, v13, v14, v15, rfl⟩ := hi
    walk_at "fr"
    rfl
  obtain ⟨v2, v3, v4, v5, v6, v7, v8, v9, v10, v11, v12, v13, v14, v15, rfl⟩ := hi
  have hd' : d = .int k ∧ k < mx.toNat := by
    have hk : k < mx.toNat := by
      rw [← hxl]
      exact (List.getElem?_eq_some_iff.mp hd).1
    unfold intsD at hd
    rw [List.getElem?_map, List.getElem?_range hk] at hd
    exact ⟨(Option.some.inj hd).symm, hk⟩
  obtain ⟨rfl, hk⟩ := hd'
  refine db_deck Gd R (r.mono (by decide)) pass0 (de_cell (is := is) Gc R (r.mono (by decide)) (de_var ⟨rfl, de_var ⟨k, rfl, by omega, fun H1 j => sq_kept hS j, fun i => ⟨i, rfl, fun l nl => ?_⟩⟩⟩)) nd0
  refine db_cons (ds_for (di_range m1 (de_int ⟨4, rfl, by decide, fun kk ρ1 st => (∃ v4 v5 v6 v7 v8 v9 v10 v11 v12 v13 v14 v15 : Option Vl, ρ1 = [some (.v (.ref sc)), some (Ps CP), some (.d (.int k)), some (.v (.ref l)), v4, v5, v6, v7, v8, v9, v10, v11, v12, v13, v14, v15]) ∧ st.2 ≤ kk * 11000, ⟨⟨_, _, _, _, _, _, _, _, _, _, _, _, rfl⟩, Nat.le_refl _⟩, fun kk d ρ1 st hd hi => ?_, fun ρ1 st hi => ?_⟩)) PassesOwn.never nd0)
  case refine_2 =>
    obtain ⟨⟨v4, v5, v6, v7, v8, v9, v10, v11, v12, v13, v14, v15, rfl⟩, _⟩ := hi
    exact db_nil ⟨_, frz_refl _, _, _, _, _, _, _, _, _, _, _, _, _, _, _, rfl⟩
  obtain ⟨⟨v4, v5, v6, v7, v8, v9, v10, v11, v12, v13, v14, v15, rfl⟩, hst⟩ := hi
  obtain ⟨u0, n⟩ := st
  have hkk : kk < 4 := by
    have := (List.getElem?_eq_some_iff.mp hd).1
    simpa [intsD] using this
  replace hst : n ≤ kk * 11000 := hst
  have hn : n ≤ 33000 := by omega
  -- many
  refine db_cons (ds_set (de_bin op_addD (de_int (de_dr G1 R (r.mono (by decide)) (IsK.deck (K := K) (W := Ws H sc) (a := l) nl) (de_var ⟨rfl, de_int ⟨3, rfl, by decide, by decide, by show n + 1 ≤ 1099511627776; omega, fun i i1 i2 => ⟨_, _, _, rfl, rfl, rfl, ?_⟩⟩⟩)))) nd0)
  obtain ⟨q, rfl⟩ := Int.eq_ofNat_of_zero_le i1
  have hq : q < 3 := by omega
  have ht : ∃ t : Th, t.hl.length + 1 = 2 + q ∧ atI [prO CP .a, prO CP .b, prO CP .c] (((2 + q : Nat) : Int) - 2) = some (prO CP t) := by
    match q, hq with
    | 0, _ => exact ⟨.a, rfl, rfl⟩
    | 1, _ => exact ⟨.b, rfl, rfl⟩
    | 2, _ => exact ⟨.c, rfl, rfl⟩
  obtain ⟨t, ht1, ht2⟩ := ht
  rw [show ((2 : Int) + (q : Int)) = ((2 + q : Nat) : Int) by omega]
  -- sizes
  refine db_cons (ds_setLc (di_range m1 (de_var ⟨((2 + q : Nat) : Int), rfl, ⟨by omega, by omega⟩, ?_⟩)) nd0 (blkOk_by (by rfl)) rfl)
  rw [Int.toNat_natCast]
  refine ⟨by rw [intsD_len, sizeLine_eq]; omega, fun k' acc st => (∃ js : List Nat, acc = js.map (fun (j : Nat) => PyData.int j) ∧ js.length = k' ∧ ∀ j ∈ js, j ≤ 60) ∧ st.2 = n + 1 + k' * 2, ⟨⟨[], rfl, rfl, by simp⟩, rfl⟩, fun D k' d acc st hd hi b => ⟨fun _ b => ?_, fun z => Bool.noConfusion z⟩, fun acc st hi => ?_⟩
  · obtain ⟨⟨js, rfl, hl, ha⟩, hst'⟩ := hi
    obtain ⟨u1, n1⟩ := st
    replace hst' : n1 = n + 1 + k' * 2 := hst'
    obtain ⟨hk', rfl⟩ := ints_at hd
    refine de_ix ix_D (de_lst (da_cons (de_dr G1 (Rm.blk R) (r.mono (by decide)) ((IsK.deck (K := K) (W := Ws H sc) (a := l) nl).plus D) (de_var ⟨rfl, de_int ⟨6, rfl, by decide, by decide, by show n1 + 1 ≤ 1099511627776; omega, fun i i1 i2 => ?_⟩⟩))))
    walk_at "fr"
    refine de_dr G1 (Rm.blk R) (r.mono (by decide)) ((IsK.deck (K := K) (W := Ws H sc) (a := l) nl).plus D) (de_var ⟨rfl, de_int ⟨3, rfl, by decide, by decide, by show n1 + 1 + 1 ≤ 1099511627776; omega, fun i' i1' i2' => ?_⟩⟩)
    obtain ⟨z, hz, hm⟩ := ix_items (d := .list [.int i, .int 0, .int 60]) rfl (by show 3 < 1000000; decide) i1' (by show i' < 3; exact i2')
    have hz' : ∃ j : Nat, z = .int j ∧ j ≤ 60 := by
      simp only [List.mem_cons, List.not_mem_nil, or_false] at hm
      rcases hm with rfl | rfl | rfl
      · exact ⟨i.toNat, by rw [Int.toNat_of_nonneg i1], by omega⟩
      · exact ⟨0, rfl, by decide⟩
      · exact ⟨60, rfl, by decide⟩
    obtain ⟨j, rfl, hj⟩ := hz'
    refine ⟨_, _, _, rfl, rfl, hz, _, rfl, ⟨js ++ [j], by simp, by simp [hl], fun x hx => ?_⟩, by show n1 + 1 + 1 = n + 1 + (k' + 1) * 2; omega⟩
    rcases List.mem_append.mp hx with y | y
    · exact ha x y
    · have : x = j := by simpa using y
      omega
  obtain ⟨⟨js, rfl, hjl, hj⟩, hst'⟩ := hi
  obtain ⟨u1, n1⟩ := st
  rw [intsD_len] at hjl hst'
  replace hst' : n1 = n + 1 + (2 + q) * 2 := hst'
  -- tale
  refine db_cons (ds_set (de_tupleC m5 (de_lc (di_any (de_var ⟨js.map (fun (j : Nat) => PyData.int j), rfl, by rw [List.length_map, sizeLine_eq]; omega, fun k' acc st => (acc.length = k' ∧ ∀ z ∈ acc, Sz 24123 2 z) ∧ st.2 ≤ n1 + k' * 2460, ⟨⟨rfl, by simp⟩, by show n1 ≤ _; omega⟩, fun D k' d acc st hd hi b => ⟨fun _ b => ?_, fun z => Bool.noConfusion z⟩, fun acc st hi => ?_⟩)) nd0 (blkOk_by (by rfl)))) nd0)
  · obtain ⟨⟨hl, ha⟩, hst2⟩ := hi
    obtain ⟨u2, n2⟩ := st
    replace hst2 : n2 ≤ n1 + k' * 2460 := hst2
    have hk' : k' < js.length := by
      have := (List.getElem?_eq_some_iff.mp hd).1
      simpa using this
    have hdj : ∃ j : Nat, d = .int j ∧ j ≤ 60 := by
      rw [List.getElem?_map, List.getElem?_eq_getElem hk'] at hd
      exact ⟨js[k'], (Option.some.inj hd).symm, hj _ (List.getElem_mem hk')⟩
    obtain ⟨j, rfl, hj60⟩ := hdj
    refine de_tupleC m5 (de_lc (di_range m1 (de_var ⟨(j : Int), rfl, ⟨by omega, by omega⟩, ?_⟩)) nd0 (blkOk_by (by rfl)))
    rw [Int.toNat_natCast]
    refine ⟨by rw [intsD_len, sizeLine_eq]; omega, fun k2 acc2 st => (acc2.length = k2 ∧ ∀ z ∈ acc2, Sz 400 1 z) ∧ st.2 = n2 + k2 * 41, ⟨⟨rfl, by simp⟩, rfl⟩, fun D2 k2 d2 acc2 st hd2 hi2 b2 => ⟨fun _ b2 => ?_, fun z => Bool.noConfusion z⟩, fun acc2 st hi2 => ?_⟩
    · obtain ⟨⟨hl2, ha2⟩, hst3⟩ := hi2
      obtain ⟨u3, n3⟩ := st
      replace hst3 : n3 = n2 + k2 * 41 := hst3
      obtain ⟨hk2, rfl⟩ := ints_at hd2
      refine de_goD Ga (Rm.blk (Rm.blk R)) (r.mono (by decide)) pass0 (((IsK.deck (K := K) (W := Ws H sc) (a := l) nl).plus D).plus D2) (da_cons (de_var (da_nil ⟨[], [], rfl, rfl, rfl, by show n3 + 41 ≤ 1099511627776; omega, fun z hz => ⟨z, rfl, ⟨by simp [hl2], fun y hy => ?_⟩, by show n3 + 41 = n2 + (k2 + 1) * 41; omega⟩⟩)))
      rcases List.mem_append.mp hy with w' | w'
      · exact ha2 y w'
      · have : y = z := by simpa using w'
        rw [this]; exact hz
    · obtain ⟨⟨hl2, ha2⟩, hst3⟩ := hi2
      obtain ⟨u3, n3⟩ := st
      rw [intsD_len] at hl2 hst3
      replace hst3 : n3 = n2 + j * 41 := hst3
      have hs2 := SzA.of (n := 400) (k := 1) ha2
      rw [hl2] at hs2
      have hrow : Sz 24123 2 (.tuple acc2) := (Sz.tup hs2).up (by omega) (Nat.le_refl _)
      refine ⟨_, _, rfl, rfl, _, rfl, ⟨by simp [hl], fun y hy => ?_⟩, by show n3 ≤ n1 + (k' + 1) * 2460; omega⟩
      rcases List.mem_append.mp hy with w' | w'
      · exact ha y w'
      · have : y = .tuple acc2 := by simpa using w'
        rw [this]; exact hrow
  obtain ⟨⟨hal, ha⟩, hst2⟩ := hi
  obtain ⟨u2, n2⟩ := st
  rw [List.length_map, hjl] at hal hst2
  replace hst2 : n2 ≤ n1 + (2 + q) * 2460 := hst2
  refine ⟨_, _, rfl, rfl, ?_⟩
  have hsA := SzA.of (n := 24123) (k := 2) ha
  rw [hal] at hsA
  have htale : Sz 97000 3 (.tuple acc) := (Sz.tup hsA).up (by omega) (Nat.le_refl _)
  have n2b : n2 ≤ 33000 + 10000 := by omega
  -- some
  refine db_seq 2 ?_
  refine db_ownL ?_ nd0
  walk_at "fr"
  refine ⟨_, _, .tuple (acc ++ [.tuple []]), rfl, rfl, show addD (.tuple acc) (.tuple [.tuple []]) = some (.tuple (acc ++ [.tuple []])) from lim_ok (by show acc.length + 1 ≤ 1000000; omega), ?_⟩
  walk_at "fr"
  refine de_goD Go R (r.mono (by decide)) pass0 (IsK.deck (K := K) (W := Ws H sc) (a := l) nl) (da_cons (de_var (da_nil ⟨[], [], rfl, rfl, rfl, by show n2 + 1 ≤ 1099511627776; omega, fun zo hzo => ?_⟩)))
  walk_at "fr"
  intro l2 nl2
  have hgood : ∀ z ∈ [PyData.tuple acc, .tuple (acc ++ [.tuple []]), .tuple (Fw.cutD acc (some 1) none), .list acc, zo], Sz 400000 20 z := by
    intro z hz
    simp only [List.mem_cons, List.not_mem_nil, or_false] at hz
    rcases hz with rfl | rfl | rfl | rfl | rfl
    · exact htale.up (by decide) (by decide)
    · have h5 : SzA 5 2 [PyData.tuple []] := SzA.cons (n := 3) (m := 0) (Sz.tup (n := 0) (k := 1) SzA.nil) SzA.nil
      exact (Sz.tup (hsA.app h5)).up (by omega) (by decide)
    · exact (Sz.tup (hsA.cut _ _)).up (by omega) (by decide)
    · exact (Sz.lst hsA).up (by omega) (by decide)
    · exact hzo.up (by decide) (by decide)
  have htb : Bs (.tuple acc) := ⟨htale.ok, by have := htale.sz; omega, by have := htale.dp; omega⟩
  refine db_cons (ds_for (di_range m1 (de_int ⟨8, rfl, by decide, fun k3 ρ1 st => (∃ v6 v10 : Option Vl, ρ1 = [some (.v (.ref sc)), some (Ps CP), some (.d (.int k)), some (.v (.ref l)), some (.d d), some (.d (.int (2 + q : Nat))), v6, some (.d (.list (js.map fun (j : Nat) => PyData.int j))), some (.d (.tuple acc)), some (.v (.ref l2)), v10, v11, v12, v13, v14, v15]) ∧ (∀ z ∈ st.2, Sz 400000 20 z) ∧ st.2.length ≤ 5 + k3 ∧ st.1.2 ≤ n2 + 1 + k3 * 24, ⟨⟨_, _, rfl⟩, hgood, Nat.le_refl _, Nat.le_refl _⟩, fun k3 d3 ρ1 st hd3 hi3 => ?_, fun ρ1 st hi3 => ?_⟩)) PassesOwn.never nd0)
  · obtain ⟨⟨v6', v10', rfl⟩, g1, g2, g3⟩ := hi3
    obtain ⟨⟨u3, n3⟩, ds⟩ := st
    replace g1 : ∀ z ∈ ds, Sz 400000 20 z := g1
    replace g2 : ds.length ≤ 5 + k3 := g2
    replace g3 : n3 ≤ n2 + 1 + k3 * 24 := g3
    obtain ⟨hk3, rfl⟩ := ints_at hd3
    replace hk3 : k3 < 8 := hk3
    refine db_cons (ds_set (de_goD Gb R (r.mono (by decide)) pass0 ((IsK.deck (K := K) (W := Ws H sc) (a := l) nl).over l2 nl2) ?_) nd0)
    refine da_cons (de_var (da_cons (de_var (da_cons (de_int (da_nil ⟨_, [.tuple acc, .int 3], rfl, rfl, ⟨.tuple acc, rfl, htb⟩, by show n3 + 12 ≤ 1099511627776; omega, fun z hz => ?_⟩))))))
    obtain ⟨z1, z2, z3⟩ := hz
    replace z2 : cost z ≤ 2 * cost (.tuple acc) + 705 := z2
    replace z3 : z.depth ≤ (PyData.tuple acc).depth + 4 := z3
    have zb : Bs z := ⟨z1, by have := htale.sz; omega, by have := htale.dp; omega⟩
    refine db_cons (ds_expr (de_appD (de_var ⟨rfl, de_ix ix_D (de_lst ?_)⟩) nl2))
    refine da_cons (de_var (da_cons ?_))
    refine de_goD Gb R (r.mono (by decide)) pass0 ((IsK.deck (K := K) (W := Ws H sc) (a := l) nl).over l2 nl2) ?_
    refine da_cons (de_var (da_cons (de_var (da_cons (de_int (da_nil ⟨_, [z, .int 3], rfl, rfl, ⟨z, rfl, zb⟩, by show n3 + 12 + 12 ≤ 1099511627776; omega, fun y hy => ?_⟩))))))
    obtain ⟨y1, y2, y3⟩ := hy
    replace y2 : cost y ≤ 2 * cost z + 705 := y2
    replace y3 : y.depth ≤ z.depth + 4 := y3
    walk_at "fr"
    have hix : ∃ x, ixD (.list [z, y]) (.int (if decide ((k3 : Int) > 5) = true then 1 else 0)) = some x ∧ Sz 400000 20 x := by
      by_cases h5 : decide ((k3 : Int) > 5) = true
      · rw [if_pos h5]
        exact ⟨y, rfl, y1, by have := htale.sz; omega, by have := htale.dp; omega⟩
      · rw [if_neg h5]
        exact ⟨z, rfl, z1, by have := htale.sz; omega, by have := htale.dp; omega⟩
    obtain ⟨x, hx1, hx2⟩ := hix
    refine ⟨_, _, _, rfl, rfl, hx1, x, rfl, by show ds.length < 1000000; omega, db_nil ⟨⟨_, _, rfl⟩, fun y hy => ?_, by show (ds ++ [x]).length ≤ 5 + (k3 + 1); simp; omega, by show n3 + 12 + 12 ≤ n2 + 1 + (k3 + 1) * 24; omega⟩⟩
    rcases List.mem_append.mp hy with w' | w'
    · exact g1 y w'
    · have : y = x := by simpa using w'
      rw [this]; exact hx2
  obtain ⟨⟨v6', v10', rfl⟩, g1, g2, g3⟩ := hi3
  obtain ⟨⟨u3, n3⟩, ds⟩ := st
  replace g1 : ∀ z ∈ ds, Sz 400000 20 z := g1
  replace g2 : ds.length ≤ 5 + (intsD 8).length := g2
  replace g3 : n3 ≤ n2 + 1 + (intsD 8).length * 24 := g3
  rw [intsD_len] at g2 g3
  refine db_nil ⟨_, .same (.same (.same (.same (.same (.same (.same (.same (.same (.it (frz_refl _)))))))))), ?_⟩
  -- each of them
  refine db_cons (ds_for (di_any (de_var ⟨ds, rfl, fun k4 ρ1 st => (∃ v11 v12 v13 v14 : Option Vl, ρ1 = [some (.v (.ref sc)), some (Ps CP), some (.d (.int k)), some (.v (.ref l)), some (.d d), some (.d (.int (2 + q : Nat))), v6', some (.d (.list (js.map fun (j : Nat) => PyData.int j))), some (.d (.tuple acc)), some (.d (.list ds)), v10', v11, v12, v13, v14, v15]) ∧ st = (u3, n3), ⟨⟨_, _, _, _, rfl⟩, rfl⟩, fun k4 d4 ρ1 st hd4 hi4 => ?_, fun ρ1 st hi4 => ?_⟩)) PassesOwn.never nd0)
  · obtain ⟨⟨w11, w12, w13, w14, rfl⟩, rfl⟩ := hi4
    have hsz := g1 d4 (List.mem_of_getElem? hd4)
    have hnc : Nc 800000 d4 := hsz.nc (by decide) (by decide)
    have hrp : reprD [d4] = some (.str d4.shown) := repr_ok (n := 800000) hnc (by decide)
    have Gs' := Gs t d4 hnc
    rw [ht1] at Gs'
    have hB : reprD [.list [.bool (storyB (2 + q) d4), .bool (storyB (2 + q) d4)]] = some (.str (PyData.shown (.list [.bool (storyB (2 + q) d4), .bool (storyB (2 + q) d4)]))) :=
      repr_ok (n := 1000) ((Sz.lst (SzA.cons (Sz.bl _) (SzA.cons (Sz.bl _) (SzA.nil (n := 0))))).nc (by decide) (by decide)) (by decide)
    walk_at "fr"
    refine ⟨_, _, rfl, hrp, ?_⟩
    walk_at "fr"
    refine ⟨⟨d4, 2 + q, rfl, hnc⟩, ?_⟩
    refine db_cons (ds_set (de_lst (da_cons (de_goV Gs' R (r.mono (by decide)) pass0 ?_))) nd0)
    refine da_cons (de_ixO (de_var (de_bin op_subD (de_var (de_int ⟨_, _, _, rfl, rfl, rfl, _, _, prO CP t, rfl, rfl, ht2, ?_⟩)))))
    refine da_cons (de_var (da_nil ⟨rfl, ?_⟩))
    refine da_cons (de_goVK (ks := ["thing", "program"]) [1, 0] Gs' R (r.mono (by decide)) pass0 (fun _ _ _ _ _ _ us hl => match us, hl with | [_, _], _ => rfl) (by decide) ?_)
    refine dk_cons (de_var (dk_cons (de_ixO (de_var (de_bin op_subD (de_var (de_int ⟨_, _, _, rfl, rfl, rfl, _, _, prO CP t, rfl, rfl, ht2, ?_⟩)))))))
    refine dk_nil ⟨rfl, rfl, ?_⟩
    walk_at "fr"
    refine ⟨_, _, rfl, hB, ?_⟩
    walk_at "fr"
    refine ⟨_, _, rfl, hB, ?_⟩
    refine ⟨_, _, _, rfl, rfl, ne_self _, ?_⟩
    walk_at "fr"
    refine ⟨_, _, rfl, hrp, ?_⟩
    walk_at "fr"
    refine ⟨fun h => ?_, fun _ => ?_⟩
    · have e : PyData.eqv (.str d4.shown) (.str d4.shown) = true := by simp [PyData.eqv]
      have h' : (!PyData.eqv (.str d4.shown) (.str d4.shown)) = true := h
      rw [e] at h'
      cases h'
    · walk_at "fr"
      exact ⟨⟨_, _, _, _, rfl⟩, rfl⟩
  · obtain ⟨⟨w11, w12, w13, w14, rfl⟩, rfl⟩ := hi4
    exact db_nil ⟨⟨_, _, _, _, _, _, _, _, _, _, _, _, rfl⟩, by show n3 ≤ (kk + 1) * 11000; omega⟩
end

end KK

set_option Elab.async false
set_option linter.all false
set_option maxRecDepth 100000
set_option maxHeartbeats 4000000
set_option pp.maxSteps 300
namespace KK
open PySem PySem.Spec PyProof.Rows L2 Fw
/-! ### the head -/
theorem facts {P : Program} {w : World} {K : PySem.W.Frag} {h : Heap} {mg : Str → Option Value} {f : Addr} (X : K.In h) (G : h.Ns mainGlobals mg) (hfa : mg ("law" : Str) = some (.ref f)) (c0 : (K.lookup sysModules).isSome = true) (cx : ex K = true) (c : He5.SaysA fa fn K) :
    ∀ base : Heap, K.In base → ∃ fd : FuncData, (∀ (s : Shared) (v : Value), BindsTo s fd ⟨[v], []⟩ [("_law_script", v)]) ∧ FnG P w K mg base CX0 9 f fd ["_law_script"] (spScr K) := by
  have S_is_integer : Src K mg "is_integer" s_is_integer := src_M X G (c.fact 0 (f := .glo "is_integer") rfl) (c.def_ 0 (d := dM "is_integer" s_is_integer) rfl)
  have S_has_letters : Src K mg "has_letters" s_has_letters := src_M X G (c.fact 1 (f := .glo "has_letters") rfl) (c.def_ 1 (d := dM "has_letters" s_has_letters) rfl)
  have S_is_word : Src K mg "is_word" s_is_word := src_M X G (c.fact 2 (f := .glo "is_word") rfl) (c.def_ 2 (d := dM "is_word" s_is_word) rfl)
  have S_is_name : Src K mg "is_name" s_is_name := src_M X G (c.fact 3 (f := .glo "is_name") rfl) (c.def_ 3 (d := dM "is_name" s_is_name) rfl)
  have S_is_kind : Src K mg "is_kind" s_is_kind := src_M X G (c.fact 4 (f := .glo "is_kind") rfl) (c.def_ 4 (d := dM "is_kind" s_is_kind) rfl)
  have S_fits : Src K mg "fits" s_fits := src_M X G (c.fact 5 (f := .glo "fits") rfl) (c.def_ 5 (d := dM "fits" s_fits) rfl)
  have S_is_answer : Src K mg "is_answer" s_is_answer := src_M X G (c.fact 6 (f := .glo "is_answer") rfl) (c.def_ 6 (d := dM "is_answer" s_is_answer) rfl)
  have S_are_houses : Src K mg "are_houses" s_are_houses := src_M X G (c.fact 7 (f := .glo "are_houses") rfl) (c.def_ 7 (d := dM "are_houses" s_are_houses) rfl)
  have S_are_kinds : Src K mg "are_kinds" s_are_kinds := src_M X G (c.fact 8 (f := .glo "are_kinds") rfl) (c.def_ 8 (d := dM "are_kinds" s_are_kinds) rfl)
  have S_is_deed : Src K mg "is_deed" s_is_deed := src_M X G (c.fact 9 (f := .glo "is_deed") rfl) (c.def_ 9 (d := dM "is_deed" s_is_deed) rfl)
  have S_words_ascend : Src K mg "words_ascend" s_words_ascend := src_M X G (c.fact 10 (f := .glo "words_ascend") rfl) (c.def_ 10 (d := dM "words_ascend" s_words_ascend) rfl)
  have S_are_deeds : Src K mg "are_deeds" s_are_deeds := src_M X G (c.fact 11 (f := .glo "are_deeds") rfl) (c.def_ 11 (d := dM "are_deeds" s_are_deeds) rfl)
  have S_are_variables : Src K mg "are_variables" s_are_variables := src_M X G (c.fact 12 (f := .glo "are_variables") rfl) (c.def_ 12 (d := dM "are_variables" s_are_variables) rfl)
  have S_begins : Src K mg "begins_with_word" s_begins := src_M X G (c.fact 13 (f := .glo "begins_with_word") rfl) (c.def_ 13 (d := dM "begins_with_word" s_begins) rfl)
  have S_is_story : Src K mg "is_story" s_is_story := src_M X G (c.fact 14 (f := .glo "is_story") rfl) (c.def_ 14 (d := dM "is_story" s_is_story) rfl)
  have S_law_cell_at : Src K mg "_law_cell_at" s_law_cell_at := src_M X G (c.fact 15 (f := .glo "_law_cell_at") rfl) (c.def_ 15 (d := dM "_law_cell_at" s_law_cell_at) rfl)
  have S_law_deck : Src K mg "_law_deck" s_law_deck := src_M X G (c.fact 16 (f := .glo "_law_deck") rfl) (c.def_ 16 (d := dM "_law_deck" s_law_deck) rfl)
  have S_law_draw : Src K mg "_law_draw" s_law_draw := src_M X G (c.fact 17 (f := .glo "_law_draw") rfl) (c.def_ 17 (d := dM "_law_draw" s_law_draw) rfl)
  have S_law_pick : Src K mg "_law_pick" s_law_pick := src_M X G (c.fact 18 (f := .glo "_law_pick") rfl) (c.def_ 18 (d := dM "_law_pick" s_law_pick) rfl)
  have S_law_name : Src K mg "_law_name" s_law_name := src_M X G (c.fact 19 (f := .glo "_law_name") rfl) (c.def_ 19 (d := dM "_law_name" s_law_name) rfl)
  have S_law_answer : Src K mg "_law_answer" s_law_answer := src_M X G (c.fact 20 (f := .glo "_law_answer") rfl) (c.def_ 20 (d := dM "_law_answer" s_law_answer) rfl)
  have S_law_odd : Src K mg "_law_odd" s_law_odd := src_M X G (c.fact 21 (f := .glo "_law_odd") rfl) (c.def_ 21 (d := dM "_law_odd" s_law_odd) rfl)
  have S_law_bent : Src K mg "_law_bent" s_law_bent := src_M X G (c.fact 22 (f := .glo "_law_bent") rfl) (c.def_ 22 (d := dM "_law_bent" s_law_bent) rfl)
  have S_law_is_name : Src K mg "_law_is_name" s_law_is_name := src_M X G (c.fact 23 (f := .glo "_law_is_name") rfl) (c.def_ 23 (d := dM "_law_is_name" s_law_is_name) rfl)
  have S_law_is_answer : Src K mg "_law_is_answer" s_law_is_answer := src_M X G (c.fact 24 (f := .glo "_law_is_answer") rfl) (c.def_ 24 (d := dM "_law_is_answer" s_law_is_answer) rfl)
  have S_law_due : Src K mg "_law_due" s_law_due := src_M X G (c.fact 25 (f := .glo "_law_due") rfl) (c.def_ 25 (d := dM "_law_due" s_law_due) rfl)
  have S_law_programs : Src K mg "_law_programs" s_law_programs := src_M X G (c.fact 26 (f := .glo "_law_programs") rfl) (c.def_ 26 (d := dM "_law_programs" s_law_programs) rfl)
  have S_law : Src K mg "law" s_law := src_M X G (c.fact 27 (f := .glo "law") rfl) (c.def_ 27 (d := dM "law" s_law) rfl)
  have S_Scope_init : SrcF K (He.ma K (He.ga K "Scope") "__init__") "__init__" "Scope.__init__" s_Scope_init [] := src_C (c.def_ 28 (d := dC "Scope" "__init__" "Scope.__init__" s_Scope_init) rfl)
  have S_is_body : SrcF K (He.ma K (He.ga K "Scope") "is_body") "is_body" "Scope.is_body" s_is_body [] := src_C (c.def_ 29 (d := dC "Scope" "is_body" "Scope.is_body" s_is_body) rfl)
  have S_is_statement : SrcF K (He.ma K (He.ga K "Scope") "is_statement") "is_statement" "Scope.is_statement" s_is_statement [] := src_C (c.def_ 30 (d := dC "Scope" "is_statement" "Scope.is_statement" s_is_statement) rfl)
  have S_is_do : SrcF K (He.ma K (He.ga K "Scope") "is_do") "is_do" "Scope.is_do" s_is_do [] := src_C (c.def_ 31 (d := dC "Scope" "is_do" "Scope.is_do" s_is_do) rfl)
  have S_Program_init : SrcF K (He.ma K (He.ga K "Program") "__init__") "__init__" "Program.__init__" s_Program_init [] := src_C (c.def_ 32 (d := dC "Program" "__init__" "Program.__init__" s_Program_init) rfl)
  have S_sites : SrcF K (prpA K "Program" "sites") "sites" "Program.sites" s_sites [] := src_P (c.def_ 33 (d := dP "Program" "sites" "Program.sites" s_sites) rfl)
  have z_isinstance : mg "isinstance" = none := He.free_ok X G (c.fact 30 (f := .free "isinstance") rfl)
  have z_int : mg "int" = none := He.free_ok X G (c.fact 31 (f := .free "int") rfl)
  have z_bool : mg "bool" = none := He.free_ok X G (c.fact 32 (f := .free "bool") rfl)
  have z_str : mg "str" = none := He.free_ok X G (c.fact 33 (f := .free "str") rfl)
  have z_len : mg "len" = none := He.free_ok X G (c.fact 34 (f := .free "len") rfl)
  have z_all : mg "all" = none := He.free_ok X G (c.fact 35 (f := .free "all") rfl)
  have z_any : mg "any" = none := He.free_ok X G (c.fact 36 (f := .free "any") rfl)
  have z_tuple : mg "tuple" = none := He.free_ok X G (c.fact 37 (f := .free "tuple") rfl)
  have z_list : mg "list" = none := He.free_ok X G (c.fact 38 (f := .free "list") rfl)
  have z_range : mg "range" = none := He.free_ok X G (c.fact 39 (f := .free "range") rfl)
  have z_repr : mg "repr" = none := He.free_ok X G (c.fact 40 (f := .free "repr") rfl)
  have z_set : mg "set" = none := He.free_ok X G (c.fact 41 (f := .free "set") rfl)
  have z_zip : mg "zip" = none := He.free_ok X G (c.fact 42 (f := .free "zip") rfl)
  have z_max : mg "max" = none := He.free_ok X G (c.fact 43 (f := .free "max") rfl)
  have z_min : mg "min" = none := He.free_ok X G (c.fact 44 (f := .free "min") rfl)
  have c_LONGEST_WORD := He.int_ok X G (c.fact 45 (f := .int "LONGEST_WORD" 8) rfl)
  have c_LONGEST_NAME := He.int_ok X G (c.fact 46 (f := .int "LONGEST_NAME" 12) rfl)
  have c_MOST_NAMES_kinds := He.int_ok X G (c.fact 47 (f := .int "MOST_NAMES_kinds" 3) rfl)
  have c_MOST_NAMES_running := He.int_ok X G (c.fact 48 (f := .int "MOST_NAMES_running" 3) rfl)
  have c_MOST_HOUSES := He.int_ok X G (c.fact 49 (f := .int "MOST_HOUSES" 3) rfl)
  have c_MOST_ARGUMENTS := He.int_ok X G (c.fact 50 (f := .int "MOST_ARGUMENTS" 3) rfl)
  have c_NEAR := He.str_ok X G (c.fact 51 (f := .str "NEAR" "near") rfl)
  have c_REFUSAL := He.str_ok X G (c.fact 52 (f := .str "REFUSAL" "!") rfl)
  have c_LETTERS := He.str_ok X G (c.fact 53 (f := .str "LETTERS" LT) rfl)
  have g_Scope : mg "Scope" = some (.ref (He.ga K "Scope")) := He.glo_ok X G (c.fact 28 (f := .glo "Scope") rfl)
  have cl_Scope := He.cls_ok (x := "Scope") (c.fact 54 (f := .cls "Scope") rfl)
  have mk_Scope := He.mkr_ok (x := "Scope") (c.fact 55 (f := .mkr "Scope") rfl)
  have g_Program : mg "Program" = some (.ref (He.ga K "Program")) := He.glo_ok X G (c.fact 29 (f := .glo "Program") rfl)
  have cl_Program := He.cls_ok (x := "Program") (c.fact 56 (f := .cls "Program") rfl)
  have mk_Program := He.mkr_ok (x := "Program") (c.fact 57 (f := .mkr "Program") rfl)
  have n_Scope_deeds_by_word := He.noat_ok (x := "Scope") (f := "deeds_by_word") (c.fact 58 (f := .noat "Scope" "deeds_by_word") rfl)
  have n_Scope_kinds_by_word := He.noat_ok (x := "Scope") (f := "kinds_by_word") (c.fact 59 (f := .noat "Scope" "kinds_by_word") rfl)
  have n_Program_houses := He.noat_ok (x := "Program") (f := "houses") (c.fact 60 (f := .noat "Program" "houses") rfl)
  have n_Program_deeds := He.noat_ok (x := "Program") (f := "deeds") (c.fact 61 (f := .noat "Program" "deeds") rfl)
  have n_Program_variables := He.noat_ok (x := "Program") (f := "variables") (c.fact 62 (f := .noat "Program" "variables") rfl)
  have n_Program_body := He.noat_ok (x := "Program") (f := "body") (c.fact 63 (f := .noat "Program" "body") rfl)
  have me_is_body := He.meth_ok (x := "Scope") (m := "is_body") (c.fact 64 (f := .meth "Scope" "is_body") rfl)
  have me_is_statement := He.meth_ok (x := "Scope") (m := "is_statement") (c.fact 65 (f := .meth "Scope" "is_statement") rfl)
  have me_is_do := He.meth_ok (x := "Scope") (m := "is_do") (c.fact 66 (f := .meth "Scope" "is_do") rfl)
  have pr_sites := prpB_ok cx
  have all_ : ∀ base : Heap, K.In base → Dfn P w K mg base CX0 9 "law" s_law ["_law_script"] (spScr K) := fun base KB => by
    have hs := sys_in KB c0
    have D0 := ok_is_integer (P := P) (w := w) S_is_integer hs z_isinstance z_int z_bool
    have D1 := ok_has_letters (P := P) (w := w) S_has_letters hs z_isinstance z_str z_len z_all c_LETTERS
    have D2 := ok_is_word (P := P) (w := w) S_is_word hs D1 c_LONGEST_WORD c_NEAR
    have D3 := ok_is_name (P := P) (w := w) S_is_name hs D1 c_LONGEST_NAME
    have D4 := ok_is_kind (P := P) (w := w) S_is_kind hs D0 z_isinstance z_str z_tuple z_len c_MOST_NAMES_kinds
    have D5 := ok_fits (P := P) (w := w) S_fits hs D3 z_isinstance z_bool z_tuple z_len z_all
    have D6 := ok_is_answer (P := P) (w := w) S_is_answer hs D5 z_isinstance z_str z_any c_REFUSAL c_MOST_NAMES_running
    have D7 := ok_are_houses (P := P) (w := w) S_are_houses hs D2 z_isinstance z_tuple z_all z_len z_set c_MOST_HOUSES
    have D8 := ok_are_kinds (P := P) (w := w) S_are_kinds hs D4 z_isinstance z_tuple z_all z_len c_MOST_ARGUMENTS
    have D9 := ok_is_deed (P := P) (w := w) S_is_deed hs D4 D2 D8 z_isinstance z_tuple z_bool z_len
    have D10 := ok_words_ascend (P := P) (w := w) S_words_ascend hs z_all z_zip
    have D11 := ok_are_deeds (P := P) (w := w) S_are_deeds hs D9 D10 z_isinstance z_tuple z_all
    have D12 := ok_are_variables (P := P) (w := w) S_are_variables hs D10 z_isinstance z_tuple z_all
    have D13 := ok_begins (P := P) (w := w) S_begins hs z_isinstance z_tuple z_str
    have M0 := ok_Scope_init (P := P) (w := w) (mg := mg) S_Scope_init hs cl_Scope n_Scope_deeds_by_word n_Scope_kinds_by_word
    have key : ∀ t : Th, t.kv = [(.inr "is", t.dd)] → FnA P w K mg base CX0 3 (He.ma K (He.ga K "Scope") "is_body") ["self", "thing"] [] (spP K (fun xs => xs = [Sc (He.ga K "Scope") t, .d (.tuple [doS])]) fun _ => .d (.bool true)) := fun t ht => by
      have M1 := ok_is_do (P := P) (w := w) (mg := mg) S_is_do hs cl_Scope n_Scope_deeds_by_word z_isinstance z_tuple z_str z_len z_zip t ht
      have M2 := ok_is_statement (P := P) (w := w) S_is_statement hs cl_Scope me_is_do z_len t M1 D13
      exact ok_is_body (P := P) (w := w) S_is_body hs cl_Scope me_is_statement z_isinstance z_tuple z_all t M2 [doS] (.inr rfl)
    have M3 : ∀ t : Th, FnA P w K mg base CX0 3 (He.ma K (He.ga K "Scope") "is_body") ["self", "thing"] [] (spP K (fun xs => xs = [Sc (He.ga K "Scope") t, .d t.bd]) fun _ => .d (.bool true)) := fun t => by
      cases t
      · exact ok_is_body0 (P := P) (w := w) S_is_body hs z_isinstance z_tuple z_all .a
      · exact key .b rfl
      · exact key .c rfl
    have M4 : ∀ t : Th, _ := fun t => ok_Program_init (P := P) (w := w) S_Program_init hs cl_Program n_Program_houses n_Program_deeds n_Program_variables n_Program_body D7 D11 D12 cl_Scope mk_Scope g_Scope me_is_body c_NEAR t (M0 t) (M3 t)
    have M5 : ∀ t : Th, _ := fun t => ok_sites (P := P) (w := w) (mg := mg) S_sites hs cl_Program n_Program_houses c_NEAR t
    have L0 := ok_law_programs (P := P) (w := w) S_law_programs hs mk_Program g_Program M4 z_range z_tuple
    have L1 := ok_law_cell_at (P := P) (w := w) S_law_cell_at hs z_len
    have L2' := ok_law_deck (P := P) (w := w) S_law_deck hs
    have L3 := ok_law_draw (P := P) (w := w) S_law_draw hs
    have L4 := ok_law_pick (P := P) (w := w) S_law_pick hs L3 z_len
    have L5 := ok_law_name (P := P) (w := w) S_law_name hs L3 z_range
    have L6 := ok_law_answer (P := P) (w := w) S_law_answer hs L3 L5 z_range z_tuple
    have L7 := ok_law_odd (P := P) (w := w) S_law_odd hs L4
    have L8 := ok_law_bent (P := P) (w := w) S_law_bent hs L3 L7 z_isinstance z_tuple z_len z_list 3 (Nat.le_refl _)
    have L9 := ok_law_is_name (P := P) (w := w) S_law_is_name hs z_isinstance z_str z_len
    have L10 := ok_law_is_answer (P := P) (w := w) S_law_is_answer hs L9 z_isinstance z_str z_len z_bool z_tuple
    have L11 := ok_law_due (P := P) (w := w) S_law_due hs L10 z_isinstance z_len z_tuple
    exact ok_law (P := P) (w := w) S_law hs L0 L1 L2' L3 L6 L7 L8 L11 (fun t d hd => ok_is_story (P := P) (w := w) S_is_story hs cl_Program pr_sites t (M5 t) D6 z_isinstance z_tuple z_len z_all d hd) z_range z_max z_min z_len z_tuple z_list z_int z_repr
  intro base KB
  obtain ⟨f1, fd1, e1, _, FG, _, hb⟩ := (all_ base KB).ex
  have e := hfa.symm.trans e1
  cases e
  exact ⟨fd1, fun s v => hb s [v] rfl, FG⟩
end KK
open PySem PySem.W PySem.Calls PyProof.Rows
theorem PySem.Challenge.cw_fewtrips_k12_what_are_stories_holds : PySem.Challenge.rw_fewtrips_k12_what_are_stories.Holds := by
  w_on; o_law
  refine HandSHeadRun.head_any (r := KK.RR) (q := view KK.RR.prog [77]) (H := KK.hk) (ob := KK.ob) (M := 20000) (loose := KK.loose) (d := HandSHeadRun.topDef KK.RR.prog 77) (kwd := []) KK.ob_eq
    (by kernel_rfl) (fun s => by kernel_rfl) KK.run (by kernel_rfl) (by kernel_rfl) (by kernel_rfl) (by rfl) (by first | assumption | decide +kernel) (by decide +kernel) ⟨rfl, rfl, rfl, rfl, rfl, by decide +kernel⟩ ?hw ?hc
  case hw => w_witness2
  case hc =>
    refine Fw.walkG (l := PySem.Challenge.rw_fewtrips_k12_what_are_stories) (n := 63) (k := 9) (x := "_law_script") rfl (by decide) (by kernel_rfl) ⟨rfl, by decide, by decide⟩ rfl ?F
    intro w mg fa h Y G hmg0
    obtain ⟨K, KX, c0, cx, c⟩ := Y
    have hmg : mg ("law" : PySem.Str) = some (.ref fa) := by
      have e : (HandSHeadRun.topDef KK.RR.prog 77).name = ("law" : PySem.Str) := by kernel_rfl
      rw [← e]
      exact hmg0
    have hF := KK.facts (P := PySem.Challenge.rw_fewtrips_k12_what_are_stories.prog) (w := w) KX G hmg c0 cx c
    exact ⟨K, KK.spScr K, KX, fun H a ns hS => ⟨a, ns, rfl, hS, fun _ => rfl⟩, fun base KB _ => hF base KB⟩

